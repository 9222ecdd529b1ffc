import PyProof.Rows.All
import Wide.All
import OpenK.AllK
import Wide.FinOn
import Lean
import PySem.Challenge.RW_rg0027_01
open PySem PySem.W PyProof.Rows
set_option Elab.async false
namespace Mine
set_option maxRecDepth 100000
set_option linter.all false
noncomputable def ke (P : Params) (k : Str) (n : Nat) (v : Value) : DictEntry := ⟨PyData.keyHash P k, .str k n, v⟩
noncomputable def cdOf (o : Obj) : Obj := match o.data with
  | .func f => ⟨.none, none, .func ⟨f.name, f.qualname, f.params, f.body, f.scope, 0, [], .none, .none, .none, .none, none, .none, .none, 0⟩, #[]⟩
  | _ => o
noncomputable abbrev pW : Program := PySem.Challenge.pw_rg0027_01
noncomputable def st (i : Nat) : Stmt := match pW.main.body[i]? with
  | some s => s
  | none => .Pass ⟨0, 0, 0, 0⟩
noncomputable def stIn (i j : Nat) : Stmt := match st i with
  | .ClassDef _ _ _ b _ _ _ _ _ _ _ => (match b[j]? with
    | some s => s
    | none => .Pass ⟨0, 0, 0, 0⟩)
  | _ => .Pass ⟨0, 0, 0, 0⟩
noncomputable def fdOf (s : Stmt) (q : Str) (g : Addr) (cl : List (Str × Addr)) (d k doc pm : Value) (an : Option Addr) (cd ct : Value) (b : Addr) : FuncData := match s with
  | .FunctionDef n a body _ _ _ sc _ _ _ => ⟨n, q, a, .stmts body, sc, g, cl, d, k, doc, pm, an, cd, ct, b⟩
  | _ => ⟨q, q, ⟨[], [], none, [], [], none, []⟩, .stmts [], pW.main.scope, g, cl, d, k, doc, pm, an, cd, ct, b⟩
noncomputable def o0 (P : Params) : Obj := .mk (.type "tuple") none (.seq #[]) #[]
noncomputable def o1 (P : Params) : Obj := .mk .none none (.fields #[]) #[]
noncomputable def o2 (P : Params) : Obj := .mk (.type "code") none (.fields #[.str "<module>" 182, .str "<module>" 183, .str "/claim/cut.py" 184, .int 1 0, .int 0 0, .int 0 0, .int 0 0, .int 0 0, .ref 11, .bool false, .int 181 0, .ref 12, .none, .none, .none, .none, .int 185 0, .int 1 0, .str "/claim/cut.py" 186]) #[]
noncomputable def o3 (P : Params) : Obj := .mk (.type "frame") none .plain #[some (.ref 13), some (.ref 3), some (.ref 3), none, some (.str "__main__" 164), none, some (.ref 0)]
noncomputable def o4 (P : Params) : Obj := .mk .none none (.dict #[ke P "type.__subclasses__.Exception.0" 214 (.int 31 0), ke P "type.__subclasses__.Exception.n" 215 (.int 1 0)] 2) #[]
noncomputable def o5 (P : Params) : Obj := .mk (.type "dict") none (.dict #[ke P "__name__" 165 (.str "adacore.errors" 187), ke P "__doc__" 166 .none, ke P "__package__" 167 .none, ke P "__loader__" 168 (.builtin "__main__.__loader__#opaque"), ke P "__spec__" 169 .none, ke P "__annotations__" 170 (.ref 6), ke P "__builtins__" 171 (.ref 4), ke P "__file__" 173 (.str "/claim/cut.py" 172), ke P "__cached__" 174 .none, ke P "AdaError" 217 (.ref 31)] 10) #[]
noncomputable def o6 (P : Params) : Obj := .mk .none none (.fields #[.int 2 0, .int 0 0, .ref 20]) #[]
noncomputable def o7 (P : Params) : Obj := .mk (.type "tuple") none (.seq #[.type "Exception"]) #[]
noncomputable def o8 (P : Params) : Obj := .mk (.type "builtin_function_or_method") none (.fields #[.builtin "type.__prepare__", .type "type"]) #[]
noncomputable def o9 (P : Params) : Obj := .mk (.type "dict") none (.dict #[ke P "__module__" 196 (.str "adacore.errors" 187), ke P "__qualname__" 198 (.str "AdaError" 197), ke P "__firstlineno__" 200 (.int 2 199), ke P "__init__" 208 (.ref 28), ke P "__static_attributes__" 210 (.ref 29)] 5) #[]
noncomputable def o10 (P : Params) : Obj := .mk (.type "tuple") none (.seq #[]) #[]
noncomputable def o11 (P : Params) : Obj := .mk .none none (.fields #[.int 4 0, .int 4 0, .ref 27]) #[]
noncomputable def o12 (P : Params) : Obj := .mk (.type "code") none (.fields #[.str "AdaError" 191, .str "AdaError" 192, .str "/claim/cut.py" 193, .int 2 0, .int 0 0, .int 0 0, .int 0 0, .int 0 0, .ref 18, .bool false, .int 181 0, .ref 19, .none, .none, .none, .none, .int 194 0, .int 2 0, .str "/claim/cut.py" 195]) #[]
noncomputable def o13 (P : Params) : Obj := .mk (.type "frame") none .plain #[some (.ref 20), some (.ref 3), some (.ref 17), none, some (.str "adacore.errors" 187), none, some (.ref 0)]
noncomputable def o14 (P : Params) : Obj := .mk (.type "tuple") none (.seq #[]) #[]
noncomputable def o15 (P : Params) : Obj := .mk .none none (.fields #[]) #[]
noncomputable def o16 (P : Params) : Obj := .mk (.type "tuple") none (.seq #[.str "self" 204, .str "text" 205]) #[]
noncomputable def o17 (P : Params) : Obj := .mk (.type "tuple") none (.seq #[]) #[]
noncomputable def o19 (P : Params) : Obj := .mk (.type "code") none (.fields #[.str "__init__" 201, .str "AdaError.__init__" 202, .str "/claim/cut.py" 203, .int 4 0, .int 2 0, .int 0 0, .int 0 0, .int 3 0, .ref 22, .bool true, .int 181 0, .ref 23, .none, .ref 24, .ref 25, .ref 26, .int 206 0, .int 4 0, .str "/claim/cut.py" 207]) #[]
noncomputable def o20 (P : Params) : Obj := .mk (.type "function") none (.func (fdOf (stIn 1 0) "AdaError.__init__" 3 [] .none .none .none (.str "adacore.errors" 187) none (.ref 27) .none 0)) #[]
noncomputable def o21 (P : Params) : Obj := .mk (.type "tuple") none (.seq #[.str "text" 209]) #[]
noncomputable def o22 (P : Params) : Obj := .mk (.type "dict") none (.dict #[ke P "__module__" 196 (.str "adacore.errors" 187), ke P "__firstlineno__" 200 (.int 2 199), ke P "__init__" 208 (.ref 28), ke P "__static_attributes__" 210 (.ref 29), ke P "__weakref__" 212 (.ref 32), ke P "__doc__" 213 .none] 3) #[]
noncomputable def o23 (P : Params) : Obj := .mk (.type "type") none (.cls (.mk "AdaError" [.type "Exception"] [.ref 31, .type "Exception", .type "BaseException", .type "object"] 30 "AdaError" true [] [] false none false)) #[some (.ref 15), none, some (.str "AdaError" 189), some (.str "AdaError" 197), some (.builtin "Exception.__new__"), some (.bool true)]
noncomputable def o24 (P : Params) : Obj := .mk (.type "getset_descriptor") none (.fields #[.str "__weakref__" 211, .ref 31, .builtin "ExceptionGroup.__weakref__", .none]) #[]
noncomputable def o25 (P : Params) : Obj := .mk (.type "super") none (.fields #[.ref 31, .ref 31, .ref 31]) #[]
noncomputable def o26 (P : Params) : Obj := .mk (.type "builtin_function_or_method") none (.fields #[.builtin "object.__init_subclass__", .ref 31]) #[]
noncomputable def o27 (P : Params) : Obj := .mk (.type "dict") none (.dict #[ke P "__name__" 165 (.str "adacore.entities" 244), ke P "__doc__" 166 .none, ke P "__package__" 167 .none, ke P "__loader__" 168 (.builtin "__main__.__loader__#opaque"), ke P "__spec__" 169 .none, ke P "__annotations__" 170 (.ref 6), ke P "__builtins__" 171 (.ref 4), ke P "__file__" 173 (.str "/claim/cut.py" 172), ke P "__cached__" 174 .none, ke P "AdaError" 217 (.ref 31), ke P "CheckFault" 243 (.ref 51)] 11) #[]
noncomputable def o28 (P : Params) : Obj := .mk .none none (.fields #[.int 2 0, .int 0 0, .ref 20, .int 7 0, .int 0 0, .ref 40]) #[]
noncomputable def o29 (P : Params) : Obj := .mk (.type "type") none (.cls (.mk "AdaError" [.type "Exception"] [.ref 31, .type "Exception", .type "BaseException", .type "object"] 30 "AdaError" true [] [.ref 51] false none false)) #[some (.ref 15), none, some (.str "AdaError" 189), some (.str "AdaError" 197), some (.builtin "Exception.__new__"), some (.bool true)]
noncomputable def o30 (P : Params) : Obj := .mk (.type "tuple") none (.seq #[.ref 31]) #[]
noncomputable def o31 (P : Params) : Obj := .mk (.type "builtin_function_or_method") none (.fields #[.builtin "type.__prepare__", .type "type"]) #[]
noncomputable def o32 (P : Params) : Obj := .mk (.type "dict") none (.dict #[ke P "__module__" 225 (.str "adacore.errors" 187), ke P "__qualname__" 227 (.str "CheckFault" 226), ke P "__firstlineno__" 229 (.int 7 228), ke P "__init__" 238 (.ref 48), ke P "__static_attributes__" 240 (.ref 49)] 5) #[]
noncomputable def o33 (P : Params) : Obj := .mk (.type "tuple") none (.seq #[]) #[]
noncomputable def o34 (P : Params) : Obj := .mk .none none (.fields #[.int 9 0, .int 4 0, .ref 47]) #[]
noncomputable def o35 (P : Params) : Obj := .mk (.type "code") none (.fields #[.str "CheckFault" 220, .str "CheckFault" 221, .str "/claim/cut.py" 222, .int 7 0, .int 0 0, .int 0 0, .int 0 0, .int 0 0, .ref 38, .bool false, .int 181 0, .ref 39, .none, .none, .none, .none, .int 223 0, .int 7 0, .str "/claim/cut.py" 224]) #[]
noncomputable def o36 (P : Params) : Obj := .mk (.type "frame") none .plain #[some (.ref 40), some (.ref 3), some (.ref 37), none, some (.str "adacore.errors" 187), none, some (.ref 0)]
noncomputable def o37 (P : Params) : Obj := .mk (.type "tuple") none (.seq #[]) #[]
noncomputable def o38 (P : Params) : Obj := .mk .none none (.fields #[]) #[]
noncomputable def o39 (P : Params) : Obj := .mk (.type "tuple") none (.seq #[.str "self" 233, .str "line" 234, .str "text" 235]) #[]
noncomputable def o40 (P : Params) : Obj := .mk (.type "tuple") none (.seq #[]) #[]
noncomputable def o42 (P : Params) : Obj := .mk (.type "code") none (.fields #[.str "__init__" 230, .str "CheckFault.__init__" 231, .str "/claim/cut.py" 232, .int 9 0, .int 3 0, .int 0 0, .int 0 0, .int 3 0, .ref 42, .bool true, .int 181 0, .ref 43, .none, .ref 44, .ref 45, .ref 46, .int 236 0, .int 9 0, .str "/claim/cut.py" 237]) #[]
noncomputable def o43 (P : Params) : Obj := .mk (.type "function") none (.func (fdOf (stIn 2 0) "CheckFault.__init__" 3 [] .none .none .none (.str "adacore.errors" 187) none (.ref 47) .none 0)) #[]
noncomputable def o44 (P : Params) : Obj := .mk (.type "tuple") none (.seq #[.str "line" 239]) #[]
noncomputable def o45 (P : Params) : Obj := .mk (.type "dict") none (.dict #[ke P "__module__" 225 (.str "adacore.errors" 187), ke P "__firstlineno__" 229 (.int 7 228), ke P "__init__" 238 (.ref 48), ke P "__static_attributes__" 240 (.ref 49), ke P "__doc__" 241 .none] 2) #[]
noncomputable def o46 (P : Params) : Obj := .mk (.type "type") none (.cls (.mk "CheckFault" [.ref 31] [.ref 51, .ref 31, .type "Exception", .type "BaseException", .type "object"] 50 "CheckFault" true [] [] false none false)) #[some (.ref 35), none, some (.str "CheckFault" 218), some (.str "CheckFault" 226), some (.builtin "Exception.__new__"), some (.bool true)]
noncomputable def o47 (P : Params) : Obj := .mk (.type "super") none (.fields #[.ref 51, .ref 51, .ref 51]) #[]
noncomputable def o48 (P : Params) : Obj := .mk (.type "builtin_function_or_method") none (.fields #[.builtin "object.__init_subclass__", .ref 51]) #[]
noncomputable def o49 (P : Params) : Obj := .mk (.type "dict") none (.dict #[ke P "__name__" 165 (.str "adacore.names" 326), ke P "__doc__" 166 .none, ke P "__package__" 167 .none, ke P "__loader__" 168 (.builtin "__main__.__loader__#opaque"), ke P "__spec__" 169 .none, ke P "__annotations__" 170 (.ref 6), ke P "__builtins__" 171 (.ref 4), ke P "__file__" 173 (.str "/claim/cut.py" 172), ke P "__cached__" 174 .none, ke P "AdaError" 217 (.ref 31), ke P "CheckFault" 243 (.ref 51), ke P "Entity" 295 (.ref 70), ke P "is_overloadable" 302 (.ref 81), ke P "homographs" 310 (.ref 88), ke P "is_operator_sign" 317 (.ref 95), ke P "mentions_type" 325 (.ref 102), ke P "SEPARATOR" 329 (.str "#" 328)] 17) #[]
noncomputable def o50 (P : Params) : Obj := .mk .none none (.fields #[.int 2 0, .int 0 0, .ref 20, .int 7 0, .int 0 0, .ref 40, .int 13 0, .int 0 0, .ref 59, .int 33 0, .int 0 0, .ref 80, .int 35 0, .int 0 0, .ref 87, .int 39 0, .int 0 0, .ref 94, .int 41 0, .int 0 0, .ref 101]) #[]
noncomputable def o51 (P : Params) : Obj := .mk (.type "tuple") none (.seq #[]) #[]
noncomputable def o52 (P : Params) : Obj := .mk (.type "builtin_function_or_method") none (.fields #[.builtin "type.__prepare__", .type "type"]) #[]
noncomputable def o53 (P : Params) : Obj := .mk (.type "dict") none (.dict #[ke P "__module__" 253 (.str "adacore.entities" 244), ke P "__qualname__" 255 (.str "Entity" 254), ke P "__firstlineno__" 257 (.int 13 256), ke P "__init__" 270 (.ref 67), ke P "__static_attributes__" 288 (.ref 68)] 5) #[]
noncomputable def o54 (P : Params) : Obj := .mk (.type "tuple") none (.seq #[]) #[]
noncomputable def o55 (P : Params) : Obj := .mk .none none (.fields #[.int 15 0, .int 4 0, .ref 66]) #[]
noncomputable def o56 (P : Params) : Obj := .mk (.type "code") none (.fields #[.str "Entity" 248, .str "Entity" 249, .str "/claim/cut.py" 250, .int 13 0, .int 0 0, .int 0 0, .int 0 0, .int 0 0, .ref 57, .bool false, .int 181 0, .ref 58, .none, .none, .none, .none, .int 251 0, .int 13 0, .str "/claim/cut.py" 252]) #[]
noncomputable def o57 (P : Params) : Obj := .mk (.type "frame") none .plain #[some (.ref 59), some (.ref 3), some (.ref 56), none, some (.str "adacore.entities" 244), none, some (.ref 0)]
noncomputable def o58 (P : Params) : Obj := .mk (.type "tuple") none (.seq #[]) #[]
noncomputable def o59 (P : Params) : Obj := .mk .none none (.fields #[]) #[]
noncomputable def o60 (P : Params) : Obj := .mk (.type "tuple") none (.seq #[.str "self" 261, .str "kind" 262, .str "name" 263, .str "key" 264, .str "subtype" 265, .str "data" 266, .str "line" 267]) #[]
noncomputable def o61 (P : Params) : Obj := .mk (.type "tuple") none (.seq #[]) #[]
noncomputable def o63 (P : Params) : Obj := .mk (.type "code") none (.fields #[.str "__init__" 258, .str "Entity.__init__" 259, .str "/claim/cut.py" 260, .int 15 0, .int 7 0, .int 0 0, .int 0 0, .int 3 0, .ref 61, .bool true, .int 181 0, .ref 62, .none, .ref 63, .ref 64, .ref 65, .int 268 0, .int 15 0, .str "/claim/cut.py" 269]) #[]
noncomputable def o64 (P : Params) : Obj := .mk (.type "function") none (.func (fdOf (stIn 4 0) "Entity.__init__" 3 [] .none .none .none (.str "adacore.entities" 244) none (.ref 66) .none 0)) #[]
noncomputable def o65 (P : Params) : Obj := .mk (.type "tuple") none (.seq #[.str "data" 271, .str "full" 272, .str "home" 273, .str "is_complete" 274, .str "is_constant" 275, .str "is_implicit" 276, .str "is_overridden" 277, .str "is_ready" 278, .str "key" 279, .str "kind" 280, .str "line" 281, .str "name" 282, .str "number" 283, .str "part" 284, .str "region" 285, .str "subtype" 286, .str "unique" 287]) #[]
noncomputable def o66 (P : Params) : Obj := .mk (.type "dict") none (.dict #[ke P "__module__" 253 (.str "adacore.entities" 244), ke P "__firstlineno__" 257 (.int 13 256), ke P "__init__" 270 (.ref 67), ke P "__static_attributes__" 288 (.ref 68), ke P "__dict__" 290 (.ref 71), ke P "__weakref__" 292 (.ref 72), ke P "__doc__" 293 .none] 4) #[]
noncomputable def o67 (P : Params) : Obj := .mk (.type "type") none (.cls (.mk "Entity" [.type "object"] [.ref 70, .type "object"] 69 "Entity" true [] [] false none false)) #[none, none, some (.str "Entity" 246), some (.str "Entity" 254), some (.builtin "object.__new__"), some (.bool true)]
noncomputable def o68 (P : Params) : Obj := .mk (.type "getset_descriptor") none (.fields #[.str "__dict__" 289, .ref 70, .builtin "function.__dict__", .builtin "function.__dict__#set"]) #[]
noncomputable def o69 (P : Params) : Obj := .mk (.type "getset_descriptor") none (.fields #[.str "__weakref__" 291, .ref 70, .builtin "ExceptionGroup.__weakref__", .none]) #[]
noncomputable def o70 (P : Params) : Obj := .mk (.type "super") none (.fields #[.ref 70, .ref 70, .ref 70]) #[]
noncomputable def o71 (P : Params) : Obj := .mk (.type "builtin_function_or_method") none (.fields #[.builtin "object.__init_subclass__", .ref 70]) #[]
noncomputable def o72 (P : Params) : Obj := .mk (.type "tuple") none (.seq #[]) #[]
noncomputable def o73 (P : Params) : Obj := .mk .none none (.fields #[]) #[]
noncomputable def o74 (P : Params) : Obj := .mk (.type "tuple") none (.seq #[.str "entity" 299]) #[]
noncomputable def o75 (P : Params) : Obj := .mk (.type "tuple") none (.seq #[]) #[]
noncomputable def o77 (P : Params) : Obj := .mk (.type "code") none (.fields #[.str "is_overloadable" 296, .str "is_overloadable" 297, .str "/claim/cut.py" 298, .int 33 0, .int 1 0, .int 0 0, .int 0 0, .int 3 0, .ref 75, .bool true, .int 181 0, .ref 76, .none, .ref 77, .ref 78, .ref 79, .int 300 0, .int 33 0, .str "/claim/cut.py" 301]) #[]
noncomputable def o78 (P : Params) : Obj := .mk (.type "function") none (.func (fdOf (st 5) "is_overloadable" 3 [] .none .none .none (.str "adacore.entities" 244) none (.ref 80) .none 0)) #[]
noncomputable def o79 (P : Params) : Obj := .mk (.type "tuple") none (.seq #[]) #[]
noncomputable def o80 (P : Params) : Obj := .mk .none none (.fields #[]) #[]
noncomputable def o81 (P : Params) : Obj := .mk (.type "tuple") none (.seq #[.str "one" 306, .str "other" 307]) #[]
noncomputable def o82 (P : Params) : Obj := .mk (.type "tuple") none (.seq #[]) #[]
noncomputable def o84 (P : Params) : Obj := .mk (.type "code") none (.fields #[.str "homographs" 303, .str "homographs" 304, .str "/claim/cut.py" 305, .int 35 0, .int 2 0, .int 0 0, .int 0 0, .int 3 0, .ref 82, .bool true, .int 181 0, .ref 83, .none, .ref 84, .ref 85, .ref 86, .int 308 0, .int 35 0, .str "/claim/cut.py" 309]) #[]
noncomputable def o85 (P : Params) : Obj := .mk (.type "function") none (.func (fdOf (st 6) "homographs" 3 [] .none .none .none (.str "adacore.entities" 244) none (.ref 87) .none 0)) #[]
noncomputable def o86 (P : Params) : Obj := .mk (.type "tuple") none (.seq #[]) #[]
noncomputable def o87 (P : Params) : Obj := .mk .none none (.fields #[]) #[]
noncomputable def o88 (P : Params) : Obj := .mk (.type "tuple") none (.seq #[.str "name" 314]) #[]
noncomputable def o89 (P : Params) : Obj := .mk (.type "tuple") none (.seq #[]) #[]
noncomputable def o91 (P : Params) : Obj := .mk (.type "code") none (.fields #[.str "is_operator_sign" 311, .str "is_operator_sign" 312, .str "/claim/cut.py" 313, .int 39 0, .int 1 0, .int 0 0, .int 0 0, .int 3 0, .ref 89, .bool true, .int 181 0, .ref 90, .none, .ref 91, .ref 92, .ref 93, .int 315 0, .int 39 0, .str "/claim/cut.py" 316]) #[]
noncomputable def o92 (P : Params) : Obj := .mk (.type "function") none (.func (fdOf (st 7) "is_operator_sign" 3 [] .none .none .none (.str "adacore.entities" 244) none (.ref 94) .none 0)) #[]
noncomputable def o93 (P : Params) : Obj := .mk (.type "tuple") none (.seq #[]) #[]
noncomputable def o94 (P : Params) : Obj := .mk .none none (.fields #[]) #[]
noncomputable def o95 (P : Params) : Obj := .mk (.type "tuple") none (.seq #[.str "entity" 321, .str "number" 322]) #[]
noncomputable def o96 (P : Params) : Obj := .mk (.type "tuple") none (.seq #[]) #[]
noncomputable def o98 (P : Params) : Obj := .mk (.type "code") none (.fields #[.str "mentions_type" 318, .str "mentions_type" 319, .str "/claim/cut.py" 320, .int 41 0, .int 2 0, .int 0 0, .int 0 0, .int 3 0, .ref 96, .bool true, .int 181 0, .ref 97, .none, .ref 98, .ref 99, .ref 100, .int 323 0, .int 41 0, .str "/claim/cut.py" 324]) #[]
noncomputable def o99 (P : Params) : Obj := .mk (.type "function") none (.func (fdOf (st 8) "mentions_type" 3 [] .none .none .none (.str "adacore.entities" 244) none (.ref 101) .none 0)) #[]
noncomputable def o100 (P : Params) : Obj := .mk (.type "dict") none (.dict #[ke P "__name__" 165 (.str "adacore.scopes" 338), ke P "__doc__" 166 .none, ke P "__package__" 167 .none, ke P "__loader__" 168 (.builtin "__main__.__loader__#opaque"), ke P "__spec__" 169 .none, ke P "__annotations__" 170 (.ref 6), ke P "__builtins__" 171 (.ref 4), ke P "__file__" 173 (.str "/claim/cut.py" 172), ke P "__cached__" 174 .none, ke P "AdaError" 217 (.ref 31), ke P "CheckFault" 243 (.ref 51), ke P "Entity" 295 (.ref 70), ke P "is_overloadable" 302 (.ref 81), ke P "homographs" 310 (.ref 88), ke P "is_operator_sign" 317 (.ref 95), ke P "mentions_type" 325 (.ref 102), ke P "SEPARATOR" 329 (.str "#" 328), ke P "unique" 337 (.ref 109), ke P "FRAME_KINDS" 344 (.ref 110), ke P "Region" 389 (.ref 127), ke P "open_region" 399 (.ref 138), ke P "encloses" 408 (.ref 145), ke P "frame_region" 416 (.ref 152)] 23) #[]
noncomputable def o101 (P : Params) : Obj := .mk .none none (.fields #[.int 2 0, .int 0 0, .ref 20, .int 7 0, .int 0 0, .ref 40, .int 13 0, .int 0 0, .ref 59, .int 33 0, .int 0 0, .ref 80, .int 35 0, .int 0 0, .ref 87, .int 39 0, .int 0 0, .ref 94, .int 41 0, .int 0 0, .ref 101, .int 47 0, .int 0 0, .ref 108, .int 51 0, .int 0 0, .ref 116, .int 70 0, .int 0 0, .ref 137, .int 75 0, .int 0 0, .ref 144, .int 82 0, .int 0 0, .ref 151]) #[]
noncomputable def o102 (P : Params) : Obj := .mk (.type "tuple") none (.seq #[]) #[]
noncomputable def o103 (P : Params) : Obj := .mk .none none (.fields #[]) #[]
noncomputable def o104 (P : Params) : Obj := .mk (.type "tuple") none (.seq #[.str "name" 333, .str "number" 334]) #[]
noncomputable def o105 (P : Params) : Obj := .mk (.type "tuple") none (.seq #[]) #[]
noncomputable def o107 (P : Params) : Obj := .mk (.type "code") none (.fields #[.str "unique" 330, .str "unique" 331, .str "/claim/cut.py" 332, .int 47 0, .int 2 0, .int 0 0, .int 0 0, .int 3 0, .ref 103, .bool true, .int 181 0, .ref 104, .none, .ref 105, .ref 106, .ref 107, .int 335 0, .int 47 0, .str "/claim/cut.py" 336]) #[]
noncomputable def o108 (P : Params) : Obj := .mk (.type "function") none (.func (fdOf (st 11) "unique" 3 [] .none .none .none (.str "adacore.names" 326) none (.ref 108) .none 0)) #[]
noncomputable def o109 (P : Params) : Obj := .mk (.type "tuple") none (.seq #[.str "root" 340, .str "sub" 341, .str "task" 342, .str "protected" 343]) #[]
noncomputable def o110 (P : Params) : Obj := .mk (.type "tuple") none (.seq #[]) #[]
noncomputable def o111 (P : Params) : Obj := .mk (.type "builtin_function_or_method") none (.fields #[.builtin "type.__prepare__", .type "type"]) #[]
noncomputable def o112 (P : Params) : Obj := .mk (.type "dict") none (.dict #[ke P "__module__" 352 (.str "adacore.scopes" 338), ke P "__qualname__" 354 (.str "Region" 353), ke P "__firstlineno__" 356 (.int 51 355), ke P "__init__" 366 (.ref 124), ke P "__static_attributes__" 382 (.ref 125)] 5) #[]
noncomputable def o113 (P : Params) : Obj := .mk (.type "tuple") none (.seq #[]) #[]
noncomputable def o114 (P : Params) : Obj := .mk .none none (.fields #[.int 53 0, .int 4 0, .ref 123]) #[]
noncomputable def o115 (P : Params) : Obj := .mk (.type "code") none (.fields #[.str "Region" 347, .str "Region" 348, .str "/claim/cut.py" 349, .int 51 0, .int 0 0, .int 0 0, .int 0 0, .int 0 0, .ref 114, .bool false, .int 181 0, .ref 115, .none, .none, .none, .none, .int 350 0, .int 51 0, .str "/claim/cut.py" 351]) #[]
noncomputable def o116 (P : Params) : Obj := .mk (.type "frame") none .plain #[some (.ref 116), some (.ref 3), some (.ref 113), none, some (.str "adacore.scopes" 338), none, some (.ref 0)]
noncomputable def o117 (P : Params) : Obj := .mk (.type "tuple") none (.seq #[]) #[]
noncomputable def o118 (P : Params) : Obj := .mk .none none (.fields #[]) #[]
noncomputable def o119 (P : Params) : Obj := .mk (.type "tuple") none (.seq #[.str "self" 360, .str "kind" 361, .str "owner" 362, .str "parent" 363]) #[]
noncomputable def o120 (P : Params) : Obj := .mk (.type "tuple") none (.seq #[]) #[]
noncomputable def o122 (P : Params) : Obj := .mk (.type "code") none (.fields #[.str "__init__" 357, .str "Region.__init__" 358, .str "/claim/cut.py" 359, .int 53 0, .int 4 0, .int 0 0, .int 0 0, .int 3 0, .ref 118, .bool true, .int 181 0, .ref 119, .none, .ref 120, .ref 121, .ref 122, .int 364 0, .int 53 0, .str "/claim/cut.py" 365]) #[]
noncomputable def o123 (P : Params) : Obj := .mk (.type "function") none (.func (fdOf (stIn 14 0) "Region.__init__" 3 [] .none .none .none (.str "adacore.scopes" 338) none (.ref 123) .none 0)) #[]
noncomputable def o124 (P : Params) : Obj := .mk (.type "tuple") none (.seq #[.str "counts" 367, .str "generic" 368, .str "kind" 369, .str "level" 370, .str "made" 371, .str "names" 372, .str "number" 373, .str "order" 374, .str "owner" 375, .str "parent" 376, .str "part" 377, .str "root" 378, .str "type_homes" 379, .str "use_types" 380, .str "uses" 381]) #[]
noncomputable def o125 (P : Params) : Obj := .mk (.type "dict") none (.dict #[ke P "__module__" 352 (.str "adacore.scopes" 338), ke P "__firstlineno__" 356 (.int 51 355), ke P "__init__" 366 (.ref 124), ke P "__static_attributes__" 382 (.ref 125), ke P "__dict__" 384 (.ref 128), ke P "__weakref__" 386 (.ref 129), ke P "__doc__" 387 .none] 4) #[]
noncomputable def o126 (P : Params) : Obj := .mk (.type "type") none (.cls (.mk "Region" [.type "object"] [.ref 127, .type "object"] 126 "Region" true [] [] false none false)) #[none, none, some (.str "Region" 345), some (.str "Region" 353), some (.builtin "object.__new__"), some (.bool true)]
noncomputable def o127 (P : Params) : Obj := .mk (.type "getset_descriptor") none (.fields #[.str "__dict__" 383, .ref 127, .builtin "function.__dict__", .builtin "function.__dict__#set"]) #[]
noncomputable def o128 (P : Params) : Obj := .mk (.type "getset_descriptor") none (.fields #[.str "__weakref__" 385, .ref 127, .builtin "ExceptionGroup.__weakref__", .none]) #[]
noncomputable def o129 (P : Params) : Obj := .mk (.type "super") none (.fields #[.ref 127, .ref 127, .ref 127]) #[]
noncomputable def o130 (P : Params) : Obj := .mk (.type "builtin_function_or_method") none (.fields #[.builtin "object.__init_subclass__", .ref 127]) #[]
noncomputable def o131 (P : Params) : Obj := .mk (.type "tuple") none (.seq #[]) #[]
noncomputable def o132 (P : Params) : Obj := .mk .none none (.fields #[]) #[]
noncomputable def o133 (P : Params) : Obj := .mk (.type "tuple") none (.seq #[.str "kind" 393, .str "owner" 394, .str "parent" 395, .str "region" 396]) #[]
noncomputable def o134 (P : Params) : Obj := .mk (.type "tuple") none (.seq #[]) #[]
noncomputable def o136 (P : Params) : Obj := .mk (.type "code") none (.fields #[.str "open_region" 390, .str "open_region" 391, .str "/claim/cut.py" 392, .int 70 0, .int 3 0, .int 0 0, .int 0 0, .int 3 0, .ref 132, .bool true, .int 181 0, .ref 133, .none, .ref 134, .ref 135, .ref 136, .int 397 0, .int 70 0, .str "/claim/cut.py" 398]) #[]
noncomputable def o137 (P : Params) : Obj := .mk (.type "function") none (.func (fdOf (st 15) "open_region" 3 [] .none .none .none (.str "adacore.scopes" 338) none (.ref 137) .none 0)) #[]
noncomputable def o138 (P : Params) : Obj := .mk (.type "tuple") none (.seq #[]) #[]
noncomputable def o139 (P : Params) : Obj := .mk .none none (.fields #[]) #[]
noncomputable def o140 (P : Params) : Obj := .mk (.type "tuple") none (.seq #[.str "outer" 403, .str "place" 404, .str "here" 405]) #[]
noncomputable def o141 (P : Params) : Obj := .mk (.type "tuple") none (.seq #[]) #[]
noncomputable def o143 (P : Params) : Obj := .mk (.type "code") none (.fields #[.str "encloses" 400, .str "encloses" 401, .str "/claim/cut.py" 402, .int 75 0, .int 2 0, .int 0 0, .int 0 0, .int 3 0, .ref 139, .bool true, .int 181 0, .ref 140, .none, .ref 141, .ref 142, .ref 143, .int 406 0, .int 75 0, .str "/claim/cut.py" 407]) #[]
noncomputable def o144 (P : Params) : Obj := .mk (.type "function") none (.func (fdOf (st 16) "encloses" 3 [] .none .none .none (.str "adacore.scopes" 338) none (.ref 144) .none 0)) #[]
noncomputable def o145 (P : Params) : Obj := .mk (.type "tuple") none (.seq #[]) #[]
noncomputable def o146 (P : Params) : Obj := .mk .none none (.fields #[]) #[]
noncomputable def o147 (P : Params) : Obj := .mk (.type "tuple") none (.seq #[.str "region" 412, .str "here" 413]) #[]
noncomputable def o148 (P : Params) : Obj := .mk (.type "tuple") none (.seq #[]) #[]
noncomputable def o150 (P : Params) : Obj := .mk (.type "code") none (.fields #[.str "frame_region" 409, .str "frame_region" 410, .str "/claim/cut.py" 411, .int 82 0, .int 1 0, .int 0 0, .int 0 0, .int 3 0, .ref 146, .bool true, .int 181 0, .ref 147, .none, .ref 148, .ref 149, .ref 150, .int 414 0, .int 82 0, .str "/claim/cut.py" 415]) #[]
noncomputable def o151 (P : Params) : Obj := .mk (.type "function") none (.func (fdOf (st 17) "frame_region" 3 [] .none .none .none (.str "adacore.scopes" 338) none (.ref 151) .none 0)) #[]
noncomputable def o152 (P : Params) : Obj := .mk (.type "dict") none (.dict #[ke P "__name__" 165 (.str "adacore.scopes" 338), ke P "__doc__" 166 .none, ke P "__package__" 167 .none, ke P "__loader__" 168 (.builtin "__main__.__loader__#opaque"), ke P "__spec__" 169 .none, ke P "__annotations__" 170 (.ref 6), ke P "__builtins__" 171 (.ref 4), ke P "__file__" 173 (.str "/claim/cut.py" 172), ke P "__cached__" 174 .none, ke P "AdaError" 217 (.ref 31), ke P "CheckFault" 243 (.ref 51), ke P "Entity" 295 (.ref 70), ke P "is_overloadable" 302 (.ref 81), ke P "homographs" 310 (.ref 88), ke P "is_operator_sign" 317 (.ref 95), ke P "mentions_type" 325 (.ref 102), ke P "SEPARATOR" 329 (.str "#" 328), ke P "unique" 337 (.ref 109), ke P "FRAME_KINDS" 344 (.ref 110), ke P "Region" 389 (.ref 127), ke P "open_region" 399 (.ref 138), ke P "encloses" 408 (.ref 145), ke P "frame_region" 416 (.ref 152), ke P "give_unique" 426 (.ref 159), ke P "settle_rivals" 432 (.ref 164), ke P "declare" 440 (.ref 171), ke P "make_ready" 447 (.ref 178), ke P "declare_ready" 455 (.ref 185), ke P "note_type" 463 (.ref 192), ke P "add_use_type" 471 (.ref 199), ke P "is_hidden" 480 (.ref 206), ke P "immediate_entities" 486 (.ref 211), ke P "stays_shown" 492 (.ref 216), ke P "is_offered" 500 (.ref 223), ke P "offered_operators" 506 (.ref 228), ke P "formals_beside" 512 (.ref 233), ke P "offered_entities" 518 (.ref 238)] 37) #[]
noncomputable def o153 (P : Params) : Obj := .mk .none none (.fields #[.int 2 0, .int 0 0, .ref 20, .int 7 0, .int 0 0, .ref 40, .int 13 0, .int 0 0, .ref 59, .int 33 0, .int 0 0, .ref 80, .int 35 0, .int 0 0, .ref 87, .int 39 0, .int 0 0, .ref 94, .int 41 0, .int 0 0, .ref 101, .int 47 0, .int 0 0, .ref 108, .int 51 0, .int 0 0, .ref 116, .int 70 0, .int 0 0, .ref 137, .int 75 0, .int 0 0, .ref 144, .int 82 0, .int 0 0, .ref 151, .int 87 0, .int 0 0, .ref 158, .int 92 0, .int 0 0, .ref 163, .int 102 0, .int 0 0, .ref 170, .int 113 0, .int 0 0, .ref 177, .int 115 0, .int 0 0, .ref 184, .int 118 0, .int 0 0, .ref 191, .int 120 0, .int 0 0, .ref 198, .int 123 0, .int 0 0, .ref 205, .int 128 0, .int 0 0, .ref 210, .int 138 0, .int 0 0, .ref 215, .int 145 0, .int 0 0, .ref 222, .int 149 0, .int 0 0, .ref 227, .int 155 0, .int 0 0, .ref 232, .int 161 0, .int 0 0, .ref 237]) #[]
noncomputable def o154 (P : Params) : Obj := .mk (.type "tuple") none (.seq #[]) #[]
noncomputable def o155 (P : Params) : Obj := .mk .none none (.fields #[]) #[]
noncomputable def o156 (P : Params) : Obj := .mk (.type "tuple") none (.seq #[.str "region" 420, .str "entity" 421, .str "frame" 422, .str "count" 423]) #[]
noncomputable def o157 (P : Params) : Obj := .mk (.type "tuple") none (.seq #[]) #[]
noncomputable def o159 (P : Params) : Obj := .mk (.type "code") none (.fields #[.str "give_unique" 417, .str "give_unique" 418, .str "/claim/cut.py" 419, .int 87 0, .int 2 0, .int 0 0, .int 0 0, .int 3 0, .ref 153, .bool true, .int 181 0, .ref 154, .none, .ref 155, .ref 156, .ref 157, .int 424 0, .int 87 0, .str "/claim/cut.py" 425]) #[]
noncomputable def o160 (P : Params) : Obj := .mk (.type "function") none (.func (fdOf (st 18) "give_unique" 3 [] .none .none .none (.str "adacore.scopes" 338) none (.ref 158) .none 0)) #[]
noncomputable def o161 (P : Params) : Obj := .mk (.type "tuple") none (.seq #[]) #[]
noncomputable def o162 (P : Params) : Obj := .mk .none none (.fields #[]) #[]
noncomputable def o164 (P : Params) : Obj := .mk (.type "code") none (.fields #[.str "settle_rivals" 427, .str "settle_rivals" 428, .str "/claim/cut.py" 429, .int 92 0, .int 2 0, .int 0 0, .int 0 0, .int 3 0, .ref 160, .bool true, .int 181 0, .ref 161, .none, .none, .none, .ref 162, .int 430 0, .int 92 0, .str "/claim/cut.py" 431]) #[]
noncomputable def o165 (P : Params) : Obj := .mk (.type "function") none (.func (fdOf (st 19) "settle_rivals" 3 [] .none .none .none (.str "adacore.scopes" 338) none (.ref 163) .none 0)) #[]
noncomputable def o166 (P : Params) : Obj := .mk (.type "tuple") none (.seq #[]) #[]
noncomputable def o167 (P : Params) : Obj := .mk .none none (.fields #[]) #[]
noncomputable def o168 (P : Params) : Obj := .mk (.type "tuple") none (.seq #[.str "region" 436, .str "entity" 437]) #[]
noncomputable def o169 (P : Params) : Obj := .mk (.type "tuple") none (.seq #[]) #[]
noncomputable def o171 (P : Params) : Obj := .mk (.type "code") none (.fields #[.str "declare" 433, .str "declare" 434, .str "/claim/cut.py" 435, .int 102 0, .int 2 0, .int 0 0, .int 0 0, .int 3 0, .ref 165, .bool true, .int 181 0, .ref 166, .none, .ref 167, .ref 168, .ref 169, .int 438 0, .int 102 0, .str "/claim/cut.py" 439]) #[]
noncomputable def o172 (P : Params) : Obj := .mk (.type "function") none (.func (fdOf (st 20) "declare" 3 [] .none .none .none (.str "adacore.scopes" 338) none (.ref 170) .none 0)) #[]
noncomputable def o173 (P : Params) : Obj := .mk (.type "tuple") none (.seq #[]) #[]
noncomputable def o174 (P : Params) : Obj := .mk .none none (.fields #[]) #[]
noncomputable def o175 (P : Params) : Obj := .mk (.type "tuple") none (.seq #[.str "entity" 444]) #[]
noncomputable def o176 (P : Params) : Obj := .mk (.type "tuple") none (.seq #[]) #[]
noncomputable def o178 (P : Params) : Obj := .mk (.type "code") none (.fields #[.str "make_ready" 441, .str "make_ready" 442, .str "/claim/cut.py" 443, .int 113 0, .int 1 0, .int 0 0, .int 0 0, .int 3 0, .ref 172, .bool true, .int 181 0, .ref 173, .none, .ref 174, .ref 175, .ref 176, .int 445 0, .int 113 0, .str "/claim/cut.py" 446]) #[]
noncomputable def o179 (P : Params) : Obj := .mk (.type "function") none (.func (fdOf (st 21) "make_ready" 3 [] .none .none .none (.str "adacore.scopes" 338) none (.ref 177) .none 0)) #[]
noncomputable def o180 (P : Params) : Obj := .mk (.type "tuple") none (.seq #[]) #[]
noncomputable def o181 (P : Params) : Obj := .mk .none none (.fields #[]) #[]
noncomputable def o182 (P : Params) : Obj := .mk (.type "tuple") none (.seq #[.str "region" 451, .str "entity" 452]) #[]
noncomputable def o183 (P : Params) : Obj := .mk (.type "tuple") none (.seq #[]) #[]
noncomputable def o185 (P : Params) : Obj := .mk (.type "code") none (.fields #[.str "declare_ready" 448, .str "declare_ready" 449, .str "/claim/cut.py" 450, .int 115 0, .int 2 0, .int 0 0, .int 0 0, .int 3 0, .ref 179, .bool true, .int 181 0, .ref 180, .none, .ref 181, .ref 182, .ref 183, .int 453 0, .int 115 0, .str "/claim/cut.py" 454]) #[]
noncomputable def o186 (P : Params) : Obj := .mk (.type "function") none (.func (fdOf (st 22) "declare_ready" 3 [] .none .none .none (.str "adacore.scopes" 338) none (.ref 184) .none 0)) #[]
noncomputable def o187 (P : Params) : Obj := .mk (.type "tuple") none (.seq #[]) #[]
noncomputable def o188 (P : Params) : Obj := .mk .none none (.fields #[]) #[]
noncomputable def o189 (P : Params) : Obj := .mk (.type "tuple") none (.seq #[.str "region" 459, .str "number" 460]) #[]
noncomputable def o190 (P : Params) : Obj := .mk (.type "tuple") none (.seq #[]) #[]
noncomputable def o192 (P : Params) : Obj := .mk (.type "code") none (.fields #[.str "note_type" 456, .str "note_type" 457, .str "/claim/cut.py" 458, .int 118 0, .int 2 0, .int 0 0, .int 0 0, .int 3 0, .ref 186, .bool true, .int 181 0, .ref 187, .none, .ref 188, .ref 189, .ref 190, .int 461 0, .int 118 0, .str "/claim/cut.py" 462]) #[]
noncomputable def o193 (P : Params) : Obj := .mk (.type "function") none (.func (fdOf (st 23) "note_type" 3 [] .none .none .none (.str "adacore.scopes" 338) none (.ref 191) .none 0)) #[]
noncomputable def o194 (P : Params) : Obj := .mk (.type "tuple") none (.seq #[]) #[]
noncomputable def o195 (P : Params) : Obj := .mk .none none (.fields #[]) #[]
noncomputable def o196 (P : Params) : Obj := .mk (.type "tuple") none (.seq #[.str "region" 467, .str "number" 468]) #[]
noncomputable def o197 (P : Params) : Obj := .mk (.type "tuple") none (.seq #[]) #[]
noncomputable def o199 (P : Params) : Obj := .mk (.type "code") none (.fields #[.str "add_use_type" 464, .str "add_use_type" 465, .str "/claim/cut.py" 466, .int 120 0, .int 2 0, .int 0 0, .int 0 0, .int 3 0, .ref 193, .bool true, .int 181 0, .ref 194, .none, .ref 195, .ref 196, .ref 197, .int 469 0, .int 120 0, .str "/claim/cut.py" 470]) #[]
noncomputable def o200 (P : Params) : Obj := .mk (.type "function") none (.func (fdOf (st 24) "add_use_type" 3 [] .none .none .none (.str "adacore.scopes" 338) none (.ref 198) .none 0)) #[]
noncomputable def o201 (P : Params) : Obj := .mk (.type "tuple") none (.seq #[]) #[]
noncomputable def o202 (P : Params) : Obj := .mk .none none (.fields #[]) #[]
noncomputable def o203 (P : Params) : Obj := .mk (.type "tuple") none (.seq #[.str "entity" 475, .str "inner" 476, .str "other" 477]) #[]
noncomputable def o204 (P : Params) : Obj := .mk (.type "tuple") none (.seq #[]) #[]
noncomputable def o206 (P : Params) : Obj := .mk (.type "code") none (.fields #[.str "is_hidden" 472, .str "is_hidden" 473, .str "/claim/cut.py" 474, .int 123 0, .int 2 0, .int 0 0, .int 0 0, .int 3 0, .ref 200, .bool true, .int 181 0, .ref 201, .none, .ref 202, .ref 203, .ref 204, .int 478 0, .int 123 0, .str "/claim/cut.py" 479]) #[]
noncomputable def o207 (P : Params) : Obj := .mk (.type "function") none (.func (fdOf (st 25) "is_hidden" 3 [] .none .none .none (.str "adacore.scopes" 338) none (.ref 205) .none 0)) #[]
noncomputable def o208 (P : Params) : Obj := .mk (.type "tuple") none (.seq #[]) #[]
noncomputable def o209 (P : Params) : Obj := .mk .none none (.fields #[]) #[]
noncomputable def o211 (P : Params) : Obj := .mk (.type "code") none (.fields #[.str "immediate_entities" 481, .str "immediate_entities" 482, .str "/claim/cut.py" 483, .int 128 0, .int 2 0, .int 0 0, .int 0 0, .int 3 0, .ref 207, .bool true, .int 181 0, .ref 208, .none, .none, .none, .ref 209, .int 484 0, .int 128 0, .str "/claim/cut.py" 485]) #[]
noncomputable def o212 (P : Params) : Obj := .mk (.type "function") none (.func (fdOf (st 26) "immediate_entities" 3 [] .none .none .none (.str "adacore.scopes" 338) none (.ref 210) .none 0)) #[]
noncomputable def o213 (P : Params) : Obj := .mk (.type "tuple") none (.seq #[]) #[]
noncomputable def o214 (P : Params) : Obj := .mk .none none (.fields #[]) #[]
noncomputable def o216 (P : Params) : Obj := .mk (.type "code") none (.fields #[.str "stays_shown" 487, .str "stays_shown" 488, .str "/claim/cut.py" 489, .int 138 0, .int 2 0, .int 0 0, .int 0 0, .int 3 0, .ref 212, .bool true, .int 181 0, .ref 213, .none, .none, .none, .ref 214, .int 490 0, .int 138 0, .str "/claim/cut.py" 491]) #[]
noncomputable def o217 (P : Params) : Obj := .mk (.type "function") none (.func (fdOf (st 27) "stays_shown" 3 [] .none .none .none (.str "adacore.scopes" 338) none (.ref 215) .none 0)) #[]
noncomputable def o218 (P : Params) : Obj := .mk (.type "tuple") none (.seq #[]) #[]
noncomputable def o219 (P : Params) : Obj := .mk .none none (.fields #[]) #[]
noncomputable def o220 (P : Params) : Obj := .mk (.type "tuple") none (.seq #[.str "region" 496, .str "entity" 497]) #[]
noncomputable def o221 (P : Params) : Obj := .mk (.type "tuple") none (.seq #[]) #[]
noncomputable def o223 (P : Params) : Obj := .mk (.type "code") none (.fields #[.str "is_offered" 493, .str "is_offered" 494, .str "/claim/cut.py" 495, .int 145 0, .int 2 0, .int 0 0, .int 0 0, .int 3 0, .ref 217, .bool true, .int 181 0, .ref 218, .none, .ref 219, .ref 220, .ref 221, .int 498 0, .int 145 0, .str "/claim/cut.py" 499]) #[]
noncomputable def o224 (P : Params) : Obj := .mk (.type "function") none (.func (fdOf (st 28) "is_offered" 3 [] .none .none .none (.str "adacore.scopes" 338) none (.ref 222) .none 0)) #[]
noncomputable def o225 (P : Params) : Obj := .mk (.type "tuple") none (.seq #[]) #[]
noncomputable def o226 (P : Params) : Obj := .mk .none none (.fields #[]) #[]
noncomputable def o228 (P : Params) : Obj := .mk (.type "code") none (.fields #[.str "offered_operators" 501, .str "offered_operators" 502, .str "/claim/cut.py" 503, .int 149 0, .int 3 0, .int 0 0, .int 0 0, .int 3 0, .ref 224, .bool true, .int 181 0, .ref 225, .none, .none, .none, .ref 226, .int 504 0, .int 149 0, .str "/claim/cut.py" 505]) #[]
noncomputable def o229 (P : Params) : Obj := .mk (.type "function") none (.func (fdOf (st 29) "offered_operators" 3 [] .none .none .none (.str "adacore.scopes" 338) none (.ref 227) .none 0)) #[]
noncomputable def o230 (P : Params) : Obj := .mk (.type "tuple") none (.seq #[]) #[]
noncomputable def o231 (P : Params) : Obj := .mk .none none (.fields #[]) #[]
noncomputable def o233 (P : Params) : Obj := .mk (.type "code") none (.fields #[.str "formals_beside" 507, .str "formals_beside" 508, .str "/claim/cut.py" 509, .int 155 0, .int 2 0, .int 0 0, .int 0 0, .int 3 0, .ref 229, .bool true, .int 181 0, .ref 230, .none, .none, .none, .ref 231, .int 510 0, .int 155 0, .str "/claim/cut.py" 511]) #[]
noncomputable def o234 (P : Params) : Obj := .mk (.type "function") none (.func (fdOf (st 30) "formals_beside" 3 [] .none .none .none (.str "adacore.scopes" 338) none (.ref 232) .none 0)) #[]
noncomputable def o235 (P : Params) : Obj := .mk (.type "tuple") none (.seq #[]) #[]
noncomputable def o236 (P : Params) : Obj := .mk .none none (.fields #[]) #[]
noncomputable def o238 (P : Params) : Obj := .mk (.type "code") none (.fields #[.str "offered_entities" 513, .str "offered_entities" 514, .str "/claim/cut.py" 515, .int 161 0, .int 2 0, .int 0 0, .int 0 0, .int 3 0, .ref 234, .bool true, .int 181 0, .ref 235, .none, .none, .none, .ref 236, .int 516 0, .int 161 0, .str "/claim/cut.py" 517]) #[]
noncomputable def o239 (P : Params) : Obj := .mk (.type "function") none (.func (fdOf (st 31) "offered_entities" 3 [] .none .none .none (.str "adacore.scopes" 338) none (.ref 237) .none 0)) #[]
noncomputable def o240 (P : Params) : Obj := .mk (.type "dict") none (.dict #[ke P "__name__" 165 (.str "adacore.types" 573), ke P "__doc__" 166 .none, ke P "__package__" 167 .none, ke P "__loader__" 168 (.builtin "__main__.__loader__#opaque"), ke P "__spec__" 169 .none, ke P "__annotations__" 170 (.ref 6), ke P "__builtins__" 171 (.ref 4), ke P "__file__" 173 (.str "/claim/cut.py" 172), ke P "__cached__" 174 .none, ke P "AdaError" 217 (.ref 31), ke P "CheckFault" 243 (.ref 51), ke P "Entity" 295 (.ref 70), ke P "is_overloadable" 302 (.ref 81), ke P "homographs" 310 (.ref 88), ke P "is_operator_sign" 317 (.ref 95), ke P "mentions_type" 325 (.ref 102), ke P "SEPARATOR" 329 (.str "#" 328), ke P "unique" 337 (.ref 109), ke P "FRAME_KINDS" 344 (.ref 110), ke P "Region" 389 (.ref 127), ke P "open_region" 399 (.ref 138), ke P "encloses" 408 (.ref 145), ke P "frame_region" 416 (.ref 152), ke P "give_unique" 426 (.ref 159), ke P "settle_rivals" 432 (.ref 164), ke P "declare" 440 (.ref 171), ke P "make_ready" 447 (.ref 178), ke P "declare_ready" 455 (.ref 185), ke P "note_type" 463 (.ref 192), ke P "add_use_type" 471 (.ref 199), ke P "is_hidden" 480 (.ref 206), ke P "immediate_entities" 486 (.ref 211), ke P "stays_shown" 492 (.ref 216), ke P "is_offered" 500 (.ref 223), ke P "offered_operators" 506 (.ref 228), ke P "formals_beside" 512 (.ref 233), ke P "offered_entities" 518 (.ref 238), ke P "look_up" 524 (.ref 243), ke P "select_from" 530 (.ref 248), ke P "formal_types" 536 (.ref 253), ke P "formal_homes" 542 (.ref 258), ke P "shows_operators" 550 (.ref 265), ke P "sees_operators" 556 (.ref 270), ke P "view_of" 564 (.ref 277), ke P "ups_to" 572 (.ref 284)] 45) #[]
noncomputable def o241 (P : Params) : Obj := .mk .none none (.fields #[.int 2 0, .int 0 0, .ref 20, .int 7 0, .int 0 0, .ref 40, .int 13 0, .int 0 0, .ref 59, .int 33 0, .int 0 0, .ref 80, .int 35 0, .int 0 0, .ref 87, .int 39 0, .int 0 0, .ref 94, .int 41 0, .int 0 0, .ref 101, .int 47 0, .int 0 0, .ref 108, .int 51 0, .int 0 0, .ref 116, .int 70 0, .int 0 0, .ref 137, .int 75 0, .int 0 0, .ref 144, .int 82 0, .int 0 0, .ref 151, .int 87 0, .int 0 0, .ref 158, .int 92 0, .int 0 0, .ref 163, .int 102 0, .int 0 0, .ref 170, .int 113 0, .int 0 0, .ref 177, .int 115 0, .int 0 0, .ref 184, .int 118 0, .int 0 0, .ref 191, .int 120 0, .int 0 0, .ref 198, .int 123 0, .int 0 0, .ref 205, .int 128 0, .int 0 0, .ref 210, .int 138 0, .int 0 0, .ref 215, .int 145 0, .int 0 0, .ref 222, .int 149 0, .int 0 0, .ref 227, .int 155 0, .int 0 0, .ref 232, .int 161 0, .int 0 0, .ref 237, .int 178 0, .int 0 0, .ref 242, .int 184 0, .int 0 0, .ref 247, .int 198 0, .int 0 0, .ref 252, .int 207 0, .int 0 0, .ref 257, .int 209 0, .int 0 0, .ref 264, .int 211 0, .int 0 0, .ref 269, .int 227 0, .int 0 0, .ref 276, .int 231 0, .int 0 0, .ref 283]) #[]
noncomputable def o242 (P : Params) : Obj := .mk (.type "tuple") none (.seq #[]) #[]
noncomputable def o243 (P : Params) : Obj := .mk .none none (.fields #[]) #[]
noncomputable def o245 (P : Params) : Obj := .mk (.type "code") none (.fields #[.str "look_up" 519, .str "look_up" 520, .str "/claim/cut.py" 521, .int 178 0, .int 2 0, .int 0 0, .int 0 0, .int 3 0, .ref 239, .bool true, .int 181 0, .ref 240, .none, .none, .none, .ref 241, .int 522 0, .int 178 0, .str "/claim/cut.py" 523]) #[]
noncomputable def o246 (P : Params) : Obj := .mk (.type "function") none (.func (fdOf (st 32) "look_up" 3 [] .none .none .none (.str "adacore.scopes" 338) none (.ref 242) .none 0)) #[]
noncomputable def o247 (P : Params) : Obj := .mk (.type "tuple") none (.seq #[]) #[]
noncomputable def o248 (P : Params) : Obj := .mk .none none (.fields #[]) #[]
noncomputable def o250 (P : Params) : Obj := .mk (.type "code") none (.fields #[.str "select_from" 525, .str "select_from" 526, .str "/claim/cut.py" 527, .int 184 0, .int 3 0, .int 0 0, .int 0 0, .int 3 0, .ref 244, .bool true, .int 181 0, .ref 245, .none, .none, .none, .ref 246, .int 528 0, .int 184 0, .str "/claim/cut.py" 529]) #[]
noncomputable def o251 (P : Params) : Obj := .mk (.type "function") none (.func (fdOf (st 33) "select_from" 3 [] .none .none .none (.str "adacore.scopes" 338) none (.ref 247) .none 0)) #[]
noncomputable def o252 (P : Params) : Obj := .mk (.type "tuple") none (.seq #[]) #[]
noncomputable def o253 (P : Params) : Obj := .mk .none none (.fields #[]) #[]
noncomputable def o255 (P : Params) : Obj := .mk (.type "code") none (.fields #[.str "formal_types" 531, .str "formal_types" 532, .str "/claim/cut.py" 533, .int 198 0, .int 1 0, .int 0 0, .int 0 0, .int 3 0, .ref 249, .bool true, .int 181 0, .ref 250, .none, .none, .none, .ref 251, .int 534 0, .int 198 0, .str "/claim/cut.py" 535]) #[]
noncomputable def o256 (P : Params) : Obj := .mk (.type "function") none (.func (fdOf (st 34) "formal_types" 3 [] .none .none .none (.str "adacore.scopes" 338) none (.ref 252) .none 0)) #[]
noncomputable def o257 (P : Params) : Obj := .mk (.type "tuple") none (.seq #[]) #[]
noncomputable def o258 (P : Params) : Obj := .mk .none none (.fields #[]) #[]
noncomputable def o260 (P : Params) : Obj := .mk (.type "code") none (.fields #[.str "formal_homes" 537, .str "formal_homes" 538, .str "/claim/cut.py" 539, .int 207 0, .int 1 0, .int 0 0, .int 0 0, .int 3 0, .ref 254, .bool true, .int 181 0, .ref 255, .none, .none, .none, .ref 256, .int 540 0, .int 207 0, .str "/claim/cut.py" 541]) #[]
noncomputable def o261 (P : Params) : Obj := .mk (.type "function") none (.func (fdOf (st 35) "formal_homes" 3 [] .none .none .none (.str "adacore.scopes" 338) none (.ref 257) .none 0)) #[]
noncomputable def o262 (P : Params) : Obj := .mk (.type "tuple") none (.seq #[]) #[]
noncomputable def o263 (P : Params) : Obj := .mk .none none (.fields #[]) #[]
noncomputable def o264 (P : Params) : Obj := .mk (.type "tuple") none (.seq #[.str "package" 546, .str "number" 547]) #[]
noncomputable def o265 (P : Params) : Obj := .mk (.type "tuple") none (.seq #[]) #[]
noncomputable def o267 (P : Params) : Obj := .mk (.type "code") none (.fields #[.str "shows_operators" 543, .str "shows_operators" 544, .str "/claim/cut.py" 545, .int 209 0, .int 2 0, .int 0 0, .int 0 0, .int 3 0, .ref 259, .bool true, .int 181 0, .ref 260, .none, .ref 261, .ref 262, .ref 263, .int 548 0, .int 209 0, .str "/claim/cut.py" 549]) #[]
noncomputable def o268 (P : Params) : Obj := .mk (.type "function") none (.func (fdOf (st 36) "shows_operators" 3 [] .none .none .none (.str "adacore.scopes" 338) none (.ref 264) .none 0)) #[]
noncomputable def o269 (P : Params) : Obj := .mk (.type "tuple") none (.seq #[]) #[]
noncomputable def o270 (P : Params) : Obj := .mk .none none (.fields #[]) #[]
noncomputable def o272 (P : Params) : Obj := .mk (.type "code") none (.fields #[.str "sees_operators" 551, .str "sees_operators" 552, .str "/claim/cut.py" 553, .int 211 0, .int 2 0, .int 0 0, .int 0 0, .int 3 0, .ref 266, .bool true, .int 181 0, .ref 267, .none, .none, .none, .ref 268, .int 554 0, .int 211 0, .str "/claim/cut.py" 555]) #[]
noncomputable def o273 (P : Params) : Obj := .mk (.type "function") none (.func (fdOf (st 37) "sees_operators" 3 [] .none .none .none (.str "adacore.scopes" 338) none (.ref 269) .none 0)) #[]
noncomputable def o274 (P : Params) : Obj := .mk (.type "tuple") none (.seq #[]) #[]
noncomputable def o275 (P : Params) : Obj := .mk .none none (.fields #[]) #[]
noncomputable def o276 (P : Params) : Obj := .mk (.type "tuple") none (.seq #[.str "entity" 560, .str "place" 561]) #[]
noncomputable def o277 (P : Params) : Obj := .mk (.type "tuple") none (.seq #[]) #[]
noncomputable def o279 (P : Params) : Obj := .mk (.type "code") none (.fields #[.str "view_of" 557, .str "view_of" 558, .str "/claim/cut.py" 559, .int 227 0, .int 2 0, .int 0 0, .int 0 0, .int 3 0, .ref 271, .bool true, .int 181 0, .ref 272, .none, .ref 273, .ref 274, .ref 275, .int 562 0, .int 227 0, .str "/claim/cut.py" 563]) #[]
noncomputable def o280 (P : Params) : Obj := .mk (.type "function") none (.func (fdOf (st 38) "view_of" 3 [] .none .none .none (.str "adacore.scopes" 338) none (.ref 276) .none 0)) #[]
noncomputable def o281 (P : Params) : Obj := .mk (.type "tuple") none (.seq #[]) #[]
noncomputable def o282 (P : Params) : Obj := .mk .none none (.fields #[]) #[]
noncomputable def o283 (P : Params) : Obj := .mk (.type "tuple") none (.seq #[.str "place" 568, .str "entity" 569]) #[]
noncomputable def o284 (P : Params) : Obj := .mk (.type "tuple") none (.seq #[]) #[]
noncomputable def o286 (P : Params) : Obj := .mk (.type "code") none (.fields #[.str "ups_to" 565, .str "ups_to" 566, .str "/claim/cut.py" 567, .int 231 0, .int 2 0, .int 0 0, .int 0 0, .int 3 0, .ref 278, .bool true, .int 181 0, .ref 279, .none, .ref 280, .ref 281, .ref 282, .int 570 0, .int 231 0, .str "/claim/cut.py" 571]) #[]
noncomputable def o287 (P : Params) : Obj := .mk (.type "function") none (.func (fdOf (st 39) "ups_to" 3 [] .none .none .none (.str "adacore.scopes" 338) none (.ref 283) .none 0)) #[]
noncomputable def o288 (P : Params) : Obj := .mk (.type "dict") none (.dict #[ke P "__name__" 165 (.str "adacore.types" 573), ke P "__doc__" 166 .none, ke P "__package__" 167 .none, ke P "__loader__" 168 (.builtin "__main__.__loader__#opaque"), ke P "__spec__" 169 .none, ke P "__annotations__" 170 (.ref 6), ke P "__builtins__" 171 (.ref 4), ke P "__file__" 173 (.str "/claim/cut.py" 172), ke P "__cached__" 174 .none, ke P "AdaError" 217 (.ref 31), ke P "CheckFault" 243 (.ref 51), ke P "Entity" 295 (.ref 70), ke P "is_overloadable" 302 (.ref 81), ke P "homographs" 310 (.ref 88), ke P "is_operator_sign" 317 (.ref 95), ke P "mentions_type" 325 (.ref 102), ke P "SEPARATOR" 329 (.str "#" 328), ke P "unique" 337 (.ref 109), ke P "FRAME_KINDS" 344 (.ref 110), ke P "Region" 389 (.ref 127), ke P "open_region" 399 (.ref 138), ke P "encloses" 408 (.ref 145), ke P "frame_region" 416 (.ref 152), ke P "give_unique" 426 (.ref 159), ke P "settle_rivals" 432 (.ref 164), ke P "declare" 440 (.ref 171), ke P "make_ready" 447 (.ref 178), ke P "declare_ready" 455 (.ref 185), ke P "note_type" 463 (.ref 192), ke P "add_use_type" 471 (.ref 199), ke P "is_hidden" 480 (.ref 206), ke P "immediate_entities" 486 (.ref 211), ke P "stays_shown" 492 (.ref 216), ke P "is_offered" 500 (.ref 223), ke P "offered_operators" 506 (.ref 228), ke P "formals_beside" 512 (.ref 233), ke P "offered_entities" 518 (.ref 238), ke P "look_up" 524 (.ref 243), ke P "select_from" 530 (.ref 248), ke P "formal_types" 536 (.ref 253), ke P "formal_homes" 542 (.ref 258), ke P "shows_operators" 550 (.ref 265), ke P "sees_operators" 556 (.ref 270), ke P "view_of" 564 (.ref 277), ke P "ups_to" 572 (.ref 284), ke P "Type" 627 (.ref 301)] 46) #[]
noncomputable def o289 (P : Params) : Obj := .mk .none none (.fields #[.int 2 0, .int 0 0, .ref 20, .int 7 0, .int 0 0, .ref 40, .int 13 0, .int 0 0, .ref 59, .int 33 0, .int 0 0, .ref 80, .int 35 0, .int 0 0, .ref 87, .int 39 0, .int 0 0, .ref 94, .int 41 0, .int 0 0, .ref 101, .int 47 0, .int 0 0, .ref 108, .int 51 0, .int 0 0, .ref 116, .int 70 0, .int 0 0, .ref 137, .int 75 0, .int 0 0, .ref 144, .int 82 0, .int 0 0, .ref 151, .int 87 0, .int 0 0, .ref 158, .int 92 0, .int 0 0, .ref 163, .int 102 0, .int 0 0, .ref 170, .int 113 0, .int 0 0, .ref 177, .int 115 0, .int 0 0, .ref 184, .int 118 0, .int 0 0, .ref 191, .int 120 0, .int 0 0, .ref 198, .int 123 0, .int 0 0, .ref 205, .int 128 0, .int 0 0, .ref 210, .int 138 0, .int 0 0, .ref 215, .int 145 0, .int 0 0, .ref 222, .int 149 0, .int 0 0, .ref 227, .int 155 0, .int 0 0, .ref 232, .int 161 0, .int 0 0, .ref 237, .int 178 0, .int 0 0, .ref 242, .int 184 0, .int 0 0, .ref 247, .int 198 0, .int 0 0, .ref 252, .int 207 0, .int 0 0, .ref 257, .int 209 0, .int 0 0, .ref 264, .int 211 0, .int 0 0, .ref 269, .int 227 0, .int 0 0, .ref 276, .int 231 0, .int 0 0, .ref 283, .int 234 0, .int 0 0, .ref 290]) #[]
noncomputable def o290 (P : Params) : Obj := .mk (.type "tuple") none (.seq #[]) #[]
noncomputable def o291 (P : Params) : Obj := .mk (.type "builtin_function_or_method") none (.fields #[.builtin "type.__prepare__", .type "type"]) #[]
noncomputable def o292 (P : Params) : Obj := .mk (.type "dict") none (.dict #[ke P "__module__" 582 (.str "adacore.types" 573), ke P "__qualname__" 584 (.str "Type" 583), ke P "__firstlineno__" 586 (.int 234 585), ke P "__init__" 595 (.ref 298), ke P "__static_attributes__" 620 (.ref 299)] 5) #[]
noncomputable def o293 (P : Params) : Obj := .mk (.type "tuple") none (.seq #[]) #[]
noncomputable def o294 (P : Params) : Obj := .mk .none none (.fields #[.int 236 0, .int 4 0, .ref 297]) #[]
noncomputable def o295 (P : Params) : Obj := .mk (.type "code") none (.fields #[.str "Type" 577, .str "Type" 578, .str "/claim/cut.py" 579, .int 234 0, .int 0 0, .int 0 0, .int 0 0, .int 0 0, .ref 288, .bool false, .int 181 0, .ref 289, .none, .none, .none, .none, .int 580 0, .int 234 0, .str "/claim/cut.py" 581]) #[]
noncomputable def o296 (P : Params) : Obj := .mk (.type "frame") none .plain #[some (.ref 290), some (.ref 3), some (.ref 287), none, some (.str "adacore.types" 573), none, some (.ref 0)]
noncomputable def o297 (P : Params) : Obj := .mk (.type "tuple") none (.seq #[]) #[]
noncomputable def o298 (P : Params) : Obj := .mk .none none (.fields #[]) #[]
noncomputable def o299 (P : Params) : Obj := .mk (.type "tuple") none (.seq #[.str "self" 590, .str "kind" 591, .str "name" 592]) #[]
noncomputable def o300 (P : Params) : Obj := .mk (.type "tuple") none (.seq #[]) #[]
noncomputable def o302 (P : Params) : Obj := .mk (.type "code") none (.fields #[.str "__init__" 587, .str "Type.__init__" 588, .str "/claim/cut.py" 589, .int 236 0, .int 3 0, .int 0 0, .int 0 0, .int 3 0, .ref 292, .bool true, .int 181 0, .ref 293, .none, .ref 294, .ref 295, .ref 296, .int 593 0, .int 236 0, .str "/claim/cut.py" 594]) #[]
noncomputable def o303 (P : Params) : Obj := .mk (.type "function") none (.func (fdOf (stIn 41 0) "Type.__init__" 3 [] .none .none .none (.str "adacore.types" 573) none (.ref 297) .none 0)) #[]
noncomputable def o304 (P : Params) : Obj := .mk (.type "tuple") none (.seq #[.str "component" 596, .str "components" 597, .str "designated" 598, .str "discriminants" 599, .str "high" 600, .str "index" 601, .str "is_abstract" 602, .str "is_constant" 603, .str "is_constrained" 604, .str "is_late" 605, .str "is_limited" 606, .str "is_private" 607, .str "is_tagged" 608, .str "kind" 609, .str "literals" 610, .str "low" 611, .str "modulus" 612, .str "name" 613, .str "number" 614, .str "operations" 615, .str "parent" 616, .str "small" 617, .str "variant" 618, .str "wide" 619]) #[]
noncomputable def o305 (P : Params) : Obj := .mk (.type "dict") none (.dict #[ke P "__module__" 582 (.str "adacore.types" 573), ke P "__firstlineno__" 586 (.int 234 585), ke P "__init__" 595 (.ref 298), ke P "__static_attributes__" 620 (.ref 299), ke P "__dict__" 622 (.ref 302), ke P "__weakref__" 624 (.ref 303), ke P "__doc__" 625 .none] 4) #[]
noncomputable def o306 (P : Params) : Obj := .mk (.type "type") none (.cls (.mk "Type" [.type "object"] [.ref 301, .type "object"] 300 "Type" true [] [] false none false)) #[none, none, some (.str "Type" 575), some (.str "Type" 583), some (.builtin "object.__new__"), some (.bool true)]
noncomputable def o307 (P : Params) : Obj := .mk (.type "getset_descriptor") none (.fields #[.str "__dict__" 621, .ref 301, .builtin "function.__dict__", .builtin "function.__dict__#set"]) #[]
noncomputable def o308 (P : Params) : Obj := .mk (.type "getset_descriptor") none (.fields #[.str "__weakref__" 623, .ref 301, .builtin "ExceptionGroup.__weakref__", .none]) #[]
noncomputable def o309 (P : Params) : Obj := .mk (.type "super") none (.fields #[.ref 301, .ref 301, .ref 301]) #[]
noncomputable def o310 (P : Params) : Obj := .mk (.type "builtin_function_or_method") none (.fields #[.builtin "object.__init_subclass__", .ref 301]) #[]
noncomputable def o311 (P : Params) : Obj := .mk (.type "dict") none (.dict #[ke P "__name__" 165 (.str "adacore.meanings" 703), ke P "__doc__" 166 .none, ke P "__package__" 167 .none, ke P "__loader__" 168 (.builtin "__main__.__loader__#opaque"), ke P "__spec__" 169 .none, ke P "__annotations__" 170 (.ref 6), ke P "__builtins__" 171 (.ref 4), ke P "__file__" 173 (.str "/claim/cut.py" 172), ke P "__cached__" 174 .none, ke P "AdaError" 217 (.ref 31), ke P "CheckFault" 243 (.ref 51), ke P "Entity" 295 (.ref 70), ke P "is_overloadable" 302 (.ref 81), ke P "homographs" 310 (.ref 88), ke P "is_operator_sign" 317 (.ref 95), ke P "mentions_type" 325 (.ref 102), ke P "SEPARATOR" 329 (.str "#" 328), ke P "unique" 337 (.ref 109), ke P "FRAME_KINDS" 344 (.ref 110), ke P "Region" 389 (.ref 127), ke P "open_region" 399 (.ref 138), ke P "encloses" 408 (.ref 145), ke P "frame_region" 416 (.ref 152), ke P "give_unique" 426 (.ref 159), ke P "settle_rivals" 432 (.ref 164), ke P "declare" 440 (.ref 171), ke P "make_ready" 447 (.ref 178), ke P "declare_ready" 455 (.ref 185), ke P "note_type" 463 (.ref 192), ke P "add_use_type" 471 (.ref 199), ke P "is_hidden" 480 (.ref 206), ke P "immediate_entities" 486 (.ref 211), ke P "stays_shown" 492 (.ref 216), ke P "is_offered" 500 (.ref 223), ke P "offered_operators" 506 (.ref 228), ke P "formals_beside" 512 (.ref 233), ke P "offered_entities" 518 (.ref 238), ke P "look_up" 524 (.ref 243), ke P "select_from" 530 (.ref 248), ke P "formal_types" 536 (.ref 253), ke P "formal_homes" 542 (.ref 258), ke P "shows_operators" 550 (.ref 265), ke P "sees_operators" 556 (.ref 270), ke P "view_of" 564 (.ref 277), ke P "ups_to" 572 (.ref 284), ke P "Type" 627 (.ref 301), ke P "Subtype" 658 (.ref 322), ke P "int_type" 668 (.ref 333), ke P "record_type" 679 (.ref 340), ke P "numbered" 687 (.ref 347), ke P "same_type" 695 (.ref 354), ke P "whole_subtype" 702 (.ref 361)] 52) #[]
noncomputable def o312 (P : Params) : Obj := .mk .none none (.fields #[.int 2 0, .int 0 0, .ref 20, .int 7 0, .int 0 0, .ref 40, .int 13 0, .int 0 0, .ref 59, .int 33 0, .int 0 0, .ref 80, .int 35 0, .int 0 0, .ref 87, .int 39 0, .int 0 0, .ref 94, .int 41 0, .int 0 0, .ref 101, .int 47 0, .int 0 0, .ref 108, .int 51 0, .int 0 0, .ref 116, .int 70 0, .int 0 0, .ref 137, .int 75 0, .int 0 0, .ref 144, .int 82 0, .int 0 0, .ref 151, .int 87 0, .int 0 0, .ref 158, .int 92 0, .int 0 0, .ref 163, .int 102 0, .int 0 0, .ref 170, .int 113 0, .int 0 0, .ref 177, .int 115 0, .int 0 0, .ref 184, .int 118 0, .int 0 0, .ref 191, .int 120 0, .int 0 0, .ref 198, .int 123 0, .int 0 0, .ref 205, .int 128 0, .int 0 0, .ref 210, .int 138 0, .int 0 0, .ref 215, .int 145 0, .int 0 0, .ref 222, .int 149 0, .int 0 0, .ref 227, .int 155 0, .int 0 0, .ref 232, .int 161 0, .int 0 0, .ref 237, .int 178 0, .int 0 0, .ref 242, .int 184 0, .int 0 0, .ref 247, .int 198 0, .int 0 0, .ref 252, .int 207 0, .int 0 0, .ref 257, .int 209 0, .int 0 0, .ref 264, .int 211 0, .int 0 0, .ref 269, .int 227 0, .int 0 0, .ref 276, .int 231 0, .int 0 0, .ref 283, .int 234 0, .int 0 0, .ref 290, .int 261 0, .int 0 0, .ref 311, .int 266 0, .int 0 0, .ref 332, .int 271 0, .int 0 0, .ref 339, .int 278 0, .int 0 0, .ref 346, .int 281 0, .int 0 0, .ref 353, .int 283 0, .int 0 0, .ref 360]) #[]
noncomputable def o313 (P : Params) : Obj := .mk (.type "tuple") none (.seq #[]) #[]
noncomputable def o314 (P : Params) : Obj := .mk (.type "builtin_function_or_method") none (.fields #[.builtin "type.__prepare__", .type "type"]) #[]
noncomputable def o315 (P : Params) : Obj := .mk (.type "dict") none (.dict #[ke P "__module__" 635 (.str "adacore.types" 573), ke P "__qualname__" 637 (.str "Subtype" 636), ke P "__firstlineno__" 639 (.int 261 638), ke P "__init__" 648 (.ref 319), ke P "__static_attributes__" 651 (.ref 320)] 5) #[]
noncomputable def o316 (P : Params) : Obj := .mk (.type "tuple") none (.seq #[]) #[]
noncomputable def o317 (P : Params) : Obj := .mk .none none (.fields #[.int 263 0, .int 4 0, .ref 318]) #[]
noncomputable def o318 (P : Params) : Obj := .mk (.type "code") none (.fields #[.str "Subtype" 630, .str "Subtype" 631, .str "/claim/cut.py" 632, .int 261 0, .int 0 0, .int 0 0, .int 0 0, .int 0 0, .ref 309, .bool false, .int 181 0, .ref 310, .none, .none, .none, .none, .int 633 0, .int 261 0, .str "/claim/cut.py" 634]) #[]
noncomputable def o319 (P : Params) : Obj := .mk (.type "frame") none .plain #[some (.ref 311), some (.ref 3), some (.ref 308), none, some (.str "adacore.types" 573), none, some (.ref 0)]
noncomputable def o320 (P : Params) : Obj := .mk (.type "tuple") none (.seq #[]) #[]
noncomputable def o321 (P : Params) : Obj := .mk .none none (.fields #[]) #[]
noncomputable def o322 (P : Params) : Obj := .mk (.type "tuple") none (.seq #[.str "self" 643, .str "t" 644, .str "constraint" 645]) #[]
noncomputable def o323 (P : Params) : Obj := .mk (.type "tuple") none (.seq #[]) #[]
noncomputable def o325 (P : Params) : Obj := .mk (.type "code") none (.fields #[.str "__init__" 640, .str "Subtype.__init__" 641, .str "/claim/cut.py" 642, .int 263 0, .int 3 0, .int 0 0, .int 0 0, .int 3 0, .ref 313, .bool true, .int 181 0, .ref 314, .none, .ref 315, .ref 316, .ref 317, .int 646 0, .int 263 0, .str "/claim/cut.py" 647]) #[]
noncomputable def o326 (P : Params) : Obj := .mk (.type "function") none (.func (fdOf (stIn 42 0) "Subtype.__init__" 3 [] .none .none .none (.str "adacore.types" 573) none (.ref 318) .none 0)) #[]
noncomputable def o327 (P : Params) : Obj := .mk (.type "tuple") none (.seq #[.str "constraint" 649, .str "type" 650]) #[]
noncomputable def o328 (P : Params) : Obj := .mk (.type "dict") none (.dict #[ke P "__module__" 635 (.str "adacore.types" 573), ke P "__firstlineno__" 639 (.int 261 638), ke P "__init__" 648 (.ref 319), ke P "__static_attributes__" 651 (.ref 320), ke P "__dict__" 653 (.ref 323), ke P "__weakref__" 655 (.ref 324), ke P "__doc__" 656 .none] 4) #[]
noncomputable def o329 (P : Params) : Obj := .mk (.type "type") none (.cls (.mk "Subtype" [.type "object"] [.ref 322, .type "object"] 321 "Subtype" true [] [] false none false)) #[none, none, some (.str "Subtype" 628), some (.str "Subtype" 636), some (.builtin "object.__new__"), some (.bool true)]
noncomputable def o330 (P : Params) : Obj := .mk (.type "getset_descriptor") none (.fields #[.str "__dict__" 652, .ref 322, .builtin "function.__dict__", .builtin "function.__dict__#set"]) #[]
noncomputable def o331 (P : Params) : Obj := .mk (.type "getset_descriptor") none (.fields #[.str "__weakref__" 654, .ref 322, .builtin "ExceptionGroup.__weakref__", .none]) #[]
noncomputable def o332 (P : Params) : Obj := .mk (.type "super") none (.fields #[.ref 322, .ref 322, .ref 322]) #[]
noncomputable def o333 (P : Params) : Obj := .mk (.type "builtin_function_or_method") none (.fields #[.builtin "object.__init_subclass__", .ref 322]) #[]
noncomputable def o334 (P : Params) : Obj := .mk (.type "tuple") none (.seq #[]) #[]
noncomputable def o335 (P : Params) : Obj := .mk .none none (.fields #[]) #[]
noncomputable def o336 (P : Params) : Obj := .mk (.type "tuple") none (.seq #[.str "name" 662, .str "low" 663, .str "high" 664, .str "made" 665]) #[]
noncomputable def o337 (P : Params) : Obj := .mk (.type "tuple") none (.seq #[]) #[]
noncomputable def o339 (P : Params) : Obj := .mk (.type "code") none (.fields #[.str "int_type" 659, .str "int_type" 660, .str "/claim/cut.py" 661, .int 266 0, .int 3 0, .int 0 0, .int 0 0, .int 3 0, .ref 327, .bool true, .int 181 0, .ref 328, .none, .ref 329, .ref 330, .ref 331, .int 666 0, .int 266 0, .str "/claim/cut.py" 667]) #[]
noncomputable def o340 (P : Params) : Obj := .mk (.type "function") none (.func (fdOf (st 43) "int_type" 3 [] .none .none .none (.str "adacore.types" 573) none (.ref 332) .none 0)) #[]
noncomputable def o341 (P : Params) : Obj := .mk (.type "tuple") none (.seq #[]) #[]
noncomputable def o342 (P : Params) : Obj := .mk .none none (.fields #[]) #[]
noncomputable def o343 (P : Params) : Obj := .mk (.type "tuple") none (.seq #[.str "name" 672, .str "discriminants" 673, .str "components" 674, .str "variant" 675, .str "made" 676]) #[]
noncomputable def o344 (P : Params) : Obj := .mk (.type "tuple") none (.seq #[]) #[]
noncomputable def o346 (P : Params) : Obj := .mk (.type "code") none (.fields #[.str "record_type" 669, .str "record_type" 670, .str "/claim/cut.py" 671, .int 271 0, .int 4 0, .int 0 0, .int 0 0, .int 3 0, .ref 334, .bool true, .int 181 0, .ref 335, .none, .ref 336, .ref 337, .ref 338, .int 677 0, .int 271 0, .str "/claim/cut.py" 678]) #[]
noncomputable def o347 (P : Params) : Obj := .mk (.type "function") none (.func (fdOf (st 44) "record_type" 3 [] .none .none .none (.str "adacore.types" 573) none (.ref 339) .none 0)) #[]
noncomputable def o348 (P : Params) : Obj := .mk (.type "tuple") none (.seq #[]) #[]
noncomputable def o349 (P : Params) : Obj := .mk .none none (.fields #[]) #[]
noncomputable def o350 (P : Params) : Obj := .mk (.type "tuple") none (.seq #[.str "t" 683, .str "number" 684]) #[]
noncomputable def o351 (P : Params) : Obj := .mk (.type "tuple") none (.seq #[]) #[]
noncomputable def o353 (P : Params) : Obj := .mk (.type "code") none (.fields #[.str "numbered" 680, .str "numbered" 681, .str "/claim/cut.py" 682, .int 278 0, .int 2 0, .int 0 0, .int 0 0, .int 3 0, .ref 341, .bool true, .int 181 0, .ref 342, .none, .ref 343, .ref 344, .ref 345, .int 685 0, .int 278 0, .str "/claim/cut.py" 686]) #[]
noncomputable def o354 (P : Params) : Obj := .mk (.type "function") none (.func (fdOf (st 45) "numbered" 3 [] .none .none .none (.str "adacore.types" 573) none (.ref 346) .none 0)) #[]
noncomputable def o355 (P : Params) : Obj := .mk (.type "tuple") none (.seq #[]) #[]
noncomputable def o356 (P : Params) : Obj := .mk .none none (.fields #[]) #[]
noncomputable def o357 (P : Params) : Obj := .mk (.type "tuple") none (.seq #[.str "a" 691, .str "b" 692]) #[]
noncomputable def o358 (P : Params) : Obj := .mk (.type "tuple") none (.seq #[]) #[]
noncomputable def o360 (P : Params) : Obj := .mk (.type "code") none (.fields #[.str "same_type" 688, .str "same_type" 689, .str "/claim/cut.py" 690, .int 281 0, .int 2 0, .int 0 0, .int 0 0, .int 3 0, .ref 348, .bool true, .int 181 0, .ref 349, .none, .ref 350, .ref 351, .ref 352, .int 693 0, .int 281 0, .str "/claim/cut.py" 694]) #[]
noncomputable def o361 (P : Params) : Obj := .mk (.type "function") none (.func (fdOf (st 46) "same_type" 3 [] .none .none .none (.str "adacore.types" 573) none (.ref 353) .none 0)) #[]
noncomputable def o362 (P : Params) : Obj := .mk (.type "tuple") none (.seq #[]) #[]
noncomputable def o363 (P : Params) : Obj := .mk .none none (.fields #[]) #[]
noncomputable def o364 (P : Params) : Obj := .mk (.type "tuple") none (.seq #[.str "t" 699]) #[]
noncomputable def o365 (P : Params) : Obj := .mk (.type "tuple") none (.seq #[]) #[]
noncomputable def o367 (P : Params) : Obj := .mk (.type "code") none (.fields #[.str "whole_subtype" 696, .str "whole_subtype" 697, .str "/claim/cut.py" 698, .int 283 0, .int 1 0, .int 0 0, .int 0 0, .int 3 0, .ref 355, .bool true, .int 181 0, .ref 356, .none, .ref 357, .ref 358, .ref 359, .int 700 0, .int 283 0, .str "/claim/cut.py" 701]) #[]
noncomputable def o368 (P : Params) : Obj := .mk (.type "function") none (.func (fdOf (st 47) "whole_subtype" 3 [] .none .none .none (.str "adacore.types" 573) none (.ref 360) .none 0)) #[]
noncomputable def o369 (P : Params) : Obj := .mk (.type "dict") none (.dict #[ke P "__name__" 165 (.str "adacore.context" 815), ke P "__doc__" 166 .none, ke P "__package__" 167 .none, ke P "__loader__" 168 (.builtin "__main__.__loader__#opaque"), ke P "__spec__" 169 .none, ke P "__annotations__" 170 (.ref 6), ke P "__builtins__" 171 (.ref 4), ke P "__file__" 173 (.str "/claim/cut.py" 172), ke P "__cached__" 174 .none, ke P "AdaError" 217 (.ref 31), ke P "CheckFault" 243 (.ref 51), ke P "Entity" 295 (.ref 70), ke P "is_overloadable" 302 (.ref 81), ke P "homographs" 310 (.ref 88), ke P "is_operator_sign" 317 (.ref 95), ke P "mentions_type" 325 (.ref 102), ke P "SEPARATOR" 329 (.str "#" 328), ke P "unique" 337 (.ref 109), ke P "FRAME_KINDS" 344 (.ref 110), ke P "Region" 389 (.ref 127), ke P "open_region" 399 (.ref 138), ke P "encloses" 408 (.ref 145), ke P "frame_region" 416 (.ref 152), ke P "give_unique" 426 (.ref 159), ke P "settle_rivals" 432 (.ref 164), ke P "declare" 440 (.ref 171), ke P "make_ready" 447 (.ref 178), ke P "declare_ready" 455 (.ref 185), ke P "note_type" 463 (.ref 192), ke P "add_use_type" 471 (.ref 199), ke P "is_hidden" 480 (.ref 206), ke P "immediate_entities" 486 (.ref 211), ke P "stays_shown" 492 (.ref 216), ke P "is_offered" 500 (.ref 223), ke P "offered_operators" 506 (.ref 228), ke P "formals_beside" 512 (.ref 233), ke P "offered_entities" 518 (.ref 238), ke P "look_up" 524 (.ref 243), ke P "select_from" 530 (.ref 248), ke P "formal_types" 536 (.ref 253), ke P "formal_homes" 542 (.ref 258), ke P "shows_operators" 550 (.ref 265), ke P "sees_operators" 556 (.ref 270), ke P "view_of" 564 (.ref 277), ke P "ups_to" 572 (.ref 284), ke P "Type" 627 (.ref 301), ke P "Subtype" 658 (.ref 322), ke P "int_type" 668 (.ref 333), ke P "record_type" 679 (.ref 340), ke P "numbered" 687 (.ref 347), ke P "same_type" 695 (.ref 354), ke P "whole_subtype" 702 (.ref 361), ke P "seen_class" 714 (.ref 368), ke P "seen_type" 724 (.ref 375), ke P "named_entities" 734 (.ref 382), ke P "frames_to" 744 (.ref 389), ke P "refuse" 754 (.ref 396), ke P "type_entity" 763 (.ref 403), ke P "is_settled" 773 (.ref 410), ke P "seen_subtype" 782 (.ref 417), ke P "subtype_here" 791 (.ref 424), ke P "type_named" 802 (.ref 431), ke P "declare_use_type" 814 (.ref 438)] 63) #[]
noncomputable def o370 (P : Params) : Obj := .mk .none none (.fields #[.int 2 0, .int 0 0, .ref 20, .int 7 0, .int 0 0, .ref 40, .int 13 0, .int 0 0, .ref 59, .int 33 0, .int 0 0, .ref 80, .int 35 0, .int 0 0, .ref 87, .int 39 0, .int 0 0, .ref 94, .int 41 0, .int 0 0, .ref 101, .int 47 0, .int 0 0, .ref 108, .int 51 0, .int 0 0, .ref 116, .int 70 0, .int 0 0, .ref 137, .int 75 0, .int 0 0, .ref 144, .int 82 0, .int 0 0, .ref 151, .int 87 0, .int 0 0, .ref 158, .int 92 0, .int 0 0, .ref 163, .int 102 0, .int 0 0, .ref 170, .int 113 0, .int 0 0, .ref 177, .int 115 0, .int 0 0, .ref 184, .int 118 0, .int 0 0, .ref 191, .int 120 0, .int 0 0, .ref 198, .int 123 0, .int 0 0, .ref 205, .int 128 0, .int 0 0, .ref 210, .int 138 0, .int 0 0, .ref 215, .int 145 0, .int 0 0, .ref 222, .int 149 0, .int 0 0, .ref 227, .int 155 0, .int 0 0, .ref 232, .int 161 0, .int 0 0, .ref 237, .int 178 0, .int 0 0, .ref 242, .int 184 0, .int 0 0, .ref 247, .int 198 0, .int 0 0, .ref 252, .int 207 0, .int 0 0, .ref 257, .int 209 0, .int 0 0, .ref 264, .int 211 0, .int 0 0, .ref 269, .int 227 0, .int 0 0, .ref 276, .int 231 0, .int 0 0, .ref 283, .int 234 0, .int 0 0, .ref 290, .int 261 0, .int 0 0, .ref 311, .int 266 0, .int 0 0, .ref 332, .int 271 0, .int 0 0, .ref 339, .int 278 0, .int 0 0, .ref 346, .int 281 0, .int 0 0, .ref 353, .int 283 0, .int 0 0, .ref 360, .int 286 0, .int 0 0, .ref 367, .int 299 0, .int 0 0, .ref 374, .int 309 0, .int 0 0, .ref 381, .int 319 0, .int 0 0, .ref 388, .int 322 0, .int 0 0, .ref 395, .int 324 0, .int 0 0, .ref 402, .int 329 0, .int 0 0, .ref 409, .int 342 0, .int 0 0, .ref 416, .int 349 0, .int 0 0, .ref 423, .int 354 0, .int 0 0, .ref 430, .int 368 0, .int 0 0, .ref 437]) #[]
noncomputable def o371 (P : Params) : Obj := .mk (.type "tuple") none (.seq #[]) #[]
noncomputable def o372 (P : Params) : Obj := .mk .none none (.fields #[]) #[]
noncomputable def o373 (P : Params) : Obj := .mk (.type "tuple") none (.seq #[.str "scope" 708, .str "one" 709, .str "head" 710, .str "made" 711]) #[]
noncomputable def o374 (P : Params) : Obj := .mk (.type "tuple") none (.seq #[]) #[]
noncomputable def o376 (P : Params) : Obj := .mk (.type "code") none (.fields #[.str "seen_class" 705, .str "seen_class" 706, .str "/claim/cut.py" 707, .int 286 0, .int 2 0, .int 0 0, .int 0 0, .int 3 0, .ref 362, .bool true, .int 181 0, .ref 363, .none, .ref 364, .ref 365, .ref 366, .int 712 0, .int 286 0, .str "/claim/cut.py" 713]) #[]
noncomputable def o377 (P : Params) : Obj := .mk (.type "function") none (.func (fdOf (st 49) "seen_class" 3 [] .none .none .none (.str "adacore.meanings" 703) none (.ref 367) .none 0)) #[]
noncomputable def o378 (P : Params) : Obj := .mk (.type "tuple") none (.seq #[]) #[]
noncomputable def o379 (P : Params) : Obj := .mk .none none (.fields #[]) #[]
noncomputable def o380 (P : Params) : Obj := .mk (.type "tuple") none (.seq #[.str "scope" 718, .str "one" 719, .str "homes" 720, .str "entity" 721]) #[]
noncomputable def o381 (P : Params) : Obj := .mk (.type "tuple") none (.seq #[]) #[]
noncomputable def o383 (P : Params) : Obj := .mk (.type "code") none (.fields #[.str "seen_type" 715, .str "seen_type" 716, .str "/claim/cut.py" 717, .int 299 0, .int 2 0, .int 0 0, .int 0 0, .int 3 0, .ref 369, .bool true, .int 181 0, .ref 370, .none, .ref 371, .ref 372, .ref 373, .int 722 0, .int 299 0, .str "/claim/cut.py" 723]) #[]
noncomputable def o384 (P : Params) : Obj := .mk (.type "function") none (.func (fdOf (st 50) "seen_type" 3 [] .none .none .none (.str "adacore.meanings" 703) none (.ref 374) .none 0)) #[]
noncomputable def o385 (P : Params) : Obj := .mk (.type "tuple") none (.seq #[]) #[]
noncomputable def o386 (P : Params) : Obj := .mk .none none (.fields #[]) #[]
noncomputable def o387 (P : Params) : Obj := .mk (.type "tuple") none (.seq #[.str "scope" 728, .str "node" 729, .str "found" 730, .str "entity" 731]) #[]
noncomputable def o388 (P : Params) : Obj := .mk (.type "tuple") none (.seq #[]) #[]
noncomputable def o390 (P : Params) : Obj := .mk (.type "code") none (.fields #[.str "named_entities" 725, .str "named_entities" 726, .str "/claim/cut.py" 727, .int 309 0, .int 2 0, .int 0 0, .int 0 0, .int 3 0, .ref 376, .bool true, .int 181 0, .ref 377, .none, .ref 378, .ref 379, .ref 380, .int 732 0, .int 309 0, .str "/claim/cut.py" 733]) #[]
noncomputable def o391 (P : Params) : Obj := .mk (.type "function") none (.func (fdOf (st 51) "named_entities" 3 [] .none .none .none (.str "adacore.meanings" 703) none (.ref 381) .none 0)) #[]
noncomputable def o392 (P : Params) : Obj := .mk (.type "tuple") none (.seq #[]) #[]
noncomputable def o393 (P : Params) : Obj := .mk .none none (.fields #[]) #[]
noncomputable def o394 (P : Params) : Obj := .mk (.type "tuple") none (.seq #[.str "scope" 740, .str "entity" 741]) #[]
noncomputable def o395 (P : Params) : Obj := .mk (.type "tuple") none (.seq #[]) #[]
noncomputable def o397 (P : Params) : Obj := .mk (.type "code") none (.fields #[.str "frames_to" 737, .str "frames_to" 738, .str "/claim/cut.py" 739, .int 319 0, .int 2 0, .int 0 0, .int 0 0, .int 3 0, .ref 383, .bool true, .int 181 0, .ref 384, .none, .ref 385, .ref 386, .ref 387, .int 742 0, .int 319 0, .str "/claim/cut.py" 743]) #[]
noncomputable def o398 (P : Params) : Obj := .mk (.type "function") none (.func (fdOf (st 53) "frames_to" 3 [] .none .none .none (.str "adacore.opnames" 735) none (.ref 388) .none 0)) #[]
noncomputable def o399 (P : Params) : Obj := .mk (.type "tuple") none (.seq #[]) #[]
noncomputable def o400 (P : Params) : Obj := .mk .none none (.fields #[]) #[]
noncomputable def o401 (P : Params) : Obj := .mk (.type "tuple") none (.seq #[.str "scope" 750, .str "text" 751]) #[]
noncomputable def o402 (P : Params) : Obj := .mk (.type "tuple") none (.seq #[]) #[]
noncomputable def o404 (P : Params) : Obj := .mk (.type "code") none (.fields #[.str "refuse" 747, .str "refuse" 748, .str "/claim/cut.py" 749, .int 322 0, .int 2 0, .int 0 0, .int 0 0, .int 3 0, .ref 390, .bool true, .int 181 0, .ref 391, .none, .ref 392, .ref 393, .ref 394, .int 752 0, .int 322 0, .str "/claim/cut.py" 753]) #[]
noncomputable def o405 (P : Params) : Obj := .mk (.type "function") none (.func (fdOf (st 55) "refuse" 3 [] .none .none .none (.str "adacore.rnames" 745) none (.ref 395) .none 0)) #[]
noncomputable def o406 (P : Params) : Obj := .mk (.type "tuple") none (.seq #[]) #[]
noncomputable def o407 (P : Params) : Obj := .mk .none none (.fields #[]) #[]
noncomputable def o408 (P : Params) : Obj := .mk (.type "tuple") none (.seq #[.str "scope" 758, .str "node" 759, .str "row" 760]) #[]
noncomputable def o409 (P : Params) : Obj := .mk (.type "tuple") none (.seq #[]) #[]
noncomputable def o411 (P : Params) : Obj := .mk (.type "code") none (.fields #[.str "type_entity" 755, .str "type_entity" 756, .str "/claim/cut.py" 757, .int 324 0, .int 2 0, .int 0 0, .int 0 0, .int 3 0, .ref 397, .bool true, .int 181 0, .ref 398, .none, .ref 399, .ref 400, .ref 401, .int 761 0, .int 324 0, .str "/claim/cut.py" 762]) #[]
noncomputable def o412 (P : Params) : Obj := .mk (.type "function") none (.func (fdOf (st 56) "type_entity" 3 [] .none .none .none (.str "adacore.rnames" 745) none (.ref 402) .none 0)) #[]
noncomputable def o413 (P : Params) : Obj := .mk (.type "tuple") none (.seq #[]) #[]
noncomputable def o414 (P : Params) : Obj := .mk .none none (.fields #[]) #[]
noncomputable def o415 (P : Params) : Obj := .mk (.type "tuple") none (.seq #[.str "subtype" 767, .str "constraint" 768, .str "pair" 769, .str "part" 770]) #[]
noncomputable def o416 (P : Params) : Obj := .mk (.type "tuple") none (.seq #[]) #[]
noncomputable def o418 (P : Params) : Obj := .mk (.type "code") none (.fields #[.str "is_settled" 764, .str "is_settled" 765, .str "/claim/cut.py" 766, .int 329 0, .int 1 0, .int 0 0, .int 0 0, .int 3 0, .ref 404, .bool true, .int 181 0, .ref 405, .none, .ref 406, .ref 407, .ref 408, .int 771 0, .int 329 0, .str "/claim/cut.py" 772]) #[]
noncomputable def o419 (P : Params) : Obj := .mk (.type "function") none (.func (fdOf (st 57) "is_settled" 3 [] .none .none .none (.str "adacore.rnames" 745) none (.ref 409) .none 0)) #[]
noncomputable def o420 (P : Params) : Obj := .mk (.type "tuple") none (.seq #[]) #[]
noncomputable def o421 (P : Params) : Obj := .mk .none none (.fields #[]) #[]
noncomputable def o422 (P : Params) : Obj := .mk (.type "tuple") none (.seq #[.str "scope" 777, .str "told" 778, .str "t" 779]) #[]
noncomputable def o423 (P : Params) : Obj := .mk (.type "tuple") none (.seq #[]) #[]
noncomputable def o425 (P : Params) : Obj := .mk (.type "code") none (.fields #[.str "seen_subtype" 774, .str "seen_subtype" 775, .str "/claim/cut.py" 776, .int 342 0, .int 2 0, .int 0 0, .int 0 0, .int 3 0, .ref 411, .bool true, .int 181 0, .ref 412, .none, .ref 413, .ref 414, .ref 415, .int 780 0, .int 342 0, .str "/claim/cut.py" 781]) #[]
noncomputable def o426 (P : Params) : Obj := .mk (.type "function") none (.func (fdOf (st 58) "seen_subtype" 3 [] .none .none .none (.str "adacore.rnames" 745) none (.ref 416) .none 0)) #[]
noncomputable def o427 (P : Params) : Obj := .mk (.type "tuple") none (.seq #[]) #[]
noncomputable def o428 (P : Params) : Obj := .mk .none none (.fields #[]) #[]
noncomputable def o429 (P : Params) : Obj := .mk (.type "tuple") none (.seq #[.str "scope" 786, .str "entity" 787, .str "told" 788]) #[]
noncomputable def o430 (P : Params) : Obj := .mk (.type "tuple") none (.seq #[]) #[]
noncomputable def o432 (P : Params) : Obj := .mk (.type "code") none (.fields #[.str "subtype_here" 783, .str "subtype_here" 784, .str "/claim/cut.py" 785, .int 349 0, .int 2 0, .int 0 0, .int 0 0, .int 3 0, .ref 418, .bool true, .int 181 0, .ref 419, .none, .ref 420, .ref 421, .ref 422, .int 789 0, .int 349 0, .str "/claim/cut.py" 790]) #[]
noncomputable def o433 (P : Params) : Obj := .mk (.type "function") none (.func (fdOf (st 59) "subtype_here" 3 [] .none .none .none (.str "adacore.rnames" 745) none (.ref 423) .none 0)) #[]
noncomputable def o434 (P : Params) : Obj := .mk (.type "tuple") none (.seq #[]) #[]
noncomputable def o435 (P : Params) : Obj := .mk .none none (.fields #[]) #[]
noncomputable def o436 (P : Params) : Obj := .mk (.type "tuple") none (.seq #[.str "scope" 795, .str "node" 796, .str "t" 797, .str "wide" 798, .str "entity" 799]) #[]
noncomputable def o437 (P : Params) : Obj := .mk (.type "tuple") none (.seq #[]) #[]
noncomputable def o439 (P : Params) : Obj := .mk (.type "code") none (.fields #[.str "type_named" 792, .str "type_named" 793, .str "/claim/cut.py" 794, .int 354 0, .int 2 0, .int 0 0, .int 0 0, .int 3 0, .ref 425, .bool true, .int 181 0, .ref 426, .none, .ref 427, .ref 428, .ref 429, .int 800 0, .int 354 0, .str "/claim/cut.py" 801]) #[]
noncomputable def o440 (P : Params) : Obj := .mk (.type "function") none (.func (fdOf (st 60) "type_named" 3 [] .none .none .none (.str "adacore.rnames" 745) none (.ref 430) .none 0)) #[]
noncomputable def o441 (P : Params) : Obj := .mk (.type "tuple") none (.seq #[]) #[]
noncomputable def o442 (P : Params) : Obj := .mk .none none (.fields #[]) #[]
noncomputable def o443 (P : Params) : Obj := .mk (.type "tuple") none (.seq #[.str "scope" 808, .str "declaration" 809, .str "node" 810, .str "t" 811]) #[]
noncomputable def o444 (P : Params) : Obj := .mk (.type "tuple") none (.seq #[]) #[]
noncomputable def o446 (P : Params) : Obj := .mk (.type "code") none (.fields #[.str "declare_use_type" 805, .str "declare_use_type" 806, .str "/claim/cut.py" 807, .int 368 0, .int 2 0, .int 0 0, .int 0 0, .int 3 0, .ref 432, .bool true, .int 181 0, .ref 433, .none, .ref 434, .ref 435, .ref 436, .int 812 0, .int 368 0, .str "/claim/cut.py" 813]) #[]
noncomputable def o447 (P : Params) : Obj := .mk (.type "function") none (.func (fdOf (st 62) "declare_use_type" 3 [] .none .none .none (.str "adacore.rdecl" 803) none (.ref 437) .none 0)) #[]
noncomputable def o448 (P : Params) : Obj := .mk (.type "dict") none (.dict #[ke P "__name__" 165 (.str "adacore.limits" 861), ke P "__doc__" 166 .none, ke P "__package__" 167 .none, ke P "__loader__" 168 (.builtin "__main__.__loader__#opaque"), ke P "__spec__" 169 .none, ke P "__annotations__" 170 (.ref 6), ke P "__builtins__" 171 (.ref 4), ke P "__file__" 173 (.str "/claim/cut.py" 172), ke P "__cached__" 174 .none, ke P "AdaError" 217 (.ref 31), ke P "CheckFault" 243 (.ref 51), ke P "Entity" 295 (.ref 70), ke P "is_overloadable" 302 (.ref 81), ke P "homographs" 310 (.ref 88), ke P "is_operator_sign" 317 (.ref 95), ke P "mentions_type" 325 (.ref 102), ke P "SEPARATOR" 329 (.str "#" 328), ke P "unique" 337 (.ref 109), ke P "FRAME_KINDS" 344 (.ref 110), ke P "Region" 389 (.ref 127), ke P "open_region" 399 (.ref 138), ke P "encloses" 408 (.ref 145), ke P "frame_region" 416 (.ref 152), ke P "give_unique" 426 (.ref 159), ke P "settle_rivals" 432 (.ref 164), ke P "declare" 440 (.ref 171), ke P "make_ready" 447 (.ref 178), ke P "declare_ready" 455 (.ref 185), ke P "note_type" 463 (.ref 192), ke P "add_use_type" 471 (.ref 199), ke P "is_hidden" 480 (.ref 206), ke P "immediate_entities" 486 (.ref 211), ke P "stays_shown" 492 (.ref 216), ke P "is_offered" 500 (.ref 223), ke P "offered_operators" 506 (.ref 228), ke P "formals_beside" 512 (.ref 233), ke P "offered_entities" 518 (.ref 238), ke P "look_up" 524 (.ref 243), ke P "select_from" 530 (.ref 248), ke P "formal_types" 536 (.ref 253), ke P "formal_homes" 542 (.ref 258), ke P "shows_operators" 550 (.ref 265), ke P "sees_operators" 556 (.ref 270), ke P "view_of" 564 (.ref 277), ke P "ups_to" 572 (.ref 284), ke P "Type" 627 (.ref 301), ke P "Subtype" 658 (.ref 322), ke P "int_type" 668 (.ref 333), ke P "record_type" 679 (.ref 340), ke P "numbered" 687 (.ref 347), ke P "same_type" 695 (.ref 354), ke P "whole_subtype" 702 (.ref 361), ke P "seen_class" 714 (.ref 368), ke P "seen_type" 724 (.ref 375), ke P "named_entities" 734 (.ref 382), ke P "frames_to" 744 (.ref 389), ke P "refuse" 754 (.ref 396), ke P "type_entity" 763 (.ref 403), ke P "is_settled" 773 (.ref 410), ke P "seen_subtype" 782 (.ref 417), ke P "subtype_here" 791 (.ref 424), ke P "type_named" 802 (.ref 431), ke P "declare_use_type" 814 (.ref 438), ke P "Scope" 860 (.ref 455)] 64) #[]
noncomputable def o449 (P : Params) : Obj := .mk .none none (.fields #[.int 2 0, .int 0 0, .ref 20, .int 7 0, .int 0 0, .ref 40, .int 13 0, .int 0 0, .ref 59, .int 33 0, .int 0 0, .ref 80, .int 35 0, .int 0 0, .ref 87, .int 39 0, .int 0 0, .ref 94, .int 41 0, .int 0 0, .ref 101, .int 47 0, .int 0 0, .ref 108, .int 51 0, .int 0 0, .ref 116, .int 70 0, .int 0 0, .ref 137, .int 75 0, .int 0 0, .ref 144, .int 82 0, .int 0 0, .ref 151, .int 87 0, .int 0 0, .ref 158, .int 92 0, .int 0 0, .ref 163, .int 102 0, .int 0 0, .ref 170, .int 113 0, .int 0 0, .ref 177, .int 115 0, .int 0 0, .ref 184, .int 118 0, .int 0 0, .ref 191, .int 120 0, .int 0 0, .ref 198, .int 123 0, .int 0 0, .ref 205, .int 128 0, .int 0 0, .ref 210, .int 138 0, .int 0 0, .ref 215, .int 145 0, .int 0 0, .ref 222, .int 149 0, .int 0 0, .ref 227, .int 155 0, .int 0 0, .ref 232, .int 161 0, .int 0 0, .ref 237, .int 178 0, .int 0 0, .ref 242, .int 184 0, .int 0 0, .ref 247, .int 198 0, .int 0 0, .ref 252, .int 207 0, .int 0 0, .ref 257, .int 209 0, .int 0 0, .ref 264, .int 211 0, .int 0 0, .ref 269, .int 227 0, .int 0 0, .ref 276, .int 231 0, .int 0 0, .ref 283, .int 234 0, .int 0 0, .ref 290, .int 261 0, .int 0 0, .ref 311, .int 266 0, .int 0 0, .ref 332, .int 271 0, .int 0 0, .ref 339, .int 278 0, .int 0 0, .ref 346, .int 281 0, .int 0 0, .ref 353, .int 283 0, .int 0 0, .ref 360, .int 286 0, .int 0 0, .ref 367, .int 299 0, .int 0 0, .ref 374, .int 309 0, .int 0 0, .ref 381, .int 319 0, .int 0 0, .ref 388, .int 322 0, .int 0 0, .ref 395, .int 324 0, .int 0 0, .ref 402, .int 329 0, .int 0 0, .ref 409, .int 342 0, .int 0 0, .ref 416, .int 349 0, .int 0 0, .ref 423, .int 354 0, .int 0 0, .ref 430, .int 368 0, .int 0 0, .ref 437, .int 374 0, .int 0 0, .ref 444]) #[]
noncomputable def o450 (P : Params) : Obj := .mk (.type "tuple") none (.seq #[]) #[]
noncomputable def o451 (P : Params) : Obj := .mk (.type "builtin_function_or_method") none (.fields #[.builtin "type.__prepare__", .type "type"]) #[]
noncomputable def o452 (P : Params) : Obj := .mk (.type "dict") none (.dict #[ke P "__module__" 824 (.str "adacore.context" 815), ke P "__qualname__" 826 (.str "Scope" 825), ke P "__firstlineno__" 828 (.int 374 827), ke P "__init__" 839 (.ref 452), ke P "__static_attributes__" 853 (.ref 453)] 5) #[]
noncomputable def o453 (P : Params) : Obj := .mk (.type "tuple") none (.seq #[]) #[]
noncomputable def o454 (P : Params) : Obj := .mk .none none (.fields #[.int 376 0, .int 4 0, .ref 451]) #[]
noncomputable def o455 (P : Params) : Obj := .mk (.type "code") none (.fields #[.str "Scope" 819, .str "Scope" 820, .str "/claim/cut.py" 821, .int 374 0, .int 0 0, .int 0 0, .int 0 0, .int 0 0, .ref 442, .bool false, .int 181 0, .ref 443, .none, .none, .none, .none, .int 822 0, .int 374 0, .str "/claim/cut.py" 823]) #[]
noncomputable def o456 (P : Params) : Obj := .mk (.type "frame") none .plain #[some (.ref 444), some (.ref 3), some (.ref 441), none, some (.str "adacore.context" 815), none, some (.ref 0)]
noncomputable def o457 (P : Params) : Obj := .mk (.type "tuple") none (.seq #[]) #[]
noncomputable def o458 (P : Params) : Obj := .mk .none none (.fields #[]) #[]
noncomputable def o459 (P : Params) : Obj := .mk (.type "tuple") none (.seq #[.str "self" 832, .str "place" 833, .str "limits" 834, .str "choose" 835, .str "types" 836]) #[]
noncomputable def o460 (P : Params) : Obj := .mk (.type "tuple") none (.seq #[]) #[]
noncomputable def o462 (P : Params) : Obj := .mk (.type "code") none (.fields #[.str "__init__" 829, .str "Scope.__init__" 830, .str "/claim/cut.py" 831, .int 376 0, .int 5 0, .int 0 0, .int 0 0, .int 3 0, .ref 446, .bool true, .int 181 0, .ref 447, .none, .ref 448, .ref 449, .ref 450, .int 837 0, .int 376 0, .str "/claim/cut.py" 838]) #[]
noncomputable def o463 (P : Params) : Obj := .mk (.type "function") none (.func (fdOf (stIn 64 0) "Scope.__init__" 3 [] .none .none .none (.str "adacore.context" 815) none (.ref 451) .none 0)) #[]
noncomputable def o464 (P : Params) : Obj := .mk (.type "tuple") none (.seq #[.str "builders" 840, .str "choose" 841, .str "count" 842, .str "declarations" 843, .str "limits" 844, .str "line" 845, .str "place" 846, .str "statements" 847, .str "static" 848, .str "typed" 849, .str "types" 850, .str "under_way" 851, .str "ways" 852]) #[]
noncomputable def o465 (P : Params) : Obj := .mk (.type "dict") none (.dict #[ke P "__module__" 824 (.str "adacore.context" 815), ke P "__firstlineno__" 828 (.int 374 827), ke P "__init__" 839 (.ref 452), ke P "__static_attributes__" 853 (.ref 453), ke P "__dict__" 855 (.ref 456), ke P "__weakref__" 857 (.ref 457), ke P "__doc__" 858 .none] 4) #[]
noncomputable def o466 (P : Params) : Obj := .mk (.type "type") none (.cls (.mk "Scope" [.type "object"] [.ref 455, .type "object"] 454 "Scope" true [] [] false none false)) #[none, none, some (.str "Scope" 817), some (.str "Scope" 825), some (.builtin "object.__new__"), some (.bool true)]
noncomputable def o467 (P : Params) : Obj := .mk (.type "getset_descriptor") none (.fields #[.str "__dict__" 854, .ref 455, .builtin "function.__dict__", .builtin "function.__dict__#set"]) #[]
noncomputable def o468 (P : Params) : Obj := .mk (.type "getset_descriptor") none (.fields #[.str "__weakref__" 856, .ref 455, .builtin "ExceptionGroup.__weakref__", .none]) #[]
noncomputable def o469 (P : Params) : Obj := .mk (.type "super") none (.fields #[.ref 455, .ref 455, .ref 455]) #[]
noncomputable def o470 (P : Params) : Obj := .mk (.type "builtin_function_or_method") none (.fields #[.builtin "object.__init_subclass__", .ref 455]) #[]
noncomputable def o471 (P : Params) : Obj := .mk (.type "dict") none (.dict #[ke P "__name__" 165 (.str "law_rg0027_01" 919), ke P "__doc__" 166 .none, ke P "__package__" 167 .none, ke P "__loader__" 168 (.builtin "__main__.__loader__#opaque"), ke P "__spec__" 169 .none, ke P "__annotations__" 170 (.ref 6), ke P "__builtins__" 171 (.ref 4), ke P "__file__" 173 (.str "/claim/cut.py" 172), ke P "__cached__" 174 .none, ke P "AdaError" 217 (.ref 31), ke P "CheckFault" 243 (.ref 51), ke P "Entity" 295 (.ref 70), ke P "is_overloadable" 302 (.ref 81), ke P "homographs" 310 (.ref 88), ke P "is_operator_sign" 317 (.ref 95), ke P "mentions_type" 325 (.ref 102), ke P "SEPARATOR" 329 (.str "#" 328), ke P "unique" 337 (.ref 109), ke P "FRAME_KINDS" 344 (.ref 110), ke P "Region" 389 (.ref 127), ke P "open_region" 399 (.ref 138), ke P "encloses" 408 (.ref 145), ke P "frame_region" 416 (.ref 152), ke P "give_unique" 426 (.ref 159), ke P "settle_rivals" 432 (.ref 164), ke P "declare" 440 (.ref 171), ke P "make_ready" 447 (.ref 178), ke P "declare_ready" 455 (.ref 185), ke P "note_type" 463 (.ref 192), ke P "add_use_type" 471 (.ref 199), ke P "is_hidden" 480 (.ref 206), ke P "immediate_entities" 486 (.ref 211), ke P "stays_shown" 492 (.ref 216), ke P "is_offered" 500 (.ref 223), ke P "offered_operators" 506 (.ref 228), ke P "formals_beside" 512 (.ref 233), ke P "offered_entities" 518 (.ref 238), ke P "look_up" 524 (.ref 243), ke P "select_from" 530 (.ref 248), ke P "formal_types" 536 (.ref 253), ke P "formal_homes" 542 (.ref 258), ke P "shows_operators" 550 (.ref 265), ke P "sees_operators" 556 (.ref 270), ke P "view_of" 564 (.ref 277), ke P "ups_to" 572 (.ref 284), ke P "Type" 627 (.ref 301), ke P "Subtype" 658 (.ref 322), ke P "int_type" 668 (.ref 333), ke P "record_type" 679 (.ref 340), ke P "numbered" 687 (.ref 347), ke P "same_type" 695 (.ref 354), ke P "whole_subtype" 702 (.ref 361), ke P "seen_class" 714 (.ref 368), ke P "seen_type" 724 (.ref 375), ke P "named_entities" 734 (.ref 382), ke P "frames_to" 744 (.ref 389), ke P "refuse" 754 (.ref 396), ke P "type_entity" 763 (.ref 403), ke P "is_settled" 773 (.ref 410), ke P "seen_subtype" 782 (.ref 417), ke P "subtype_here" 791 (.ref 424), ke P "type_named" 802 (.ref 431), ke P "declare_use_type" 814 (.ref 438), ke P "Scope" 860 (.ref 455), ke P "Limits" 918 (.ref 477), ke P "_law_rest" 926 (.ref 482), ke P "_law_tip" 935 (.ref 489), ke P "_law_package" 949 (.ref 496), ke P "law" 955 (.ref 501)] 69) #[]
noncomputable def o472 (P : Params) : Obj := .mk .none none (.fields #[.int 2 0, .int 0 0, .ref 20, .int 7 0, .int 0 0, .ref 40, .int 13 0, .int 0 0, .ref 59, .int 33 0, .int 0 0, .ref 80, .int 35 0, .int 0 0, .ref 87, .int 39 0, .int 0 0, .ref 94, .int 41 0, .int 0 0, .ref 101, .int 47 0, .int 0 0, .ref 108, .int 51 0, .int 0 0, .ref 116, .int 70 0, .int 0 0, .ref 137, .int 75 0, .int 0 0, .ref 144, .int 82 0, .int 0 0, .ref 151, .int 87 0, .int 0 0, .ref 158, .int 92 0, .int 0 0, .ref 163, .int 102 0, .int 0 0, .ref 170, .int 113 0, .int 0 0, .ref 177, .int 115 0, .int 0 0, .ref 184, .int 118 0, .int 0 0, .ref 191, .int 120 0, .int 0 0, .ref 198, .int 123 0, .int 0 0, .ref 205, .int 128 0, .int 0 0, .ref 210, .int 138 0, .int 0 0, .ref 215, .int 145 0, .int 0 0, .ref 222, .int 149 0, .int 0 0, .ref 227, .int 155 0, .int 0 0, .ref 232, .int 161 0, .int 0 0, .ref 237, .int 178 0, .int 0 0, .ref 242, .int 184 0, .int 0 0, .ref 247, .int 198 0, .int 0 0, .ref 252, .int 207 0, .int 0 0, .ref 257, .int 209 0, .int 0 0, .ref 264, .int 211 0, .int 0 0, .ref 269, .int 227 0, .int 0 0, .ref 276, .int 231 0, .int 0 0, .ref 283, .int 234 0, .int 0 0, .ref 290, .int 261 0, .int 0 0, .ref 311, .int 266 0, .int 0 0, .ref 332, .int 271 0, .int 0 0, .ref 339, .int 278 0, .int 0 0, .ref 346, .int 281 0, .int 0 0, .ref 353, .int 283 0, .int 0 0, .ref 360, .int 286 0, .int 0 0, .ref 367, .int 299 0, .int 0 0, .ref 374, .int 309 0, .int 0 0, .ref 381, .int 319 0, .int 0 0, .ref 388, .int 322 0, .int 0 0, .ref 395, .int 324 0, .int 0 0, .ref 402, .int 329 0, .int 0 0, .ref 409, .int 342 0, .int 0 0, .ref 416, .int 349 0, .int 0 0, .ref 423, .int 354 0, .int 0 0, .ref 430, .int 368 0, .int 0 0, .ref 437, .int 374 0, .int 0 0, .ref 444, .int 391 0, .int 0 0, .ref 465, .int 403 0, .int 0 0, .ref 488, .int 409 0, .int 0 0, .ref 495, .int 424 0, .int 0 0, .ref 500]) #[]
noncomputable def o473 (P : Params) : Obj := .mk (.type "tuple") none (.seq #[]) #[]
noncomputable def o474 (P : Params) : Obj := .mk (.type "builtin_function_or_method") none (.fields #[.builtin "type.__prepare__", .type "type"]) #[]
noncomputable def o475 (P : Params) : Obj := .mk (.type "dict") none (.dict #[ke P "__module__" 870 (.str "adacore.limits" 861), ke P "__qualname__" 872 (.str "Limits" 871), ke P "__firstlineno__" 874 (.int 391 873), ke P "__init__" 903 (.ref 474), ke P "__static_attributes__" 911 (.ref 475)] 5) #[]
noncomputable def o476 (P : Params) : Obj := .mk (.type "tuple") none (.seq #[]) #[]
noncomputable def o477 (P : Params) : Obj := .mk .none none (.fields #[.int 393 0, .int 4 0, .ref 473]) #[]
noncomputable def o478 (P : Params) : Obj := .mk (.type "code") none (.fields #[.str "Limits" 865, .str "Limits" 866, .str "/claim/cut.py" 867, .int 391 0, .int 0 0, .int 0 0, .int 0 0, .int 0 0, .ref 463, .bool false, .int 181 0, .ref 464, .none, .none, .none, .none, .int 868 0, .int 391 0, .str "/claim/cut.py" 869]) #[]
noncomputable def o479 (P : Params) : Obj := .mk (.type "frame") none .plain #[some (.ref 465), some (.ref 3), some (.ref 462), none, some (.str "adacore.limits" 861), none, some (.ref 0)]
noncomputable def o480 (P : Params) : Obj := .mk (.type "tuple") none (.seq #[.int 32 875, .int 1000000 878, .int 50 879, .int 10000 882, .int 100000 885, .int 50 886, .int 1000000 889]) #[]
noncomputable def o481 (P : Params) : Obj := .mk (.type "tuple") none (.seq #[]) #[]
noncomputable def o482 (P : Params) : Obj := .mk .none none (.fields #[]) #[]
noncomputable def o483 (P : Params) : Obj := .mk (.type "tuple") none (.seq #[.str "self" 893, .str "width" 894, .str "steps" 895, .str "depth" 896, .str "members" 897, .str "text" 898, .str "tasks" 899, .str "heap" 900]) #[]
noncomputable def o484 (P : Params) : Obj := .mk (.type "tuple") none (.seq #[]) #[]
noncomputable def o486 (P : Params) : Obj := .mk (.type "code") none (.fields #[.str "__init__" 890, .str "Limits.__init__" 891, .str "/claim/cut.py" 892, .int 393 0, .int 8 0, .int 0 0, .int 0 0, .int 3 0, .ref 468, .bool true, .int 181 0, .ref 469, .none, .ref 470, .ref 471, .ref 472, .int 901 0, .int 393 0, .str "/claim/cut.py" 902]) #[]
noncomputable def o487 (P : Params) : Obj := .mk (.type "function") none (.func (fdOf (stIn 66 0) "Limits.__init__" 3 [] (.ref 467) .none .none (.str "adacore.limits" 861) none (.ref 473) .none 0)) #[]
noncomputable def o488 (P : Params) : Obj := .mk (.type "tuple") none (.seq #[.str "depth" 904, .str "heap" 905, .str "members" 906, .str "steps" 907, .str "tasks" 908, .str "text" 909, .str "width" 910]) #[]
noncomputable def o489 (P : Params) : Obj := .mk (.type "dict") none (.dict #[ke P "__module__" 870 (.str "adacore.limits" 861), ke P "__firstlineno__" 874 (.int 391 873), ke P "__init__" 903 (.ref 474), ke P "__static_attributes__" 911 (.ref 475), ke P "__dict__" 913 (.ref 478), ke P "__weakref__" 915 (.ref 479), ke P "__doc__" 916 .none] 4) #[]
noncomputable def o490 (P : Params) : Obj := .mk (.type "type") none (.cls (.mk "Limits" [.type "object"] [.ref 477, .type "object"] 476 "Limits" true [] [] false none false)) #[none, none, some (.str "Limits" 863), some (.str "Limits" 871), some (.builtin "object.__new__"), some (.bool true)]
noncomputable def o491 (P : Params) : Obj := .mk (.type "getset_descriptor") none (.fields #[.str "__dict__" 912, .ref 477, .builtin "function.__dict__", .builtin "function.__dict__#set"]) #[]
noncomputable def o492 (P : Params) : Obj := .mk (.type "getset_descriptor") none (.fields #[.str "__weakref__" 914, .ref 477, .builtin "ExceptionGroup.__weakref__", .none]) #[]
noncomputable def o493 (P : Params) : Obj := .mk (.type "super") none (.fields #[.ref 477, .ref 477, .ref 477]) #[]
noncomputable def o494 (P : Params) : Obj := .mk (.type "builtin_function_or_method") none (.fields #[.builtin "object.__init_subclass__", .ref 477]) #[]
noncomputable def o495 (P : Params) : Obj := .mk (.type "tuple") none (.seq #[.int 0 921, .int 0 922, .int 0 923, .int 0 924, .int 2 925]) #[]
noncomputable def o496 (P : Params) : Obj := .mk (.type "tuple") none (.seq #[]) #[]
noncomputable def o497 (P : Params) : Obj := .mk .none none (.fields #[]) #[]
noncomputable def o498 (P : Params) : Obj := .mk (.type "tuple") none (.seq #[.str "flask" 930, .str "many" 931, .str "spot" 932]) #[]
noncomputable def o499 (P : Params) : Obj := .mk (.type "tuple") none (.seq #[]) #[]
noncomputable def o501 (P : Params) : Obj := .mk (.type "code") none (.fields #[.str "_law_tip" 927, .str "_law_tip" 928, .str "/claim/cut.py" 929, .int 403 0, .int 2 0, .int 0 0, .int 0 0, .int 3 0, .ref 483, .bool true, .int 181 0, .ref 484, .none, .ref 485, .ref 486, .ref 487, .int 933 0, .int 403 0, .str "/claim/cut.py" 934]) #[]
noncomputable def o502 (P : Params) : Obj := .mk (.type "function") none (.func (fdOf (st 69) "_law_tip" 3 [] .none .none .none (.str "law_rg0027_01" 919) none (.ref 488) .none 0)) #[]
noncomputable def o503 (P : Params) : Obj := .mk (.type "tuple") none (.seq #[]) #[]
noncomputable def o504 (P : Params) : Obj := .mk .none none (.fields #[]) #[]
noncomputable def o505 (P : Params) : Obj := .mk (.type "tuple") none (.seq #[.str "root" 939, .str "at" 940, .str "is_tagged" 941, .str "owner" 942, .str "region" 943, .str "made" 944, .str "name" 945, .str "entity" 946]) #[]
noncomputable def o506 (P : Params) : Obj := .mk (.type "tuple") none (.seq #[]) #[]
noncomputable def o508 (P : Params) : Obj := .mk (.type "code") none (.fields #[.str "_law_package" 936, .str "_law_package" 937, .str "/claim/cut.py" 938, .int 409 0, .int 3 0, .int 0 0, .int 0 0, .int 3 0, .ref 490, .bool true, .int 181 0, .ref 491, .none, .ref 492, .ref 493, .ref 494, .int 947 0, .int 409 0, .str "/claim/cut.py" 948]) #[]
noncomputable def o509 (P : Params) : Obj := .mk (.type "function") none (.func (fdOf (st 70) "_law_package" 3 [] .none .none .none (.str "law_rg0027_01" 919) none (.ref 495) .none 0)) #[]
noncomputable def o510 (P : Params) : Obj := .mk (.type "tuple") none (.seq #[]) #[]
noncomputable def o511 (P : Params) : Obj := .mk .none none (.fields #[]) #[]
noncomputable def o513 (P : Params) : Obj := .mk (.type "code") none (.fields #[.str "law" 950, .str "law" 951, .str "/claim/cut.py" 952, .int 424 0, .int 1 0, .int 0 0, .int 0 0, .int 3 0, .ref 497, .bool true, .int 181 0, .ref 498, .none, .none, .none, .ref 499, .int 953 0, .int 424 0, .str "/claim/cut.py" 954]) #[]
noncomputable def o514 (P : Params) : Obj := .mk (.type "function") none (.func (fdOf (st 71) "law" 3 [] .none .none .none (.str "law_rg0027_01" 919) none (.ref 500) .none 0)) #[]
noncomputable def o18 (P : Params) : Obj := cdOf (o20 P)
noncomputable def o41 (P : Params) : Obj := cdOf (o43 P)
noncomputable def o62 (P : Params) : Obj := cdOf (o64 P)
noncomputable def o76 (P : Params) : Obj := cdOf (o78 P)
noncomputable def o83 (P : Params) : Obj := cdOf (o85 P)
noncomputable def o90 (P : Params) : Obj := cdOf (o92 P)
noncomputable def o97 (P : Params) : Obj := cdOf (o99 P)
noncomputable def o106 (P : Params) : Obj := cdOf (o108 P)
noncomputable def o121 (P : Params) : Obj := cdOf (o123 P)
noncomputable def o135 (P : Params) : Obj := cdOf (o137 P)
noncomputable def o142 (P : Params) : Obj := cdOf (o144 P)
noncomputable def o149 (P : Params) : Obj := cdOf (o151 P)
noncomputable def o158 (P : Params) : Obj := cdOf (o160 P)
noncomputable def o163 (P : Params) : Obj := cdOf (o165 P)
noncomputable def o170 (P : Params) : Obj := cdOf (o172 P)
noncomputable def o177 (P : Params) : Obj := cdOf (o179 P)
noncomputable def o184 (P : Params) : Obj := cdOf (o186 P)
noncomputable def o191 (P : Params) : Obj := cdOf (o193 P)
noncomputable def o198 (P : Params) : Obj := cdOf (o200 P)
noncomputable def o205 (P : Params) : Obj := cdOf (o207 P)
noncomputable def o210 (P : Params) : Obj := cdOf (o212 P)
noncomputable def o215 (P : Params) : Obj := cdOf (o217 P)
noncomputable def o222 (P : Params) : Obj := cdOf (o224 P)
noncomputable def o227 (P : Params) : Obj := cdOf (o229 P)
noncomputable def o232 (P : Params) : Obj := cdOf (o234 P)
noncomputable def o237 (P : Params) : Obj := cdOf (o239 P)
noncomputable def o244 (P : Params) : Obj := cdOf (o246 P)
noncomputable def o249 (P : Params) : Obj := cdOf (o251 P)
noncomputable def o254 (P : Params) : Obj := cdOf (o256 P)
noncomputable def o259 (P : Params) : Obj := cdOf (o261 P)
noncomputable def o266 (P : Params) : Obj := cdOf (o268 P)
noncomputable def o271 (P : Params) : Obj := cdOf (o273 P)
noncomputable def o278 (P : Params) : Obj := cdOf (o280 P)
noncomputable def o285 (P : Params) : Obj := cdOf (o287 P)
noncomputable def o301 (P : Params) : Obj := cdOf (o303 P)
noncomputable def o324 (P : Params) : Obj := cdOf (o326 P)
noncomputable def o338 (P : Params) : Obj := cdOf (o340 P)
noncomputable def o345 (P : Params) : Obj := cdOf (o347 P)
noncomputable def o352 (P : Params) : Obj := cdOf (o354 P)
noncomputable def o359 (P : Params) : Obj := cdOf (o361 P)
noncomputable def o366 (P : Params) : Obj := cdOf (o368 P)
noncomputable def o375 (P : Params) : Obj := cdOf (o377 P)
noncomputable def o382 (P : Params) : Obj := cdOf (o384 P)
noncomputable def o389 (P : Params) : Obj := cdOf (o391 P)
noncomputable def o396 (P : Params) : Obj := cdOf (o398 P)
noncomputable def o403 (P : Params) : Obj := cdOf (o405 P)
noncomputable def o410 (P : Params) : Obj := cdOf (o412 P)
noncomputable def o417 (P : Params) : Obj := cdOf (o419 P)
noncomputable def o424 (P : Params) : Obj := cdOf (o426 P)
noncomputable def o431 (P : Params) : Obj := cdOf (o433 P)
noncomputable def o438 (P : Params) : Obj := cdOf (o440 P)
noncomputable def o445 (P : Params) : Obj := cdOf (o447 P)
noncomputable def o461 (P : Params) : Obj := cdOf (o463 P)
noncomputable def o485 (P : Params) : Obj := cdOf (o487 P)
noncomputable def o500 (P : Params) : Obj := cdOf (o502 P)
noncomputable def o507 (P : Params) : Obj := cdOf (o509 P)
noncomputable def o512 (P : Params) : Obj := cdOf (o514 P)
noncomputable def hPre (P : Params) : Heap := ⟨#[(boot_o_0 P), (boot_o_1 P), (boot_o_2 P), (boot_o_3 P), (boot_o_4 P), (boot_o_5 P), (boot_o_6 P), (boot_o_7 P), (boot_o_8 P), (boot_o_9 P), (boot_o_10 P), (o0 P), (o1 P), (o2 P), (o3 P)], {}⟩
noncomputable def tr0 (P : Params) : BT := (.node (boot_o_0 P) (.node (boot_o_1 P) (.node (boot_o_3 P) (.node (boot_o_7 P) .nil .nil) (.node (o0 P) .nil .nil)) (.node (boot_o_5 P) (.node (boot_o_9 P) .nil .nil) (.node (o2 P) .nil .nil))) (.node (boot_o_2 P) (.node (boot_o_4 P) (.node (boot_o_8 P) .nil .nil) (.node (o1 P) .nil .nil)) (.node (boot_o_6 P) (.node (boot_o_10 P) .nil .nil) (.node (o3 P) .nil .nil))))
noncomputable def tr1 (P : Params) : BT := (.node (boot_o_0 P) (.node (boot_o_1 P) (.node (o5 P) (.node (boot_o_7 P) (.node (o7 P) (.node (o23 P) .nil .nil) .nil) (.node (o15 P) .nil .nil)) (.node (o0 P) (.node (o11 P) .nil .nil) (.node (o19 P) .nil .nil))) (.node (boot_o_5 P) (.node (boot_o_9 P) (.node (o9 P) (.node (o25 P) .nil .nil) .nil) (.node (o17 P) .nil .nil)) (.node (o2 P) (.node (o13 P) .nil .nil) (.node (o21 P) .nil .nil)))) (.node (o4 P) (.node (boot_o_4 P) (.node (boot_o_8 P) (.node (o8 P) (.node (o24 P) .nil .nil) .nil) (.node (o16 P) .nil .nil)) (.node (o6 P) (.node (o12 P) .nil .nil) (.node (o20 P) .nil .nil))) (.node (boot_o_6 P) (.node (boot_o_10 P) (.node (o10 P) (.node (o26 P) .nil .nil) .nil) (.node (o18 P) .nil .nil)) (.node (o3 P) (.node (o14 P) .nil .nil) (.node (o22 P) .nil .nil)))))
noncomputable def tr2 (P : Params) : BT := (.node (boot_o_0 P) (.node (boot_o_1 P) (.node (o27 P) (.node (boot_o_7 P) (.node (o7 P) (.node (o29 P) .nil .nil) (.node (o42 P) .nil .nil)) (.node (o15 P) (.node (o34 P) .nil .nil) .nil)) (.node (o0 P) (.node (o11 P) (.node (o30 P) .nil .nil) (.node (o46 P) .nil .nil)) (.node (o19 P) (.node (o38 P) .nil .nil) .nil))) (.node (boot_o_5 P) (.node (boot_o_9 P) (.node (o9 P) (.node (o25 P) .nil .nil) (.node (o44 P) .nil .nil)) (.node (o17 P) (.node (o36 P) .nil .nil) .nil)) (.node (o2 P) (.node (o13 P) (.node (o32 P) .nil .nil) (.node (o48 P) .nil .nil)) (.node (o21 P) (.node (o40 P) .nil .nil) .nil)))) (.node (o4 P) (.node (boot_o_4 P) (.node (boot_o_8 P) (.node (o8 P) (.node (o24 P) .nil .nil) (.node (o43 P) .nil .nil)) (.node (o16 P) (.node (o35 P) .nil .nil) .nil)) (.node (o28 P) (.node (o12 P) (.node (o31 P) .nil .nil) (.node (o47 P) .nil .nil)) (.node (o20 P) (.node (o39 P) .nil .nil) .nil))) (.node (boot_o_6 P) (.node (boot_o_10 P) (.node (o10 P) (.node (o26 P) .nil .nil) (.node (o45 P) .nil .nil)) (.node (o18 P) (.node (o37 P) .nil .nil) .nil)) (.node (o3 P) (.node (o14 P) (.node (o33 P) .nil .nil) .nil) (.node (o22 P) (.node (o41 P) .nil .nil) .nil)))))
noncomputable def tr3 (P : Params) : BT := (.node (boot_o_0 P) (.node (boot_o_1 P) (.node (o49 P) (.node (boot_o_7 P) (.node (o7 P) (.node (o29 P) (.node (o60 P) .nil .nil) (.node (o92 P) .nil .nil)) (.node (o42 P) (.node (o76 P) .nil .nil) .nil)) (.node (o15 P) (.node (o34 P) (.node (o68 P) .nil .nil) .nil) (.node (o52 P) (.node (o84 P) .nil .nil) .nil))) (.node (o0 P) (.node (o11 P) (.node (o30 P) (.node (o64 P) .nil .nil) (.node (o96 P) .nil .nil)) (.node (o46 P) (.node (o80 P) .nil .nil) .nil)) (.node (o19 P) (.node (o38 P) (.node (o72 P) .nil .nil) .nil) (.node (o56 P) (.node (o88 P) .nil .nil) .nil)))) (.node (boot_o_5 P) (.node (boot_o_9 P) (.node (o9 P) (.node (o25 P) (.node (o62 P) .nil .nil) (.node (o94 P) .nil .nil)) (.node (o44 P) (.node (o78 P) .nil .nil) .nil)) (.node (o17 P) (.node (o36 P) (.node (o70 P) .nil .nil) .nil) (.node (o54 P) (.node (o86 P) .nil .nil) .nil))) (.node (o2 P) (.node (o13 P) (.node (o32 P) (.node (o66 P) .nil .nil) (.node (o98 P) .nil .nil)) (.node (o48 P) (.node (o82 P) .nil .nil) .nil)) (.node (o21 P) (.node (o40 P) (.node (o74 P) .nil .nil) .nil) (.node (o58 P) (.node (o90 P) .nil .nil) .nil))))) (.node (o4 P) (.node (boot_o_4 P) (.node (boot_o_8 P) (.node (o8 P) (.node (o24 P) (.node (o61 P) .nil .nil) (.node (o93 P) .nil .nil)) (.node (o43 P) (.node (o77 P) .nil .nil) .nil)) (.node (o16 P) (.node (o35 P) (.node (o69 P) .nil .nil) .nil) (.node (o53 P) (.node (o85 P) .nil .nil) .nil))) (.node (o50 P) (.node (o12 P) (.node (o31 P) (.node (o65 P) .nil .nil) (.node (o97 P) .nil .nil)) (.node (o47 P) (.node (o81 P) .nil .nil) .nil)) (.node (o20 P) (.node (o39 P) (.node (o73 P) .nil .nil) .nil) (.node (o57 P) (.node (o89 P) .nil .nil) .nil)))) (.node (boot_o_6 P) (.node (boot_o_10 P) (.node (o10 P) (.node (o26 P) (.node (o63 P) .nil .nil) (.node (o95 P) .nil .nil)) (.node (o45 P) (.node (o79 P) .nil .nil) .nil)) (.node (o18 P) (.node (o37 P) (.node (o71 P) .nil .nil) .nil) (.node (o55 P) (.node (o87 P) .nil .nil) .nil))) (.node (o3 P) (.node (o14 P) (.node (o33 P) (.node (o67 P) .nil .nil) (.node (o99 P) .nil .nil)) (.node (o51 P) (.node (o83 P) .nil .nil) .nil)) (.node (o22 P) (.node (o41 P) (.node (o75 P) .nil .nil) .nil) (.node (o59 P) (.node (o91 P) .nil .nil) .nil))))))
noncomputable def tr4 (P : Params) : BT := (.node (boot_o_0 P) (.node (boot_o_1 P) (.node (o100 P) (.node (boot_o_7 P) (.node (o7 P) (.node (o29 P) (.node (o60 P) (.node (o126 P) .nil .nil) .nil) (.node (o92 P) .nil .nil)) (.node (o42 P) (.node (o76 P) (.node (o142 P) .nil .nil) .nil) (.node (o110 P) .nil .nil))) (.node (o15 P) (.node (o34 P) (.node (o68 P) (.node (o134 P) .nil .nil) .nil) (.node (o102 P) .nil .nil)) (.node (o52 P) (.node (o84 P) (.node (o150 P) .nil .nil) .nil) (.node (o118 P) .nil .nil)))) (.node (o0 P) (.node (o11 P) (.node (o30 P) (.node (o64 P) (.node (o130 P) .nil .nil) .nil) (.node (o96 P) .nil .nil)) (.node (o46 P) (.node (o80 P) (.node (o146 P) .nil .nil) .nil) (.node (o114 P) .nil .nil))) (.node (o19 P) (.node (o38 P) (.node (o72 P) (.node (o138 P) .nil .nil) .nil) (.node (o106 P) .nil .nil)) (.node (o56 P) (.node (o88 P) .nil .nil) (.node (o122 P) .nil .nil))))) (.node (boot_o_5 P) (.node (boot_o_9 P) (.node (o9 P) (.node (o25 P) (.node (o62 P) (.node (o128 P) .nil .nil) .nil) (.node (o94 P) .nil .nil)) (.node (o44 P) (.node (o78 P) (.node (o144 P) .nil .nil) .nil) (.node (o112 P) .nil .nil))) (.node (o17 P) (.node (o36 P) (.node (o70 P) (.node (o136 P) .nil .nil) .nil) (.node (o104 P) .nil .nil)) (.node (o54 P) (.node (o86 P) .nil .nil) (.node (o120 P) .nil .nil)))) (.node (o2 P) (.node (o13 P) (.node (o32 P) (.node (o66 P) (.node (o132 P) .nil .nil) .nil) (.node (o98 P) .nil .nil)) (.node (o48 P) (.node (o82 P) (.node (o148 P) .nil .nil) .nil) (.node (o116 P) .nil .nil))) (.node (o21 P) (.node (o40 P) (.node (o74 P) (.node (o140 P) .nil .nil) .nil) (.node (o108 P) .nil .nil)) (.node (o58 P) (.node (o90 P) .nil .nil) (.node (o124 P) .nil .nil)))))) (.node (o4 P) (.node (boot_o_4 P) (.node (boot_o_8 P) (.node (o8 P) (.node (o24 P) (.node (o61 P) (.node (o127 P) .nil .nil) .nil) (.node (o93 P) .nil .nil)) (.node (o43 P) (.node (o77 P) (.node (o143 P) .nil .nil) .nil) (.node (o111 P) .nil .nil))) (.node (o16 P) (.node (o35 P) (.node (o69 P) (.node (o135 P) .nil .nil) .nil) (.node (o103 P) .nil .nil)) (.node (o53 P) (.node (o85 P) (.node (o151 P) .nil .nil) .nil) (.node (o119 P) .nil .nil)))) (.node (o101 P) (.node (o12 P) (.node (o31 P) (.node (o65 P) (.node (o131 P) .nil .nil) .nil) (.node (o97 P) .nil .nil)) (.node (o47 P) (.node (o81 P) (.node (o147 P) .nil .nil) .nil) (.node (o115 P) .nil .nil))) (.node (o20 P) (.node (o39 P) (.node (o73 P) (.node (o139 P) .nil .nil) .nil) (.node (o107 P) .nil .nil)) (.node (o57 P) (.node (o89 P) .nil .nil) (.node (o123 P) .nil .nil))))) (.node (boot_o_6 P) (.node (boot_o_10 P) (.node (o10 P) (.node (o26 P) (.node (o63 P) (.node (o129 P) .nil .nil) .nil) (.node (o95 P) .nil .nil)) (.node (o45 P) (.node (o79 P) (.node (o145 P) .nil .nil) .nil) (.node (o113 P) .nil .nil))) (.node (o18 P) (.node (o37 P) (.node (o71 P) (.node (o137 P) .nil .nil) .nil) (.node (o105 P) .nil .nil)) (.node (o55 P) (.node (o87 P) .nil .nil) (.node (o121 P) .nil .nil)))) (.node (o3 P) (.node (o14 P) (.node (o33 P) (.node (o67 P) (.node (o133 P) .nil .nil) .nil) (.node (o99 P) .nil .nil)) (.node (o51 P) (.node (o83 P) (.node (o149 P) .nil .nil) .nil) (.node (o117 P) .nil .nil))) (.node (o22 P) (.node (o41 P) (.node (o75 P) (.node (o141 P) .nil .nil) .nil) (.node (o109 P) .nil .nil)) (.node (o59 P) (.node (o91 P) .nil .nil) (.node (o125 P) .nil .nil)))))))
noncomputable def tr5 (P : Params) : BT := (.node (boot_o_0 P) (.node (boot_o_1 P) (.node (o152 P) (.node (boot_o_7 P) (.node (o7 P) (.node (o29 P) (.node (o60 P) (.node (o126 P) .nil .nil) (.node (o192 P) .nil .nil)) (.node (o92 P) (.node (o160 P) .nil .nil) (.node (o224 P) .nil .nil))) (.node (o42 P) (.node (o76 P) (.node (o142 P) .nil .nil) (.node (o208 P) .nil .nil)) (.node (o110 P) (.node (o176 P) .nil .nil) .nil))) (.node (o15 P) (.node (o34 P) (.node (o68 P) (.node (o134 P) .nil .nil) (.node (o200 P) .nil .nil)) (.node (o102 P) (.node (o168 P) .nil .nil) (.node (o232 P) .nil .nil))) (.node (o52 P) (.node (o84 P) (.node (o150 P) .nil .nil) (.node (o216 P) .nil .nil)) (.node (o118 P) (.node (o184 P) .nil .nil) .nil)))) (.node (o0 P) (.node (o11 P) (.node (o30 P) (.node (o64 P) (.node (o130 P) .nil .nil) (.node (o196 P) .nil .nil)) (.node (o96 P) (.node (o164 P) .nil .nil) (.node (o228 P) .nil .nil))) (.node (o46 P) (.node (o80 P) (.node (o146 P) .nil .nil) (.node (o212 P) .nil .nil)) (.node (o114 P) (.node (o180 P) .nil .nil) .nil))) (.node (o19 P) (.node (o38 P) (.node (o72 P) (.node (o138 P) .nil .nil) (.node (o204 P) .nil .nil)) (.node (o106 P) (.node (o172 P) .nil .nil) (.node (o236 P) .nil .nil))) (.node (o56 P) (.node (o88 P) (.node (o156 P) .nil .nil) (.node (o220 P) .nil .nil)) (.node (o122 P) (.node (o188 P) .nil .nil) .nil))))) (.node (boot_o_5 P) (.node (boot_o_9 P) (.node (o9 P) (.node (o25 P) (.node (o62 P) (.node (o128 P) .nil .nil) (.node (o194 P) .nil .nil)) (.node (o94 P) (.node (o162 P) .nil .nil) (.node (o226 P) .nil .nil))) (.node (o44 P) (.node (o78 P) (.node (o144 P) .nil .nil) (.node (o210 P) .nil .nil)) (.node (o112 P) (.node (o178 P) .nil .nil) .nil))) (.node (o17 P) (.node (o36 P) (.node (o70 P) (.node (o136 P) .nil .nil) (.node (o202 P) .nil .nil)) (.node (o104 P) (.node (o170 P) .nil .nil) (.node (o234 P) .nil .nil))) (.node (o54 P) (.node (o86 P) (.node (o154 P) .nil .nil) (.node (o218 P) .nil .nil)) (.node (o120 P) (.node (o186 P) .nil .nil) .nil)))) (.node (o2 P) (.node (o13 P) (.node (o32 P) (.node (o66 P) (.node (o132 P) .nil .nil) (.node (o198 P) .nil .nil)) (.node (o98 P) (.node (o166 P) .nil .nil) (.node (o230 P) .nil .nil))) (.node (o48 P) (.node (o82 P) (.node (o148 P) .nil .nil) (.node (o214 P) .nil .nil)) (.node (o116 P) (.node (o182 P) .nil .nil) .nil))) (.node (o21 P) (.node (o40 P) (.node (o74 P) (.node (o140 P) .nil .nil) (.node (o206 P) .nil .nil)) (.node (o108 P) (.node (o174 P) .nil .nil) (.node (o238 P) .nil .nil))) (.node (o58 P) (.node (o90 P) (.node (o158 P) .nil .nil) (.node (o222 P) .nil .nil)) (.node (o124 P) (.node (o190 P) .nil .nil) .nil)))))) (.node (o4 P) (.node (boot_o_4 P) (.node (boot_o_8 P) (.node (o8 P) (.node (o24 P) (.node (o61 P) (.node (o127 P) .nil .nil) (.node (o193 P) .nil .nil)) (.node (o93 P) (.node (o161 P) .nil .nil) (.node (o225 P) .nil .nil))) (.node (o43 P) (.node (o77 P) (.node (o143 P) .nil .nil) (.node (o209 P) .nil .nil)) (.node (o111 P) (.node (o177 P) .nil .nil) .nil))) (.node (o16 P) (.node (o35 P) (.node (o69 P) (.node (o135 P) .nil .nil) (.node (o201 P) .nil .nil)) (.node (o103 P) (.node (o169 P) .nil .nil) (.node (o233 P) .nil .nil))) (.node (o53 P) (.node (o85 P) (.node (o151 P) .nil .nil) (.node (o217 P) .nil .nil)) (.node (o119 P) (.node (o185 P) .nil .nil) .nil)))) (.node (o153 P) (.node (o12 P) (.node (o31 P) (.node (o65 P) (.node (o131 P) .nil .nil) (.node (o197 P) .nil .nil)) (.node (o97 P) (.node (o165 P) .nil .nil) (.node (o229 P) .nil .nil))) (.node (o47 P) (.node (o81 P) (.node (o147 P) .nil .nil) (.node (o213 P) .nil .nil)) (.node (o115 P) (.node (o181 P) .nil .nil) .nil))) (.node (o20 P) (.node (o39 P) (.node (o73 P) (.node (o139 P) .nil .nil) (.node (o205 P) .nil .nil)) (.node (o107 P) (.node (o173 P) .nil .nil) (.node (o237 P) .nil .nil))) (.node (o57 P) (.node (o89 P) (.node (o157 P) .nil .nil) (.node (o221 P) .nil .nil)) (.node (o123 P) (.node (o189 P) .nil .nil) .nil))))) (.node (boot_o_6 P) (.node (boot_o_10 P) (.node (o10 P) (.node (o26 P) (.node (o63 P) (.node (o129 P) .nil .nil) (.node (o195 P) .nil .nil)) (.node (o95 P) (.node (o163 P) .nil .nil) (.node (o227 P) .nil .nil))) (.node (o45 P) (.node (o79 P) (.node (o145 P) .nil .nil) (.node (o211 P) .nil .nil)) (.node (o113 P) (.node (o179 P) .nil .nil) .nil))) (.node (o18 P) (.node (o37 P) (.node (o71 P) (.node (o137 P) .nil .nil) (.node (o203 P) .nil .nil)) (.node (o105 P) (.node (o171 P) .nil .nil) (.node (o235 P) .nil .nil))) (.node (o55 P) (.node (o87 P) (.node (o155 P) .nil .nil) (.node (o219 P) .nil .nil)) (.node (o121 P) (.node (o187 P) .nil .nil) .nil)))) (.node (o3 P) (.node (o14 P) (.node (o33 P) (.node (o67 P) (.node (o133 P) .nil .nil) (.node (o199 P) .nil .nil)) (.node (o99 P) (.node (o167 P) .nil .nil) (.node (o231 P) .nil .nil))) (.node (o51 P) (.node (o83 P) (.node (o149 P) .nil .nil) (.node (o215 P) .nil .nil)) (.node (o117 P) (.node (o183 P) .nil .nil) .nil))) (.node (o22 P) (.node (o41 P) (.node (o75 P) (.node (o141 P) .nil .nil) (.node (o207 P) .nil .nil)) (.node (o109 P) (.node (o175 P) .nil .nil) (.node (o239 P) .nil .nil))) (.node (o59 P) (.node (o91 P) (.node (o159 P) .nil .nil) (.node (o223 P) .nil .nil)) (.node (o125 P) (.node (o191 P) .nil .nil) .nil)))))))
noncomputable def tr6 (P : Params) : BT := (.node (boot_o_0 P) (.node (boot_o_1 P) (.node (o240 P) (.node (boot_o_7 P) (.node (o7 P) (.node (o29 P) (.node (o60 P) (.node (o126 P) (.node (o258 P) .nil .nil) .nil) (.node (o192 P) .nil .nil)) (.node (o92 P) (.node (o160 P) .nil .nil) (.node (o224 P) .nil .nil))) (.node (o42 P) (.node (o76 P) (.node (o142 P) (.node (o274 P) .nil .nil) .nil) (.node (o208 P) .nil .nil)) (.node (o110 P) (.node (o176 P) .nil .nil) (.node (o242 P) .nil .nil)))) (.node (o15 P) (.node (o34 P) (.node (o68 P) (.node (o134 P) (.node (o266 P) .nil .nil) .nil) (.node (o200 P) .nil .nil)) (.node (o102 P) (.node (o168 P) .nil .nil) (.node (o232 P) .nil .nil))) (.node (o52 P) (.node (o84 P) (.node (o150 P) (.node (o282 P) .nil .nil) .nil) (.node (o216 P) .nil .nil)) (.node (o118 P) (.node (o184 P) .nil .nil) (.node (o250 P) .nil .nil))))) (.node (o0 P) (.node (o11 P) (.node (o30 P) (.node (o64 P) (.node (o130 P) (.node (o262 P) .nil .nil) .nil) (.node (o196 P) .nil .nil)) (.node (o96 P) (.node (o164 P) .nil .nil) (.node (o228 P) .nil .nil))) (.node (o46 P) (.node (o80 P) (.node (o146 P) (.node (o278 P) .nil .nil) .nil) (.node (o212 P) .nil .nil)) (.node (o114 P) (.node (o180 P) .nil .nil) (.node (o246 P) .nil .nil)))) (.node (o19 P) (.node (o38 P) (.node (o72 P) (.node (o138 P) (.node (o270 P) .nil .nil) .nil) (.node (o204 P) .nil .nil)) (.node (o106 P) (.node (o172 P) .nil .nil) (.node (o236 P) .nil .nil))) (.node (o56 P) (.node (o88 P) (.node (o156 P) (.node (o286 P) .nil .nil) .nil) (.node (o220 P) .nil .nil)) (.node (o122 P) (.node (o188 P) .nil .nil) (.node (o254 P) .nil .nil)))))) (.node (boot_o_5 P) (.node (boot_o_9 P) (.node (o9 P) (.node (o25 P) (.node (o62 P) (.node (o128 P) (.node (o260 P) .nil .nil) .nil) (.node (o194 P) .nil .nil)) (.node (o94 P) (.node (o162 P) .nil .nil) (.node (o226 P) .nil .nil))) (.node (o44 P) (.node (o78 P) (.node (o144 P) (.node (o276 P) .nil .nil) .nil) (.node (o210 P) .nil .nil)) (.node (o112 P) (.node (o178 P) .nil .nil) (.node (o244 P) .nil .nil)))) (.node (o17 P) (.node (o36 P) (.node (o70 P) (.node (o136 P) (.node (o268 P) .nil .nil) .nil) (.node (o202 P) .nil .nil)) (.node (o104 P) (.node (o170 P) .nil .nil) (.node (o234 P) .nil .nil))) (.node (o54 P) (.node (o86 P) (.node (o154 P) (.node (o284 P) .nil .nil) .nil) (.node (o218 P) .nil .nil)) (.node (o120 P) (.node (o186 P) .nil .nil) (.node (o252 P) .nil .nil))))) (.node (o2 P) (.node (o13 P) (.node (o32 P) (.node (o66 P) (.node (o132 P) (.node (o264 P) .nil .nil) .nil) (.node (o198 P) .nil .nil)) (.node (o98 P) (.node (o166 P) .nil .nil) (.node (o230 P) .nil .nil))) (.node (o48 P) (.node (o82 P) (.node (o148 P) (.node (o280 P) .nil .nil) .nil) (.node (o214 P) .nil .nil)) (.node (o116 P) (.node (o182 P) .nil .nil) (.node (o248 P) .nil .nil)))) (.node (o21 P) (.node (o40 P) (.node (o74 P) (.node (o140 P) (.node (o272 P) .nil .nil) .nil) (.node (o206 P) .nil .nil)) (.node (o108 P) (.node (o174 P) .nil .nil) (.node (o238 P) .nil .nil))) (.node (o58 P) (.node (o90 P) (.node (o158 P) .nil .nil) (.node (o222 P) .nil .nil)) (.node (o124 P) (.node (o190 P) .nil .nil) (.node (o256 P) .nil .nil))))))) (.node (o4 P) (.node (boot_o_4 P) (.node (boot_o_8 P) (.node (o8 P) (.node (o24 P) (.node (o61 P) (.node (o127 P) (.node (o259 P) .nil .nil) .nil) (.node (o193 P) .nil .nil)) (.node (o93 P) (.node (o161 P) .nil .nil) (.node (o225 P) .nil .nil))) (.node (o43 P) (.node (o77 P) (.node (o143 P) (.node (o275 P) .nil .nil) .nil) (.node (o209 P) .nil .nil)) (.node (o111 P) (.node (o177 P) .nil .nil) (.node (o243 P) .nil .nil)))) (.node (o16 P) (.node (o35 P) (.node (o69 P) (.node (o135 P) (.node (o267 P) .nil .nil) .nil) (.node (o201 P) .nil .nil)) (.node (o103 P) (.node (o169 P) .nil .nil) (.node (o233 P) .nil .nil))) (.node (o53 P) (.node (o85 P) (.node (o151 P) (.node (o283 P) .nil .nil) .nil) (.node (o217 P) .nil .nil)) (.node (o119 P) (.node (o185 P) .nil .nil) (.node (o251 P) .nil .nil))))) (.node (o241 P) (.node (o12 P) (.node (o31 P) (.node (o65 P) (.node (o131 P) (.node (o263 P) .nil .nil) .nil) (.node (o197 P) .nil .nil)) (.node (o97 P) (.node (o165 P) .nil .nil) (.node (o229 P) .nil .nil))) (.node (o47 P) (.node (o81 P) (.node (o147 P) (.node (o279 P) .nil .nil) .nil) (.node (o213 P) .nil .nil)) (.node (o115 P) (.node (o181 P) .nil .nil) (.node (o247 P) .nil .nil)))) (.node (o20 P) (.node (o39 P) (.node (o73 P) (.node (o139 P) (.node (o271 P) .nil .nil) .nil) (.node (o205 P) .nil .nil)) (.node (o107 P) (.node (o173 P) .nil .nil) (.node (o237 P) .nil .nil))) (.node (o57 P) (.node (o89 P) (.node (o157 P) (.node (o287 P) .nil .nil) .nil) (.node (o221 P) .nil .nil)) (.node (o123 P) (.node (o189 P) .nil .nil) (.node (o255 P) .nil .nil)))))) (.node (boot_o_6 P) (.node (boot_o_10 P) (.node (o10 P) (.node (o26 P) (.node (o63 P) (.node (o129 P) (.node (o261 P) .nil .nil) .nil) (.node (o195 P) .nil .nil)) (.node (o95 P) (.node (o163 P) .nil .nil) (.node (o227 P) .nil .nil))) (.node (o45 P) (.node (o79 P) (.node (o145 P) (.node (o277 P) .nil .nil) .nil) (.node (o211 P) .nil .nil)) (.node (o113 P) (.node (o179 P) .nil .nil) (.node (o245 P) .nil .nil)))) (.node (o18 P) (.node (o37 P) (.node (o71 P) (.node (o137 P) (.node (o269 P) .nil .nil) .nil) (.node (o203 P) .nil .nil)) (.node (o105 P) (.node (o171 P) .nil .nil) (.node (o235 P) .nil .nil))) (.node (o55 P) (.node (o87 P) (.node (o155 P) (.node (o285 P) .nil .nil) .nil) (.node (o219 P) .nil .nil)) (.node (o121 P) (.node (o187 P) .nil .nil) (.node (o253 P) .nil .nil))))) (.node (o3 P) (.node (o14 P) (.node (o33 P) (.node (o67 P) (.node (o133 P) (.node (o265 P) .nil .nil) .nil) (.node (o199 P) .nil .nil)) (.node (o99 P) (.node (o167 P) .nil .nil) (.node (o231 P) .nil .nil))) (.node (o51 P) (.node (o83 P) (.node (o149 P) (.node (o281 P) .nil .nil) .nil) (.node (o215 P) .nil .nil)) (.node (o117 P) (.node (o183 P) .nil .nil) (.node (o249 P) .nil .nil)))) (.node (o22 P) (.node (o41 P) (.node (o75 P) (.node (o141 P) (.node (o273 P) .nil .nil) .nil) (.node (o207 P) .nil .nil)) (.node (o109 P) (.node (o175 P) .nil .nil) (.node (o239 P) .nil .nil))) (.node (o59 P) (.node (o91 P) (.node (o159 P) .nil .nil) (.node (o223 P) .nil .nil)) (.node (o125 P) (.node (o191 P) .nil .nil) (.node (o257 P) .nil .nil))))))))
noncomputable def tr7 (P : Params) : BT := (.node (boot_o_0 P) (.node (boot_o_1 P) (.node (o288 P) (.node (boot_o_7 P) (.node (o7 P) (.node (o29 P) (.node (o60 P) (.node (o126 P) (.node (o258 P) .nil .nil) .nil) (.node (o192 P) .nil .nil)) (.node (o92 P) (.node (o160 P) (.node (o292 P) .nil .nil) .nil) (.node (o224 P) .nil .nil))) (.node (o42 P) (.node (o76 P) (.node (o142 P) (.node (o274 P) .nil .nil) .nil) (.node (o208 P) .nil .nil)) (.node (o110 P) (.node (o176 P) (.node (o308 P) .nil .nil) .nil) (.node (o242 P) .nil .nil)))) (.node (o15 P) (.node (o34 P) (.node (o68 P) (.node (o134 P) (.node (o266 P) .nil .nil) .nil) (.node (o200 P) .nil .nil)) (.node (o102 P) (.node (o168 P) (.node (o300 P) .nil .nil) .nil) (.node (o232 P) .nil .nil))) (.node (o52 P) (.node (o84 P) (.node (o150 P) (.node (o282 P) .nil .nil) .nil) (.node (o216 P) .nil .nil)) (.node (o118 P) (.node (o184 P) .nil .nil) (.node (o250 P) .nil .nil))))) (.node (o0 P) (.node (o11 P) (.node (o30 P) (.node (o64 P) (.node (o130 P) (.node (o262 P) .nil .nil) .nil) (.node (o196 P) .nil .nil)) (.node (o96 P) (.node (o164 P) (.node (o296 P) .nil .nil) .nil) (.node (o228 P) .nil .nil))) (.node (o46 P) (.node (o80 P) (.node (o146 P) (.node (o278 P) .nil .nil) .nil) (.node (o212 P) .nil .nil)) (.node (o114 P) (.node (o180 P) .nil .nil) (.node (o246 P) .nil .nil)))) (.node (o19 P) (.node (o38 P) (.node (o72 P) (.node (o138 P) (.node (o270 P) .nil .nil) .nil) (.node (o204 P) .nil .nil)) (.node (o106 P) (.node (o172 P) (.node (o304 P) .nil .nil) .nil) (.node (o236 P) .nil .nil))) (.node (o56 P) (.node (o88 P) (.node (o156 P) (.node (o286 P) .nil .nil) .nil) (.node (o220 P) .nil .nil)) (.node (o122 P) (.node (o188 P) .nil .nil) (.node (o254 P) .nil .nil)))))) (.node (boot_o_5 P) (.node (boot_o_9 P) (.node (o9 P) (.node (o25 P) (.node (o62 P) (.node (o128 P) (.node (o260 P) .nil .nil) .nil) (.node (o194 P) .nil .nil)) (.node (o94 P) (.node (o162 P) (.node (o294 P) .nil .nil) .nil) (.node (o226 P) .nil .nil))) (.node (o44 P) (.node (o78 P) (.node (o144 P) (.node (o276 P) .nil .nil) .nil) (.node (o210 P) .nil .nil)) (.node (o112 P) (.node (o178 P) (.node (o310 P) .nil .nil) .nil) (.node (o244 P) .nil .nil)))) (.node (o17 P) (.node (o36 P) (.node (o70 P) (.node (o136 P) (.node (o268 P) .nil .nil) .nil) (.node (o202 P) .nil .nil)) (.node (o104 P) (.node (o170 P) (.node (o302 P) .nil .nil) .nil) (.node (o234 P) .nil .nil))) (.node (o54 P) (.node (o86 P) (.node (o154 P) (.node (o284 P) .nil .nil) .nil) (.node (o218 P) .nil .nil)) (.node (o120 P) (.node (o186 P) .nil .nil) (.node (o252 P) .nil .nil))))) (.node (o2 P) (.node (o13 P) (.node (o32 P) (.node (o66 P) (.node (o132 P) (.node (o264 P) .nil .nil) .nil) (.node (o198 P) .nil .nil)) (.node (o98 P) (.node (o166 P) (.node (o298 P) .nil .nil) .nil) (.node (o230 P) .nil .nil))) (.node (o48 P) (.node (o82 P) (.node (o148 P) (.node (o280 P) .nil .nil) .nil) (.node (o214 P) .nil .nil)) (.node (o116 P) (.node (o182 P) .nil .nil) (.node (o248 P) .nil .nil)))) (.node (o21 P) (.node (o40 P) (.node (o74 P) (.node (o140 P) (.node (o272 P) .nil .nil) .nil) (.node (o206 P) .nil .nil)) (.node (o108 P) (.node (o174 P) (.node (o306 P) .nil .nil) .nil) (.node (o238 P) .nil .nil))) (.node (o58 P) (.node (o90 P) (.node (o158 P) (.node (o290 P) .nil .nil) .nil) (.node (o222 P) .nil .nil)) (.node (o124 P) (.node (o190 P) .nil .nil) (.node (o256 P) .nil .nil))))))) (.node (o4 P) (.node (boot_o_4 P) (.node (boot_o_8 P) (.node (o8 P) (.node (o24 P) (.node (o61 P) (.node (o127 P) (.node (o259 P) .nil .nil) .nil) (.node (o193 P) .nil .nil)) (.node (o93 P) (.node (o161 P) (.node (o293 P) .nil .nil) .nil) (.node (o225 P) .nil .nil))) (.node (o43 P) (.node (o77 P) (.node (o143 P) (.node (o275 P) .nil .nil) .nil) (.node (o209 P) .nil .nil)) (.node (o111 P) (.node (o177 P) (.node (o309 P) .nil .nil) .nil) (.node (o243 P) .nil .nil)))) (.node (o16 P) (.node (o35 P) (.node (o69 P) (.node (o135 P) (.node (o267 P) .nil .nil) .nil) (.node (o201 P) .nil .nil)) (.node (o103 P) (.node (o169 P) (.node (o301 P) .nil .nil) .nil) (.node (o233 P) .nil .nil))) (.node (o53 P) (.node (o85 P) (.node (o151 P) (.node (o283 P) .nil .nil) .nil) (.node (o217 P) .nil .nil)) (.node (o119 P) (.node (o185 P) .nil .nil) (.node (o251 P) .nil .nil))))) (.node (o289 P) (.node (o12 P) (.node (o31 P) (.node (o65 P) (.node (o131 P) (.node (o263 P) .nil .nil) .nil) (.node (o197 P) .nil .nil)) (.node (o97 P) (.node (o165 P) (.node (o297 P) .nil .nil) .nil) (.node (o229 P) .nil .nil))) (.node (o47 P) (.node (o81 P) (.node (o147 P) (.node (o279 P) .nil .nil) .nil) (.node (o213 P) .nil .nil)) (.node (o115 P) (.node (o181 P) .nil .nil) (.node (o247 P) .nil .nil)))) (.node (o20 P) (.node (o39 P) (.node (o73 P) (.node (o139 P) (.node (o271 P) .nil .nil) .nil) (.node (o205 P) .nil .nil)) (.node (o107 P) (.node (o173 P) (.node (o305 P) .nil .nil) .nil) (.node (o237 P) .nil .nil))) (.node (o57 P) (.node (o89 P) (.node (o157 P) (.node (o287 P) .nil .nil) .nil) (.node (o221 P) .nil .nil)) (.node (o123 P) (.node (o189 P) .nil .nil) (.node (o255 P) .nil .nil)))))) (.node (boot_o_6 P) (.node (boot_o_10 P) (.node (o10 P) (.node (o26 P) (.node (o63 P) (.node (o129 P) (.node (o261 P) .nil .nil) .nil) (.node (o195 P) .nil .nil)) (.node (o95 P) (.node (o163 P) (.node (o295 P) .nil .nil) .nil) (.node (o227 P) .nil .nil))) (.node (o45 P) (.node (o79 P) (.node (o145 P) (.node (o277 P) .nil .nil) .nil) (.node (o211 P) .nil .nil)) (.node (o113 P) (.node (o179 P) .nil .nil) (.node (o245 P) .nil .nil)))) (.node (o18 P) (.node (o37 P) (.node (o71 P) (.node (o137 P) (.node (o269 P) .nil .nil) .nil) (.node (o203 P) .nil .nil)) (.node (o105 P) (.node (o171 P) (.node (o303 P) .nil .nil) .nil) (.node (o235 P) .nil .nil))) (.node (o55 P) (.node (o87 P) (.node (o155 P) (.node (o285 P) .nil .nil) .nil) (.node (o219 P) .nil .nil)) (.node (o121 P) (.node (o187 P) .nil .nil) (.node (o253 P) .nil .nil))))) (.node (o3 P) (.node (o14 P) (.node (o33 P) (.node (o67 P) (.node (o133 P) (.node (o265 P) .nil .nil) .nil) (.node (o199 P) .nil .nil)) (.node (o99 P) (.node (o167 P) (.node (o299 P) .nil .nil) .nil) (.node (o231 P) .nil .nil))) (.node (o51 P) (.node (o83 P) (.node (o149 P) (.node (o281 P) .nil .nil) .nil) (.node (o215 P) .nil .nil)) (.node (o117 P) (.node (o183 P) .nil .nil) (.node (o249 P) .nil .nil)))) (.node (o22 P) (.node (o41 P) (.node (o75 P) (.node (o141 P) (.node (o273 P) .nil .nil) .nil) (.node (o207 P) .nil .nil)) (.node (o109 P) (.node (o175 P) (.node (o307 P) .nil .nil) .nil) (.node (o239 P) .nil .nil))) (.node (o59 P) (.node (o91 P) (.node (o159 P) (.node (o291 P) .nil .nil) .nil) (.node (o223 P) .nil .nil)) (.node (o125 P) (.node (o191 P) .nil .nil) (.node (o257 P) .nil .nil))))))))
noncomputable def tr8 (P : Params) : BT := (.node (boot_o_0 P) (.node (boot_o_1 P) (.node (o311 P) (.node (boot_o_7 P) (.node (o7 P) (.node (o29 P) (.node (o60 P) (.node (o126 P) (.node (o258 P) .nil .nil) .nil) (.node (o192 P) (.node (o326 P) .nil .nil) .nil)) (.node (o92 P) (.node (o160 P) (.node (o292 P) .nil .nil) .nil) (.node (o224 P) (.node (o358 P) .nil .nil) .nil))) (.node (o42 P) (.node (o76 P) (.node (o142 P) (.node (o274 P) .nil .nil) .nil) (.node (o208 P) (.node (o342 P) .nil .nil) .nil)) (.node (o110 P) (.node (o176 P) (.node (o308 P) .nil .nil) .nil) (.node (o242 P) .nil .nil)))) (.node (o15 P) (.node (o34 P) (.node (o68 P) (.node (o134 P) (.node (o266 P) .nil .nil) .nil) (.node (o200 P) (.node (o334 P) .nil .nil) .nil)) (.node (o102 P) (.node (o168 P) (.node (o300 P) .nil .nil) .nil) (.node (o232 P) (.node (o366 P) .nil .nil) .nil))) (.node (o52 P) (.node (o84 P) (.node (o150 P) (.node (o282 P) .nil .nil) .nil) (.node (o216 P) (.node (o350 P) .nil .nil) .nil)) (.node (o118 P) (.node (o184 P) (.node (o318 P) .nil .nil) .nil) (.node (o250 P) .nil .nil))))) (.node (o0 P) (.node (o11 P) (.node (o30 P) (.node (o64 P) (.node (o130 P) (.node (o262 P) .nil .nil) .nil) (.node (o196 P) (.node (o330 P) .nil .nil) .nil)) (.node (o96 P) (.node (o164 P) (.node (o296 P) .nil .nil) .nil) (.node (o228 P) (.node (o362 P) .nil .nil) .nil))) (.node (o46 P) (.node (o80 P) (.node (o146 P) (.node (o278 P) .nil .nil) .nil) (.node (o212 P) (.node (o346 P) .nil .nil) .nil)) (.node (o114 P) (.node (o180 P) (.node (o314 P) .nil .nil) .nil) (.node (o246 P) .nil .nil)))) (.node (o19 P) (.node (o38 P) (.node (o72 P) (.node (o138 P) (.node (o270 P) .nil .nil) .nil) (.node (o204 P) (.node (o338 P) .nil .nil) .nil)) (.node (o106 P) (.node (o172 P) (.node (o304 P) .nil .nil) .nil) (.node (o236 P) .nil .nil))) (.node (o56 P) (.node (o88 P) (.node (o156 P) (.node (o286 P) .nil .nil) .nil) (.node (o220 P) (.node (o354 P) .nil .nil) .nil)) (.node (o122 P) (.node (o188 P) (.node (o322 P) .nil .nil) .nil) (.node (o254 P) .nil .nil)))))) (.node (boot_o_5 P) (.node (boot_o_9 P) (.node (o9 P) (.node (o25 P) (.node (o62 P) (.node (o128 P) (.node (o260 P) .nil .nil) .nil) (.node (o194 P) (.node (o328 P) .nil .nil) .nil)) (.node (o94 P) (.node (o162 P) (.node (o294 P) .nil .nil) .nil) (.node (o226 P) (.node (o360 P) .nil .nil) .nil))) (.node (o44 P) (.node (o78 P) (.node (o144 P) (.node (o276 P) .nil .nil) .nil) (.node (o210 P) (.node (o344 P) .nil .nil) .nil)) (.node (o112 P) (.node (o178 P) (.node (o310 P) .nil .nil) .nil) (.node (o244 P) .nil .nil)))) (.node (o17 P) (.node (o36 P) (.node (o70 P) (.node (o136 P) (.node (o268 P) .nil .nil) .nil) (.node (o202 P) (.node (o336 P) .nil .nil) .nil)) (.node (o104 P) (.node (o170 P) (.node (o302 P) .nil .nil) .nil) (.node (o234 P) (.node (o368 P) .nil .nil) .nil))) (.node (o54 P) (.node (o86 P) (.node (o154 P) (.node (o284 P) .nil .nil) .nil) (.node (o218 P) (.node (o352 P) .nil .nil) .nil)) (.node (o120 P) (.node (o186 P) (.node (o320 P) .nil .nil) .nil) (.node (o252 P) .nil .nil))))) (.node (o2 P) (.node (o13 P) (.node (o32 P) (.node (o66 P) (.node (o132 P) (.node (o264 P) .nil .nil) .nil) (.node (o198 P) (.node (o332 P) .nil .nil) .nil)) (.node (o98 P) (.node (o166 P) (.node (o298 P) .nil .nil) .nil) (.node (o230 P) (.node (o364 P) .nil .nil) .nil))) (.node (o48 P) (.node (o82 P) (.node (o148 P) (.node (o280 P) .nil .nil) .nil) (.node (o214 P) (.node (o348 P) .nil .nil) .nil)) (.node (o116 P) (.node (o182 P) (.node (o316 P) .nil .nil) .nil) (.node (o248 P) .nil .nil)))) (.node (o21 P) (.node (o40 P) (.node (o74 P) (.node (o140 P) (.node (o272 P) .nil .nil) .nil) (.node (o206 P) (.node (o340 P) .nil .nil) .nil)) (.node (o108 P) (.node (o174 P) (.node (o306 P) .nil .nil) .nil) (.node (o238 P) .nil .nil))) (.node (o58 P) (.node (o90 P) (.node (o158 P) (.node (o290 P) .nil .nil) .nil) (.node (o222 P) (.node (o356 P) .nil .nil) .nil)) (.node (o124 P) (.node (o190 P) (.node (o324 P) .nil .nil) .nil) (.node (o256 P) .nil .nil))))))) (.node (o4 P) (.node (boot_o_4 P) (.node (boot_o_8 P) (.node (o8 P) (.node (o24 P) (.node (o61 P) (.node (o127 P) (.node (o259 P) .nil .nil) .nil) (.node (o193 P) (.node (o327 P) .nil .nil) .nil)) (.node (o93 P) (.node (o161 P) (.node (o293 P) .nil .nil) .nil) (.node (o225 P) (.node (o359 P) .nil .nil) .nil))) (.node (o43 P) (.node (o77 P) (.node (o143 P) (.node (o275 P) .nil .nil) .nil) (.node (o209 P) (.node (o343 P) .nil .nil) .nil)) (.node (o111 P) (.node (o177 P) (.node (o309 P) .nil .nil) .nil) (.node (o243 P) .nil .nil)))) (.node (o16 P) (.node (o35 P) (.node (o69 P) (.node (o135 P) (.node (o267 P) .nil .nil) .nil) (.node (o201 P) (.node (o335 P) .nil .nil) .nil)) (.node (o103 P) (.node (o169 P) (.node (o301 P) .nil .nil) .nil) (.node (o233 P) (.node (o367 P) .nil .nil) .nil))) (.node (o53 P) (.node (o85 P) (.node (o151 P) (.node (o283 P) .nil .nil) .nil) (.node (o217 P) (.node (o351 P) .nil .nil) .nil)) (.node (o119 P) (.node (o185 P) (.node (o319 P) .nil .nil) .nil) (.node (o251 P) .nil .nil))))) (.node (o312 P) (.node (o12 P) (.node (o31 P) (.node (o65 P) (.node (o131 P) (.node (o263 P) .nil .nil) .nil) (.node (o197 P) (.node (o331 P) .nil .nil) .nil)) (.node (o97 P) (.node (o165 P) (.node (o297 P) .nil .nil) .nil) (.node (o229 P) (.node (o363 P) .nil .nil) .nil))) (.node (o47 P) (.node (o81 P) (.node (o147 P) (.node (o279 P) .nil .nil) .nil) (.node (o213 P) (.node (o347 P) .nil .nil) .nil)) (.node (o115 P) (.node (o181 P) (.node (o315 P) .nil .nil) .nil) (.node (o247 P) .nil .nil)))) (.node (o20 P) (.node (o39 P) (.node (o73 P) (.node (o139 P) (.node (o271 P) .nil .nil) .nil) (.node (o205 P) (.node (o339 P) .nil .nil) .nil)) (.node (o107 P) (.node (o173 P) (.node (o305 P) .nil .nil) .nil) (.node (o237 P) .nil .nil))) (.node (o57 P) (.node (o89 P) (.node (o157 P) (.node (o287 P) .nil .nil) .nil) (.node (o221 P) (.node (o355 P) .nil .nil) .nil)) (.node (o123 P) (.node (o189 P) (.node (o323 P) .nil .nil) .nil) (.node (o255 P) .nil .nil)))))) (.node (boot_o_6 P) (.node (boot_o_10 P) (.node (o10 P) (.node (o26 P) (.node (o63 P) (.node (o129 P) (.node (o261 P) .nil .nil) .nil) (.node (o195 P) (.node (o329 P) .nil .nil) .nil)) (.node (o95 P) (.node (o163 P) (.node (o295 P) .nil .nil) .nil) (.node (o227 P) (.node (o361 P) .nil .nil) .nil))) (.node (o45 P) (.node (o79 P) (.node (o145 P) (.node (o277 P) .nil .nil) .nil) (.node (o211 P) (.node (o345 P) .nil .nil) .nil)) (.node (o113 P) (.node (o179 P) (.node (o313 P) .nil .nil) .nil) (.node (o245 P) .nil .nil)))) (.node (o18 P) (.node (o37 P) (.node (o71 P) (.node (o137 P) (.node (o269 P) .nil .nil) .nil) (.node (o203 P) (.node (o337 P) .nil .nil) .nil)) (.node (o105 P) (.node (o171 P) (.node (o303 P) .nil .nil) .nil) (.node (o235 P) .nil .nil))) (.node (o55 P) (.node (o87 P) (.node (o155 P) (.node (o285 P) .nil .nil) .nil) (.node (o219 P) (.node (o353 P) .nil .nil) .nil)) (.node (o121 P) (.node (o187 P) (.node (o321 P) .nil .nil) .nil) (.node (o253 P) .nil .nil))))) (.node (o3 P) (.node (o14 P) (.node (o33 P) (.node (o67 P) (.node (o133 P) (.node (o265 P) .nil .nil) .nil) (.node (o199 P) (.node (o333 P) .nil .nil) .nil)) (.node (o99 P) (.node (o167 P) (.node (o299 P) .nil .nil) .nil) (.node (o231 P) (.node (o365 P) .nil .nil) .nil))) (.node (o51 P) (.node (o83 P) (.node (o149 P) (.node (o281 P) .nil .nil) .nil) (.node (o215 P) (.node (o349 P) .nil .nil) .nil)) (.node (o117 P) (.node (o183 P) (.node (o317 P) .nil .nil) .nil) (.node (o249 P) .nil .nil)))) (.node (o22 P) (.node (o41 P) (.node (o75 P) (.node (o141 P) (.node (o273 P) .nil .nil) .nil) (.node (o207 P) (.node (o341 P) .nil .nil) .nil)) (.node (o109 P) (.node (o175 P) (.node (o307 P) .nil .nil) .nil) (.node (o239 P) .nil .nil))) (.node (o59 P) (.node (o91 P) (.node (o159 P) (.node (o291 P) .nil .nil) .nil) (.node (o223 P) (.node (o357 P) .nil .nil) .nil)) (.node (o125 P) (.node (o191 P) (.node (o325 P) .nil .nil) .nil) (.node (o257 P) .nil .nil))))))))
noncomputable def tr9 (P : Params) : BT := (.node (boot_o_0 P) (.node (boot_o_1 P) (.node (o369 P) (.node (boot_o_7 P) (.node (o7 P) (.node (o29 P) (.node (o60 P) (.node (o126 P) (.node (o258 P) .nil .nil) (.node (o392 P) .nil .nil)) (.node (o192 P) (.node (o326 P) .nil .nil) .nil)) (.node (o92 P) (.node (o160 P) (.node (o292 P) .nil .nil) (.node (o424 P) .nil .nil)) (.node (o224 P) (.node (o358 P) .nil .nil) .nil))) (.node (o42 P) (.node (o76 P) (.node (o142 P) (.node (o274 P) .nil .nil) (.node (o408 P) .nil .nil)) (.node (o208 P) (.node (o342 P) .nil .nil) .nil)) (.node (o110 P) (.node (o176 P) (.node (o308 P) .nil .nil) (.node (o440 P) .nil .nil)) (.node (o242 P) (.node (o376 P) .nil .nil) .nil)))) (.node (o15 P) (.node (o34 P) (.node (o68 P) (.node (o134 P) (.node (o266 P) .nil .nil) (.node (o400 P) .nil .nil)) (.node (o200 P) (.node (o334 P) .nil .nil) .nil)) (.node (o102 P) (.node (o168 P) (.node (o300 P) .nil .nil) (.node (o432 P) .nil .nil)) (.node (o232 P) (.node (o366 P) .nil .nil) .nil))) (.node (o52 P) (.node (o84 P) (.node (o150 P) (.node (o282 P) .nil .nil) (.node (o416 P) .nil .nil)) (.node (o216 P) (.node (o350 P) .nil .nil) .nil)) (.node (o118 P) (.node (o184 P) (.node (o318 P) .nil .nil) .nil) (.node (o250 P) (.node (o384 P) .nil .nil) .nil))))) (.node (o0 P) (.node (o11 P) (.node (o30 P) (.node (o64 P) (.node (o130 P) (.node (o262 P) .nil .nil) (.node (o396 P) .nil .nil)) (.node (o196 P) (.node (o330 P) .nil .nil) .nil)) (.node (o96 P) (.node (o164 P) (.node (o296 P) .nil .nil) (.node (o428 P) .nil .nil)) (.node (o228 P) (.node (o362 P) .nil .nil) .nil))) (.node (o46 P) (.node (o80 P) (.node (o146 P) (.node (o278 P) .nil .nil) (.node (o412 P) .nil .nil)) (.node (o212 P) (.node (o346 P) .nil .nil) .nil)) (.node (o114 P) (.node (o180 P) (.node (o314 P) .nil .nil) (.node (o444 P) .nil .nil)) (.node (o246 P) (.node (o380 P) .nil .nil) .nil)))) (.node (o19 P) (.node (o38 P) (.node (o72 P) (.node (o138 P) (.node (o270 P) .nil .nil) (.node (o404 P) .nil .nil)) (.node (o204 P) (.node (o338 P) .nil .nil) .nil)) (.node (o106 P) (.node (o172 P) (.node (o304 P) .nil .nil) (.node (o436 P) .nil .nil)) (.node (o236 P) (.node (o372 P) .nil .nil) .nil))) (.node (o56 P) (.node (o88 P) (.node (o156 P) (.node (o286 P) .nil .nil) (.node (o420 P) .nil .nil)) (.node (o220 P) (.node (o354 P) .nil .nil) .nil)) (.node (o122 P) (.node (o188 P) (.node (o322 P) .nil .nil) .nil) (.node (o254 P) (.node (o388 P) .nil .nil) .nil)))))) (.node (boot_o_5 P) (.node (boot_o_9 P) (.node (o9 P) (.node (o25 P) (.node (o62 P) (.node (o128 P) (.node (o260 P) .nil .nil) (.node (o394 P) .nil .nil)) (.node (o194 P) (.node (o328 P) .nil .nil) .nil)) (.node (o94 P) (.node (o162 P) (.node (o294 P) .nil .nil) (.node (o426 P) .nil .nil)) (.node (o226 P) (.node (o360 P) .nil .nil) .nil))) (.node (o44 P) (.node (o78 P) (.node (o144 P) (.node (o276 P) .nil .nil) (.node (o410 P) .nil .nil)) (.node (o210 P) (.node (o344 P) .nil .nil) .nil)) (.node (o112 P) (.node (o178 P) (.node (o310 P) .nil .nil) (.node (o442 P) .nil .nil)) (.node (o244 P) (.node (o378 P) .nil .nil) .nil)))) (.node (o17 P) (.node (o36 P) (.node (o70 P) (.node (o136 P) (.node (o268 P) .nil .nil) (.node (o402 P) .nil .nil)) (.node (o202 P) (.node (o336 P) .nil .nil) .nil)) (.node (o104 P) (.node (o170 P) (.node (o302 P) .nil .nil) (.node (o434 P) .nil .nil)) (.node (o234 P) (.node (o368 P) .nil .nil) .nil))) (.node (o54 P) (.node (o86 P) (.node (o154 P) (.node (o284 P) .nil .nil) (.node (o418 P) .nil .nil)) (.node (o218 P) (.node (o352 P) .nil .nil) .nil)) (.node (o120 P) (.node (o186 P) (.node (o320 P) .nil .nil) .nil) (.node (o252 P) (.node (o386 P) .nil .nil) .nil))))) (.node (o2 P) (.node (o13 P) (.node (o32 P) (.node (o66 P) (.node (o132 P) (.node (o264 P) .nil .nil) (.node (o398 P) .nil .nil)) (.node (o198 P) (.node (o332 P) .nil .nil) .nil)) (.node (o98 P) (.node (o166 P) (.node (o298 P) .nil .nil) (.node (o430 P) .nil .nil)) (.node (o230 P) (.node (o364 P) .nil .nil) .nil))) (.node (o48 P) (.node (o82 P) (.node (o148 P) (.node (o280 P) .nil .nil) (.node (o414 P) .nil .nil)) (.node (o214 P) (.node (o348 P) .nil .nil) .nil)) (.node (o116 P) (.node (o182 P) (.node (o316 P) .nil .nil) (.node (o446 P) .nil .nil)) (.node (o248 P) (.node (o382 P) .nil .nil) .nil)))) (.node (o21 P) (.node (o40 P) (.node (o74 P) (.node (o140 P) (.node (o272 P) .nil .nil) (.node (o406 P) .nil .nil)) (.node (o206 P) (.node (o340 P) .nil .nil) .nil)) (.node (o108 P) (.node (o174 P) (.node (o306 P) .nil .nil) (.node (o438 P) .nil .nil)) (.node (o238 P) (.node (o374 P) .nil .nil) .nil))) (.node (o58 P) (.node (o90 P) (.node (o158 P) (.node (o290 P) .nil .nil) (.node (o422 P) .nil .nil)) (.node (o222 P) (.node (o356 P) .nil .nil) .nil)) (.node (o124 P) (.node (o190 P) (.node (o324 P) .nil .nil) .nil) (.node (o256 P) (.node (o390 P) .nil .nil) .nil))))))) (.node (o4 P) (.node (boot_o_4 P) (.node (boot_o_8 P) (.node (o8 P) (.node (o24 P) (.node (o61 P) (.node (o127 P) (.node (o259 P) .nil .nil) (.node (o393 P) .nil .nil)) (.node (o193 P) (.node (o327 P) .nil .nil) .nil)) (.node (o93 P) (.node (o161 P) (.node (o293 P) .nil .nil) (.node (o425 P) .nil .nil)) (.node (o225 P) (.node (o359 P) .nil .nil) .nil))) (.node (o43 P) (.node (o77 P) (.node (o143 P) (.node (o275 P) .nil .nil) (.node (o409 P) .nil .nil)) (.node (o209 P) (.node (o343 P) .nil .nil) .nil)) (.node (o111 P) (.node (o177 P) (.node (o309 P) .nil .nil) (.node (o441 P) .nil .nil)) (.node (o243 P) (.node (o377 P) .nil .nil) .nil)))) (.node (o16 P) (.node (o35 P) (.node (o69 P) (.node (o135 P) (.node (o267 P) .nil .nil) (.node (o401 P) .nil .nil)) (.node (o201 P) (.node (o335 P) .nil .nil) .nil)) (.node (o103 P) (.node (o169 P) (.node (o301 P) .nil .nil) (.node (o433 P) .nil .nil)) (.node (o233 P) (.node (o367 P) .nil .nil) .nil))) (.node (o53 P) (.node (o85 P) (.node (o151 P) (.node (o283 P) .nil .nil) (.node (o417 P) .nil .nil)) (.node (o217 P) (.node (o351 P) .nil .nil) .nil)) (.node (o119 P) (.node (o185 P) (.node (o319 P) .nil .nil) .nil) (.node (o251 P) (.node (o385 P) .nil .nil) .nil))))) (.node (o370 P) (.node (o12 P) (.node (o31 P) (.node (o65 P) (.node (o131 P) (.node (o263 P) .nil .nil) (.node (o397 P) .nil .nil)) (.node (o197 P) (.node (o331 P) .nil .nil) .nil)) (.node (o97 P) (.node (o165 P) (.node (o297 P) .nil .nil) (.node (o429 P) .nil .nil)) (.node (o229 P) (.node (o363 P) .nil .nil) .nil))) (.node (o47 P) (.node (o81 P) (.node (o147 P) (.node (o279 P) .nil .nil) (.node (o413 P) .nil .nil)) (.node (o213 P) (.node (o347 P) .nil .nil) .nil)) (.node (o115 P) (.node (o181 P) (.node (o315 P) .nil .nil) (.node (o445 P) .nil .nil)) (.node (o247 P) (.node (o381 P) .nil .nil) .nil)))) (.node (o20 P) (.node (o39 P) (.node (o73 P) (.node (o139 P) (.node (o271 P) .nil .nil) (.node (o405 P) .nil .nil)) (.node (o205 P) (.node (o339 P) .nil .nil) .nil)) (.node (o107 P) (.node (o173 P) (.node (o305 P) .nil .nil) (.node (o437 P) .nil .nil)) (.node (o237 P) (.node (o373 P) .nil .nil) .nil))) (.node (o57 P) (.node (o89 P) (.node (o157 P) (.node (o287 P) .nil .nil) (.node (o421 P) .nil .nil)) (.node (o221 P) (.node (o355 P) .nil .nil) .nil)) (.node (o123 P) (.node (o189 P) (.node (o323 P) .nil .nil) .nil) (.node (o255 P) (.node (o389 P) .nil .nil) .nil)))))) (.node (boot_o_6 P) (.node (boot_o_10 P) (.node (o10 P) (.node (o26 P) (.node (o63 P) (.node (o129 P) (.node (o261 P) .nil .nil) (.node (o395 P) .nil .nil)) (.node (o195 P) (.node (o329 P) .nil .nil) .nil)) (.node (o95 P) (.node (o163 P) (.node (o295 P) .nil .nil) (.node (o427 P) .nil .nil)) (.node (o227 P) (.node (o361 P) .nil .nil) .nil))) (.node (o45 P) (.node (o79 P) (.node (o145 P) (.node (o277 P) .nil .nil) (.node (o411 P) .nil .nil)) (.node (o211 P) (.node (o345 P) .nil .nil) .nil)) (.node (o113 P) (.node (o179 P) (.node (o313 P) .nil .nil) (.node (o443 P) .nil .nil)) (.node (o245 P) (.node (o379 P) .nil .nil) .nil)))) (.node (o18 P) (.node (o37 P) (.node (o71 P) (.node (o137 P) (.node (o269 P) .nil .nil) (.node (o403 P) .nil .nil)) (.node (o203 P) (.node (o337 P) .nil .nil) .nil)) (.node (o105 P) (.node (o171 P) (.node (o303 P) .nil .nil) (.node (o435 P) .nil .nil)) (.node (o235 P) (.node (o371 P) .nil .nil) .nil))) (.node (o55 P) (.node (o87 P) (.node (o155 P) (.node (o285 P) .nil .nil) (.node (o419 P) .nil .nil)) (.node (o219 P) (.node (o353 P) .nil .nil) .nil)) (.node (o121 P) (.node (o187 P) (.node (o321 P) .nil .nil) .nil) (.node (o253 P) (.node (o387 P) .nil .nil) .nil))))) (.node (o3 P) (.node (o14 P) (.node (o33 P) (.node (o67 P) (.node (o133 P) (.node (o265 P) .nil .nil) (.node (o399 P) .nil .nil)) (.node (o199 P) (.node (o333 P) .nil .nil) .nil)) (.node (o99 P) (.node (o167 P) (.node (o299 P) .nil .nil) (.node (o431 P) .nil .nil)) (.node (o231 P) (.node (o365 P) .nil .nil) .nil))) (.node (o51 P) (.node (o83 P) (.node (o149 P) (.node (o281 P) .nil .nil) (.node (o415 P) .nil .nil)) (.node (o215 P) (.node (o349 P) .nil .nil) .nil)) (.node (o117 P) (.node (o183 P) (.node (o317 P) .nil .nil) (.node (o447 P) .nil .nil)) (.node (o249 P) (.node (o383 P) .nil .nil) .nil)))) (.node (o22 P) (.node (o41 P) (.node (o75 P) (.node (o141 P) (.node (o273 P) .nil .nil) (.node (o407 P) .nil .nil)) (.node (o207 P) (.node (o341 P) .nil .nil) .nil)) (.node (o109 P) (.node (o175 P) (.node (o307 P) .nil .nil) (.node (o439 P) .nil .nil)) (.node (o239 P) (.node (o375 P) .nil .nil) .nil))) (.node (o59 P) (.node (o91 P) (.node (o159 P) (.node (o291 P) .nil .nil) (.node (o423 P) .nil .nil)) (.node (o223 P) (.node (o357 P) .nil .nil) .nil)) (.node (o125 P) (.node (o191 P) (.node (o325 P) .nil .nil) .nil) (.node (o257 P) (.node (o391 P) .nil .nil) .nil))))))))
noncomputable def tr10 (P : Params) : BT := (.node (boot_o_0 P) (.node (boot_o_1 P) (.node (o448 P) (.node (boot_o_7 P) (.node (o7 P) (.node (o29 P) (.node (o60 P) (.node (o126 P) (.node (o258 P) .nil .nil) (.node (o392 P) .nil .nil)) (.node (o192 P) (.node (o326 P) .nil .nil) (.node (o458 P) .nil .nil))) (.node (o92 P) (.node (o160 P) (.node (o292 P) .nil .nil) (.node (o424 P) .nil .nil)) (.node (o224 P) (.node (o358 P) .nil .nil) .nil))) (.node (o42 P) (.node (o76 P) (.node (o142 P) (.node (o274 P) .nil .nil) (.node (o408 P) .nil .nil)) (.node (o208 P) (.node (o342 P) .nil .nil) .nil)) (.node (o110 P) (.node (o176 P) (.node (o308 P) .nil .nil) (.node (o440 P) .nil .nil)) (.node (o242 P) (.node (o376 P) .nil .nil) .nil)))) (.node (o15 P) (.node (o34 P) (.node (o68 P) (.node (o134 P) (.node (o266 P) .nil .nil) (.node (o400 P) .nil .nil)) (.node (o200 P) (.node (o334 P) .nil .nil) (.node (o466 P) .nil .nil))) (.node (o102 P) (.node (o168 P) (.node (o300 P) .nil .nil) (.node (o432 P) .nil .nil)) (.node (o232 P) (.node (o366 P) .nil .nil) .nil))) (.node (o52 P) (.node (o84 P) (.node (o150 P) (.node (o282 P) .nil .nil) (.node (o416 P) .nil .nil)) (.node (o216 P) (.node (o350 P) .nil .nil) .nil)) (.node (o118 P) (.node (o184 P) (.node (o318 P) .nil .nil) (.node (o450 P) .nil .nil)) (.node (o250 P) (.node (o384 P) .nil .nil) .nil))))) (.node (o0 P) (.node (o11 P) (.node (o30 P) (.node (o64 P) (.node (o130 P) (.node (o262 P) .nil .nil) (.node (o396 P) .nil .nil)) (.node (o196 P) (.node (o330 P) .nil .nil) (.node (o462 P) .nil .nil))) (.node (o96 P) (.node (o164 P) (.node (o296 P) .nil .nil) (.node (o428 P) .nil .nil)) (.node (o228 P) (.node (o362 P) .nil .nil) .nil))) (.node (o46 P) (.node (o80 P) (.node (o146 P) (.node (o278 P) .nil .nil) (.node (o412 P) .nil .nil)) (.node (o212 P) (.node (o346 P) .nil .nil) .nil)) (.node (o114 P) (.node (o180 P) (.node (o314 P) .nil .nil) (.node (o444 P) .nil .nil)) (.node (o246 P) (.node (o380 P) .nil .nil) .nil)))) (.node (o19 P) (.node (o38 P) (.node (o72 P) (.node (o138 P) (.node (o270 P) .nil .nil) (.node (o404 P) .nil .nil)) (.node (o204 P) (.node (o338 P) .nil .nil) (.node (o470 P) .nil .nil))) (.node (o106 P) (.node (o172 P) (.node (o304 P) .nil .nil) (.node (o436 P) .nil .nil)) (.node (o236 P) (.node (o372 P) .nil .nil) .nil))) (.node (o56 P) (.node (o88 P) (.node (o156 P) (.node (o286 P) .nil .nil) (.node (o420 P) .nil .nil)) (.node (o220 P) (.node (o354 P) .nil .nil) .nil)) (.node (o122 P) (.node (o188 P) (.node (o322 P) .nil .nil) (.node (o454 P) .nil .nil)) (.node (o254 P) (.node (o388 P) .nil .nil) .nil)))))) (.node (boot_o_5 P) (.node (boot_o_9 P) (.node (o9 P) (.node (o25 P) (.node (o62 P) (.node (o128 P) (.node (o260 P) .nil .nil) (.node (o394 P) .nil .nil)) (.node (o194 P) (.node (o328 P) .nil .nil) (.node (o460 P) .nil .nil))) (.node (o94 P) (.node (o162 P) (.node (o294 P) .nil .nil) (.node (o426 P) .nil .nil)) (.node (o226 P) (.node (o360 P) .nil .nil) .nil))) (.node (o44 P) (.node (o78 P) (.node (o144 P) (.node (o276 P) .nil .nil) (.node (o410 P) .nil .nil)) (.node (o210 P) (.node (o344 P) .nil .nil) .nil)) (.node (o112 P) (.node (o178 P) (.node (o310 P) .nil .nil) (.node (o442 P) .nil .nil)) (.node (o244 P) (.node (o378 P) .nil .nil) .nil)))) (.node (o17 P) (.node (o36 P) (.node (o70 P) (.node (o136 P) (.node (o268 P) .nil .nil) (.node (o402 P) .nil .nil)) (.node (o202 P) (.node (o336 P) .nil .nil) (.node (o468 P) .nil .nil))) (.node (o104 P) (.node (o170 P) (.node (o302 P) .nil .nil) (.node (o434 P) .nil .nil)) (.node (o234 P) (.node (o368 P) .nil .nil) .nil))) (.node (o54 P) (.node (o86 P) (.node (o154 P) (.node (o284 P) .nil .nil) (.node (o418 P) .nil .nil)) (.node (o218 P) (.node (o352 P) .nil .nil) .nil)) (.node (o120 P) (.node (o186 P) (.node (o320 P) .nil .nil) (.node (o452 P) .nil .nil)) (.node (o252 P) (.node (o386 P) .nil .nil) .nil))))) (.node (o2 P) (.node (o13 P) (.node (o32 P) (.node (o66 P) (.node (o132 P) (.node (o264 P) .nil .nil) (.node (o398 P) .nil .nil)) (.node (o198 P) (.node (o332 P) .nil .nil) (.node (o464 P) .nil .nil))) (.node (o98 P) (.node (o166 P) (.node (o298 P) .nil .nil) (.node (o430 P) .nil .nil)) (.node (o230 P) (.node (o364 P) .nil .nil) .nil))) (.node (o48 P) (.node (o82 P) (.node (o148 P) (.node (o280 P) .nil .nil) (.node (o414 P) .nil .nil)) (.node (o214 P) (.node (o348 P) .nil .nil) .nil)) (.node (o116 P) (.node (o182 P) (.node (o316 P) .nil .nil) (.node (o446 P) .nil .nil)) (.node (o248 P) (.node (o382 P) .nil .nil) .nil)))) (.node (o21 P) (.node (o40 P) (.node (o74 P) (.node (o140 P) (.node (o272 P) .nil .nil) (.node (o406 P) .nil .nil)) (.node (o206 P) (.node (o340 P) .nil .nil) .nil)) (.node (o108 P) (.node (o174 P) (.node (o306 P) .nil .nil) (.node (o438 P) .nil .nil)) (.node (o238 P) (.node (o374 P) .nil .nil) .nil))) (.node (o58 P) (.node (o90 P) (.node (o158 P) (.node (o290 P) .nil .nil) (.node (o422 P) .nil .nil)) (.node (o222 P) (.node (o356 P) .nil .nil) .nil)) (.node (o124 P) (.node (o190 P) (.node (o324 P) .nil .nil) (.node (o456 P) .nil .nil)) (.node (o256 P) (.node (o390 P) .nil .nil) .nil))))))) (.node (o4 P) (.node (boot_o_4 P) (.node (boot_o_8 P) (.node (o8 P) (.node (o24 P) (.node (o61 P) (.node (o127 P) (.node (o259 P) .nil .nil) (.node (o393 P) .nil .nil)) (.node (o193 P) (.node (o327 P) .nil .nil) (.node (o459 P) .nil .nil))) (.node (o93 P) (.node (o161 P) (.node (o293 P) .nil .nil) (.node (o425 P) .nil .nil)) (.node (o225 P) (.node (o359 P) .nil .nil) .nil))) (.node (o43 P) (.node (o77 P) (.node (o143 P) (.node (o275 P) .nil .nil) (.node (o409 P) .nil .nil)) (.node (o209 P) (.node (o343 P) .nil .nil) .nil)) (.node (o111 P) (.node (o177 P) (.node (o309 P) .nil .nil) (.node (o441 P) .nil .nil)) (.node (o243 P) (.node (o377 P) .nil .nil) .nil)))) (.node (o16 P) (.node (o35 P) (.node (o69 P) (.node (o135 P) (.node (o267 P) .nil .nil) (.node (o401 P) .nil .nil)) (.node (o201 P) (.node (o335 P) .nil .nil) (.node (o467 P) .nil .nil))) (.node (o103 P) (.node (o169 P) (.node (o301 P) .nil .nil) (.node (o433 P) .nil .nil)) (.node (o233 P) (.node (o367 P) .nil .nil) .nil))) (.node (o53 P) (.node (o85 P) (.node (o151 P) (.node (o283 P) .nil .nil) (.node (o417 P) .nil .nil)) (.node (o217 P) (.node (o351 P) .nil .nil) .nil)) (.node (o119 P) (.node (o185 P) (.node (o319 P) .nil .nil) (.node (o451 P) .nil .nil)) (.node (o251 P) (.node (o385 P) .nil .nil) .nil))))) (.node (o449 P) (.node (o12 P) (.node (o31 P) (.node (o65 P) (.node (o131 P) (.node (o263 P) .nil .nil) (.node (o397 P) .nil .nil)) (.node (o197 P) (.node (o331 P) .nil .nil) (.node (o463 P) .nil .nil))) (.node (o97 P) (.node (o165 P) (.node (o297 P) .nil .nil) (.node (o429 P) .nil .nil)) (.node (o229 P) (.node (o363 P) .nil .nil) .nil))) (.node (o47 P) (.node (o81 P) (.node (o147 P) (.node (o279 P) .nil .nil) (.node (o413 P) .nil .nil)) (.node (o213 P) (.node (o347 P) .nil .nil) .nil)) (.node (o115 P) (.node (o181 P) (.node (o315 P) .nil .nil) (.node (o445 P) .nil .nil)) (.node (o247 P) (.node (o381 P) .nil .nil) .nil)))) (.node (o20 P) (.node (o39 P) (.node (o73 P) (.node (o139 P) (.node (o271 P) .nil .nil) (.node (o405 P) .nil .nil)) (.node (o205 P) (.node (o339 P) .nil .nil) .nil)) (.node (o107 P) (.node (o173 P) (.node (o305 P) .nil .nil) (.node (o437 P) .nil .nil)) (.node (o237 P) (.node (o373 P) .nil .nil) .nil))) (.node (o57 P) (.node (o89 P) (.node (o157 P) (.node (o287 P) .nil .nil) (.node (o421 P) .nil .nil)) (.node (o221 P) (.node (o355 P) .nil .nil) .nil)) (.node (o123 P) (.node (o189 P) (.node (o323 P) .nil .nil) (.node (o455 P) .nil .nil)) (.node (o255 P) (.node (o389 P) .nil .nil) .nil)))))) (.node (boot_o_6 P) (.node (boot_o_10 P) (.node (o10 P) (.node (o26 P) (.node (o63 P) (.node (o129 P) (.node (o261 P) .nil .nil) (.node (o395 P) .nil .nil)) (.node (o195 P) (.node (o329 P) .nil .nil) (.node (o461 P) .nil .nil))) (.node (o95 P) (.node (o163 P) (.node (o295 P) .nil .nil) (.node (o427 P) .nil .nil)) (.node (o227 P) (.node (o361 P) .nil .nil) .nil))) (.node (o45 P) (.node (o79 P) (.node (o145 P) (.node (o277 P) .nil .nil) (.node (o411 P) .nil .nil)) (.node (o211 P) (.node (o345 P) .nil .nil) .nil)) (.node (o113 P) (.node (o179 P) (.node (o313 P) .nil .nil) (.node (o443 P) .nil .nil)) (.node (o245 P) (.node (o379 P) .nil .nil) .nil)))) (.node (o18 P) (.node (o37 P) (.node (o71 P) (.node (o137 P) (.node (o269 P) .nil .nil) (.node (o403 P) .nil .nil)) (.node (o203 P) (.node (o337 P) .nil .nil) (.node (o469 P) .nil .nil))) (.node (o105 P) (.node (o171 P) (.node (o303 P) .nil .nil) (.node (o435 P) .nil .nil)) (.node (o235 P) (.node (o371 P) .nil .nil) .nil))) (.node (o55 P) (.node (o87 P) (.node (o155 P) (.node (o285 P) .nil .nil) (.node (o419 P) .nil .nil)) (.node (o219 P) (.node (o353 P) .nil .nil) .nil)) (.node (o121 P) (.node (o187 P) (.node (o321 P) .nil .nil) (.node (o453 P) .nil .nil)) (.node (o253 P) (.node (o387 P) .nil .nil) .nil))))) (.node (o3 P) (.node (o14 P) (.node (o33 P) (.node (o67 P) (.node (o133 P) (.node (o265 P) .nil .nil) (.node (o399 P) .nil .nil)) (.node (o199 P) (.node (o333 P) .nil .nil) (.node (o465 P) .nil .nil))) (.node (o99 P) (.node (o167 P) (.node (o299 P) .nil .nil) (.node (o431 P) .nil .nil)) (.node (o231 P) (.node (o365 P) .nil .nil) .nil))) (.node (o51 P) (.node (o83 P) (.node (o149 P) (.node (o281 P) .nil .nil) (.node (o415 P) .nil .nil)) (.node (o215 P) (.node (o349 P) .nil .nil) .nil)) (.node (o117 P) (.node (o183 P) (.node (o317 P) .nil .nil) (.node (o447 P) .nil .nil)) (.node (o249 P) (.node (o383 P) .nil .nil) .nil)))) (.node (o22 P) (.node (o41 P) (.node (o75 P) (.node (o141 P) (.node (o273 P) .nil .nil) (.node (o407 P) .nil .nil)) (.node (o207 P) (.node (o341 P) .nil .nil) .nil)) (.node (o109 P) (.node (o175 P) (.node (o307 P) .nil .nil) (.node (o439 P) .nil .nil)) (.node (o239 P) (.node (o375 P) .nil .nil) .nil))) (.node (o59 P) (.node (o91 P) (.node (o159 P) (.node (o291 P) .nil .nil) (.node (o423 P) .nil .nil)) (.node (o223 P) (.node (o357 P) .nil .nil) .nil)) (.node (o125 P) (.node (o191 P) (.node (o325 P) .nil .nil) (.node (o457 P) .nil .nil)) (.node (o257 P) (.node (o391 P) .nil .nil) .nil))))))))
noncomputable def tr11 (P : Params) : BT := (.node (boot_o_0 P) (.node (boot_o_1 P) (.node (o471 P) (.node (boot_o_7 P) (.node (o7 P) (.node (o29 P) (.node (o60 P) (.node (o126 P) (.node (o258 P) .nil .nil) (.node (o392 P) .nil .nil)) (.node (o192 P) (.node (o326 P) .nil .nil) (.node (o458 P) .nil .nil))) (.node (o92 P) (.node (o160 P) (.node (o292 P) .nil .nil) (.node (o424 P) .nil .nil)) (.node (o224 P) (.node (o358 P) .nil .nil) (.node (o492 P) .nil .nil)))) (.node (o42 P) (.node (o76 P) (.node (o142 P) (.node (o274 P) .nil .nil) (.node (o408 P) .nil .nil)) (.node (o208 P) (.node (o342 P) .nil .nil) (.node (o476 P) .nil .nil))) (.node (o110 P) (.node (o176 P) (.node (o308 P) .nil .nil) (.node (o440 P) .nil .nil)) (.node (o242 P) (.node (o376 P) .nil .nil) (.node (o508 P) .nil .nil))))) (.node (o15 P) (.node (o34 P) (.node (o68 P) (.node (o134 P) (.node (o266 P) .nil .nil) (.node (o400 P) .nil .nil)) (.node (o200 P) (.node (o334 P) .nil .nil) (.node (o466 P) .nil .nil))) (.node (o102 P) (.node (o168 P) (.node (o300 P) .nil .nil) (.node (o432 P) .nil .nil)) (.node (o232 P) (.node (o366 P) .nil .nil) (.node (o500 P) .nil .nil)))) (.node (o52 P) (.node (o84 P) (.node (o150 P) (.node (o282 P) .nil .nil) (.node (o416 P) .nil .nil)) (.node (o216 P) (.node (o350 P) .nil .nil) (.node (o484 P) .nil .nil))) (.node (o118 P) (.node (o184 P) (.node (o318 P) .nil .nil) (.node (o450 P) .nil .nil)) (.node (o250 P) (.node (o384 P) .nil .nil) .nil))))) (.node (o0 P) (.node (o11 P) (.node (o30 P) (.node (o64 P) (.node (o130 P) (.node (o262 P) .nil .nil) (.node (o396 P) .nil .nil)) (.node (o196 P) (.node (o330 P) .nil .nil) (.node (o462 P) .nil .nil))) (.node (o96 P) (.node (o164 P) (.node (o296 P) .nil .nil) (.node (o428 P) .nil .nil)) (.node (o228 P) (.node (o362 P) .nil .nil) (.node (o496 P) .nil .nil)))) (.node (o46 P) (.node (o80 P) (.node (o146 P) (.node (o278 P) .nil .nil) (.node (o412 P) .nil .nil)) (.node (o212 P) (.node (o346 P) .nil .nil) (.node (o480 P) .nil .nil))) (.node (o114 P) (.node (o180 P) (.node (o314 P) .nil .nil) (.node (o444 P) .nil .nil)) (.node (o246 P) (.node (o380 P) .nil .nil) (.node (o512 P) .nil .nil))))) (.node (o19 P) (.node (o38 P) (.node (o72 P) (.node (o138 P) (.node (o270 P) .nil .nil) (.node (o404 P) .nil .nil)) (.node (o204 P) (.node (o338 P) .nil .nil) (.node (o470 P) .nil .nil))) (.node (o106 P) (.node (o172 P) (.node (o304 P) .nil .nil) (.node (o436 P) .nil .nil)) (.node (o236 P) (.node (o372 P) .nil .nil) (.node (o504 P) .nil .nil)))) (.node (o56 P) (.node (o88 P) (.node (o156 P) (.node (o286 P) .nil .nil) (.node (o420 P) .nil .nil)) (.node (o220 P) (.node (o354 P) .nil .nil) (.node (o488 P) .nil .nil))) (.node (o122 P) (.node (o188 P) (.node (o322 P) .nil .nil) (.node (o454 P) .nil .nil)) (.node (o254 P) (.node (o388 P) .nil .nil) .nil)))))) (.node (boot_o_5 P) (.node (boot_o_9 P) (.node (o9 P) (.node (o25 P) (.node (o62 P) (.node (o128 P) (.node (o260 P) .nil .nil) (.node (o394 P) .nil .nil)) (.node (o194 P) (.node (o328 P) .nil .nil) (.node (o460 P) .nil .nil))) (.node (o94 P) (.node (o162 P) (.node (o294 P) .nil .nil) (.node (o426 P) .nil .nil)) (.node (o226 P) (.node (o360 P) .nil .nil) (.node (o494 P) .nil .nil)))) (.node (o44 P) (.node (o78 P) (.node (o144 P) (.node (o276 P) .nil .nil) (.node (o410 P) .nil .nil)) (.node (o210 P) (.node (o344 P) .nil .nil) (.node (o478 P) .nil .nil))) (.node (o112 P) (.node (o178 P) (.node (o310 P) .nil .nil) (.node (o442 P) .nil .nil)) (.node (o244 P) (.node (o378 P) .nil .nil) (.node (o510 P) .nil .nil))))) (.node (o17 P) (.node (o36 P) (.node (o70 P) (.node (o136 P) (.node (o268 P) .nil .nil) (.node (o402 P) .nil .nil)) (.node (o202 P) (.node (o336 P) .nil .nil) (.node (o468 P) .nil .nil))) (.node (o104 P) (.node (o170 P) (.node (o302 P) .nil .nil) (.node (o434 P) .nil .nil)) (.node (o234 P) (.node (o368 P) .nil .nil) (.node (o502 P) .nil .nil)))) (.node (o54 P) (.node (o86 P) (.node (o154 P) (.node (o284 P) .nil .nil) (.node (o418 P) .nil .nil)) (.node (o218 P) (.node (o352 P) .nil .nil) (.node (o486 P) .nil .nil))) (.node (o120 P) (.node (o186 P) (.node (o320 P) .nil .nil) (.node (o452 P) .nil .nil)) (.node (o252 P) (.node (o386 P) .nil .nil) .nil))))) (.node (o2 P) (.node (o13 P) (.node (o32 P) (.node (o66 P) (.node (o132 P) (.node (o264 P) .nil .nil) (.node (o398 P) .nil .nil)) (.node (o198 P) (.node (o332 P) .nil .nil) (.node (o464 P) .nil .nil))) (.node (o98 P) (.node (o166 P) (.node (o298 P) .nil .nil) (.node (o430 P) .nil .nil)) (.node (o230 P) (.node (o364 P) .nil .nil) (.node (o498 P) .nil .nil)))) (.node (o48 P) (.node (o82 P) (.node (o148 P) (.node (o280 P) .nil .nil) (.node (o414 P) .nil .nil)) (.node (o214 P) (.node (o348 P) .nil .nil) (.node (o482 P) .nil .nil))) (.node (o116 P) (.node (o182 P) (.node (o316 P) .nil .nil) (.node (o446 P) .nil .nil)) (.node (o248 P) (.node (o382 P) .nil .nil) (.node (o514 P) .nil .nil))))) (.node (o21 P) (.node (o40 P) (.node (o74 P) (.node (o140 P) (.node (o272 P) .nil .nil) (.node (o406 P) .nil .nil)) (.node (o206 P) (.node (o340 P) .nil .nil) (.node (o474 P) .nil .nil))) (.node (o108 P) (.node (o174 P) (.node (o306 P) .nil .nil) (.node (o438 P) .nil .nil)) (.node (o238 P) (.node (o374 P) .nil .nil) (.node (o506 P) .nil .nil)))) (.node (o58 P) (.node (o90 P) (.node (o158 P) (.node (o290 P) .nil .nil) (.node (o422 P) .nil .nil)) (.node (o222 P) (.node (o356 P) .nil .nil) (.node (o490 P) .nil .nil))) (.node (o124 P) (.node (o190 P) (.node (o324 P) .nil .nil) (.node (o456 P) .nil .nil)) (.node (o256 P) (.node (o390 P) .nil .nil) .nil))))))) (.node (o4 P) (.node (boot_o_4 P) (.node (boot_o_8 P) (.node (o8 P) (.node (o24 P) (.node (o61 P) (.node (o127 P) (.node (o259 P) .nil .nil) (.node (o393 P) .nil .nil)) (.node (o193 P) (.node (o327 P) .nil .nil) (.node (o459 P) .nil .nil))) (.node (o93 P) (.node (o161 P) (.node (o293 P) .nil .nil) (.node (o425 P) .nil .nil)) (.node (o225 P) (.node (o359 P) .nil .nil) (.node (o493 P) .nil .nil)))) (.node (o43 P) (.node (o77 P) (.node (o143 P) (.node (o275 P) .nil .nil) (.node (o409 P) .nil .nil)) (.node (o209 P) (.node (o343 P) .nil .nil) (.node (o477 P) .nil .nil))) (.node (o111 P) (.node (o177 P) (.node (o309 P) .nil .nil) (.node (o441 P) .nil .nil)) (.node (o243 P) (.node (o377 P) .nil .nil) (.node (o509 P) .nil .nil))))) (.node (o16 P) (.node (o35 P) (.node (o69 P) (.node (o135 P) (.node (o267 P) .nil .nil) (.node (o401 P) .nil .nil)) (.node (o201 P) (.node (o335 P) .nil .nil) (.node (o467 P) .nil .nil))) (.node (o103 P) (.node (o169 P) (.node (o301 P) .nil .nil) (.node (o433 P) .nil .nil)) (.node (o233 P) (.node (o367 P) .nil .nil) (.node (o501 P) .nil .nil)))) (.node (o53 P) (.node (o85 P) (.node (o151 P) (.node (o283 P) .nil .nil) (.node (o417 P) .nil .nil)) (.node (o217 P) (.node (o351 P) .nil .nil) (.node (o485 P) .nil .nil))) (.node (o119 P) (.node (o185 P) (.node (o319 P) .nil .nil) (.node (o451 P) .nil .nil)) (.node (o251 P) (.node (o385 P) .nil .nil) .nil))))) (.node (o472 P) (.node (o12 P) (.node (o31 P) (.node (o65 P) (.node (o131 P) (.node (o263 P) .nil .nil) (.node (o397 P) .nil .nil)) (.node (o197 P) (.node (o331 P) .nil .nil) (.node (o463 P) .nil .nil))) (.node (o97 P) (.node (o165 P) (.node (o297 P) .nil .nil) (.node (o429 P) .nil .nil)) (.node (o229 P) (.node (o363 P) .nil .nil) (.node (o497 P) .nil .nil)))) (.node (o47 P) (.node (o81 P) (.node (o147 P) (.node (o279 P) .nil .nil) (.node (o413 P) .nil .nil)) (.node (o213 P) (.node (o347 P) .nil .nil) (.node (o481 P) .nil .nil))) (.node (o115 P) (.node (o181 P) (.node (o315 P) .nil .nil) (.node (o445 P) .nil .nil)) (.node (o247 P) (.node (o381 P) .nil .nil) (.node (o513 P) .nil .nil))))) (.node (o20 P) (.node (o39 P) (.node (o73 P) (.node (o139 P) (.node (o271 P) .nil .nil) (.node (o405 P) .nil .nil)) (.node (o205 P) (.node (o339 P) .nil .nil) (.node (o473 P) .nil .nil))) (.node (o107 P) (.node (o173 P) (.node (o305 P) .nil .nil) (.node (o437 P) .nil .nil)) (.node (o237 P) (.node (o373 P) .nil .nil) (.node (o505 P) .nil .nil)))) (.node (o57 P) (.node (o89 P) (.node (o157 P) (.node (o287 P) .nil .nil) (.node (o421 P) .nil .nil)) (.node (o221 P) (.node (o355 P) .nil .nil) (.node (o489 P) .nil .nil))) (.node (o123 P) (.node (o189 P) (.node (o323 P) .nil .nil) (.node (o455 P) .nil .nil)) (.node (o255 P) (.node (o389 P) .nil .nil) .nil)))))) (.node (boot_o_6 P) (.node (boot_o_10 P) (.node (o10 P) (.node (o26 P) (.node (o63 P) (.node (o129 P) (.node (o261 P) .nil .nil) (.node (o395 P) .nil .nil)) (.node (o195 P) (.node (o329 P) .nil .nil) (.node (o461 P) .nil .nil))) (.node (o95 P) (.node (o163 P) (.node (o295 P) .nil .nil) (.node (o427 P) .nil .nil)) (.node (o227 P) (.node (o361 P) .nil .nil) (.node (o495 P) .nil .nil)))) (.node (o45 P) (.node (o79 P) (.node (o145 P) (.node (o277 P) .nil .nil) (.node (o411 P) .nil .nil)) (.node (o211 P) (.node (o345 P) .nil .nil) (.node (o479 P) .nil .nil))) (.node (o113 P) (.node (o179 P) (.node (o313 P) .nil .nil) (.node (o443 P) .nil .nil)) (.node (o245 P) (.node (o379 P) .nil .nil) (.node (o511 P) .nil .nil))))) (.node (o18 P) (.node (o37 P) (.node (o71 P) (.node (o137 P) (.node (o269 P) .nil .nil) (.node (o403 P) .nil .nil)) (.node (o203 P) (.node (o337 P) .nil .nil) (.node (o469 P) .nil .nil))) (.node (o105 P) (.node (o171 P) (.node (o303 P) .nil .nil) (.node (o435 P) .nil .nil)) (.node (o235 P) (.node (o371 P) .nil .nil) (.node (o503 P) .nil .nil)))) (.node (o55 P) (.node (o87 P) (.node (o155 P) (.node (o285 P) .nil .nil) (.node (o419 P) .nil .nil)) (.node (o219 P) (.node (o353 P) .nil .nil) (.node (o487 P) .nil .nil))) (.node (o121 P) (.node (o187 P) (.node (o321 P) .nil .nil) (.node (o453 P) .nil .nil)) (.node (o253 P) (.node (o387 P) .nil .nil) .nil))))) (.node (o3 P) (.node (o14 P) (.node (o33 P) (.node (o67 P) (.node (o133 P) (.node (o265 P) .nil .nil) (.node (o399 P) .nil .nil)) (.node (o199 P) (.node (o333 P) .nil .nil) (.node (o465 P) .nil .nil))) (.node (o99 P) (.node (o167 P) (.node (o299 P) .nil .nil) (.node (o431 P) .nil .nil)) (.node (o231 P) (.node (o365 P) .nil .nil) (.node (o499 P) .nil .nil)))) (.node (o51 P) (.node (o83 P) (.node (o149 P) (.node (o281 P) .nil .nil) (.node (o415 P) .nil .nil)) (.node (o215 P) (.node (o349 P) .nil .nil) (.node (o483 P) .nil .nil))) (.node (o117 P) (.node (o183 P) (.node (o317 P) .nil .nil) (.node (o447 P) .nil .nil)) (.node (o249 P) (.node (o383 P) .nil .nil) .nil)))) (.node (o22 P) (.node (o41 P) (.node (o75 P) (.node (o141 P) (.node (o273 P) .nil .nil) (.node (o407 P) .nil .nil)) (.node (o207 P) (.node (o341 P) .nil .nil) (.node (o475 P) .nil .nil))) (.node (o109 P) (.node (o175 P) (.node (o307 P) .nil .nil) (.node (o439 P) .nil .nil)) (.node (o239 P) (.node (o375 P) .nil .nil) (.node (o507 P) .nil .nil)))) (.node (o59 P) (.node (o91 P) (.node (o159 P) (.node (o291 P) .nil .nil) (.node (o423 P) .nil .nil)) (.node (o223 P) (.node (o357 P) .nil .nil) (.node (o491 P) .nil .nil))) (.node (o125 P) (.node (o191 P) (.node (o325 P) .nil .nil) (.node (o457 P) .nil .nil)) (.node (o257 P) (.node (o391 P) .nil .nil) .nil))))))))
noncomputable def hEnd (P : Params) : Heap := ⟨#[(boot_o_0 P), (boot_o_1 P), (o4 P), (o471 P), (boot_o_4 P), (boot_o_5 P), (boot_o_6 P), (boot_o_7 P), (boot_o_8 P), (boot_o_9 P), (boot_o_10 P), (o0 P), (o472 P), (o2 P), (o3 P), (o7 P), (o8 P), (o9 P), (o10 P), (o11 P), (o12 P), (o13 P), (o14 P), (o15 P), (o16 P), (o17 P), (o18 P), (o19 P), (o20 P), (o21 P), (o22 P), (o29 P), (o24 P), (o25 P), (o26 P), (o30 P), (o31 P), (o32 P), (o33 P), (o34 P), (o35 P), (o36 P), (o37 P), (o38 P), (o39 P), (o40 P), (o41 P), (o42 P), (o43 P), (o44 P), (o45 P), (o46 P), (o47 P), (o48 P), (o51 P), (o52 P), (o53 P), (o54 P), (o55 P), (o56 P), (o57 P), (o58 P), (o59 P), (o60 P), (o61 P), (o62 P), (o63 P), (o64 P), (o65 P), (o66 P), (o67 P), (o68 P), (o69 P), (o70 P), (o71 P), (o72 P), (o73 P), (o74 P), (o75 P), (o76 P), (o77 P), (o78 P), (o79 P), (o80 P), (o81 P), (o82 P), (o83 P), (o84 P), (o85 P), (o86 P), (o87 P), (o88 P), (o89 P), (o90 P), (o91 P), (o92 P), (o93 P), (o94 P), (o95 P), (o96 P), (o97 P), (o98 P), (o99 P), (o102 P), (o103 P), (o104 P), (o105 P), (o106 P), (o107 P), (o108 P), (o109 P), (o110 P), (o111 P), (o112 P), (o113 P), (o114 P), (o115 P), (o116 P), (o117 P), (o118 P), (o119 P), (o120 P), (o121 P), (o122 P), (o123 P), (o124 P), (o125 P), (o126 P), (o127 P), (o128 P), (o129 P), (o130 P), (o131 P), (o132 P), (o133 P), (o134 P), (o135 P), (o136 P), (o137 P), (o138 P), (o139 P), (o140 P), (o141 P), (o142 P), (o143 P), (o144 P), (o145 P), (o146 P), (o147 P), (o148 P), (o149 P), (o150 P), (o151 P), (o154 P), (o155 P), (o156 P), (o157 P), (o158 P), (o159 P), (o160 P), (o161 P), (o162 P), (o163 P), (o164 P), (o165 P), (o166 P), (o167 P), (o168 P), (o169 P), (o170 P), (o171 P), (o172 P), (o173 P), (o174 P), (o175 P), (o176 P), (o177 P), (o178 P), (o179 P), (o180 P), (o181 P), (o182 P), (o183 P), (o184 P), (o185 P), (o186 P), (o187 P), (o188 P), (o189 P), (o190 P), (o191 P), (o192 P), (o193 P), (o194 P), (o195 P), (o196 P), (o197 P), (o198 P), (o199 P), (o200 P), (o201 P), (o202 P), (o203 P), (o204 P), (o205 P), (o206 P), (o207 P), (o208 P), (o209 P), (o210 P), (o211 P), (o212 P), (o213 P), (o214 P), (o215 P), (o216 P), (o217 P), (o218 P), (o219 P), (o220 P), (o221 P), (o222 P), (o223 P), (o224 P), (o225 P), (o226 P), (o227 P), (o228 P), (o229 P), (o230 P), (o231 P), (o232 P), (o233 P), (o234 P), (o235 P), (o236 P), (o237 P), (o238 P), (o239 P), (o242 P), (o243 P), (o244 P), (o245 P), (o246 P), (o247 P), (o248 P), (o249 P), (o250 P), (o251 P), (o252 P), (o253 P), (o254 P), (o255 P), (o256 P), (o257 P), (o258 P), (o259 P), (o260 P), (o261 P), (o262 P), (o263 P), (o264 P), (o265 P), (o266 P), (o267 P), (o268 P), (o269 P), (o270 P), (o271 P), (o272 P), (o273 P), (o274 P), (o275 P), (o276 P), (o277 P), (o278 P), (o279 P), (o280 P), (o281 P), (o282 P), (o283 P), (o284 P), (o285 P), (o286 P), (o287 P), (o290 P), (o291 P), (o292 P), (o293 P), (o294 P), (o295 P), (o296 P), (o297 P), (o298 P), (o299 P), (o300 P), (o301 P), (o302 P), (o303 P), (o304 P), (o305 P), (o306 P), (o307 P), (o308 P), (o309 P), (o310 P), (o313 P), (o314 P), (o315 P), (o316 P), (o317 P), (o318 P), (o319 P), (o320 P), (o321 P), (o322 P), (o323 P), (o324 P), (o325 P), (o326 P), (o327 P), (o328 P), (o329 P), (o330 P), (o331 P), (o332 P), (o333 P), (o334 P), (o335 P), (o336 P), (o337 P), (o338 P), (o339 P), (o340 P), (o341 P), (o342 P), (o343 P), (o344 P), (o345 P), (o346 P), (o347 P), (o348 P), (o349 P), (o350 P), (o351 P), (o352 P), (o353 P), (o354 P), (o355 P), (o356 P), (o357 P), (o358 P), (o359 P), (o360 P), (o361 P), (o362 P), (o363 P), (o364 P), (o365 P), (o366 P), (o367 P), (o368 P), (o371 P), (o372 P), (o373 P), (o374 P), (o375 P), (o376 P), (o377 P), (o378 P), (o379 P), (o380 P), (o381 P), (o382 P), (o383 P), (o384 P), (o385 P), (o386 P), (o387 P), (o388 P), (o389 P), (o390 P), (o391 P), (o392 P), (o393 P), (o394 P), (o395 P), (o396 P), (o397 P), (o398 P), (o399 P), (o400 P), (o401 P), (o402 P), (o403 P), (o404 P), (o405 P), (o406 P), (o407 P), (o408 P), (o409 P), (o410 P), (o411 P), (o412 P), (o413 P), (o414 P), (o415 P), (o416 P), (o417 P), (o418 P), (o419 P), (o420 P), (o421 P), (o422 P), (o423 P), (o424 P), (o425 P), (o426 P), (o427 P), (o428 P), (o429 P), (o430 P), (o431 P), (o432 P), (o433 P), (o434 P), (o435 P), (o436 P), (o437 P), (o438 P), (o439 P), (o440 P), (o441 P), (o442 P), (o443 P), (o444 P), (o445 P), (o446 P), (o447 P), (o450 P), (o451 P), (o452 P), (o453 P), (o454 P), (o455 P), (o456 P), (o457 P), (o458 P), (o459 P), (o460 P), (o461 P), (o462 P), (o463 P), (o464 P), (o465 P), (o466 P), (o467 P), (o468 P), (o469 P), (o470 P), (o473 P), (o474 P), (o475 P), (o476 P), (o477 P), (o478 P), (o479 P), (o480 P), (o481 P), (o482 P), (o483 P), (o484 P), (o485 P), (o486 P), (o487 P), (o488 P), (o489 P), (o490 P), (o491 P), (o492 P), (o493 P), (o494 P), (o495 P), (o496 P), (o497 P), (o498 P), (o499 P), (o500 P), (o501 P), (o502 P), (o503 P), (o504 P), (o505 P), (o506 P), (o507 P), (o508 P), (o509 P), (o510 P), (o511 P), (o512 P), (o513 P), (o514 P)], {}⟩
noncomputable def KF (P : Params) : Frag := 
  (nat_lit 2, (o4 P)) ::
  (nat_lit 3, (o471 P)) ::
  (nat_lit 15, (o7 P)) ::
  (nat_lit 22, (o14 P)) ::
  (nat_lit 24, (o16 P)) ::
  (nat_lit 25, (o17 P)) ::
  (nat_lit 27, (o19 P)) ::
  (nat_lit 28, (o20 P)) ::
  (nat_lit 29, (o21 P)) ::
  (nat_lit 30, (o22 P)) ::
  (nat_lit 31, (o29 P)) ::
  (nat_lit 32, (o24 P)) ::
  (nat_lit 35, (o30 P)) ::
  (nat_lit 42, (o37 P)) ::
  (nat_lit 44, (o39 P)) ::
  (nat_lit 45, (o40 P)) ::
  (nat_lit 47, (o42 P)) ::
  (nat_lit 48, (o43 P)) ::
  (nat_lit 49, (o44 P)) ::
  (nat_lit 50, (o45 P)) ::
  (nat_lit 51, (o46 P)) ::
  (nat_lit 61, (o58 P)) ::
  (nat_lit 63, (o60 P)) ::
  (nat_lit 64, (o61 P)) ::
  (nat_lit 66, (o63 P)) ::
  (nat_lit 67, (o64 P)) ::
  (nat_lit 68, (o65 P)) ::
  (nat_lit 69, (o66 P)) ::
  (nat_lit 70, (o67 P)) ::
  (nat_lit 71, (o68 P)) ::
  (nat_lit 72, (o69 P)) ::
  (nat_lit 75, (o72 P)) ::
  (nat_lit 77, (o74 P)) ::
  (nat_lit 78, (o75 P)) ::
  (nat_lit 80, (o77 P)) ::
  (nat_lit 81, (o78 P)) ::
  (nat_lit 82, (o79 P)) ::
  (nat_lit 84, (o81 P)) ::
  (nat_lit 85, (o82 P)) ::
  (nat_lit 87, (o84 P)) ::
  (nat_lit 88, (o85 P)) ::
  (nat_lit 89, (o86 P)) ::
  (nat_lit 91, (o88 P)) ::
  (nat_lit 92, (o89 P)) ::
  (nat_lit 94, (o91 P)) ::
  (nat_lit 95, (o92 P)) ::
  (nat_lit 96, (o93 P)) ::
  (nat_lit 98, (o95 P)) ::
  (nat_lit 99, (o96 P)) ::
  (nat_lit 101, (o98 P)) ::
  (nat_lit 102, (o99 P)) ::
  (nat_lit 103, (o102 P)) ::
  (nat_lit 105, (o104 P)) ::
  (nat_lit 106, (o105 P)) ::
  (nat_lit 108, (o107 P)) ::
  (nat_lit 109, (o108 P)) ::
  (nat_lit 110, (o109 P)) ::
  (nat_lit 118, (o117 P)) ::
  (nat_lit 120, (o119 P)) ::
  (nat_lit 121, (o120 P)) ::
  (nat_lit 123, (o122 P)) ::
  (nat_lit 124, (o123 P)) ::
  (nat_lit 125, (o124 P)) ::
  (nat_lit 126, (o125 P)) ::
  (nat_lit 127, (o126 P)) ::
  (nat_lit 128, (o127 P)) ::
  (nat_lit 129, (o128 P)) ::
  (nat_lit 132, (o131 P)) ::
  (nat_lit 134, (o133 P)) ::
  (nat_lit 135, (o134 P)) ::
  (nat_lit 137, (o136 P)) ::
  (nat_lit 138, (o137 P)) ::
  (nat_lit 139, (o138 P)) ::
  (nat_lit 141, (o140 P)) ::
  (nat_lit 142, (o141 P)) ::
  (nat_lit 144, (o143 P)) ::
  (nat_lit 145, (o144 P)) ::
  (nat_lit 146, (o145 P)) ::
  (nat_lit 148, (o147 P)) ::
  (nat_lit 149, (o148 P)) ::
  (nat_lit 151, (o150 P)) ::
  (nat_lit 152, (o151 P)) ::
  (nat_lit 153, (o154 P)) ::
  (nat_lit 155, (o156 P)) ::
  (nat_lit 156, (o157 P)) ::
  (nat_lit 158, (o159 P)) ::
  (nat_lit 159, (o160 P)) ::
  (nat_lit 160, (o161 P)) ::
  (nat_lit 163, (o164 P)) ::
  (nat_lit 164, (o165 P)) ::
  (nat_lit 165, (o166 P)) ::
  (nat_lit 167, (o168 P)) ::
  (nat_lit 168, (o169 P)) ::
  (nat_lit 170, (o171 P)) ::
  (nat_lit 171, (o172 P)) ::
  (nat_lit 172, (o173 P)) ::
  (nat_lit 174, (o175 P)) ::
  (nat_lit 175, (o176 P)) ::
  (nat_lit 177, (o178 P)) ::
  (nat_lit 178, (o179 P)) ::
  (nat_lit 179, (o180 P)) ::
  (nat_lit 181, (o182 P)) ::
  (nat_lit 182, (o183 P)) ::
  (nat_lit 184, (o185 P)) ::
  (nat_lit 185, (o186 P)) ::
  (nat_lit 186, (o187 P)) ::
  (nat_lit 188, (o189 P)) ::
  (nat_lit 189, (o190 P)) ::
  (nat_lit 191, (o192 P)) ::
  (nat_lit 192, (o193 P)) ::
  (nat_lit 193, (o194 P)) ::
  (nat_lit 195, (o196 P)) ::
  (nat_lit 196, (o197 P)) ::
  (nat_lit 198, (o199 P)) ::
  (nat_lit 199, (o200 P)) ::
  (nat_lit 200, (o201 P)) ::
  (nat_lit 202, (o203 P)) ::
  (nat_lit 203, (o204 P)) ::
  (nat_lit 205, (o206 P)) ::
  (nat_lit 206, (o207 P)) ::
  (nat_lit 207, (o208 P)) ::
  (nat_lit 210, (o211 P)) ::
  (nat_lit 211, (o212 P)) ::
  (nat_lit 212, (o213 P)) ::
  (nat_lit 215, (o216 P)) ::
  (nat_lit 216, (o217 P)) ::
  (nat_lit 217, (o218 P)) ::
  (nat_lit 219, (o220 P)) ::
  (nat_lit 220, (o221 P)) ::
  (nat_lit 222, (o223 P)) ::
  (nat_lit 223, (o224 P)) ::
  (nat_lit 224, (o225 P)) ::
  (nat_lit 227, (o228 P)) ::
  (nat_lit 228, (o229 P)) ::
  (nat_lit 229, (o230 P)) ::
  (nat_lit 232, (o233 P)) ::
  (nat_lit 233, (o234 P)) ::
  (nat_lit 234, (o235 P)) ::
  (nat_lit 237, (o238 P)) ::
  (nat_lit 238, (o239 P)) ::
  (nat_lit 239, (o242 P)) ::
  (nat_lit 242, (o245 P)) ::
  (nat_lit 243, (o246 P)) ::
  (nat_lit 244, (o247 P)) ::
  (nat_lit 247, (o250 P)) ::
  (nat_lit 248, (o251 P)) ::
  (nat_lit 249, (o252 P)) ::
  (nat_lit 252, (o255 P)) ::
  (nat_lit 253, (o256 P)) ::
  (nat_lit 254, (o257 P)) ::
  (nat_lit 257, (o260 P)) ::
  (nat_lit 258, (o261 P)) ::
  (nat_lit 259, (o262 P)) ::
  (nat_lit 261, (o264 P)) ::
  (nat_lit 262, (o265 P)) ::
  (nat_lit 264, (o267 P)) ::
  (nat_lit 265, (o268 P)) ::
  (nat_lit 266, (o269 P)) ::
  (nat_lit 269, (o272 P)) ::
  (nat_lit 270, (o273 P)) ::
  (nat_lit 271, (o274 P)) ::
  (nat_lit 273, (o276 P)) ::
  (nat_lit 274, (o277 P)) ::
  (nat_lit 276, (o279 P)) ::
  (nat_lit 277, (o280 P)) ::
  (nat_lit 278, (o281 P)) ::
  (nat_lit 280, (o283 P)) ::
  (nat_lit 281, (o284 P)) ::
  (nat_lit 283, (o286 P)) ::
  (nat_lit 284, (o287 P)) ::
  (nat_lit 292, (o297 P)) ::
  (nat_lit 294, (o299 P)) ::
  (nat_lit 295, (o300 P)) ::
  (nat_lit 297, (o302 P)) ::
  (nat_lit 298, (o303 P)) ::
  (nat_lit 299, (o304 P)) ::
  (nat_lit 300, (o305 P)) ::
  (nat_lit 301, (o306 P)) ::
  (nat_lit 302, (o307 P)) ::
  (nat_lit 303, (o308 P)) ::
  (nat_lit 313, (o320 P)) ::
  (nat_lit 315, (o322 P)) ::
  (nat_lit 316, (o323 P)) ::
  (nat_lit 318, (o325 P)) ::
  (nat_lit 319, (o326 P)) ::
  (nat_lit 320, (o327 P)) ::
  (nat_lit 321, (o328 P)) ::
  (nat_lit 322, (o329 P)) ::
  (nat_lit 323, (o330 P)) ::
  (nat_lit 324, (o331 P)) ::
  (nat_lit 327, (o334 P)) ::
  (nat_lit 329, (o336 P)) ::
  (nat_lit 330, (o337 P)) ::
  (nat_lit 332, (o339 P)) ::
  (nat_lit 333, (o340 P)) ::
  (nat_lit 334, (o341 P)) ::
  (nat_lit 336, (o343 P)) ::
  (nat_lit 337, (o344 P)) ::
  (nat_lit 339, (o346 P)) ::
  (nat_lit 340, (o347 P)) ::
  (nat_lit 341, (o348 P)) ::
  (nat_lit 343, (o350 P)) ::
  (nat_lit 344, (o351 P)) ::
  (nat_lit 346, (o353 P)) ::
  (nat_lit 347, (o354 P)) ::
  (nat_lit 348, (o355 P)) ::
  (nat_lit 350, (o357 P)) ::
  (nat_lit 351, (o358 P)) ::
  (nat_lit 353, (o360 P)) ::
  (nat_lit 354, (o361 P)) ::
  (nat_lit 355, (o362 P)) ::
  (nat_lit 357, (o364 P)) ::
  (nat_lit 358, (o365 P)) ::
  (nat_lit 360, (o367 P)) ::
  (nat_lit 361, (o368 P)) ::
  (nat_lit 362, (o371 P)) ::
  (nat_lit 364, (o373 P)) ::
  (nat_lit 365, (o374 P)) ::
  (nat_lit 367, (o376 P)) ::
  (nat_lit 368, (o377 P)) ::
  (nat_lit 369, (o378 P)) ::
  (nat_lit 371, (o380 P)) ::
  (nat_lit 372, (o381 P)) ::
  (nat_lit 374, (o383 P)) ::
  (nat_lit 375, (o384 P)) ::
  (nat_lit 376, (o385 P)) ::
  (nat_lit 378, (o387 P)) ::
  (nat_lit 379, (o388 P)) ::
  (nat_lit 381, (o390 P)) ::
  (nat_lit 382, (o391 P)) ::
  (nat_lit 383, (o392 P)) ::
  (nat_lit 385, (o394 P)) ::
  (nat_lit 386, (o395 P)) ::
  (nat_lit 388, (o397 P)) ::
  (nat_lit 389, (o398 P)) ::
  (nat_lit 390, (o399 P)) ::
  (nat_lit 392, (o401 P)) ::
  (nat_lit 393, (o402 P)) ::
  (nat_lit 395, (o404 P)) ::
  (nat_lit 396, (o405 P)) ::
  (nat_lit 397, (o406 P)) ::
  (nat_lit 399, (o408 P)) ::
  (nat_lit 400, (o409 P)) ::
  (nat_lit 402, (o411 P)) ::
  (nat_lit 403, (o412 P)) ::
  (nat_lit 404, (o413 P)) ::
  (nat_lit 406, (o415 P)) ::
  (nat_lit 407, (o416 P)) ::
  (nat_lit 409, (o418 P)) ::
  (nat_lit 410, (o419 P)) ::
  (nat_lit 411, (o420 P)) ::
  (nat_lit 413, (o422 P)) ::
  (nat_lit 414, (o423 P)) ::
  (nat_lit 416, (o425 P)) ::
  (nat_lit 417, (o426 P)) ::
  (nat_lit 418, (o427 P)) ::
  (nat_lit 420, (o429 P)) ::
  (nat_lit 421, (o430 P)) ::
  (nat_lit 423, (o432 P)) ::
  (nat_lit 424, (o433 P)) ::
  (nat_lit 425, (o434 P)) ::
  (nat_lit 427, (o436 P)) ::
  (nat_lit 428, (o437 P)) ::
  (nat_lit 430, (o439 P)) ::
  (nat_lit 431, (o440 P)) ::
  (nat_lit 432, (o441 P)) ::
  (nat_lit 434, (o443 P)) ::
  (nat_lit 435, (o444 P)) ::
  (nat_lit 437, (o446 P)) ::
  (nat_lit 438, (o447 P)) ::
  (nat_lit 446, (o457 P)) ::
  (nat_lit 448, (o459 P)) ::
  (nat_lit 449, (o460 P)) ::
  (nat_lit 451, (o462 P)) ::
  (nat_lit 452, (o463 P)) ::
  (nat_lit 453, (o464 P)) ::
  (nat_lit 454, (o465 P)) ::
  (nat_lit 455, (o466 P)) ::
  (nat_lit 456, (o467 P)) ::
  (nat_lit 457, (o468 P)) ::
  (nat_lit 467, (o480 P)) ::
  (nat_lit 468, (o481 P)) ::
  (nat_lit 470, (o483 P)) ::
  (nat_lit 471, (o484 P)) ::
  (nat_lit 473, (o486 P)) ::
  (nat_lit 474, (o487 P)) ::
  (nat_lit 475, (o488 P)) ::
  (nat_lit 476, (o489 P)) ::
  (nat_lit 477, (o490 P)) ::
  (nat_lit 478, (o491 P)) ::
  (nat_lit 479, (o492 P)) ::
  (nat_lit 482, (o495 P)) ::
  (nat_lit 483, (o496 P)) ::
  (nat_lit 485, (o498 P)) ::
  (nat_lit 486, (o499 P)) ::
  (nat_lit 488, (o501 P)) ::
  (nat_lit 489, (o502 P)) ::
  (nat_lit 490, (o503 P)) ::
  (nat_lit 492, (o505 P)) ::
  (nat_lit 493, (o506 P)) ::
  (nat_lit 495, (o508 P)) ::
  (nat_lit 496, (o509 P)) ::
  (nat_lit 497, (o510 P)) ::
  (nat_lit 500, (o513 P)) ::
  (nat_lit 501, (o514 P)) :: []
noncomputable def asF : List Nat := [nat_lit 2, nat_lit 3, nat_lit 15, nat_lit 22, nat_lit 24, nat_lit 25, nat_lit 27, nat_lit 28, nat_lit 29, nat_lit 30, nat_lit 31, nat_lit 32, nat_lit 35, nat_lit 42, nat_lit 44, nat_lit 45, nat_lit 47, nat_lit 48, nat_lit 49, nat_lit 50, nat_lit 51, nat_lit 61, nat_lit 63, nat_lit 64, nat_lit 66, nat_lit 67, nat_lit 68, nat_lit 69, nat_lit 70, nat_lit 71, nat_lit 72, nat_lit 75, nat_lit 77, nat_lit 78, nat_lit 80, nat_lit 81, nat_lit 82, nat_lit 84, nat_lit 85, nat_lit 87, nat_lit 88, nat_lit 89, nat_lit 91, nat_lit 92, nat_lit 94, nat_lit 95, nat_lit 96, nat_lit 98, nat_lit 99, nat_lit 101, nat_lit 102, nat_lit 103, nat_lit 105, nat_lit 106, nat_lit 108, nat_lit 109, nat_lit 110, nat_lit 118, nat_lit 120, nat_lit 121, nat_lit 123, nat_lit 124, nat_lit 125, nat_lit 126, nat_lit 127, nat_lit 128, nat_lit 129, nat_lit 132, nat_lit 134, nat_lit 135, nat_lit 137, nat_lit 138, nat_lit 139, nat_lit 141, nat_lit 142, nat_lit 144, nat_lit 145, nat_lit 146, nat_lit 148, nat_lit 149, nat_lit 151, nat_lit 152, nat_lit 153, nat_lit 155, nat_lit 156, nat_lit 158, nat_lit 159, nat_lit 160, nat_lit 163, nat_lit 164, nat_lit 165, nat_lit 167, nat_lit 168, nat_lit 170, nat_lit 171, nat_lit 172, nat_lit 174, nat_lit 175, nat_lit 177, nat_lit 178, nat_lit 179, nat_lit 181, nat_lit 182, nat_lit 184, nat_lit 185, nat_lit 186, nat_lit 188, nat_lit 189, nat_lit 191, nat_lit 192, nat_lit 193, nat_lit 195, nat_lit 196, nat_lit 198, nat_lit 199, nat_lit 200, nat_lit 202, nat_lit 203, nat_lit 205, nat_lit 206, nat_lit 207, nat_lit 210, nat_lit 211, nat_lit 212, nat_lit 215, nat_lit 216, nat_lit 217, nat_lit 219, nat_lit 220, nat_lit 222, nat_lit 223, nat_lit 224, nat_lit 227, nat_lit 228, nat_lit 229, nat_lit 232, nat_lit 233, nat_lit 234, nat_lit 237, nat_lit 238, nat_lit 239, nat_lit 242, nat_lit 243, nat_lit 244, nat_lit 247, nat_lit 248, nat_lit 249, nat_lit 252, nat_lit 253, nat_lit 254, nat_lit 257, nat_lit 258, nat_lit 259, nat_lit 261, nat_lit 262, nat_lit 264, nat_lit 265, nat_lit 266, nat_lit 269, nat_lit 270, nat_lit 271, nat_lit 273, nat_lit 274, nat_lit 276, nat_lit 277, nat_lit 278, nat_lit 280, nat_lit 281, nat_lit 283, nat_lit 284, nat_lit 292, nat_lit 294, nat_lit 295, nat_lit 297, nat_lit 298, nat_lit 299, nat_lit 300, nat_lit 301, nat_lit 302, nat_lit 303, nat_lit 313, nat_lit 315, nat_lit 316, nat_lit 318, nat_lit 319, nat_lit 320, nat_lit 321, nat_lit 322, nat_lit 323, nat_lit 324, nat_lit 327, nat_lit 329, nat_lit 330, nat_lit 332, nat_lit 333, nat_lit 334, nat_lit 336, nat_lit 337, nat_lit 339, nat_lit 340, nat_lit 341, nat_lit 343, nat_lit 344, nat_lit 346, nat_lit 347, nat_lit 348, nat_lit 350, nat_lit 351, nat_lit 353, nat_lit 354, nat_lit 355, nat_lit 357, nat_lit 358, nat_lit 360, nat_lit 361, nat_lit 362, nat_lit 364, nat_lit 365, nat_lit 367, nat_lit 368, nat_lit 369, nat_lit 371, nat_lit 372, nat_lit 374, nat_lit 375, nat_lit 376, nat_lit 378, nat_lit 379, nat_lit 381, nat_lit 382, nat_lit 383, nat_lit 385, nat_lit 386, nat_lit 388, nat_lit 389, nat_lit 390, nat_lit 392, nat_lit 393, nat_lit 395, nat_lit 396, nat_lit 397, nat_lit 399, nat_lit 400, nat_lit 402, nat_lit 403, nat_lit 404, nat_lit 406, nat_lit 407, nat_lit 409, nat_lit 410, nat_lit 411, nat_lit 413, nat_lit 414, nat_lit 416, nat_lit 417, nat_lit 418, nat_lit 420, nat_lit 421, nat_lit 423, nat_lit 424, nat_lit 425, nat_lit 427, nat_lit 428, nat_lit 430, nat_lit 431, nat_lit 432, nat_lit 434, nat_lit 435, nat_lit 437, nat_lit 438, nat_lit 446, nat_lit 448, nat_lit 449, nat_lit 451, nat_lit 452, nat_lit 453, nat_lit 454, nat_lit 455, nat_lit 456, nat_lit 457, nat_lit 467, nat_lit 468, nat_lit 470, nat_lit 471, nat_lit 473, nat_lit 474, nat_lit 475, nat_lit 476, nat_lit 477, nat_lit 478, nat_lit 479, nat_lit 482, nat_lit 483, nat_lit 485, nat_lit 486, nat_lit 488, nat_lit 489, nat_lit 490, nat_lit 492, nat_lit 493, nat_lit 495, nat_lit 496, nat_lit 497, nat_lit 500, nat_lit 501]

noncomputable def bE : List Stmt := behindTheImports pW
noncomputable def env0 : Env := { scope := pW.main.scope, locals := mainNs, globals := mainNs, cells := [], code := .ref 13, frame := some 14 }
noncomputable def cE : Code := .body bE env0
theorem pre0 : ∀ w : World, (fun os => topGo treeTable pW w 11 (some (.ref 6)) 12 ⟨boot_heap w.params, #[], boot_drawn, boot_toks, os⟩ (topStub pW)) = fun os => some (⟨hPre w.params, #[], {}, 187, os⟩, ⟨denote treeTable cE, cE, ⟨0, 0, 0, 0⟩, [topFrame ⟨0, 0, 0, 0⟩]⟩) := fun w => by
  rw [Fast.te15667345088766844465, Fast.te14364793385576792824, Fast.te11892475500146522536]; kernel_rfl
theorem blk0 : ∀ w : World, (fun os => segRun treeTable pW w 11 (some (.ref 6)) 1 1 ⟨hPre w.params, #[], {}, 187, os⟩ (blockOf bE env0 cE ⟨0, 0, 0, 0⟩ [topFrame ⟨0, 0, 0, 0⟩])) = fun os => some (.next, SharedT.abs ⟨tr0 w.params, 15, {}, #[], {}, 187, os⟩, cE, ⟨0, 0, 0, 0⟩) := fun w => by
  rw [Fast.te14374325043358763698, Fast.te14364793385576792824]; kernel_rfl
noncomputable def sts1 : List Stmt := (bE.drop 0).take 2
theorem pc1 : ∀ w : World, (fun os => segRunT treeTable pW w 11 (some (.ref 6)) 1 238 ⟨tr0 w.params, 15, {}, #[], {}, 187, os⟩ (piecesOf sts1 env0 cE ⟨0, 0, 0, 0⟩ [topFrame ⟨0, 0, 0, 0⟩])) = fun os => some (.next, ⟨tr1 w.params, 35, {}, #[], {}, 218, os⟩, cE, ⟨2, 0, 6, 24⟩) := fun w => by
  rw [Fast.te10110043849684766642, Fast.te14364793385576792824]; kernel_rfl
noncomputable def sts2 : List Stmt := (bE.drop 2).take 2
theorem pc2 : ∀ w : World, (fun os => segRunT treeTable pW w 11 (some (.ref 6)) 1 256 ⟨tr1 w.params, 35, {}, #[], {}, 218, os⟩ (piecesOf sts2 env0 cE ⟨2, 0, 6, 24⟩ [topFrame ⟨0, 0, 0, 0⟩])) = fun os => some (.next, ⟨tr2 w.params, 54, {}, #[], {}, 246, os⟩, cE, ⟨12, 0, 12, 8⟩) := fun w => by
  rw [Fast.te10110043849684766642, Fast.te14364793385576792824]; kernel_rfl
noncomputable def sts3 : List Stmt := (bE.drop 4).take 7
theorem pc3 : ∀ w : World, (fun os => segRunT treeTable pW w 11 (some (.ref 6)) 1 380 ⟨tr2 w.params, 54, {}, #[], {}, 246, os⟩ (piecesOf sts3 env0 cE ⟨12, 0, 12, 8⟩ [topFrame ⟨0, 0, 0, 0⟩])) = fun os => some (.next, ⟨tr3 w.params, 103, {}, #[], {}, 330, os⟩, cE, ⟨46, 0, 46, 9⟩) := fun w => by
  rw [Fast.te10110043849684766642, Fast.te14364793385576792824]; kernel_rfl
noncomputable def sts4 : List Stmt := (bE.drop 11).take 7
theorem pc4 : ∀ w : World, (fun os => segRunT treeTable pW w 11 (some (.ref 6)) 1 385 ⟨tr3 w.params, 103, {}, #[], {}, 330, os⟩ (piecesOf sts4 env0 cE ⟨46, 0, 46, 9⟩ [topFrame ⟨0, 0, 0, 0⟩])) = fun os => some (.next, ⟨tr4 w.params, 153, {}, #[], {}, 417, os⟩, cE, ⟨82, 0, 86, 15⟩) := fun w => by
  rw [Fast.te10110043849684766642, Fast.te14364793385576792824]; kernel_rfl
noncomputable def sts5 : List Stmt := (bE.drop 18).take 14
theorem pc5 : ∀ w : World, (fun os => segRunT treeTable pW w 11 (some (.ref 6)) 1 399 ⟨tr4 w.params, 153, {}, #[], {}, 417, os⟩ (piecesOf sts5 env0 cE ⟨82, 0, 86, 15⟩ [topFrame ⟨0, 0, 0, 0⟩])) = fun os => some (.next, ⟨tr5 w.params, 239, {}, #[], {}, 519, os⟩, cE, ⟨161, 0, 177, 16⟩) := fun w => by
  rw [Fast.te10110043849684766642, Fast.te14364793385576792824]; kernel_rfl
noncomputable def sts6 : List Stmt := (bE.drop 32).take 9
theorem pc6 : ∀ w : World, (fun os => segRunT treeTable pW w 11 (some (.ref 6)) 1 230 ⟨tr5 w.params, 239, {}, #[], {}, 519, os⟩ (piecesOf sts6 env0 cE ⟨161, 0, 177, 16⟩ [topFrame ⟨0, 0, 0, 0⟩])) = fun os => some (.next, ⟨tr6 w.params, 285, {}, #[], {}, 575, os⟩, cE, ⟨233, 0, 233, 8⟩) := fun w => by
  rw [Fast.te10110043849684766642, Fast.te14364793385576792824]; kernel_rfl
noncomputable def sts7 : List Stmt := (bE.drop 41).take 1
theorem pc7 : ∀ w : World, (fun os => segRunT treeTable pW w 11 (some (.ref 6)) 1 247 ⟨tr6 w.params, 285, {}, #[], {}, 575, os⟩ (piecesOf sts7 env0 cE ⟨233, 0, 233, 8⟩ [topFrame ⟨0, 0, 0, 0⟩])) = fun os => some (.next, ⟨tr7 w.params, 306, {}, #[], {}, 628, os⟩, cE, ⟨234, 0, 260, 28⟩) := fun w => by
  rw [Fast.te10110043849684766642, Fast.te14364793385576792824]; kernel_rfl
noncomputable def sts8 : List Stmt := (bE.drop 42).take 7
theorem pc8 : ∀ w : World, (fun os => segRunT treeTable pW w 11 (some (.ref 6)) 1 388 ⟨tr7 w.params, 306, {}, #[], {}, 628, os⟩ (piecesOf sts8 env0 cE ⟨234, 0, 260, 28⟩ [topFrame ⟨0, 0, 0, 0⟩])) = fun os => some (.next, ⟨tr8 w.params, 362, {}, #[], {}, 705, os⟩, cE, ⟨285, 0, 285, 8⟩) := fun w => by
  rw [Fast.te10110043849684766642, Fast.te14364793385576792824]; kernel_rfl
noncomputable def sts9 : List Stmt := (bE.drop 49).take 15
theorem pc9 : ∀ w : World, (fun os => segRunT treeTable pW w 11 (some (.ref 6)) 1 383 ⟨tr8 w.params, 362, {}, #[], {}, 705, os⟩ (piecesOf sts9 env0 cE ⟨285, 0, 285, 8⟩ [topFrame ⟨0, 0, 0, 0⟩])) = fun os => some (.next, ⟨tr9 w.params, 439, {}, #[], {}, 817, os⟩, cE, ⟨373, 0, 373, 8⟩) := fun w => by
  rw [Fast.te10110043849684766642, Fast.te14364793385576792824]; kernel_rfl
noncomputable def sts10 : List Stmt := (bE.drop 64).take 2
theorem pc10 : ∀ w : World, (fun os => segRunT treeTable pW w 11 (some (.ref 6)) 1 247 ⟨tr9 w.params, 439, {}, #[], {}, 817, os⟩ (piecesOf sts10 env0 cE ⟨373, 0, 373, 8⟩ [topFrame ⟨0, 0, 0, 0⟩])) = fun os => some (.next, ⟨tr10 w.params, 460, {}, #[], {}, 863, os⟩, cE, ⟨390, 0, 390, 8⟩) := fun w => by
  rw [Fast.te10110043849684766642, Fast.te14364793385576792824]; kernel_rfl
noncomputable def sts11 : List Stmt := (bE.drop 66).take 6
theorem pc11 : ∀ w : World, (fun os => segRunT treeTable pW w 11 (some (.ref 6)) 1 384 ⟨tr10 w.params, 460, {}, #[], {}, 863, os⟩ (piecesOf sts11 env0 cE ⟨390, 0, 390, 8⟩ [topFrame ⟨0, 0, 0, 0⟩])) = fun os => some (.next, ⟨tr11 w.params, 502, {}, #[], {}, 956, os⟩, cE, ⟨424, 0, 454, 15⟩) := fun w => by
  rw [Fast.te10110043849684766642, Fast.te14364793385576792824]; kernel_rfl

theorem fin0 : ∀ w : World, (fun os => topRun treeTable pW w 11 (some (.ref 6)) 2 (SharedT.abs ⟨tr11 w.params, 502, {}, #[], {}, 956, os⟩) ⟨doneF .next, cE, ⟨424, 0, 454, 15⟩, [topFrame ⟨0, 0, 0, 0⟩]⟩) = fun os => some ⟨hEnd w.params, #[], {}, 956, os⟩ := fun w => by
  rw [Fast.te14082659384304107361, Fast.te14364793385576792824]; kernel_rfl
theorem bE_is : bE = sts1 ++ (sts2 ++ (sts3 ++ (sts4 ++ (sts5 ++ (sts6 ++ (sts7 ++ (sts8 ++ (sts9 ++ (sts10 ++ (sts11 ++ ([]))))))))))) := by kernel_rfl
theorem run0 (w : World) (os : OsState) : topRun treeTable pW w 11 (some (.ref 6)) (Nat.add 12 (Nat.add 1 (Nat.add 238 (Nat.add 256 (Nat.add 380 (Nat.add 385 (Nat.add 399 (Nat.add 230 (Nat.add 247 (Nat.add 388 (Nat.add 383 (Nat.add 247 (Nat.add 384 2))))))))))))) ⟨boot_heap w.params, #[], boot_drawn, boot_toks, os⟩ (topStub pW) = some ⟨hEnd w.params, #[], {}, 956, os⟩ := by
  refine go_top (congrFun (pre0 w) os) ?_
  refine piece_block (congrFun (blk0 w) os) ?_
  have k : topRun treeTable pW w 11 (some (.ref 6)) _ _ (restOf (sts1 ++ (sts2 ++ (sts3 ++ (sts4 ++ (sts5 ++ (sts6 ++ (sts7 ++ (sts8 ++ (sts9 ++ (sts10 ++ (sts11 ++ ([])))))))))))) env0 cE ⟨0, 0, 0, 0⟩ [topFrame ⟨0, 0, 0, 0⟩]) = some ⟨hEnd w.params, #[], {}, 956, os⟩ := (piece_app (segRun_of (congrFun (pc1 w) os)) (piece_app (segRun_of (congrFun (pc2 w) os)) (piece_app (segRun_of (congrFun (pc3 w) os)) (piece_app (segRun_of (congrFun (pc4 w) os)) (piece_app (segRun_of (congrFun (pc5 w) os)) (piece_app (segRun_of (congrFun (pc6 w) os)) (piece_app (segRun_of (congrFun (pc7 w) os)) (piece_app (segRun_of (congrFun (pc8 w) os)) (piece_app (segRun_of (congrFun (pc9 w) os)) (piece_app (segRun_of (congrFun (pc10 w) os)) (piece_app (segRun_of (congrFun (pc11 w) os)) (congrFun (fin0 w) os))))))))))))
  rw [← bE_is] at k
  exact k
noncomputable def keep0 : List Nat := [1, 2, 4, 5, 6, 7, 8, 10, 11, 13, 14, 15, 16, 17, 18, 19, 20, 21, 22, 23, 24, 25, 26, 27, 28, 29, 30, 31, 32, 33, 34, 35, 36, 37, 38, 39, 41, 42, 43, 44, 45, 46, 47, 49, 50, 51, 53, 55, 56, 57, 58, 59, 60, 62, 64, 66, 68, 69, 70, 71]
noncomputable def view0 : Program := { pW with main := { pW.main with body := keep0.filterMap (pW.main.body[·]?) } }
theorem asF_is (P : Params) : asF = (KF P).map (·.1) := by kernel_rfl
noncomputable abbrev hk0 : Hook := kHook KF asF asF_is
noncomputable abbrev loose0 : List Str := ["Limits"]
noncomputable abbrev xt0 : Shared → Bool := fun s => xlAt view0 [] s && recOk (RowW.records PySem.Challenge.rw_rg0027_01.row.toRowW) s
noncomputable abbrev sE (w : World) (os : OsState) : Shared := ⟨hEnd w.params, #[], {}, 956, os⟩
theorem lk1a (w : World) (os : OsState) : staticsOk (importedModules pW.main.body) (boot_heap w.params) (hEnd w.params) = true := by (try rw [Fast.te5923862056798008813]); kernel_rfl
theorem lk1b (w : World) : namesBound pW (hEnd w.params) = true := by kernel_rfl
theorem lk1c (w : World) (os : OsState) : gensDone (sE w os) = true := by kernel_rfl
theorem lk1d (w : World) : laidKept (boot_heap w.params) (hEnd w.params) = true := by kernel_rfl
theorem lk2 (w : World) (os : OsState) : seen ((recsOf view0).map (·.name)) (ownsOf view0) [] { sE w os with gens := #[] } = expectedOf view0 := by (try simp only [Fast.te5160383126252970620, Fast.te821141287760084731, Fast.te3399658132070893891, Fast.te7409074990110511671, Fast.te13664370479719496447, Fast.te10880121769531294198, Fast.te14722251495701143533, Fast.te5923862056798008813, Fast.te10994771534591457954, Fast.te479339242167458305, Fast.te16090120013241838585, Fast.te3247288618530077131, Fast.te2386780881361962483, Fast.te11698064438423848299, Fast.te7317090234206586261, Fast.te7369524293546568484, Fast.te5991557255702980513, Fast.te8920871248978507458]); kernel_rfl
theorem lk3 (w : World) (os : OsState) : (sE w os).heap.bltView = bltViewBooted := by (try simp only [Fast.te5160383126252970620, Fast.te821141287760084731, Fast.te3399658132070893891, Fast.te7409074990110511671, Fast.te13664370479719496447, Fast.te10880121769531294198, Fast.te14722251495701143533, Fast.te5923862056798008813, Fast.te10994771534591457954, Fast.te479339242167458305, Fast.te16090120013241838585, Fast.te3247288618530077131, Fast.te2386780881361962483, Fast.te11698064438423848299, Fast.te7317090234206586261, Fast.te7369524293546568484, Fast.te5991557255702980513, Fast.te8920871248978507458]); kernel_rfl
theorem lk4a (w : World) (os : OsState) : (sE w os).heap.keysOk (looseW view0 loose0) ((recsOf view0).map (·.name)) ((litsOf view0).map (·.1)) ((clssOf view0 (looseW view0 loose0)).map (·.name)) = true := by (try simp only [Fast.te5160383126252970620, Fast.te821141287760084731, Fast.te3399658132070893891, Fast.te7409074990110511671, Fast.te13664370479719496447, Fast.te10880121769531294198, Fast.te14722251495701143533, Fast.te5923862056798008813, Fast.te10994771534591457954, Fast.te479339242167458305, Fast.te16090120013241838585, Fast.te3247288618530077131, Fast.te2386780881361962483, Fast.te11698064438423848299, Fast.te7317090234206586261, Fast.te7369524293546568484, Fast.te5991557255702980513, Fast.te8920871248978507458]); kernel_rfl
theorem lk4b (w : World) (os : OsState) : (sE w os).heap.accountedOkI (importedModules pW.main.body) = true := by (try simp only [Fast.te5160383126252970620, Fast.te821141287760084731, Fast.te3399658132070893891, Fast.te7409074990110511671, Fast.te13664370479719496447, Fast.te10880121769531294198, Fast.te14722251495701143533, Fast.te5923862056798008813, Fast.te10994771534591457954, Fast.te479339242167458305, Fast.te16090120013241838585, Fast.te3247288618530077131, Fast.te2386780881361962483, Fast.te11698064438423848299, Fast.te7317090234206586261, Fast.te7369524293546568484, Fast.te5991557255702980513, Fast.te8920871248978507458]); kernel_rfl
theorem lk4c (w : World) (os : OsState) : (sE w os).heap.isNs mainGlobals = true := by (try simp only [Fast.te5160383126252970620, Fast.te821141287760084731, Fast.te3399658132070893891, Fast.te7409074990110511671, Fast.te13664370479719496447, Fast.te10880121769531294198, Fast.te14722251495701143533, Fast.te5923862056798008813, Fast.te10994771534591457954, Fast.te479339242167458305, Fast.te16090120013241838585, Fast.te3247288618530077131, Fast.te2386780881361962483, Fast.te11698064438423848299, Fast.te7317090234206586261, Fast.te7369524293546568484, Fast.te5991557255702980513, Fast.te8920871248978507458]); kernel_rfl
theorem lk4d (w : World) (os : OsState) : (sE w os).heap.isNs builtinsNs = true := by (try simp only [Fast.te5160383126252970620, Fast.te821141287760084731, Fast.te3399658132070893891, Fast.te7409074990110511671, Fast.te13664370479719496447, Fast.te10880121769531294198, Fast.te14722251495701143533, Fast.te5923862056798008813, Fast.te10994771534591457954, Fast.te479339242167458305, Fast.te16090120013241838585, Fast.te3247288618530077131, Fast.te2386780881361962483, Fast.te11698064438423848299, Fast.te7317090234206586261, Fast.te7369524293546568484, Fast.te5991557255702980513, Fast.te8920871248978507458]); kernel_rfl
theorem lk4e (w : World) (os : OsState) : tablesOk view0 (sE w os).heap = true := by (try simp only [Fast.te5160383126252970620, Fast.te821141287760084731, Fast.te3399658132070893891, Fast.te7409074990110511671, Fast.te13664370479719496447, Fast.te10880121769531294198, Fast.te14722251495701143533, Fast.te5923862056798008813, Fast.te10994771534591457954, Fast.te479339242167458305, Fast.te16090120013241838585, Fast.te3247288618530077131, Fast.te2386780881361962483, Fast.te11698064438423848299, Fast.te7317090234206586261, Fast.te7369524293546568484, Fast.te5991557255702980513, Fast.te8920871248978507458]); kernel_rfl
theorem lk4f (w : World) (os : OsState) : xt0 (sE w os) = true := by (try simp only [Fast.te5160383126252970620, Fast.te821141287760084731, Fast.te3399658132070893891, Fast.te7409074990110511671, Fast.te13664370479719496447, Fast.te10880121769531294198, Fast.te14722251495701143533, Fast.te5923862056798008813, Fast.te10994771534591457954, Fast.te479339242167458305, Fast.te16090120013241838585, Fast.te3247288618530077131, Fast.te2386780881361962483, Fast.te11698064438423848299, Fast.te7317090234206586261, Fast.te7369524293546568484, Fast.te5991557255702980513, Fast.te8920871248978507458]); kernel_rfl
theorem lk5 (w : World) (os : OsState) : tabsOk view0 (sE w os) = true := by (try simp only [Fast.te5160383126252970620, Fast.te821141287760084731, Fast.te3399658132070893891, Fast.te7409074990110511671, Fast.te13664370479719496447, Fast.te10880121769531294198, Fast.te14722251495701143533, Fast.te5923862056798008813, Fast.te10994771534591457954, Fast.te479339242167458305, Fast.te16090120013241838585, Fast.te3247288618530077131, Fast.te2386780881361962483, Fast.te11698064438423848299, Fast.te7317090234206586261, Fast.te7369524293546568484, Fast.te5991557255702980513, Fast.te8920871248978507458]); kernel_rfl
theorem lk6 (w : World) (os : OsState) : pinSeenD view0 (drecsOf view0) (sE w os) = pinGoodD (drecsOf view0) := by (try simp only [Fast.te5160383126252970620, Fast.te821141287760084731, Fast.te3399658132070893891, Fast.te7409074990110511671, Fast.te13664370479719496447, Fast.te10880121769531294198, Fast.te14722251495701143533, Fast.te5923862056798008813, Fast.te10994771534591457954, Fast.te479339242167458305, Fast.te16090120013241838585, Fast.te3247288618530077131, Fast.te2386780881361962483, Fast.te11698064438423848299, Fast.te7317090234206586261, Fast.te7369524293546568484, Fast.te5991557255702980513, Fast.te8920871248978507458]); kernel_rfl
theorem lk7 (w : World) (os : OsState) : plainSeenE view0 (looseW view0 loose0) (sE w os) = plainGoodE view0 (looseW view0 loose0) := by (try simp only [Fast.te5160383126252970620, Fast.te821141287760084731, Fast.te3399658132070893891, Fast.te7409074990110511671, Fast.te13664370479719496447, Fast.te10880121769531294198, Fast.te14722251495701143533, Fast.te5923862056798008813, Fast.te10994771534591457954, Fast.te479339242167458305, Fast.te16090120013241838585, Fast.te3247288618530077131, Fast.te2386780881361962483, Fast.te11698064438423848299, Fast.te7317090234206586261, Fast.te7369524293546568484, Fast.te5991557255702980513, Fast.te8920871248978507458]); kernel_rfl
theorem lk8 (w : World) (os : OsState) : plainSeenD view0 loose0 (sE w os) = plainGoodD view0 loose0 := by (try simp only [Fast.te5160383126252970620, Fast.te821141287760084731, Fast.te3399658132070893891, Fast.te7409074990110511671, Fast.te13664370479719496447, Fast.te10880121769531294198, Fast.te14722251495701143533, Fast.te5923862056798008813, Fast.te10994771534591457954, Fast.te479339242167458305, Fast.te16090120013241838585, Fast.te3247288618530077131, Fast.te2386780881361962483, Fast.te11698064438423848299, Fast.te7317090234206586261, Fast.te7369524293546568484, Fast.te5991557255702980513, Fast.te8920871248978507458]); kernel_rfl
theorem lk9 (w : World) (os : OsState) : wideSeen view0 (sE w os) = wideGood view0 := by (try simp only [Fast.te5160383126252970620, Fast.te821141287760084731, Fast.te3399658132070893891, Fast.te7409074990110511671, Fast.te13664370479719496447, Fast.te10880121769531294198, Fast.te14722251495701143533, Fast.te5923862056798008813, Fast.te10994771534591457954, Fast.te479339242167458305, Fast.te16090120013241838585, Fast.te3247288618530077131, Fast.te2386780881361962483, Fast.te11698064438423848299, Fast.te7317090234206586261, Fast.te7369524293546568484, Fast.te5991557255702980513, Fast.te8920871248978507458]); kernel_rfl
theorem lk10 (w : World) (os : OsState) : clsSeenW view0 loose0 (sE w os) = clsGoodW view0 loose0 := by (try simp only [Fast.te5160383126252970620, Fast.te821141287760084731, Fast.te3399658132070893891, Fast.te7409074990110511671, Fast.te13664370479719496447, Fast.te10880121769531294198, Fast.te14722251495701143533, Fast.te5923862056798008813, Fast.te10994771534591457954, Fast.te479339242167458305, Fast.te16090120013241838585, Fast.te3247288618530077131, Fast.te2386780881361962483, Fast.te11698064438423848299, Fast.te7317090234206586261, Fast.te7369524293546568484, Fast.te5991557255702980513, Fast.te8920871248978507458]); kernel_rfl
theorem lk11 (w : World) (os : OsState) : Hook.obs hk0 (sE w os) = Hook.val hk0 w := by kernel_rfl
theorem looks0 (w : World) : (fun os => ((staticsOk (importedModules pW.main.body) (boot_heap w.params) (hEnd w.params) && namesBound pW (hEnd w.params) && gensDone ⟨hEnd w.params, #[], {}, 956, os⟩ && laidKept (boot_heap w.params) (hEnd w.params)),
    openSeen view0 loose0 (importedModules pW.main.body) xt0 true ⟨hEnd w.params, #[], {}, 956, os⟩, Hook.obs hk0 ⟨hEnd w.params, #[], {}, 956, os⟩)) = fun _ => (true, openGood view0 loose0, Hook.val hk0 w) := by
  funext os
  refine looks_pair ?_ (looks_pair ?_ ?_)
  · exact look_both (look_both (look_both (lk1a w os) (lk1b w)) (lk1c w os)) (lk1d w)
  · unfold openSeen openGood
    refine looks_pair ?_ (looks_pair ?_ (looks_pair ?_ (looks_pair ?_ (looks_pair ?_ (looks_pair ?_ (looks_pair ?_ (looks_pair ?_ ?_)))))))
    · exact lk2 w os
    · exact lk3 w os
    · exact look_both (look_both (look_both (look_both (look_both (look_both (lk4a w os) (lk4b w os)) (lk4c w os)) (lk4d w os)) (lk4e w os)) (lk4f w os)) (by kernel_rfl)
    · exact lk5 w os
    · exact lk6 w os
    · exact lk7 w os
    · exact lk8 w os
    · exact lk9 w os
    · exact lk10 w os
  · exact lk11 w os
theorem left0 : LeftO pW view0 loose0 xt0 (Hook.obs hk0) (Hook.val hk0) 7178 := by
  refine LeftO.of_pieces (H₀ := boot_heap) (H₁ := hEnd) (gs₀ := #[]) (gs₁ := #[]) (d₀ := boot_drawn) (d₁ := {}) (k₀ := boot_toks) (k₁ := 956) (m₀ := 11) (ann := some (.ref 6)) (M := (Nat.add 12 (Nat.add 1 (Nat.add 238 (Nat.add 256 (Nat.add 380 (Nat.add 385 (Nat.add 399 (Nat.add 230 (Nat.add 247 (Nat.add 388 (Nat.add 383 (Nat.add 247 (Nat.add 384 2)))))))))))))) ?_ ?_ run0 (by decide) looks0
  · exact boot_open (p := pW) (by kernel_rfl) (by decide) (fun s => by kernel_rfl)
  · intro w
    rw [Fast.te8920871248978507458]; kernel_rfl
end Mine

set_option Elab.async false
set_option linter.all false
set_option pp.deepTerms false
set_option pp.maxSteps 3000
namespace Mine
set_option maxRecDepth 100000
set_option maxHeartbeats 4000000
set_option compiler.extract_closed false
theorem sd1 : (sreFenced PySem.Challenge.rw_rg0027_01.row.prog.main) = true := by (try simp only [Fast.te11788848310118352699, Fast.te9807087744658564304, Fast.te12862048085361865435, Fast.te8377067652309620493, Fast.te18344453789297297638, Fast.te14412699480532031325, Fast.te8326940854005059898, Fast.te13343964577679436407, Fast.te17119622794617984870, Fast.te17868728402115742887, Fast.te8179353310426384613, Fast.te9558739934217749035, Fast.te16286561074155671207, Fast.te10792542408131684335, Fast.te10501279942588096481, Fast.te482687673346738481, Fast.te12879404354523853263, Fast.te12749700546528644094, Fast.te6984425678791042302, Fast.te797321630700447069, Fast.te5923862056798008813, Fast.te17691160309236699985, Fast.te7723801398212525404, Fast.te3471404346716756564]); kernel_rfl
theorem sd2 : (((moduleNames PySem.Challenge.rw_rg0027_01.row.prog.main.body).isEmpty || lookedIntoSs (moduleNames PySem.Challenge.rw_rg0027_01.row.prog.main.body) PySem.Challenge.rw_rg0027_01.row.prog.main.body)) = true := by (try simp only [Fast.te11788848310118352699, Fast.te9807087744658564304, Fast.te12862048085361865435, Fast.te8377067652309620493, Fast.te18344453789297297638, Fast.te14412699480532031325, Fast.te8326940854005059898, Fast.te13343964577679436407, Fast.te17119622794617984870, Fast.te17868728402115742887, Fast.te8179353310426384613, Fast.te9558739934217749035, Fast.te16286561074155671207, Fast.te10792542408131684335, Fast.te10501279942588096481, Fast.te482687673346738481, Fast.te12879404354523853263, Fast.te12749700546528644094, Fast.te6984425678791042302, Fast.te797321630700447069, Fast.te5923862056798008813, Fast.te17691160309236699985, Fast.te7723801398212525404, Fast.te3471404346716756564]); kernel_rfl
theorem sd3 : (namesResolve PySem.Challenge.rw_rg0027_01.row.prog) = true := by (try simp only [Fast.te11788848310118352699, Fast.te9807087744658564304, Fast.te12862048085361865435, Fast.te8377067652309620493, Fast.te18344453789297297638, Fast.te14412699480532031325, Fast.te8326940854005059898, Fast.te13343964577679436407, Fast.te17119622794617984870, Fast.te17868728402115742887, Fast.te8179353310426384613, Fast.te9558739934217749035, Fast.te16286561074155671207, Fast.te10792542408131684335, Fast.te10501279942588096481, Fast.te482687673346738481, Fast.te12879404354523853263, Fast.te12749700546528644094, Fast.te6984425678791042302, Fast.te797321630700447069, Fast.te5923862056798008813, Fast.te17691160309236699985, Fast.te7723801398212525404, Fast.te3471404346716756564]); kernel_rfl
theorem sd4 : (PySem.Challenge.rw_rg0027_01.row.prog.boundNames.all (fun n => !worldNames.contains n)) = true := by (try simp only [Fast.te11788848310118352699, Fast.te9807087744658564304, Fast.te12862048085361865435, Fast.te8377067652309620493, Fast.te18344453789297297638, Fast.te14412699480532031325, Fast.te8326940854005059898, Fast.te13343964577679436407, Fast.te17119622794617984870, Fast.te17868728402115742887, Fast.te8179353310426384613, Fast.te9558739934217749035, Fast.te16286561074155671207, Fast.te10792542408131684335, Fast.te10501279942588096481, Fast.te482687673346738481, Fast.te12879404354523853263, Fast.te12749700546528644094, Fast.te6984425678791042302, Fast.te797321630700447069, Fast.te5923862056798008813, Fast.te17691160309236699985, Fast.te7723801398212525404, Fast.te3471404346716756564]); kernel_rfl
theorem sd5 : (noRoadLSs { strict := !(importedModules PySem.Challenge.rw_rg0027_01.row.prog.main.body).all cThrough.contains, foot := none, bare := (["vars", "dir", "locals"] : List Str).filter (readsOut PySem.Challenge.rw_rg0027_01.row.prog PySem.Challenge.rw_rg0027_01.row.prog.main.body) } PySem.Challenge.rw_rg0027_01.row.prog.main.body) = true := by (try simp only [Fast.te11788848310118352699, Fast.te9807087744658564304, Fast.te12862048085361865435, Fast.te8377067652309620493, Fast.te18344453789297297638, Fast.te14412699480532031325, Fast.te8326940854005059898, Fast.te13343964577679436407, Fast.te17119622794617984870, Fast.te17868728402115742887, Fast.te8179353310426384613, Fast.te9558739934217749035, Fast.te16286561074155671207, Fast.te10792542408131684335, Fast.te10501279942588096481, Fast.te482687673346738481, Fast.te12879404354523853263, Fast.te12749700546528644094, Fast.te6984425678791042302, Fast.te797321630700447069, Fast.te5923862056798008813, Fast.te17691160309236699985, Fast.te7723801398212525404, Fast.te3471404346716756564]); kernel_rfl
theorem sd6 : (namesMeet PySem.Challenge.rw_rg0027_01.row.prog PySem.Challenge.rw_rg0027_01.row.prog.main.body fun _ n => attrL n) = true := by (try simp only [Fast.te11788848310118352699, Fast.te9807087744658564304, Fast.te12862048085361865435, Fast.te8377067652309620493, Fast.te18344453789297297638, Fast.te14412699480532031325, Fast.te8326940854005059898, Fast.te13343964577679436407, Fast.te17119622794617984870, Fast.te17868728402115742887, Fast.te8179353310426384613, Fast.te9558739934217749035, Fast.te16286561074155671207, Fast.te10792542408131684335, Fast.te10501279942588096481, Fast.te482687673346738481, Fast.te12879404354523853263, Fast.te12749700546528644094, Fast.te6984425678791042302, Fast.te797321630700447069, Fast.te5923862056798008813, Fast.te17691160309236699985, Fast.te7723801398212525404, Fast.te3471404346716756564]); kernel_rfl
theorem sd7 : (noClassBlock PySem.Challenge.rw_rg0027_01.prog PySem.Challenge.rw_rg0027_01.footing) = true := by (try simp only [Fast.te11788848310118352699, Fast.te9807087744658564304, Fast.te12862048085361865435, Fast.te8377067652309620493, Fast.te18344453789297297638, Fast.te14412699480532031325, Fast.te8326940854005059898, Fast.te13343964577679436407, Fast.te17119622794617984870, Fast.te17868728402115742887, Fast.te8179353310426384613, Fast.te9558739934217749035, Fast.te16286561074155671207, Fast.te10792542408131684335, Fast.te10501279942588096481, Fast.te482687673346738481, Fast.te12879404354523853263, Fast.te12749700546528644094, Fast.te6984425678791042302, Fast.te797321630700447069, Fast.te5923862056798008813, Fast.te17691160309236699985, Fast.te7723801398212525404, Fast.te3471404346716756564]); kernel_rfl
theorem sd8 : (noRoadLSs { strict := true, foot := some PySem.Challenge.rw_rg0027_01.bound', writes := PySem.Challenge.rw_rg0027_01.writes, may := PySem.Challenge.rw_rg0027_01.may } PySem.Challenge.rw_rg0027_01.footing) = true := by (try simp only [Fast.te11788848310118352699, Fast.te9807087744658564304, Fast.te12862048085361865435, Fast.te8377067652309620493, Fast.te18344453789297297638, Fast.te14412699480532031325, Fast.te8326940854005059898, Fast.te13343964577679436407, Fast.te17119622794617984870, Fast.te17868728402115742887, Fast.te8179353310426384613, Fast.te9558739934217749035, Fast.te16286561074155671207, Fast.te10792542408131684335, Fast.te10501279942588096481, Fast.te482687673346738481, Fast.te12879404354523853263, Fast.te12749700546528644094, Fast.te6984425678791042302, Fast.te797321630700447069, Fast.te5923862056798008813, Fast.te17691160309236699985, Fast.te7723801398212525404, Fast.te3471404346716756564]); kernel_rfl
theorem sd9 : (defStands PySem.Challenge.rw_rg0027_01.about PySem.Challenge.rw_rg0027_01.above) = true := by (try simp only [Fast.te11788848310118352699, Fast.te9807087744658564304, Fast.te12862048085361865435, Fast.te8377067652309620493, Fast.te18344453789297297638, Fast.te14412699480532031325, Fast.te8326940854005059898, Fast.te13343964577679436407, Fast.te17119622794617984870, Fast.te17868728402115742887, Fast.te8179353310426384613, Fast.te9558739934217749035, Fast.te16286561074155671207, Fast.te10792542408131684335, Fast.te10501279942588096481, Fast.te482687673346738481, Fast.te12879404354523853263, Fast.te12749700546528644094, Fast.te6984425678791042302, Fast.te797321630700447069, Fast.te5923862056798008813, Fast.te17691160309236699985, Fast.te7723801398212525404, Fast.te3471404346716756564]); kernel_rfl
theorem sd10 : (PySem.Challenge.rw_rg0027_01.namesIt) = true := by (try simp only [Fast.te11788848310118352699, Fast.te9807087744658564304, Fast.te12862048085361865435, Fast.te8377067652309620493, Fast.te18344453789297297638, Fast.te14412699480532031325, Fast.te8326940854005059898, Fast.te13343964577679436407, Fast.te17119622794617984870, Fast.te17868728402115742887, Fast.te8179353310426384613, Fast.te9558739934217749035, Fast.te16286561074155671207, Fast.te10792542408131684335, Fast.te10501279942588096481, Fast.te482687673346738481, Fast.te12879404354523853263, Fast.te12749700546528644094, Fast.te6984425678791042302, Fast.te797321630700447069, Fast.te5923862056798008813, Fast.te17691160309236699985, Fast.te7723801398212525404, Fast.te3471404346716756564]); kernel_rfl
theorem sd11 : ((["type", "isinstance", "issubclass", "getattr", "hasattr"] : List Str).all (fun n => PySem.Challenge.rw_rg0027_01.about != [n])) = true := by (try simp only [Fast.te11788848310118352699, Fast.te9807087744658564304, Fast.te12862048085361865435, Fast.te8377067652309620493, Fast.te18344453789297297638, Fast.te14412699480532031325, Fast.te8326940854005059898, Fast.te13343964577679436407, Fast.te17119622794617984870, Fast.te17868728402115742887, Fast.te8179353310426384613, Fast.te9558739934217749035, Fast.te16286561074155671207, Fast.te10792542408131684335, Fast.te10501279942588096481, Fast.te482687673346738481, Fast.te12879404354523853263, Fast.te12749700546528644094, Fast.te6984425678791042302, Fast.te797321630700447069, Fast.te5923862056798008813, Fast.te17691160309236699985, Fast.te7723801398212525404, Fast.te3471404346716756564]); kernel_rfl
theorem sd12 : (PySem.Challenge.rw_rg0027_01.bound'.all (fun n => !builtinNamed n || PySem.Challenge.rw_rg0027_01.about == [n] || !PySem.Challenge.rw_rg0027_01.reads n)) = true := by (try simp only [Fast.te11788848310118352699, Fast.te9807087744658564304, Fast.te12862048085361865435, Fast.te8377067652309620493, Fast.te18344453789297297638, Fast.te14412699480532031325, Fast.te8326940854005059898, Fast.te13343964577679436407, Fast.te17119622794617984870, Fast.te17868728402115742887, Fast.te8179353310426384613, Fast.te9558739934217749035, Fast.te16286561074155671207, Fast.te10792542408131684335, Fast.te10501279942588096481, Fast.te482687673346738481, Fast.te12879404354523853263, Fast.te12749700546528644094, Fast.te6984425678791042302, Fast.te797321630700447069, Fast.te5923862056798008813, Fast.te17691160309236699985, Fast.te7723801398212525404, Fast.te3471404346716756564]); kernel_rfl
theorem sd13 : (namesMeet PySem.Challenge.rw_rg0027_01.prog PySem.Challenge.rw_rg0027_01.footing (fun sc n => (!(["type", "isinstance", "issubclass", "getattr", "hasattr"] : List Str).contains n || sc.names.lookup n == some .globalImplicit) && (PySem.Challenge.rw_rg0027_01.may != some n || sc.kind == .module || sc.names.lookup n == some .globalImplicit))) = true := by (try simp only [Fast.te11788848310118352699, Fast.te9807087744658564304, Fast.te12862048085361865435, Fast.te8377067652309620493, Fast.te18344453789297297638, Fast.te14412699480532031325, Fast.te8326940854005059898, Fast.te13343964577679436407, Fast.te17119622794617984870, Fast.te17868728402115742887, Fast.te8179353310426384613, Fast.te9558739934217749035, Fast.te16286561074155671207, Fast.te10792542408131684335, Fast.te10501279942588096481, Fast.te482687673346738481, Fast.te12879404354523853263, Fast.te12749700546528644094, Fast.te6984425678791042302, Fast.te797321630700447069, Fast.te5923862056798008813, Fast.te17691160309236699985, Fast.te7723801398212525404, Fast.te3471404346716756564]); kernel_rfl
theorem sd14 : (PySem.Challenge.rw_rg0027_01.own.all (fun n => !builtinNamed n)) = true := by (try simp only [Fast.te11788848310118352699, Fast.te9807087744658564304, Fast.te12862048085361865435, Fast.te8377067652309620493, Fast.te18344453789297297638, Fast.te14412699480532031325, Fast.te8326940854005059898, Fast.te13343964577679436407, Fast.te17119622794617984870, Fast.te17868728402115742887, Fast.te8179353310426384613, Fast.te9558739934217749035, Fast.te16286561074155671207, Fast.te10792542408131684335, Fast.te10501279942588096481, Fast.te482687673346738481, Fast.te12879404354523853263, Fast.te12749700546528644094, Fast.te6984425678791042302, Fast.te797321630700447069, Fast.te5923862056798008813, Fast.te17691160309236699985, Fast.te7723801398212525404, Fast.te3471404346716756564]); kernel_rfl
theorem sd15 : ((PySem.Challenge.rw_rg0027_01.own.eraseDups.length == PySem.Challenge.rw_rg0027_01.own.length)) = true := by (try simp only [Fast.te11788848310118352699, Fast.te9807087744658564304, Fast.te12862048085361865435, Fast.te8377067652309620493, Fast.te18344453789297297638, Fast.te14412699480532031325, Fast.te8326940854005059898, Fast.te13343964577679436407, Fast.te17119622794617984870, Fast.te17868728402115742887, Fast.te8179353310426384613, Fast.te9558739934217749035, Fast.te16286561074155671207, Fast.te10792542408131684335, Fast.te10501279942588096481, Fast.te482687673346738481, Fast.te12879404354523853263, Fast.te12749700546528644094, Fast.te6984425678791042302, Fast.te797321630700447069, Fast.te5923862056798008813, Fast.te17691160309236699985, Fast.te7723801398212525404, Fast.te3471404346716756564]); kernel_rfl
theorem sd16 : (namesMeet PySem.Challenge.rw_rg0027_01.prog PySem.Challenge.rw_rg0027_01.above (fun _ n => !PySem.Challenge.rw_rg0027_01.own.contains n)) = true := by (try simp only [Fast.te11788848310118352699, Fast.te9807087744658564304, Fast.te12862048085361865435, Fast.te8377067652309620493, Fast.te18344453789297297638, Fast.te14412699480532031325, Fast.te8326940854005059898, Fast.te13343964577679436407, Fast.te17119622794617984870, Fast.te17868728402115742887, Fast.te8179353310426384613, Fast.te9558739934217749035, Fast.te16286561074155671207, Fast.te10792542408131684335, Fast.te10501279942588096481, Fast.te482687673346738481, Fast.te12879404354523853263, Fast.te12749700546528644094, Fast.te6984425678791042302, Fast.te797321630700447069, Fast.te5923862056798008813, Fast.te17691160309236699985, Fast.te7723801398212525404, Fast.te3471404346716756564]); kernel_rfl
theorem sd17 : ((namesMeet PySem.Challenge.rw_rg0027_01.prog PySem.Challenge.rw_rg0027_01.footing fun sc n => sc.kind == .module || sc.names.lookup n != some .globalExplicit)) = true := by (try simp only [Fast.te11788848310118352699, Fast.te9807087744658564304, Fast.te12862048085361865435, Fast.te8377067652309620493, Fast.te18344453789297297638, Fast.te14412699480532031325, Fast.te8326940854005059898, Fast.te13343964577679436407, Fast.te17119622794617984870, Fast.te17868728402115742887, Fast.te8179353310426384613, Fast.te9558739934217749035, Fast.te16286561074155671207, Fast.te10792542408131684335, Fast.te10501279942588096481, Fast.te482687673346738481, Fast.te12879404354523853263, Fast.te12749700546528644094, Fast.te6984425678791042302, Fast.te797321630700447069, Fast.te5923862056798008813, Fast.te17691160309236699985, Fast.te7723801398212525404, Fast.te3471404346716756564]); kernel_rfl
theorem said0 : PySem.Challenge.rw_rg0027_01.wellSaid = true := by
  unfold OpenLaw.wellSaid
  repeat' (with_reducible refine look_both ?_ ?_)
  all_goals try unfold OpenRow.wellSaid
  all_goals repeat' (with_reducible refine look_both ?_ ?_)
  all_goals try unfold OpenRow.partSaid
  all_goals repeat' (with_reducible refine look_both ?_ ?_)
  all_goals try unfold looksOpen
  all_goals repeat' (with_reducible refine look_both ?_ ?_)
  all_goals try with_reducible first | exact sd1 | exact sd2 | exact sd3 | exact sd4 | exact sd5 | exact sd6 | exact sd7 | exact sd8 | exact sd9 | exact sd10 | exact sd11 | exact sd12 | exact sd13 | exact sd14 | exact sd15 | exact sd16 | exact sd17
  all_goals kernel_rfl
end Mine
set_option Elab.async false
set_option linter.all false
set_option pp.deepTerms false
set_option pp.maxSteps 3000
namespace Mine
set_option maxRecDepth 100000
set_option maxHeartbeats 4000000
set_option compiler.extract_closed false
noncomputable abbrev Pg : Program := PySem.Challenge.rw_rg0027_01.row.prog
theorem allLt_ne {d : Nat} : ∀ {l : List (Addr × Obj)}, AllLt d l → ∀ p ∈ l, p.1 ≠ d
  | [], _, _, h => nomatch h
  | q :: r, hl, p, h => by
    rcases List.mem_cons.mp h with rfl | h
    · exact Nat.ne_of_lt hl.1
    · exact allLt_ne hl.2 p h
theorem allLt_mem' {d : Nat} : ∀ {l : List (Addr × Obj)} {p : Addr × Obj}, AllLt d l → p ∈ l → p.1 < d
  | [], _, _, h => nomatch h
  | q :: r, p, hl, h => by
    rcases List.mem_cons.mp h with rfl | h
    · exact hl.1
    · exact allLt_mem' hl.2 h
theorem allLt_mem {d x : Nat} {o : Obj} {l : List (Addr × Obj)} (h : AllLt d l) (hm : (x, o) ∈ l) : x < d := allLt_mem' h hm
theorem allLt_sub {d : Nat} {l r : List (Addr × Obj)} (h : AllLt d l) (hs : ∀ p ∈ r, p ∈ l) : ∀ p ∈ r, p.1 ≠ d := fun p hp => Nat.ne_of_lt (allLt_mem' h (hs p hp))
theorem allLt_app {d : Nat} : ∀ {l l' : List (Addr × Obj)}, AllLt d (l ++ l') → AllLt d l'
  | [], _, h => h
  | _ :: _, _, h => allLt_app h.2
def Off (d : Nat) (l : List (Addr × Obj)) : Prop := ∀ p ∈ l, p.1 ≠ d
theorem Off.ne {d : Nat} {l : List (Addr × Obj)} (h : Off d l) : ∀ p ∈ l, p.1 ≠ d := h
theorem Off.of {d : Nat} {l : List (Addr × Obj)} (h : AllLt d l) : Off d l := allLt_ne h
theorem Off.cons {d e : Nat} {o : Obj} {l : List (Addr × Obj)} (n : e ≠ d) (h : Off d l) : Off d ((e, o) :: l) := fun p hp => by
  rcases List.mem_cons.mp hp with rfl | hp
  · exact n
  · exact h p hp
noncomputable abbrev topA (dp un : Nat) (gd : Option (List Code)) (cn : Str) (nm : List (Str × NameKind)) (g1 g2 : Bool) (mr : List (Str × Const)) (L a : Addr) (ccd : Value) (cl : List (Str × Addr)) (outer : List Env) : Around := ktrTop dp un gd cn ⟨.function, nm, g1, g2, mr⟩ L a ccd cl outer

def keyStr : Value → Option Str
  | .str k _ => some k
  | _ => none
theorem keyStr_is {v : Value} {k : Str} (h : keyStr v = some k) : ∃ t, v = .str k t := by
  cases v <;> first | (cases h; exact ⟨_, rfl⟩) | cases h
def alOf : List DictEntry → Option (List (Str × Value))
  | [] => some []
  | e :: r => (keyStr e.key).bind fun k => (alOf r).map fun l => (k, e.val) :: l
theorem alOf_cons (e : DictEntry) (r : List DictEntry) : alOf (e :: r) = (keyStr e.key).bind fun k => (alOf r).map fun l => (k, e.val) :: l := rfl
theorem alOf_inv {e : DictEntry} {r : List DictEntry} {l : List (Str × Value)} (h : alOf (e :: r) = some l) : ∃ k t l', e.key = .str k t ∧ alOf r = some l' ∧ l = (k, e.val) :: l' := by
  rw [alOf_cons] at h
  obtain ⟨k, hk, h⟩ := Option.bind_eq_some_iff.mp h
  obtain ⟨l', hl, h⟩ := Option.map_eq_some_iff.mp h
  obtain ⟨t, ht⟩ := keyStr_is hk
  exact ⟨k, t, l', ht, hl, h.symm⟩
def setAL (name : Str) (v : Value) : List (Str × Value) → List (Str × Value)
  | [] => [(name, v)]
  | (k, u) :: r => if k == name then (k, v) :: r else (k, u) :: setAL name v r
def getAL (name : Str) : List (Str × Value) → Option Value
  | [] => none
  | (k, u) :: r => if k == name then some u else getAL name r
theorem getAL_cons (name k : Str) (u : Value) (r : List (Str × Value)) : getAL name ((k, u) :: r) = if k == name then some u else getAL name r := rfl
theorem setAL_cons (name k : Str) (v u : Value) (r : List (Str × Value)) : setAL name v ((k, u) :: r) = if k == name then (k, v) :: r else (k, u) :: setAL name v r := rfl
theorem putL_cons (name : Str) (hs : Int) (key v : Value) (e : DictEntry) (r : List DictEntry) : putL name hs key v (e :: r) = if e.key.isStr name then ⟨e.hash, e.key, v⟩ :: r else e :: putL name hs key v r := rfl
theorem getL_cons {name : Str} {e : DictEntry} {k : Str} {t : Tok} (q : e.key = .str k t) (es : List DictEntry) : getL name (e :: es) = if k == name then some (some e.val) else getL name es := by
  have hs : e.key.isStr name = (k == name) := by rw [q]; rfl
  have hr : e.refKey = false := by show (match e.key with | .ref _ => true | _ => false) = false; rw [q]
  unfold getL
  rw [List.find?_cons, hs, List.any_cons, hr]
  cases k == name <;> rfl
theorem getL_al {name : Str} : ∀ {es : List DictEntry} {l : List (Str × Value)}, alOf es = some l → getL name es = some (getAL name l)
  | [], l, e => by cases e; rfl
  | d :: es, l, e => by
    obtain ⟨k, t, l', q, e', rfl⟩ := alOf_inv e
    rw [getL_cons q, getL_al e', getAL_cons]
    cases k == name <;> rfl
theorem alOf_len : ∀ {es : List DictEntry} {l : List (Str × Value)}, alOf es = some l → es.length = l.length
  | [], l, e => by cases e; rfl
  | d :: es, l, e => by
    obtain ⟨k, t, l', q, e', rfl⟩ := alOf_inv e
    rw [List.length_cons, List.length_cons, alOf_len e']
theorem putL_al {name : Str} {hv : Int} {tk : Tok} {v : Value} : ∀ {es : List DictEntry} {l : List (Str × Value)}, alOf es = some l → alOf (putL name hv (.str name tk) v es) = some (setAL name v l)
  | [], l, e => by cases e; rfl
  | d :: es, l, e => by
    obtain ⟨k, t, l', q, e', rfl⟩ := alOf_inv e
    have hs : d.key.isStr name = (k == name) := by rw [q]; rfl
    rw [putL_cons, setAL_cons, hs]
    cases z : k == name with
    | true =>
      simp only [if_true]
      rw [alOf_cons, q, e']
      rfl
    | false =>
      have ih := putL_al (name := name) (hv := hv) (tk := tk) (v := v) e'
      simp only [Bool.false_eq_true, if_false]
      rw [alOf_cons, q, ih]
      rfl
def Attrs (l : List (Str × Value)) (od : Obj) : Prop := ∃ es n, od = dictOf es n ∧ alOf es = some l
theorem Attrs.cast {l l' : List (Str × Value)} {od : Obj} (h : Attrs l od) (e : l = l') : Attrs l' od := e ▸ h
theorem Attrs.nil {n : Nat} : Attrs [] (dictOf [] n) := ⟨_, _, rfl, rfl⟩
section
variable {prog : Program} {w : World} {A A₀ : Around} {E : Value → Shared → Prop} {s : Shared} {K : Frag} {x C dx L : Addr} {h₀ : Heap} {m : Str → Option Value} {news : List (Addr × Obj)} {g : Obj → List (Addr × Obj)} {od : Obj} {l : List (Str × Value)} {name : Str} {v : Value}
theorem getA {hp : Heap} {gs : Array GenState} {dr : Drawn} {tk : Nat} {os : OsState} {expr : Bool} {Q : Value → Shared → Prop} {attr : Option Value} (F : Fr h₀ L hp m) (X₀ : K.In h₀) (N : News h₀ L hp news) (h1 : (x, instObj C dx) ∈ news) (h2 : (dx, od) ∈ news) (D : Attrs l od) (hg : plainGet K C name = true) (hh : hasDictIn K C = true)
    (ha : findIn K (.ref C) name = some attr) (hn : noGet K attr = true) (hl : getAL name l = some v) (hv : handedIn v = true) (h : Q v ⟨hp, gs, dr, tk + 1, os⟩) :
    wpAny (model prog w) A (getAttr (.ref x) name expr) Q E ⟨hp, gs, dr, tk, os⟩ := by
  obtain ⟨es, n, rfl, e⟩ := D
  exact get_own (s := ⟨hp, gs, dr, tk, os⟩) F X₀ (InstAt.of_news N h1 h2) hg hh ha hn (by rw [getL_al e, hl]) hv h
theorem updF_upd {d : Addr} {o o' : Obj} : ∀ {l : List (Addr × Obj)} {g : Obj → List (Addr × Obj)}, UpdF d o l g → Upd d o o' l (g o')
  | _, _, .head h => .head h
  | _, _, .tail h r => .tail h (updF_upd r)
theorem updF_mem {d : Addr} {o : Obj} : ∀ {l : List (Addr × Obj)} {g : Obj → List (Addr × Obj)}, UpdF d o l g → (d, o) ∈ l
  | _, _, .head _ => .head _
  | _, _, .tail _ r => .tail _ (updF_mem r)
theorem setA {hp : Heap} {gs : Array GenState} {dr : Drawn} {tk : Nat} {os : OsState} {l' : List (Str × Value)} {Q : Unit → Shared → Prop} (F : Fr h₀ L hp m) (X₀ : K.In h₀) (N : News h₀ L hp news) (h1 : (x, instObj C dx) ∈ news) (U : UpdF dx od news g) (D : Attrs l od)
    (hs : findIn K (.ref C) "__setattr__" = some (some (.builtin "object.__setattr__"))) (hpl : plainOver K C = true) (ht : takerIn K C name = some none) (hh : hasDictIn K C = true) (hl : setAL name v l = l') (hz : l'.length ≤ 1000)
    (h : ∀ h' od', Fr h₀ L h' m → News h₀ L h' (g od') → Attrs l' od' → Q () ⟨h', gs, dr, tk + 2, os⟩) :
    wpAny (model prog w) A (setAttr (.ref x) name v) Q E ⟨hp, gs, dr, tk, os⟩ := by
  obtain ⟨es, n, rfl, e⟩ := D
  have p := putL_al (name := name) (hv := PyData.keyHash w.params name) (tk := tk + 1) (v := v) e
  rw [hl] at p
  exact set_dict (s := ⟨hp, gs, dr, tk, os⟩) F X₀ N (InstAt.of_news N h1 (updF_mem U)) rfl hs hpl ht hh (by rw [getL_al e]; rfl) rfl (updF_upd U) (by rw [alOf_len p]; exact hz) fun h' F' N' => h h' _ F' N' ⟨_, _, rfl, p⟩
end
noncomputable def entA (v1 v2 v3 v4 v5 v6 v7 v8 v9 v10 v11 v12 v13 v14 v15 v16 v17 : Value) : List (Str × Value) := [("kind", v1), ("name", v2), ("key", v3), ("subtype", v4), ("data", v5), ("line", v6), ("number", v7), ("unique", v8), ("home", v9), ("part", v10), ("region", v11), ("full", v12), ("is_ready", v13), ("is_complete", v14), ("is_constant", v15), ("is_implicit", v16), ("is_overridden", v17)]
noncomputable def regA (v1 v2 v3 v4 v5 v6 v7 v8 v9 v10 v11 v12 v13 v14 v15 : Value) : List (Str × Value) := [("kind", v1), ("owner", v2), ("parent", v3), ("root", v4), ("made", v5), ("number", v6), ("level", v7), ("part", v8), ("names", v9), ("order", v10), ("uses", v11), ("use_types", v12), ("counts", v13), ("type_homes", v14), ("generic", v15)]
noncomputable def typA (v1 v2 v3 v4 v5 v6 v7 v8 v9 v10 v11 v12 v13 v14 v15 v16 v17 v18 v19 v20 v21 v22 v23 v24 : Value) : List (Str × Value) := [("kind", v1), ("name", v2), ("number", v3), ("parent", v4), ("low", v5), ("high", v6), ("literals", v7), ("modulus", v8), ("small", v9), ("index", v10), ("component", v11), ("is_constrained", v12), ("discriminants", v13), ("components", v14), ("variant", v15), ("designated", v16), ("is_tagged", v17), ("wide", v18), ("is_limited", v19), ("is_private", v20), ("is_abstract", v21), ("is_constant", v22), ("is_late", v23), ("operations", v24)]
noncomputable def scoA (v1 v2 v3 v4 v5 v6 v7 v8 v9 v10 v11 v12 v13 : Value) : List (Str × Value) := [("place", v1), ("limits", v2), ("choose", v3), ("types", v4), ("typed", v5), ("static", v6), ("builders", v7), ("ways", v8), ("declarations", v9), ("statements", v10), ("line", v11), ("count", v12), ("under_way", v13)]
noncomputable def subA (v1 v2 : Value) : List (Str × Value) := [("type", v1), ("constraint", v2)]
section
variable {prog : Program} {w : World} {A A₀ : Around} {E : Value → Shared → Prop} {s : Shared} {K : Frag} {x C dx L a : Addr} {h₀ : Heap} {m : Str → Option Value} {news news' : List (Addr × Obj)} {g : Obj → List (Addr × Obj)} {od : Obj} {l : List (Str × Value)} {name : Str} {v : Value} {cn : Str} {cs : Scope} {ccd : Value} {cl : List (Str × Addr)}
theorem attrN {hp : Heap} {gs : Array GenState} {dr : Drawn} {tk : Nat} {os : OsState} {y : Str} {px pos : Pos} {Q : Value → Shared → Prop} {attr : Option Value} (F : Fr h₀ L hp m) (hy : m y = some (.ref x)) (X₀ : K.In h₀) (N : News h₀ L hp news) (h1 : (x, instObj C dx) ∈ news) (h2 : (dx, od) ∈ news) (D : Attrs l od) (hg : plainGet K C name = true) (hh : hasDictIn K C = true)
    (ha : findIn K (.ref C) name = some attr) (hn : noGet K attr = true) (hl : getAL name l = some v) (hv : handedIn v = true) (h : Q v ⟨hp, gs, dr, tk + 1, os⟩)
    (hk : cs.kind = .function := by rfl) (hx : (envX cn cs L a ccd cl).kindOf y = some .local := by rfl) (hd : (y == ("__debug__" : Str)) = false := by decide)
    (he : eval (.Attribute (.Name y px) name pos) (envX cn cs L a ccd cl) = (do
      let o ← eval (.Name y px) (envX cn cs L a ccd cl)
      standAt pos.atName
      let r ← holding [o] (getAttr o name true)
      letTemporaryGo (.Name y px) o r
      pure r) := by with_unfolding_all rfl) :
    wpAny (model prog w) A (eval (.Attribute (.Name y px) name pos) (envX cn cs L a ccd cl)) Q E ⟨hp, gs, dr, tk, os⟩ :=
  Attribute_Name_ (nameX_L F hy (getA F X₀ N h1 h2 D hg hh ha hn hl hv h) hk hx hd) he
theorem asgS {hp : Heap} {gs : Array GenState} {dr : Drawn} {tk tk' : Nat} {os : OsState} {y : Str} {px pa pos : Pos} {e : PySem.Expr} {ss : List Stmt} {Q : Flow → Shared → Prop} {es es' : List DictEntry} {n n' : Nat} {ox : Obj}
    (hval : ∀ Q' : Value → Shared → Prop, Q' v ⟨hp, gs, dr, tk', os⟩ → wpAny (model prog w) A (eval e (envX cn cs L a ccd cl)) Q' E ⟨hp, gs, dr, tk, os⟩)
    (F : Fr h₀ L hp m) (hy : m y = some (.ref x)) (X₀ : K.In h₀) (N : News h₀ L hp news) (I : InstAt hp x ox C (some (dictOf es n))) (hd : ox.dict = some dx)
    (hs : findIn K (.ref C) "__setattr__" = some (some (.builtin "object.__setattr__"))) (hpl : plainOver K C = true) (ht : takerIn K C name = some none) (hh : hasDictIn K C = true) (hl : (getL name es).isSome = true)
    (e' : (putL name (PyData.keyHash w.params name) (.str name (tk' + 1)) v es, putN name es n) = (es', n')) (U : Upd dx (dictOf es n) (dictOf es' n') news news') (hz : es'.length ≤ 1000)
    (h : ∀ h', Fr h₀ L h' m → News h₀ L h' news' → wpAny (model prog w) A (execs ss (envX cn cs L a ccd cl)) Q E ⟨h', gs, dr, tk' + 2, os⟩)
    (hk : cs.kind = .function := by rfl) (hx : (envX cn cs L a ccd cl).kindOf y = some .local := by rfl) (hdb : (y == ("__debug__" : Str)) = false := by decide)
    (hsw : swapsWith e (some (.Attribute (.Name y px) name pa)) pos.line (envX cn cs L a ccd cl) = pure false := by rfl) :
    wpAny (model prog w) A (execs (.Assign [.Attribute (.Name y px) name pa] e pos :: ss) (envX cn cs L a ccd cl)) Q E ⟨hp, gs, dr, tk, os⟩ :=
  wpAny_execs_cons (plainObj_wpAny_Assign_Attribute (hval _ (nameX_L (s := ⟨hp, gs, dr, tk', os⟩) F hy (set_dict (s := ⟨hp, gs, dr, tk', os⟩) F X₀ N I hd hs hpl ht hh hl e' U hz fun h' F' N' => h h' F' N') hk hx hdb)) hsw)
end
inductive AlOf : List DictEntry → List (Str × Value) → Prop
  | nil : AlOf [] []
  | cons {h : Int} {k : Str} {t : Tok} {v : Value} {r : List DictEntry} {l : List (Str × Value)} : AlOf r l → AlOf (⟨h, .str k t, v⟩ :: r) ((k, v) :: l)
theorem AlOf.al {es : List DictEntry} {l : List (Str × Value)} (h : AlOf es l) : alOf es = some l := by
  induction h with
  | nil => rfl
  | cons _ ih => rw [alOf_cons, ih]; rfl
theorem Attrs.of {es : List DictEntry} {n : Nat} {l : List (Str × Value)} (h : AlOf es l) : Attrs l (dictOf es n) := ⟨_, _, rfl, h.al⟩
section
variable {h₀ h : Heap} {L : Addr} {l l' : List (Addr × Obj)} {p : Addr × Obj}
theorem News.tl (N : News h₀ L h (p :: l)) : News h₀ L h l := fun q hq => N q (.tail _ hq)
theorem News.pick (N : News h₀ L h l) (hm : p ∈ l) (N' : News h₀ L h l') : News h₀ L h (p :: l') := fun q hq => by
  rcases List.mem_cons.mp hq with rfl | hq
  · exact N _ hm
  · exact N' _ hq
end
theorem kf_tup {K : Frag} {h₀ h : Heap} {L a : Addr} {m : Str → Option Value} {o : Obj} {its : Array Value} {n : Nat} (X : K.In h₀) (F : Fr h₀ L h m) (e : K.lookup a = some o) (ec : o.cls = .type "tuple") (ed : o.data = .seq its n) : IsTup h a its := ⟨o, F.keep _ _ (X _ _ e), ec, n, ed⟩
theorem noR {α : Type} {M : Model} {A : Around} {t : Sem α} {Q : α → Shared → Prop} {E : Value → Shared → Prop} {s : Shared} (h : wpAny M A t Q (fun _ _ => False) s) : wpAny M A t Q E s := wpAny_mono h (fun _ _ z => z) (fun _ _ z => z.elim)
theorem lt_two {d x y : Nat} {o : Obj} {l : List (Addr × Obj)} (l2 : d < x) (l1 : AllLt d l) (hm : (y, o) ∈ l) : y < x := Nat.lt_trans (allLt_mem l1 hm) l2
def front {α : Type} : Nat → List α → List α
  | 0, l => l
  | _, [] => []
  | k + 1, a :: l => match front k l with
    | [] => [a]
    | b :: r => b :: a :: r
theorem front_perm {α : Type} : ∀ (k : Nat) (l : List α), (front k l).Perm l
  | 0, _ => by unfold front; exact .refl _
  | _ + 1, [] => by unfold front; exact .refl _
  | k + 1, a :: l => by
    have ih := front_perm k l
    unfold front
    split
    · next h => rw [h] at ih; exact .cons _ ih
    · next b r h => rw [h] at ih; exact (List.Perm.swap a b r).trans (.cons _ ih)
theorem News.front {h₀ h : Heap} {L : Addr} {l : List (Addr × Obj)} (k : Nat) (N : News h₀ L h l) : News h₀ L h (Mine.front k l) := fun p hp => N p ((front_perm k l).mem_iff.mp hp)
def OffR (d : Nat) : List (Addr × Obj) → Prop
  | [] => True
  | p :: r => p.1 ≠ d ∧ OffR d r
def Nod : List (Addr × Obj) → Prop
  | [] => True
  | p :: r => OffR p.1 r ∧ Nod r
theorem OffR.off {d : Nat} : ∀ {l : List (Addr × Obj)}, OffR d l → Off d l
  | [], _, _, hp => nomatch hp
  | q :: r, h, p, hp => by
    rcases List.mem_cons.mp hp with rfl | hp
    · exact h.1
    · exact OffR.off h.2 p hp
theorem Off.rec {d : Nat} : ∀ {l : List (Addr × Obj)}, Off d l → OffR d l
  | [], _ => trivial
  | q :: r, h => ⟨h q (.head _), Off.rec fun p hp => h p (.tail _ hp)⟩
theorem nod_iff : ∀ {l : List (Addr × Obj)}, Nod l ↔ (l.map (·.1)).Nodup
  | [] => ⟨fun _ => List.nodup_nil, fun _ => trivial⟩
  | p :: r => by
    rw [List.map_cons, List.nodup_cons, ← nod_iff]
    refine ⟨fun h => ⟨fun hm => ?_, h.2⟩, fun h => ⟨Off.rec fun q hq e => h.1 (e ▸ List.mem_map_of_mem hq), h.2⟩⟩
    obtain ⟨q, hq, e⟩ := List.mem_map.mp hm
    exact h.1.off q hq e
theorem Nod.front {l : List (Addr × Obj)} (k : Nat) (h : Nod l) : Nod (Mine.front k l) := nod_iff.mpr ((((front_perm k l).map _).nodup_iff).mpr (nod_iff.mp h))
theorem Nod.new {d : Nat} {o : Obj} {l : List (Addr × Obj)} (h : Nod l) (a : AllLt d l) : Nod ((d, o) :: l) := ⟨Off.rec (Off.of a), h⟩
theorem Nod.two {d x : Nat} {o p : Obj} {l : List (Addr × Obj)} (h : Nod l) (a : AllLt d l) (b : d < x) : Nod ((x, p) :: (d, o) :: l) := by
  refine ⟨⟨Nat.ne_of_lt b, Off.rec fun q hq => Nat.ne_of_lt (Nat.lt_trans (allLt_mem' a hq) b)⟩, h.new a⟩
theorem allLt_up {d e : Nat} {l : List (Addr × Obj)} (a : AllLt d l) (b : d < e) : AllLt e l := by
  induction l with
  | nil => trivial
  | cons q r ih => exact ⟨Nat.lt_trans a.1 b, ih a.2⟩
section
inductive AV where
  | ref (a : Addr) | none | bool (b : Bool) | int (n : Int) | str (s : Str) | val (v : Value)
def AV.den : AV → Value → Prop
  | .ref a, v => v = .ref a
  | .none, v => v = .none
  | .bool b, v => v = .bool b
  | .int n, v => ∃ t, v = .int n t
  | .str s, v => ∃ t, v = .str s t
  | .val u, v => v = u
inductive AVs : List AV → List Value → Prop
  | nil : AVs [] []
  | cons {a : AV} {v : Value} {l : List AV} {vs : List Value} : a.den v → AVs l vs → AVs (a :: l) (v :: vs)
inductive KVs {K : Type} : List (K × AV) → List (K × Value) → Prop
  | nil : KVs [] []
  | cons {k : K} {a : AV} {v : Value} {l : List (K × AV)} {kv : List (K × Value)} : a.den v → KVs l kv → KVs ((k, a) :: l) ((k, v) :: kv)
abbrev tupN (vs : Array Value) (n : Nat) : Obj := ⟨.type "tuple", none, .seq vs n, #[]⟩
def alook (name : Str) : List (Str × AV) → Option AV
  | [] => none
  | (k, u) :: r => if k == name then some u else alook name r
def aset (name : Str) (v : AV) : List (Str × AV) → List (Str × AV)
  | [] => [(name, v)]
  | (k, u) :: r => if k == name then (k, v) :: r else (k, u) :: aset name v r
/-- what a row of stores, the newest first, has made -/
def build : List (Str × AV) → List (Str × AV)
  | [] => []
  | (k, u) :: r => aset k u (build r)
inductive AO where
  | inst (C dx : Addr) | bld (l : List (Str × AV)) (n : Nat) | attrs (l : List (Str × AV)) | sd (l : List (Str × AV)) | idd (l : List (Int × AV)) | lst (l : List AV) | tup (l : List AV) | cell (v : AV) | cell0 | ns (o : Obj) (x : Str) (v : AV) | rng (n : Int) | rl (o : Obj) (l : List AV) | obj (o : Obj) | any | fz (x : AO)
def AO.den (w : World) (a : Addr) : AO → Obj → Prop
  | .inst C dx, o => o = instObj C dx
  | .attrs l, o => l.length ≤ 900 ∧ ∃ kv, Attrs kv o ∧ KVs l kv
  | .bld l n, o => (build l).length ≤ n ∧ ∃ kv, Attrs kv o ∧ KVs (build l) kv
  | .sd l, o => (a == sysModules) = false ∧ ∃ kv, o.IsDictOf (strKind Pg w) kv ∧ KVs l kv
  | .idd l, o => (a == sysModules) = false ∧ ∃ kv, o.IsDictOf (intKind Pg w) kv ∧ KVs l kv
  | .lst l, o => ∃ vs n, o = W.listOf vs.toArray n ∧ AVs l vs
  | .tup l, o => ∃ vs n, o = tupN vs.toArray n ∧ AVs l vs
  | .cell x, o => ∃ v, o.data = .cell (some v) ∧ x.den v
  | .cell0, o => ∃ v, o.data = .cell v
  | .ns o' x b, o => o = o' ∧ ∃ m v, LCg.NsObj o' m ∧ m x = some v ∧ b.den v
  | .rng n, o => ∃ t u v, o = { cls := .type "range", data := .fields #[.int 0 t, .int n u, .int 1 v] }
  | .rl o' l, o => o = o' ∧ ∃ vs n, o' = W.listOf vs.toArray n ∧ AVs l vs
  | .obj o', o => o = o'
  | .any, _ => True
  | .fz x, o => AO.den w a x o
abbrev FM := List (Str × AV)
abbrev LG := List (Addr × AO)
inductive Get : LG → Addr → AO → Prop
  | head {a : Addr} {x : AO} {l : LG} : Get ((a, x) :: l) a x
  | tail {a : Addr} {x : AO} {p : Addr × AO} {l : LG} : Get l a x → Get (p :: l) a x
inductive Put : LG → Addr → AO → AO → LG → Prop
  | head {a : Addr} {x y : AO} {l : LG} : Put ((a, x) :: l) a x y ((a, y) :: l)
  | tail {a : Addr} {x y : AO} {p : Addr × AO} {l l' : LG} : Put l a x y l' → Put (p :: l) a x y (p :: l')
/-- a list of the ledger, open or held -/
inductive Ls (l : LG) (a : Addr) (xs : List AV) : Prop
  | l : Get l a (.lst xs) → Ls l a xs
  | r {o : Obj} : Get l a (.rl o xs) → Ls l a xs
/-- an entry told otherwise, and what then holds -/
inductive PutF (l : LG) (a : Addr) (x y : AO) (X : LG → Prop) : Prop
  | mk {l' : LG} : Put l a x y l' → X l' → PutF l a x y X
theorem Get.mem {l : LG} {a : Addr} {x : AO} (h : Get l a x) : (a, x) ∈ l := by
  induction h with
  | head => exact .head _
  | tail _ ih => exact .tail _ ih
theorem Put.get {l l' : LG} {a : Addr} {x y : AO} (h : Put l a x y l') : Get l a x := by
  induction h with
  | head => exact .head
  | tail _ ih => exact .tail ih
def EnAt (w : World) (h₀ : Heap) (L : Addr) (h : Heap) (p : Addr × AO) (o : Obj) : Prop := p.2.den w p.1 o ∧ h.get? p.1 = some o ∧ p.1 ≠ L ∧ h₀.get? p.1 = none
/-- an entry of the ledger, open or held for good -/
inductive Rd (l : LG) (a : Addr) (x : AO) : Prop
  | g : Get l a x → Rd l a x
  | f : Get l a (.fz x) → Rd l a x
theorem Rd.tail {l : LG} {a : Addr} {x : AO} {p : Addr × AO} (r : Rd l a x) : Rd (p :: l) a x := by
  cases r with
  | g r => exact .g r.tail
  | f r => exact .f r.tail
structure Holds (w : World) (h₀ : Heap) (L : Addr) (m : Str → Option Value) (fm : FM) (l : LG) (h : Heap) : Prop where
  fr : Fr h₀ L h m ∧ ∀ x av, fm.lookup x = some av → ∃ v, m x = some v ∧ av.den v
  en : ∀ p ∈ l, ∃ o, EnAt w h₀ L h p o
  nd : (l.map (·.1)).Nodup
theorem Rd.en {w : World} {h₀ : Heap} {L : Addr} {m : Str → Option Value} {fm : FM} {l : LG} {h : Heap} {a : Addr} {x : AO} (H : Holds w h₀ L m fm l h) (r : Rd l a x) : ∃ o, EnAt w h₀ L h (a, x) o := by
  cases r with
  | g g => exact H.en _ g.mem
  | f g => obtain ⟨o, d, r⟩ := H.en _ g.mem; exact ⟨o, d, r⟩
def Same (s s' : Shared) : Prop := s'.gens = s.gens ∧ s'.drawn = s.drawn ∧ s'.os = s.os
theorem Same.refl (s : Shared) : Same s s := ⟨rfl, rfl, rfl⟩
theorem Same.trans {a b c : Shared} (x : Same a b) (y : Same b c) : Same a c := ⟨y.1.trans x.1, y.2.1.trans x.2.1, y.2.2.trans x.2.2⟩
structure Cx where
  w : World
  h₀ : Heap
  L : Addr
  R : Value → Shared → Shared → Prop
  dp : Nat
  un : Nat
  gd : Option (List Code)
  cn : Str
  nm : List (Str × NameKind)
  g1 : Bool
  g2 : Bool
  mr : List (Str × Const)
  a : Addr
  ccd : Value
  cl : List (Str × Addr)
  outer : List Env
  base : Heap
noncomputable abbrev Cx.env (C : Cx) : Env := envX C.cn ⟨.function, C.nm, C.g1, C.g2, C.mr⟩ C.L C.a C.ccd C.cl
noncomputable abbrev Cx.A (C : Cx) : Around := topA C.dp C.un C.gd C.cn C.nm C.g1 C.g2 C.mr C.L C.a C.ccd C.cl C.outer
structure Good (C : Cx) (k : Nat) : Prop where
  dp : C.dp ≤ k
  un : C.un ≤ 10 * k
  B : ∃ A₀, Below A₀ C.base C.outer C.h₀
  X : (KF C.w.params).In C.h₀
  T : ∃ mean mg mb, Top view0 (looseW view0 loose0) mean mg mb C.h₀
def Cx.K (C : Cx) (m : Str → Option Value) (fm : FM) (l : LG) (s : Shared) : Prop := Holds C.w C.h₀ C.L m fm l s.heap
def Cx.H (C : Cx) (fm : FM) (l : LG) (s : Shared) : Prop := ∃ m, C.K m fm l s
def Cx.er (C : Cx) (s : Shared) (v : Value) (s' : Shared) : Prop := ∃ s₀, Same s s₀ ∧ C.R v s₀ s'
def Cx.vp (C : Cx) (m : Str → Option Value) (fm : FM) (P : AV → LG → Prop) (s : Shared) (v : Value) (s' : Shared) : Prop := ∃ av l', P av l' ∧ av.den v ∧ C.K m fm l' s' ∧ Same s s'
def Cx.vps (C : Cx) (m : Str → Option Value) (fm : FM) (P : List AV → LG → Prop) (s : Shared) (v : List Value) (s' : Shared) : Prop := ∃ av l', P av l' ∧ AVs av v ∧ C.K m fm l' s' ∧ Same s s'
def Cx.bp (C : Cx) (m : Str → Option Value) (fm : FM) (P : Bool → LG → Prop) (s : Shared) (b : Bool) (s' : Shared) : Prop := ∃ l', P b l' ∧ C.K m fm l' s' ∧ Same s s'
inductive AF where
  | next | ret (v : AV) | brk | cont
def AF.den : AF → Flow → Prop
  | .next, f => f = .next
  | .brk, f => f = .brk
  | .cont, f => f = .cont
  | .ret a, f => ∃ v, f = .ret v ∧ a.den v
def Cx.fp (C : Cx) (P : AF → FM → LG → Prop) (s : Shared) (f : Flow) (s' : Shared) : Prop := ∃ af fm' l', P af fm' l' ∧ af.den f ∧ C.H fm' l' s' ∧ Same s s'
structure Ev (C : Cx) (env : Env) (fm : FM) (l : LG) (e : PySem.Expr) (P : AV → LG → Prop) : Prop where
  run : ∀ m s, C.K m fm l s → wpAny (model Pg C.w) C.A (eval e env) (C.vp m fm P s) (C.er s) s
structure EvL (C : Cx) (env : Env) (fm : FM) (l : LG) (es : List PySem.Expr) (P : List AV → LG → Prop) : Prop where
  run : ∀ m s pos, C.K m fm l s → wpAny (model Pg C.w) C.A (spliced (backTo pos (starEach es env))) (C.vps m fm P s) (C.er s) s
structure Cl (C : Cx) (fm : FM) (l : LG) (f : Value) (as : List AV) (P : AV → LG → Prop) : Prop where
  run : ∀ m s vs, C.K m fm l s → AVs as vs → wpAny (model Pg C.w) C.A (call f vs) (C.vp m fm P s) (C.er s) s
structure Tr (C : Cx) (env : Env) (fm : FM) (l : LG) (e : PySem.Expr) (P : Bool → LG → Prop) : Prop where
  run : ∀ m s, C.K m fm l s → wpAny (model Pg C.w) C.A (isTrue e env (eval e env)) (C.bp m fm P s) (C.er s) s
structure TrA (C : Cx) (env : Env) (fm : FM) (l : LG) (e : PySem.Expr) (P : Bool → LG → Prop) : Prop where
  run : ∀ m s whole, C.K m fm l s → wpAny (model Pg C.w) C.A (isTrue e env whole) (C.bp m fm P s) (C.er s) s
structure Cp (C : Cx) (fm : FM) (l : LG) (op : CmpOp) (a b : AV) (P : Bool → LG → Prop) : Prop where
  run : ∀ m s v u, C.K m fm l s → a.den v → b.den u → wpAny (model Pg C.w) C.A (compareOp op v u) (fun c s' => ∃ b, c = .bool b ∧ C.bp m fm P s b s') (C.er s) s
structure Ex (C : Cx) (env : Env) (fm : FM) (l : LG) (ss : List Stmt) (P : AF → FM → LG → Prop) : Prop where
  run : ∀ s, C.H fm l s → wpAny (model Pg C.w) C.A (execs ss env) (C.fp P s) (C.er s) s
variable {C : Cx} {env : Env} {m : Str → Option Value} {fm : FM} {l : LG} {M : Model}
theorem Cx.er.same {s s' : Shared} {v : Value} {s₂ : Shared} (e : Same s s') (h : C.er s' v s₂) : C.er s v s₂ := let ⟨s₀, c, d⟩ := h; ⟨s₀, e.trans c, d⟩
theorem Cx.vp.same {s s' s₂ : Shared} {P : AV → LG → Prop} {v : Value} (e : Same s s') (h : C.vp m fm P s' v s₂) : C.vp m fm P s v s₂ := let ⟨a, b, c, d, f, g⟩ := h; ⟨a, b, c, d, f, e.trans g⟩
theorem Cx.vps.same {s s' s₂ : Shared} {P : List AV → LG → Prop} {v : List Value} (e : Same s s') (h : C.vps m fm P s' v s₂) : C.vps m fm P s v s₂ := let ⟨a, b, c, d, f, g⟩ := h; ⟨a, b, c, d, f, e.trans g⟩
theorem Cx.bp.same {s s' s₂ : Shared} {P : Bool → LG → Prop} {v : Bool} (e : Same s s') (h : C.bp m fm P s' v s₂) : C.bp m fm P s v s₂ := let ⟨b, c, f, g⟩ := h; ⟨b, c, f, e.trans g⟩
theorem Cx.fp.same {s s' s₂ : Shared} {P : AF → FM → LG → Prop} {f : Flow} (e : Same s s') (h : C.fp P s' f s₂) : C.fp P s f s₂ := let ⟨a, b, c, d, f, g, h⟩ := h; ⟨a, b, c, d, f, g, e.trans h⟩
theorem tk_same (s : Shared) (k : Nat) : Same s { s with toks := k } := ⟨rfl, rfl, rfl⟩
theorem hp_same (s : Shared) (h : Heap) (k : Nat) : Same s { s with heap := h, toks := k } := ⟨rfl, rfl, rfl⟩
theorem Ev.go {e : PySem.Expr} {P : AV → LG → Prop} {s : Shared} {Q : Value → Shared → Prop} (h : Ev C env fm l e P) (hs : C.K m fm l s) (k : ∀ av l' v s', P av l' → av.den v → C.K m fm l' s' → Same s s' → Q v s') : wpAny (model Pg C.w) C.A (eval e env) Q (C.er s) s :=
  wpAny_mono (h.run m s hs) (fun v s' ⟨av, l', p, d, hh, e⟩ => k av l' v s' p d hh e) fun _ _ x => x
theorem up {α : Type} {t : Sem α} {s s₁ : Shared} {Q : α → Shared → Prop} (e : Same s s₁) (h : wpAny (model Pg C.w) C.A t Q (C.er s₁) s₁) : wpAny (model Pg C.w) C.A t Q (C.er s) s₁ := wpAny_mono h (fun _ _ x => x) fun _ _ x => Cx.er.same e x
theorem Ev.on {e : PySem.Expr} {P : AV → LG → Prop} {s s₁ : Shared} (h : Ev C env fm l e P) (hs : C.K m fm l s₁) (e' : Same s s₁) : wpAny (model Pg C.w) C.A (eval e env) (C.vp m fm P s) (C.er s) s₁ :=
  up e' (wpAny_mono (h.run m s₁ hs) (fun _ _ x => Cx.vp.same e' x) fun _ _ x => x)
theorem Ex.on {ss : List Stmt} {P : AF → FM → LG → Prop} {s s₁ : Shared} (h : Ex C env fm l ss P) (hs : C.H fm l s₁) (e' : Same s s₁) : wpAny (model Pg C.w) C.A (execs ss env) (C.fp P s) (C.er s) s₁ :=
  up e' (wpAny_mono (h.run s₁ hs) (fun _ _ x => Cx.fp.same e' x) fun _ _ x => x)
-- expressions
theorem Ev_name {x : Str} {p : Pos} {av : AV} {P : AV → LG → Prop} (e : fm.lookup x = some av) (h : P av l) (hL : env.locals = C.L := by rfl) (hk : env.scope.kind = .function := by rfl) (hx : env.kindOf x = some .local := by rfl) (hd : (x == ("__debug__" : Str)) = false := by decide) :
    Ev C env fm l (.Name x p) P := .mk fun m s hs => by
  obtain ⟨F, fh⟩ := hs.fr
  obtain ⟨v, hv, d⟩ := fh x av e
  exact wpAny_Name (wpAny_loadName_local hk hx (hL ▸ F.ns) hv ⟨av, l, h, d, hs, .refl s⟩) hd
theorem Ev_cell {x : Str} {p : Pos} {c : Addr} {av : AV} {P : AV → LG → Prop} (e : env.cells.lookup x = some c) (g : Get l c (.cell av)) (h : P av l) (hk : env.scope.kind = .function := by rfl) (hx : env.kindOf x = some .cell := by rfl) (hd : (x == ("__debug__" : Str)) = false := by decide) :
    Ev C env fm l (.Name x p) P := .mk fun m s hs => by
  obtain ⟨o, ⟨v, hv, d⟩, hg, _⟩ := hs.en _ g.mem
  exact wpAny_Name (wpAny_loadName_cell hk hx e ⟨o, hg, hv⟩ ⟨av, l, h, d, hs, .refl s⟩) hd
theorem Ev_free {x : Str} {p : Pos} {c : Addr} {av : AV} {P : AV → LG → Prop} (e : env.cells.lookup x = some c) (g : Get l c (.cell av)) (h : P av l) (hk : env.scope.kind = .function := by rfl) (hx : env.kindOf x = some .free := by rfl) (hd : (x == ("__debug__" : Str)) = false := by decide) (hn : (x == ("__classdict__" : Str)) = false := by decide) :
    Ev C env fm l (.Name x p) P := .mk fun m s hs => by
  obtain ⟨o, ⟨v, hv, d⟩, hg, _⟩ := hs.en _ g.mem
  exact wpAny_Name (wpAny_loadName_free hk hx e ⟨o, hg, hv⟩ ⟨av, l, h, d, hs, .refl s⟩ hn) hd
theorem Ev_glob {k : Nat} {x : Str} {p : Pos} {v : Value} {P : AV → LG → Prop} (G : Good C k) (e : nsIn (KF C.w.params) mainGlobals x = some (some v)) (h : P (.val v) l) (hg : env.globals = mainGlobals := by rfl) (hk : env.scope.kind = .function := by rfl) (hx : env.kindOf x = some .globalImplicit := by rfl) (hd : (x == ("__debug__" : Str)) = false := by decide) :
    Ev C env fm l (.Name x p) P := .mk fun m s hs => by
  obtain ⟨F, fh⟩ := hs.fr
  obtain ⟨_, mg, _, T⟩ := G.T
  exact PySem.Calls.Name_function_global hk hx (PySem.Calls.loadGlobal_global (mg := mg) (hg ▸ T.g.keeps F.keep) (mg_of G.X T.g e) ⟨.val v, l, h, rfl, hs, .refl s⟩) hd
theorem Ev_int {n : Int} {k : Nat} {p : Pos} {P : AV → LG → Prop} (h : P (.int n) l) : Ev C env fm l (.Constant (.int n) k p) P := .mk fun m s hs => wpAny_Constant_int ⟨.int n, l, h, ⟨_, rfl⟩, hs, tk_same s _⟩
theorem Ev_str {n : Str} {k : Nat} {p : Pos} {P : AV → LG → Prop} (h : P (.str n) l) : Ev C env fm l (.Constant (.str n) k p) P := .mk fun m s hs => wpAny_Constant_str ⟨.str n, l, h, ⟨_, rfl⟩, hs, tk_same s _⟩
theorem Ev_none {k : Nat} {p : Pos} {P : AV → LG → Prop} (h : P .none l) : Ev C env fm l (.Constant .none k p) P := .mk fun m s hs => wpAny_Constant_none ⟨.none, l, h, rfl, hs, .refl s⟩
theorem Ev_bool {b : Bool} {k : Nat} {p : Pos} {P : AV → LG → Prop} (h : P (.bool b) l) : Ev C env fm l (.Constant (.bool b) k p) P := .mk fun m s hs => wpAny_Constant_bool ⟨.bool b, l, h, rfl, hs, .refl s⟩
-- tests
theorem bp_of {s : Shared} {P : Bool → LG → Prop} {b : Bool} (hs : C.K m fm l s) (h : P b l) : C.bp m fm P s b s := ⟨l, h, hs, .refl s⟩
theorem Tr_cmp {x y : PySem.Expr} {op : CmpOp} {p : Pos} {P : Bool → LG → Prop} (h : Ev C env fm l x fun a l₁ => Ev C env fm l₁ y fun b l₂ => Cp C fm l₂ op a b P) (hm : behindInMarks op y = false := by with_unfolding_all rfl) : TrA C env fm l (.Compare x [op] [y] p) P := .mk fun m s whole hs =>
  wpAny_isTrue_Compare1 (h.go hs fun a l₁ v s₁ q d H₁ e₁ => up e₁ (q.go H₁ fun b l₂ u s₂ q₂ d₂ H₂ e₂ => up (e₁.trans e₂) (wpAny_mono (q₂.run m s₂ v u H₂ d d₂) (fun c s₃ ⟨b, hb, r⟩ => by subst hb; exact wpAny_truthy_bool (Cx.bp.same (e₁.trans e₂) r)) fun _ _ x => x))) hm
theorem Tr_of {e : PySem.Expr} {P : Bool → LG → Prop} (h : TrA C env fm l e P) : Tr C env fm l e P := .mk fun m s hs => h.run m s _ hs
theorem Tr_val {e : PySem.Expr} {P : Bool → LG → Prop} (h : Ev C env fm l e fun a l' => ∃ b, a = .bool b ∧ P b l') (he : isTrue e env (eval e env) = (do let v ← eval e env; standAt e.pos; holding [v] (truthy v)) := by rfl) : Tr C env fm l e P := .mk fun m s hs =>
  wpAny_isTrue_value (h.go hs fun a l' v s' ⟨b, hb, q⟩ d hh e => by subst hb; cases d; exact wpAny_truthy_bool ⟨l', q, hh, e⟩) he
inductive IfP (X Y : Prop) : Bool → Prop
  | t : X → IfP X Y true
  | f : Y → IfP X Y false
inductive NxP (X : FM → LG → Prop) (P : AF → FM → LG → Prop) : AF → FM → LG → Prop
  | next {fm : FM} {l : LG} : X fm l → NxP X P .next fm l
  | ret {v : AV} {fm : FM} {l : LG} : P (.ret v) fm l → NxP X P (.ret v) fm l
  | brk {fm : FM} {l : LG} : P .brk fm l → NxP X P .brk fm l
  | cont {fm : FM} {l : LG} : P .cont fm l → NxP X P .cont fm l
theorem TrA_and {x : PySem.Expr} {r : List PySem.Expr} {p : Pos} {P : Bool → LG → Prop} (h : Tr C env fm l x fun b l' => IfP (TrA C env fm l' (.BoolOp .And r p) P) (P false l') b) : TrA C env fm l (.BoolOp .And (x :: r) p) P := .mk fun m s whole hs =>
  isTrue_and (wpAny_mono (h.run m s hs) (fun b s' ⟨l', q, hh, e⟩ => by
    cases q with
    | f q => exact ⟨l', q, hh, e⟩
    | t q => exact up e (wpAny_mono (q.run m s' whole hh) (fun _ _ x => Cx.bp.same e x) fun _ _ x => x)) fun _ _ x => x)
theorem TrA_and0 {p : Pos} {P : Bool → LG → Prop} (h : P true l) : TrA C env fm l (.BoolOp .And [] p) P := .mk fun m s whole hs => isTrue_and_nil (bp_of hs h)
theorem TrA_or {x : PySem.Expr} {r : List PySem.Expr} {p : Pos} {P : Bool → LG → Prop} (h : Tr C env fm l x fun b l' => IfP (P true l') (TrA C env fm l' (.BoolOp .Or r p) P) b) : TrA C env fm l (.BoolOp .Or (x :: r) p) P := .mk fun m s whole hs =>
  isTrue_or (wpAny_mono (h.run m s hs) (fun b s' ⟨l', q, hh, e⟩ => by
    cases q with
    | f q => exact up e (wpAny_mono (q.run m s' whole hh) (fun _ _ x => Cx.bp.same e x) fun _ _ x => x)
    | t q => exact ⟨l', q, hh, e⟩) fun _ _ x => x)
theorem TrA_or0 {p : Pos} {P : Bool → LG → Prop} (h : P false l) : TrA C env fm l (.BoolOp .Or [] p) P := .mk fun m s whole hs => isTrue_or_nil (bp_of hs h)
theorem TrA_not {x : PySem.Expr} {p : Pos} {P : Bool → LG → Prop} (h : Tr C env fm l x fun b l' => P (!b) l') : TrA C env fm l (.UnaryOp .Not x p) P := .mk fun m s whole hs =>
  isTrue_not (wpAny_mono (h.run m s hs) (fun b s' ⟨l', q, hh, e⟩ => ⟨l', q, hh, e⟩) fun _ _ x => x)
-- comparisons
theorem Cp_of {op : CmpOp} {a b : AV} {c : Bool} {P : Bool → LG → Prop} (k : ∀ (s : Shared) (v u : Value) (Q E : Value → Shared → Prop), a.den v → b.den u → Q (.bool c) s → wpAny (model Pg C.w) C.A (compareOp op v u) Q E s) (h : P c l) : Cp C fm l op a b P := .mk fun m s v u hs d d' => k s v u _ _ d d' ⟨c, rfl, bp_of hs h⟩
theorem Cp_eqs {x y : Str} {c : Bool} {P : Bool → LG → Prop} (e : (x == y) = c) (h : P c l) : Cp C fm l .Eq (.str x) (.str y) P := Cp_of (c := c) (fun s v u Q E d d' q => by obtain ⟨t, rfl⟩ := d; obtain ⟨t', rfl⟩ := d'; exact eq_str (e ▸ q)) h
theorem Cp_eqst {x : Str} {P : Bool → LG → Prop} (h : P true l) : Cp C fm l .Eq (.str x) (.str x) P := Cp_eqs (by simp) h
theorem Cp_eqsf {x y : Str} {P : Bool → LG → Prop} (e : (x == y) = false) (h : P false l) : Cp C fm l .Eq (.str x) (.str y) P := Cp_eqs e h
theorem Cp_nes {x y : Str} {c : Bool} {P : Bool → LG → Prop} (e : (x != y) = c) (h : P c l) : Cp C fm l .NotEq (.str x) (.str y) P := Cp_of (c := c) (fun s v u Q E d d' q => by obtain ⟨t, rfl⟩ := d; obtain ⟨t', rfl⟩ := d'; exact ne_str (e ▸ q)) h
theorem Cp_eqi {x y : Int} {c : Bool} {P : Bool → LG → Prop} (e : (x == y) = c) (h : P c l) : Cp C fm l .Eq (.int x) (.int y) P := Cp_of (c := c) (fun s v u Q E d d' q => by obtain ⟨t, rfl⟩ := d; obtain ⟨t', rfl⟩ := d'; exact PySem.P.eq_int (e ▸ q)) h
theorem Cp_isnn {P : Bool → LG → Prop} (h : P true l) : Cp C fm l .Is .none .none P := Cp_of (c := true) (fun s v u Q E d d' q => by cases d; cases d'; exact is_none_none q) h
theorem Cp_isrn {a : Addr} {P : Bool → LG → Prop} (h : P false l) : Cp C fm l .Is (.ref a) .none P := Cp_of (c := false) (fun s v u Q E d d' q => by cases d; cases d'; exact is_ref_none q) h
theorem Cp_notnn {P : Bool → LG → Prop} (h : P false l) : Cp C fm l .IsNot .none .none P := Cp_of (c := false) (fun s v u Q E d d' q => by cases d; cases d'; exact isnot_none_none q) h
theorem Cp_notrn {a : Addr} {P : Bool → LG → Prop} (h : P true l) : Cp C fm l .IsNot (.ref a) .none P := Cp_of (c := true) (fun s v u Q E d d' q => by cases d; cases d'; exact isnot_ref_none q) h
-- statements
theorem Ex_nil {P : AF → FM → LG → Prop} (h : P .next fm l) : Ex C env fm l [] P := .mk fun s hs => wpAny_execs_nil ⟨.next, fm, l, h, rfl, hs, .refl s⟩
theorem Ex_ret {e : PySem.Expr} {p : Pos} {r : List Stmt} {P : AF → FM → LG → Prop} (h : Ev C env fm l e fun av l' => P (.ret av) fm l') : Ex C env fm l (.Return (some e) p :: r) P := .mk fun s ⟨m, hs⟩ =>
  wpAny_execs_cons (wpAny_Return_some (h.go hs fun av l' v s' q d hh e => ⟨.ret av, fm, l', q, ⟨v, rfl, d⟩, ⟨m, hh⟩, e⟩))
theorem Ex_ret0 {p : Pos} {r : List Stmt} {P : AF → FM → LG → Prop} (h : P (.ret .none) fm l) : Ex C env fm l (.Return none p :: r) P := .mk fun s hs =>
  wpAny_execs_cons (wpAny_Return_none ⟨.ret .none, fm, l, h, ⟨.none, rfl, rfl⟩, hs, .refl s⟩)
theorem Ex_seq {ss r : List Stmt} {P : AF → FM → LG → Prop} {s s' : Shared} (q : Ex C env fm l ss (NxP (fun fm' l' => Ex C env fm' l' r P) P)) (hh : C.H fm l s') (e : Same s s') :
    wpAny (model Pg C.w) C.A (execs ss env) (fun f s' => match f with | .next => wpAny (model Pg C.w) C.A (execs r env) (C.fp P s) (C.er s) s' | f => C.fp P s f s') (C.er s) s' := by
  refine wpAny_mono (q.on hh e) (fun f s₂ ⟨af, fm', l'', q₂, d, hh₂, e₂⟩ => ?_) fun _ _ x => x
  cases q₂ with
  | next q₂ => cases d; exact Ex.on q₂ hh₂ e₂
  | ret q₂ => obtain ⟨v', rfl, d'⟩ := d; exact ⟨_, fm', l'', q₂, ⟨v', rfl, d'⟩, hh₂, e₂⟩
  | brk q₂ => cases d; exact ⟨.brk, fm', l'', q₂, rfl, hh₂, e₂⟩
  | cont q₂ => cases d; exact ⟨.cont, fm', l'', q₂, rfl, hh₂, e₂⟩
theorem Ex_if {t : PySem.Expr} {b o r : List Stmt} {p : Pos} {P : AF → FM → LG → Prop} (h : Tr C env fm l t fun c l' => IfP (Ex C env fm l' b (NxP (fun fm' l' => Ex C env fm' l' r P) P)) (Ex C env fm l' o (NxP (fun fm' l' => Ex C env fm' l' r P) P)) c) : Ex C env fm l (.If t b o p :: r) P := .mk fun s ⟨m, hs⟩ => by
  refine wpAny_execs_cons (wpAny_If (wpAny_mono (h.run m s hs) (fun c s' ⟨l', q, hh, e⟩ => ?_) fun _ _ x => x))
  cases q with
  | t q => exact Ex_seq q ⟨m, hh⟩ e
  | f q => exact Ex_seq q ⟨m, hh⟩ e
theorem fr_set {h h' : Heap} {x : Str} {av : AV} {v : Value} {m : Str → Option Value} (fh : ∀ x av, fm.lookup x = some av → ∃ v, m x = some v ∧ av.den v) (d : av.den v) :
    ∀ y bv, List.lookup y ((x, av) :: fm) = some bv → ∃ u, (if y = x then some v else m y) = some u ∧ bv.den u := fun y bv e => by
  rw [List.lookup_cons] at e
  by_cases q : y = x
  · subst q
    rw [beq_self_eq_true] at e
    cases e
    exact ⟨v, if_pos rfl, d⟩
  · rw [show (y == x) = false from beq_eq_false_iff_ne.mpr q] at e
    rw [if_neg q]
    exact fh y bv e
theorem Ex_asg {x : Str} {e : PySem.Expr} {px p : Pos} {r : List Stmt} {P : AF → FM → LG → Prop} (h : Ev C env fm l e fun av l' => Ex C env ((x, av) :: fm) l' r P) (hL : env.locals = C.L := by rfl) (hx : env.kindOf x = some .local := by rfl)
    (hs' : swapsWith e (some (.Name x px)) p.line env = pure false := by rfl) (hp : (env.scope.kind == .class || (env.scope.kind == .module && env.locals != env.globals)) = false := by rfl) : Ex C env fm l (.Assign [.Name x px] e p :: r) P := .mk fun s ⟨m, hs⟩ => by
  refine wpAny_execs_cons (wpAny_Assign_Name (h.go hs fun av l' v s₁ q d hh e₁ => ?_) hs')
  obtain ⟨⟨F, fh⟩, en, nd⟩ := hh
  refine wpAny_storeName_local hx (hL ▸ F.ns) (fun h' hn sb => ?_) hp
  rw [hL] at hn sb
  refine Ex.on q ⟨_, ⟨F.set hn sb, fr_set (h := h') (h' := h') fh d⟩, fun p hp => ?_, nd⟩ (e₁.trans (hp_same s₁ h' _))
  obtain ⟨o, a, b, c, d⟩ := en p hp
  exact ⟨o, a, sb.extBut _ _ c b, c, d⟩
theorem Ex_expr {e : PySem.Expr} {p : Pos} {r : List Stmt} {P : AF → FM → LG → Prop} (h : Ev C env fm l e fun av l' => av = .none ∧ Ex C env fm l' r P) (hi : interactive env = false := by rfl) (hs' : swapsWith e none p.line env = pure false := by rfl) : Ex C env fm l (.Expr e p :: r) P := .mk fun s ⟨m, hs⟩ =>
  wpAny_execs_cons (wpAny_Expr (h.go hs fun av l' v s' ⟨a, q⟩ d hh e => by subst a; cases d; exact Ex.on q ⟨m, hh⟩ e) hi hs')
end
section
theorem KVs.look {name : Str} {al : List (Str × AV)} {kv : List (Str × Value)} {b : AV} (h : KVs al kv) (e : alook name al = some b) : ∃ v, getAL name kv = some v ∧ b.den v := by
  induction h with
  | nil => cases e
  | @cons k a v l kv d _ ih =>
    unfold alook at e
    rw [getAL_cons]
    cases q : k == name with
    | true => rw [q] at e; cases e; exact ⟨v, rfl, d⟩
    | false => rw [q] at e; exact ih e
theorem KVs.set {name : Str} {al : List (Str × AV)} {kv : List (Str × Value)} {b : AV} {v : Value} (h : KVs al kv) (d : b.den v) : KVs (aset name b al) (setAL name v kv) := by
  induction h with
  | nil => exact .cons d .nil
  | @cons k a v' l kv d' r ih =>
    unfold aset
    rw [setAL_cons]
    cases q : k == name with
    | true => exact .cons d r
    | false => exact .cons d' ih
theorem KVs.len {K : Type} {al : List (K × AV)} {kv : List (K × Value)} (h : KVs al kv) : kv.length = al.length := by
  induction h with
  | nil => rfl
  | cons _ _ ih => rw [List.length_cons, List.length_cons, ih]
def AttrOk (P : Params) (C : Addr) (name : Str) : Prop := plainGet (KF P) C name = true ∧ hasDictIn (KF P) C = true ∧ ∃ attr, findIn (KF P) (.ref C) name = some attr ∧ noGet (KF P) attr = true
def SetOk (P : Params) (C : Addr) (name : Str) : Prop := findIn (KF P) (.ref C) "__setattr__" = some (some (.builtin "object.__setattr__")) ∧ plainOver (KF P) C = true ∧ takerIn (KF P) C name = some none ∧ hasDictIn (KF P) C = true
inductive Den (w : World) : LG → List (Addr × Obj) → Prop
  | nil : Den w [] []
  | cons {a : Addr} {x : AO} {o : Obj} {l : LG} {n : List (Addr × Obj)} : x.den w a o → Den w l n → Den w ((a, x) :: l) ((a, o) :: n)
variable {w : World} {h₀ h : Heap} {L : Addr} {m : Str → Option Value} {fm : FM} {l l' : LG} {C : Cx} {env : Env} {k : Nat}
theorem Den.adr {n : List (Addr × Obj)} (d : Den w l n) : n.map (·.1) = l.map (·.1) := by
  induction d with
  | nil => rfl
  | cons _ _ ih => rw [List.map_cons, List.map_cons, ih]
theorem Den.get {n : List (Addr × Obj)} (d : Den w l n) {a : Addr} {x : AO} (g : Get l a x) : ∃ o, (a, o) ∈ n ∧ x.den w a o := by
  induction g generalizing n with
  | head => cases d with | cons a b => exact ⟨_, .head _, a⟩
  | tail _ ih =>
    cases d with
    | cons _ b =>
      obtain ⟨o, m, e⟩ := ih b
      exact ⟨o, .tail _ m, e⟩
theorem den_ex : ∀ {l : LG}, (∀ p ∈ l, ∃ o, EnAt w h₀ L h p o) → ∃ n, Den w l n ∧ News h₀ L h n
  | [], _ => ⟨[], .nil, News.nil⟩
  | (a, x) :: l, e => by
    obtain ⟨o, d, r⟩ := e _ (.head _)
    obtain ⟨n, d', N⟩ := den_ex fun p hp => e p (.tail _ hp)
    exact ⟨(a, o) :: n, .cons d d', fun p hp => by
      rcases List.mem_cons.mp hp with rfl | hp
      · exact r
      · exact N p hp⟩
theorem den_en {n : List (Addr × Obj)} (d : Den w l n) (N : News h₀ L h n) : ∀ p ∈ l, ∃ o, EnAt w h₀ L h p o := by
  induction d with
  | nil => exact fun _ h => nomatch h
  | cons a _ ih =>
    intro p hp
    rcases List.mem_cons.mp hp with rfl | hp
    · exact ⟨_, a, N _ (.head _)⟩
    · exact ih (fun q hq => N q (.tail _ hq)) p hp
theorem Put.get' {a : Addr} {x y : AO} (u : Put l a x y l') : Get l' a y := by
  induction u with
  | head => exact .head
  | tail _ ih => exact .tail ih
theorem Put.split {a : Addr} {x y : AO} (u : Put l a x y l') : ∃ p q, l = p ++ (a, x) :: q ∧ l' = p ++ (a, y) :: q := by
  induction u with
  | head => exact ⟨[], _, rfl, rfl⟩
  | @tail _ _ _ p _ _ _ ih =>
    obtain ⟨p', q, rfl, rfl⟩ := ih
    exact ⟨p :: p', q, rfl, rfl⟩
theorem Den.app {n n' : List (Addr × Obj)} {m : LG} (d : Den w l n) (e : Den w m n') : Den w (l ++ m) (n ++ n') := by
  induction d with
  | nil => exact e
  | cons a _ ih => exact .cons a ih
theorem Den.split {m : LG} : ∀ {l : LG} {n : List (Addr × Obj)}, Den w (l ++ m) n → ∃ a b, n = a ++ b ∧ Den w l a ∧ Den w m b
  | [], n, d => ⟨[], n, rfl, .nil, d⟩
  | p :: l, n, d => by
    cases d with
    | cons a d =>
      obtain ⟨x, y, rfl, d1, d2⟩ := Den.split d
      exact ⟨_ :: x, y, rfl, .cons a d1, d2⟩
theorem nodup_nod {n : List (Addr × Obj)} (d : Den w l n) (nd : (l.map (·.1)).Nodup) : Nod n := nod_iff.mpr (d.adr ▸ nd)
theorem Get.uniq (nd : (l.map (·.1)).Nodup) {a : Addr} {x y : AO} (g : Get l a x) (g' : Get l a y) : x = y := by
  induction g with
  | head =>
    cases g' with
    | head => rfl
    | tail g' => exact absurd (List.mem_map_of_mem (f := (·.1)) g'.mem) (List.nodup_cons.mp nd).1
  | tail g ih =>
    cases g' with
    | head => exact absurd (List.mem_map_of_mem (f := (·.1)) g.mem) (List.nodup_cons.mp nd).1
    | tail g' => exact ih (List.nodup_cons.mp nd).2 g'
/-- one entry taken out of the ledger: to be changed, the others to stand -/
theorem Holds.upd (H : Holds w h₀ L m fm l h) {a : Addr} {x y : AO} (u : Put l a x y l') : ∃ o rest, Fr h₀ L h m ∧ x.den w a o ∧ News h₀ L h ((a, o) :: rest) ∧ Nod ((a, o) :: rest) ∧
    (∀ b z, Get l b z → x ≠ z → ∃ o', (b, o') ∈ rest ∧ z.den w b o') ∧ (∀ h' o', y.den w a o' → Fr h₀ L h' m → News h₀ L h' ((a, o') :: rest) → Holds w h₀ L m fm l' h') := by
  obtain ⟨⟨F, fh⟩, en, nd⟩ := H
  have g0 := u.get
  obtain ⟨p, q, rfl, rfl⟩ := u.split
  obtain ⟨n, d, N⟩ := den_ex en
  obtain ⟨n1, n2, rfl, d1, d2⟩ := Den.split d
  cases d2 with
  | @cons _ _ o _ n2 da d2 =>
    have nn := nodup_nod d nd
    refine ⟨o, n1 ++ n2, F, da, fun b hb => N b ?_, ?_, fun b z g ne => ?_, fun h' o' e F' N' => ⟨⟨F', fh⟩, den_en (d1.app (.cons e d2)) fun b hb => N' b ?_, ?_⟩⟩
    · rcases List.mem_cons.mp hb with rfl | hb
      · exact List.mem_append_right _ (.head _)
      · exact (List.mem_append.mp hb).elim (List.mem_append_left _) fun z => List.mem_append_right _ (.tail _ z)
    · rw [nod_iff] at nn ⊢
      have pr : (n1 ++ (a, o) :: n2).Perm ((a, o) :: (n1 ++ n2)) := List.perm_middle
      exact ((pr.map _).nodup_iff).mp nn
    · obtain ⟨o', mm, e⟩ := d.get g
      refine ⟨o', ?_, e⟩
      rcases List.mem_append.mp mm with z' | z'
      · exact List.mem_append_left _ z'
      · rcases List.mem_cons.mp z' with z' | z'
        · cases z'
          exact absurd (Get.uniq nd g0 g) ne
        · exact List.mem_append_right _ z'
    · rcases List.mem_append.mp hb with z | z
      · exact .tail _ (List.mem_append_left _ z)
      · rcases List.mem_cons.mp z with rfl | z
        · exact .head _
        · exact .tail _ (List.mem_append_right _ z)
    · rw [List.map_append, List.map_cons] at nd ⊢
      exact nd
/-- the whole ledger, written out -/
theorem Holds.out (H : Holds w h₀ L m fm l h) : ∃ n, Fr h₀ L h m ∧ Den w l n ∧ News h₀ L h n ∧ Nod n ∧ ∀ h', Fr h₀ L h' m → News h₀ L h' n → Holds w h₀ L m fm l h' := by
  obtain ⟨⟨F, fh⟩, en, nd⟩ := H
  obtain ⟨n, d, N⟩ := den_ex en
  exact ⟨n, F, d, N, nodup_nod d nd, fun h' F' N' => ⟨⟨F', fh⟩, den_en d N', nd⟩⟩
theorem Holds.new {h' : Heap} {n : List (Addr × Obj)} {a : Addr} {x : AO} {o : Obj} (H : ∀ h', Fr h₀ L h' m → News h₀ L h' n → Holds w h₀ L m fm l h') (d : Den w l n) (F : Fr h₀ L h' m) (e : x.den w a o) (N : News h₀ L h' ((a, o) :: n)) (al : AllLt a n) : Holds w h₀ L m fm ((a, x) :: l) h' := by
  obtain ⟨fr, en, nd⟩ := H h' F fun p hp => N p (.tail _ hp)
  refine ⟨fr, fun p hp => ?_, ?_⟩
  · rcases List.mem_cons.mp hp with rfl | hp
    · exact ⟨o, e, N _ (.head _)⟩
    · exact en p hp
  · rw [List.map_cons, List.nodup_cons]
    refine ⟨fun hm => ?_, nd⟩
    rw [← d.adr] at hm
    obtain ⟨q, hq, e'⟩ := List.mem_map.mp hm
    exact allLt_ne al q hq e'
theorem Put.obj {a : Addr} {x y : AO} (u : Put l a x y l') {n : List (Addr × Obj)} {w : World} (d : Den w l n) : ∃ o, (a, o) ∈ n ∧ x.den w a o ∧ (y.den w a o → Den w l' n) := by
  induction u generalizing n with
  | head => cases d with | cons a b => exact ⟨_, .head _, a, fun z => .cons z b⟩
  | tail _ ih =>
    cases d with
    | cons c b =>
      obtain ⟨o, m, e, f⟩ := ih b
      exact ⟨o, .tail _ m, e, fun z => .cons c (f z)⟩
theorem Put.adr {a : Addr} {x y : AO} (u : Put l a x y l') : l'.map (·.1) = l.map (·.1) := by
  induction u with
  | head => rfl
  | tail _ ih => rw [List.map_cons, List.map_cons, ih]
-- attributes
structure At' (C : Cx) (fm : FM) (l : LG) (a : AV) (name : Str) (P : AV → LG → Prop) : Prop where
  run : ∀ m s v, C.K m fm l s → a.den v → wpAny (model Pg C.w) C.A (getAttr v name true) (C.vp m fm P s) (C.er s) s
structure Sa (C : Cx) (fm : FM) (l : LG) (a : AV) (name : Str) (b : AV) (P : LG → Prop) : Prop where
  run : ∀ m s v u, C.K m fm l s → a.den v → b.den u → wpAny (model Pg C.w) C.A (setAttr v name u) (fun _ s' => ∃ l', P l' ∧ C.K m fm l' s' ∧ Same s s') (C.er s) s
theorem handed (a : AV) (h : ∀ v, a ≠ .val v) {v : Value} (d : a.den v) : handedIn v = true := by
  cases a with
  | ref => cases d; rfl
  | none => cases d; rfl
  | bool => cases d; rfl
  | int => obtain ⟨t, rfl⟩ := d; rfl
  | str => obtain ⟨t, rfl⟩ := d; rfl
  | val v => exact absurd rfl (h v)
def AV.plain : AV → Bool
  | .val _ => false
  | _ => true
theorem plain_ne {a : AV} (h : a.plain = true) : ∀ v, a ≠ .val v := fun v q => by subst q; cases h
theorem At_inst {o K dx : Addr} {al : List (Str × AV)} {name : Str} {b : AV} {P : AV → LG → Prop} (G : Good C k) (g1 : Rd l o (.inst K dx)) (g2 : Rd l dx (.attrs al)) (e : alook name al = some b) (ok : AttrOk C.w.params K name) (h : P b l) (hb : b.plain = true := by rfl) : At' C fm l (.ref o) name P := .mk fun m s v hs d => by
  cases d
  obtain ⟨F, fh⟩ := hs.fr
  obtain ⟨_, rfl, a1, a2, a3⟩ := g1.en hs
  obtain ⟨od, ⟨_, kv, D, dk⟩, b1, b2, b3⟩ := g2.en hs
  obtain ⟨u, hu, du⟩ := dk.look e
  obtain ⟨q1, q2, attr, q3, q4⟩ := ok
  exact getA (hp := s.heap) (gs := s.gens) (dr := s.drawn) (tk := s.toks) (os := s.os) (news := [(o, instObj K dx), (dx, od)]) F G.X (fun p hp => by
    rcases List.mem_cons.mp hp with rfl | hp
    · exact ⟨a1, a2, a3⟩
    · rw [List.mem_singleton.mp hp]; exact ⟨b1, b2, b3⟩) (.head _) (.tail _ (.head _)) D q1 q2 q3 q4 hu (handed b (plain_ne hb) du) ⟨b, l, h, du, hs, tk_same s _⟩
theorem build_look (name : Str) : ∀ l : List (Str × AV), alook name (build l) = alook name l
  | [] => rfl
  | (k, u) :: r => by
    have ih := build_look name r
    show alook name (aset k u (build r)) = if k == name then some u else alook name r
    rw [← ih]
    generalize build r = l
    induction l with
    | nil => rfl
    | cons p l ih' =>
      obtain ⟨k', u'⟩ := p
      unfold aset
      cases q : k' == k with
      | true =>
        have e : k' = k := by simpa using q
        subst e
        simp only [if_true]
        show (if k' == name then some u else alook name l) = if k' == name then some u else (if k' == name then some u' else alook name l)
        cases k' == name <;> rfl
      | false =>
        simp only [Bool.false_eq_true, if_false]
        show (if k' == name then some u' else alook name (aset k u l)) = if k == name then some u else (if k' == name then some u' else alook name l)
        rw [ih']
        cases z : k' == name with
        | false => rfl
        | true =>
          have e : k' = name := by simpa using z
          subst e
          have : (k == k') = false := by
            rw [← Bool.not_eq_true]; intro y
            have : k = k' := by simpa using y
            rw [this] at q; simp at q
          rw [this]; rfl
theorem aset_le (name : Str) (v : AV) : ∀ l : List (Str × AV), (aset name v l).length ≤ l.length + 1
  | [] => Nat.le_refl _
  | (k, u) :: r => by
    unfold aset
    cases k == name with
    | true => exact Nat.le_succ _
    | false => exact Nat.succ_le_succ (aset_le name v r)
theorem aset_old (name : Str) (v : AV) : ∀ {l : List (Str × AV)} {b : AV}, alook name l = some b → (aset name v l).length = l.length
  | [], _, h => nomatch h
  | (k, u) :: r, b, h => by
    unfold aset
    unfold alook at h
    cases q : k == name with
    | true => rfl
    | false =>
      rw [q] at h
      exact congrArg (· + 1) (aset_old name v (l := r) h)
theorem At_bld {o K dx : Addr} {al : List (Str × AV)} {n : Nat} {name : Str} {b : AV} {P : AV → LG → Prop} (G : Good C k) (g1 : Get l o (.inst K dx)) (g2 : Get l dx (.bld al n)) (e : alook name al = some b) (ok : AttrOk C.w.params K name) (h : P b l) (hb : b.plain = true := by rfl) : At' C fm l (.ref o) name P := .mk fun m s v hs d => by
  cases d
  obtain ⟨F, fh⟩ := hs.fr
  obtain ⟨_, rfl, a1, a2, a3⟩ := hs.en _ g1.mem
  obtain ⟨od, ⟨_, kv, D, dk⟩, b1, b2, b3⟩ := hs.en _ g2.mem
  obtain ⟨u, hu, du⟩ := dk.look ((build_look name al).trans e)
  obtain ⟨q1, q2, attr, q3, q4⟩ := ok
  exact getA (hp := s.heap) (gs := s.gens) (dr := s.drawn) (tk := s.toks) (os := s.os) (news := [(o, instObj K dx), (dx, od)]) F G.X (fun p hp => by
    rcases List.mem_cons.mp hp with rfl | hp
    · exact ⟨a1, a2, a3⟩
    · rw [List.mem_singleton.mp hp]; exact ⟨b1, b2, b3⟩) (.head _) (.tail _ (.head _)) D q1 q2 q3 q4 hu (handed b (plain_ne hb) du) ⟨b, l, h, du, hs, tk_same s _⟩
theorem sa_any {o K dx : Addr} {x y : AO} {al : List (Str × AV)} {name : Str} {b : AV} {P : LG → Prop} (G : Good C k) (g1 : Get l o (.inst K dx)) (u : Put l dx x y l') (hx : ∀ od, x.den C.w dx od → ∃ kv, Attrs kv od ∧ KVs al kv) (hy : ∀ od kv, Attrs kv od → KVs (aset name b al) kv → y.den C.w dx od) (ne : x ≠ .inst K dx) (ok : SetOk C.w.params K name) (h : P l') (hz : (aset name b al).length ≤ 1000) : Sa C fm l (.ref o) name b P := .mk fun m s v x hs d dx' => by
  cases d
  obtain ⟨od, rest, F, dd, N, nn, oth, back⟩ := hs.upd u
  obtain ⟨kv, D, dk⟩ := hx od dd
  obtain ⟨_, m1, rfl⟩ := oth _ _ g1 ne
  obtain ⟨q1, q2, q3, q4⟩ := ok
  have dk' := dk.set (name := name) dx'
  exact setA (hp := s.heap) (gs := s.gens) (dr := s.drawn) (tk := s.toks) (os := s.os) F G.X N (.tail _ m1) (.head nn.1.off) D q1 q2 q3 q4 rfl (by rw [dk'.len]; exact hz) fun h' od' F' N' D' => ⟨l', h, back h' od' (hy od' _ D' dk') F' N', hp_same s h' _⟩
theorem Sa_inst {o K dx : Addr} {al : List (Str × AV)} {name : Str} {b c : AV} {P : LG → Prop} (G : Good C k) (g1 : Get l o (.inst K dx)) (u : Put l dx (.attrs al) (.attrs (aset name b al)) l') (e : alook name al = some c) (ok : SetOk C.w.params K name) (h : P l') : Sa C fm l (.ref o) name b P := .mk fun m s v x hs d dx' => by
  obtain ⟨_, ⟨z, _⟩, _⟩ := hs.en _ u.get.mem
  exact (sa_any G g1 u (fun _ d => d.2) (fun _ _ a b => ⟨by rw [aset_old _ _ e]; exact z, _, a, b⟩) (fun q => by cases q) ok h (by rw [aset_old _ _ e]; exact Nat.le_trans z (Nat.le_of_ble_eq_true rfl))).run m s v x hs d dx'
theorem Sa_bld {o K dx : Addr} {al : List (Str × AV)} {n : Nat} {name : Str} {b : AV} {P : LG → Prop} (G : Good C k) (g1 : Get l o (.inst K dx)) (u : Put l dx (.bld al n) (.bld ((name, b) :: al) (n + 1)) l') (ok : SetOk C.w.params K name) (h : P l') (hz : Nat.ble n 900 = true) : Sa C fm l (.ref o) name b P := .mk fun m s v x hs d dx' => by
  obtain ⟨_, ⟨z, _⟩, _⟩ := hs.en _ u.get.mem
  have z' : (build ((name, b) :: al)).length ≤ n + 1 := Nat.le_trans (aset_le _ _ _) (Nat.succ_le_succ z)
  exact (sa_any G g1 u (fun _ d => d.2) (fun _ _ a b => ⟨z', _, a, b⟩) (fun q => by cases q) ok h (Nat.le_trans z' (Nat.le_trans (Nat.succ_le_succ (Nat.le_of_ble_eq_true hz)) (Nat.le_of_ble_eq_true rfl)))).run m s v x hs d dx'
theorem Ex_conv {a : Addr} {x y : AO} {ss : List Stmt} {P : AF → FM → LG → Prop} (u : Put l a x y l') (c : ∀ o, x.den C.w a o → y.den C.w a o) (h : Ex C env fm l' ss P) : Ex C env fm l ss P := .mk fun s ⟨m, hs⟩ => by
  refine h.run s ⟨m, ?_⟩
  obtain ⟨fr, en, nd⟩ := hs
  obtain ⟨n, d, N⟩ := den_ex en
  obtain ⟨o, hm, dx, back⟩ := u.obj d
  exact ⟨fr, den_en (back (c o dx)) N, u.adr ▸ nd⟩
theorem Ex_built {a : Addr} {al al' : List (Str × AV)} {n : Nat} {ss : List Stmt} {P : AF → FM → LG → Prop} (u : Put l a (.bld al n) (.attrs al') l') (e : build al = al') (z : al'.length ≤ 900) (h : Ex C env fm l' ss P) : Ex C env fm l ss P :=
  Ex_conv u (fun _ d => ⟨z, e ▸ d.2⟩) h
theorem Ev_attr {e : PySem.Expr} {name : Str} {p : Pos} {P : AV → LG → Prop} (h : Ev C env fm l e fun a l' => At' C fm l' a name P)
    (he : eval (.Attribute e name p) env = (do
      let o ← eval e env
      standAt p.atName
      let r ← holding [o] (getAttr o name true)
      letTemporaryGo e o r
      pure r) := by with_unfolding_all rfl) : Ev C env fm l (.Attribute e name p) P := .mk fun m s hs =>
  Attribute_any_ (h.go hs fun a l' v s' q d hh e => up e (wpAny_mono (q.run m s' v hh d) (fun _ _ x => Cx.vp.same e x) fun _ _ x => x)) he
theorem Ex_asgA {o e : PySem.Expr} {name : Str} {pa p : Pos} {r : List Stmt} {P : AF → FM → LG → Prop} (h : Ev C env fm l e fun b l₁ => Ev C env fm l₁ o fun a l₂ => Sa C fm l₂ a name b fun l₃ => Ex C env fm l₃ r P)
    (hs' : swapsWith e (some (.Attribute o name pa)) p.line env = pure false := by rfl) : Ex C env fm l (.Assign [.Attribute o name pa] e p :: r) P := .mk fun s ⟨m, hs⟩ =>
  wpAny_execs_cons (plainObj_wpAny_Assign_Attribute (h.go hs fun b l₁ v s₁ q d H₁ e₁ => up e₁ (q.go H₁ fun a l₂ u s₂ q₂ d₂ H₂ e₂ => up (e₁.trans e₂) (wpAny_mono (q₂.run m s₂ u v H₂ d₂ d) (fun _ s₃ ⟨l₃, q₃, H₃, e₃⟩ => Ex.on q₃ ⟨m, H₃⟩ ((e₁.trans e₂).trans e₃)) fun _ _ x => x))) hs')
end
/-- what may be called: what K keeps, a builtin, a type -/
inductive Kpt (K : Frag) : Value → Prop
  | b {id : String} : Kpt K (.builtin id)
  | t {id : String} : Kpt K (.type id)
  | k {v : Value} : keepIn K v = true → Kpt K v
section
variable {M : Model} {A : Around} {E : Value → Shared → Prop} {s : Shared} {K : Frag} {env : Env} {pos : Pos} {f : Value} {first : List Value} {Q : Value → Shared → Prop}
theorem keeps_B (hk : Kpt K f) (h : Heap) (X : K.In h) : ∃ k, (k = Keeper.frame ∨ k = Keeper.machine ∨ k = Keeper.boundFrame) ∧ Looks M h (keeperOf f) k := by
  cases hk with
  | b => exact ⟨.machine, .inr (.inl rfl), Looks.of_pure rfl⟩
  | t => exact ⟨.machine, .inr (.inl rfl), Looks.of_pure rfl⟩
  | k e => exact keeps_K e h X
theorem callWith_B {e : PySem.Expr} {rest : List PySem.Expr} (hk : Kpt K f) (h : wpAny M A (spliced (backTo pos (starEach (e :: rest) env))) (fun vs s₁ => K.In s₁.heap ∧ wpAny M A (call f (first ++ vs)) Q E s₁) E s)
    (he : starEach (e :: rest) env = (false, eval e env) :: starEach rest env := by rfl) (hplain : (backTo pos (starEach rest env)).any (·.1) = false := by rfl) :
    wpAny M A (callWith pos f first (backTo pos (starEach (e :: rest) env)) []) Q E s := by
  rw [he] at h ⊢
  exact callWith_of (by show ((false || (backTo pos (starEach rest env)).any (·.1)) || false) = false; rw [hplain]; rfl) (keeps_B hk) (PySem.Calls.evalArgs_plain h)
theorem callWith_B0 (X : K.In s.heap) (hk : Kpt K f) (h : wpAny M A (call f (first ++ [])) Q E s) : wpAny M A (callWith pos f first (backTo pos (starEach [] env)) []) Q E s :=
  callWith_of rfl (keeps_B hk) (evalArgs_nil3 ⟨X, h⟩)
end
section
variable {w : World} {h₀ h : Heap} {L : Addr} {m : Str → Option Value} {fm : FM} {l l' : LG} {C : Cx} {env : Env} {k k' : Nat} {A : Around}
theorem Good.upk (G : Good C k) (h : k ≤ k') : Good C k' := ⟨Nat.le_trans G.dp h, Nat.le_trans G.un (Nat.mul_le_mul_left 10 h), G.B, G.X, G.T⟩
theorem EvL_nil {P : List AV → LG → Prop} (h : P [] l) : EvL C env fm l [] P := .mk fun m s pos hs => args_nil ⟨[], l, h, .nil, hs, .refl s⟩
theorem EvL_cons {e : PySem.Expr} {r : List PySem.Expr} {P : List AV → LG → Prop} (h : Ev C env fm l e fun a l₁ => EvL C env fm l₁ r fun as l₂ => P (a :: as) l₂) (he : starEach (e :: r) env = (false, eval e env) :: starEach r env := by rfl) : EvL C env fm l (e :: r) P := .mk fun m s pos hs =>
  args_cons (h.go hs fun a l₁ v s₁ q d H₁ e₁ => up e₁ (wpAny_mono (q.run m s₁ pos H₁) (fun vs s₂ ⟨as, l₂, q₂, d₂, H₂, e₂⟩ => ⟨a :: as, l₂, q₂, .cons d d₂, H₂, e₁.trans e₂⟩) fun _ _ x => x)) he
theorem Ev_call {f e : PySem.Expr} {r : List PySem.Expr} {p : Pos} {P : AV → LG → Prop} (G : Good C k) (h : Ev C env fm l f fun a l₁ => ∃ v, a = .val v ∧ Kpt (KF C.w.params) v ∧ EvL C env fm l₁ (e :: r) fun as l₂ => Cl C fm l₂ v as P)
    (he : eval (.Call f (e :: r) [] p) env = (do callWith p (← eval f env) [] (backTo p (starEach (e :: r) env)) (backToKw p (keywordEach [] env))) := by rfl) (he' : starEach (e :: r) env = (false, eval e env) :: starEach r env := by rfl) (hp : (backTo p (starEach r env)).any (·.1) = false := by rfl) : Ev C env fm l (.Call f (e :: r) [] p) P := .mk fun m s hs =>
  Call_ (h.go hs fun a l₁ u s₁ ⟨v, ha, hk, q⟩ d H₁ e₁ => by
    subst ha
    cases d
    refine callWith_B hk ?_ he' hp
    refine up e₁ (wpAny_mono (q.run m s₁ p H₁) (fun vs s₂ ⟨as, l₂, q₂, d₂, H₂, e₂⟩ => ⟨?_, ?_⟩) fun _ _ x => x)
    · obtain ⟨F, _⟩ := H₂.fr
      exact G.X.keeps F.keep
    · exact up (e₁.trans e₂) (wpAny_mono (q₂.run m s₂ vs H₂ d₂) (fun _ _ x => Cx.vp.same (e₁.trans e₂) x) fun _ _ x => x)) he
theorem Ev_call0 {f : PySem.Expr} {p : Pos} {P : AV → LG → Prop} (G : Good C k) (h : Ev C env fm l f fun a l₁ => ∃ v, a = .val v ∧ Kpt (KF C.w.params) v ∧ Cl C fm l₁ v [] P)
    (he : eval (.Call f [] [] p) env = (do callWith p (← eval f env) [] (backTo p (starEach [] env)) (backToKw p (keywordEach [] env))) := by rfl) : Ev C env fm l (.Call f [] [] p) P := .mk fun m s hs =>
  Call_ (h.go hs fun a l₁ u s₁ ⟨v, ha, hk, q⟩ d H₁ e₁ => by
    subst ha
    cases d
    obtain ⟨F, _⟩ := H₁.fr
    exact callWith_B0 (G.X.keeps F.keep) hk (up e₁ (wpAny_mono (q.run m s₁ [] H₁ .nil) (fun _ _ x => Cx.vp.same e₁ x) fun _ _ x => x))) he
def nopR (_ : Value) (_ _ : Shared) : Prop := False
noncomputable abbrev Cx.sub (C : Cx) (A : Around) (g : Heap) (L' : Addr) (R : Value → Shared → Shared → Prop) (qual : Str) (sc : Scope) (f : Addr) (cdv : Value) : Cx :=
  { w := C.w, h₀ := g, L := L', R := R, dp := A.depth + 1, un := A.units + 3, gd := A.guards, cn := qual, nm := sc.names, g1 := sc.isGenerator, g2 := sc.isCoroutine, mr := sc.more, a := f, ccd := cdv, cl := [], outer := C.env :: C.outer, base := C.base }
def AF.out : AF → AV
  | .ret v => v
  | _ => .none
theorem KVs.lk {fm : FM} {kv : List (Str × Value)} (h : KVs fm kv) : ∀ x av, fm.lookup x = some av → ∃ v, kv.lookup x = some v ∧ av.den v := by
  induction h with
  | nil => intro x av e; cases e
  | @cons k a v l kv d _ ih =>
    intro x av e
    rw [List.lookup_cons] at e ⊢
    cases q : x == k with
    | true => rw [q] at e; cases e; exact ⟨v, rfl, d⟩
    | false => rw [q] at e; exact ih x av e
theorem KVs.snoc {K : Type} {l : List (K × AV)} {kv : List (K × Value)} {x : K} {a : AV} {v : Value} (h : KVs l kv) (d : a.den v) : KVs (l ++ [(x, a)]) (kv ++ [(x, v)]) := by
  induction h with
  | nil => exact .cons d .nil
  | cons d' _ ih => exact .cons d' ih
theorem KVs.rev {K : Type} {l : List (K × AV)} {kv : List (K × Value)} (h : KVs l kv) : KVs l.reverse kv.reverse := by
  induction h with
  | nil => exact .nil
  | cons d _ ih => rw [List.reverse_cons, List.reverse_cons]; exact ih.snoc d
theorem KVs.names {K : Type} {l : List (K × AV)} {kv : List (K × Value)} (h : KVs l kv) : ∀ y ∈ kv, ∃ a, (y.1, a) ∈ l := by
  induction h with
  | nil => exact fun _ h => nomatch h
  | @cons k a v l kv _ _ ih =>
    intro y hy
    rcases List.mem_cons.mp hy with rfl | hy
    · exact ⟨a, .head _⟩
    · obtain ⟨b, hb⟩ := ih y hy
      exact ⟨b, .tail _ hb⟩
theorem KVs.zip : ∀ (ns : List Str) {as : List AV} {vs : List Value}, AVs as vs → KVs (ns.zip as) (ns.zip vs)
  | [], _, _, _ => .nil
  | _ :: _, _, _, .nil => .nil
  | _ :: ns, _, _, .cons d r => .cons d (KVs.zip ns r)
def BindN : Nat → (List Value → Prop) → Prop
  | 0, p => p []
  | n + 1, p => ∀ v, BindN n fun vs => p (v :: vs)
theorem BindN.at : ∀ {as : List AV} {vs : List Value} {p : List Value → Prop}, BindN as.length p → AVs as vs → p vs
  | [], _, _, h, .nil => h
  | _ :: as, v :: _, p, h, .cons _ r => BindN.at (as := as) (p := fun vs => p (v :: vs)) (h v) r
theorem no_er {C : Cx} (hR : C.R = nopR) {s s' : Shared} {v : Value} {X : Prop} (h : C.er s v s') : X := by
  obtain ⟨_, _, z⟩ := h
  rw [hR] at z
  exact z.elim
/-- a function of the text's own is entered and left: what it raises leaves it by lv -/
theorem code_fnG (R' : Heap → Addr → Value → Shared → Shared → Prop) {f : Addr} {name qual : Str} {params : Arguments} {body : List Stmt} {scope : Scope} {dV kV doc pm cdv ct oc : Value} {an od : Option Addr} {osl : Array (Option Value)} {as : List AV} {P : AV → LG → Prop} {s : Shared} {vs : List Value} (G : Good C k)
    (hA : A.frames = some (C.env :: C.outer)) (hd : A.depth + 1 ≤ k') (hu : A.units + 3 ≤ 10 * k') (hk' : k' ≤ 900)
    (ho : (KF C.w.params).lookup f = some ⟨oc, od, .func (fnOf name qual params body scope dV kV doc pm an cdv ct), osl⟩) (hcd : codeIn (KF C.w.params) cdv qual = true)
    (hbind : ∀ s, BindN as.length fun vs => BindsTo s (fnOf name qual params body scope dV kV doc pm an cdv ct) ⟨vs, []⟩ ((params.args.map (·.arg)).zip vs)) (hloc : ((params.args.map (·.arg)).zip as).all (fun y => match scope.names.lookup y.1 with | some .local => true | _ => false) = true)
    (hb : ∀ g L', Good (C.sub A g L' (R' g L') qual scope f cdv) k' → Below A C.base (C.env :: C.outer) g → Fr C.h₀ C.L g m → Ex (C.sub A g L' (R' g L') qual scope f cdv) (C.sub A g L' (R' g L') qual scope f cdv).env ((params.args.map (·.arg)).zip as).reverse l body fun fl _ l' => P fl.out l')
    (hE : ∀ g L', (C.sub A g L' (R' g L') qual scope f cdv).A = A.deeper (envOf qual scope L' f cdv) := by intro _ _; rfl) (hE' : ∀ g L', (C.sub A g L' (R' g L') qual scope f cdv).env = envOf qual scope L' f cdv := by intro _ _; rfl)
    (hco : scope.isCoroutine = false := by rfl) (hgen : scope.isGenerator = false := by rfl) (hk : scope.kind = .function := by rfl) (hcell : ∀ x ∈ scope.names, x.2 ≠ .cell := by decide)
    (hs : C.K m fm l s) (d : AVs as vs) (lv : ∀ g L' s₀ s' e, R' g L' e s₀ s' → wpAny (model Pg C.w) (A.deeper (envOf qual scope L' f cdv)) (leaving (envOf qual scope L' f cdv) e) (fun _ s'' => C.er s₀ e s'') (fun _ _ => False) s') : codeAny (model Pg C.w) A (.call (.ref f) ⟨vs, []⟩) (fun r s' => match r with | .ok (.ret v) => C.vp m fm P s v s' | .ok _ => False | .error e => C.er s e s') s := by
  obtain ⟨A₀, B⟩ := G.B
  obtain ⟨mean, mg, mb, T⟩ := G.T
  obtain ⟨⟨F, fh⟩, en, nd⟩ := hs
  obtain ⟨n, dn, N⟩ := den_ex en
  have bt := (hbind s).at d
  have kv := KVs.zip (params.args.map (·.arg)) d
  revert bt kv
  generalize (params.args.map (·.arg)).zip vs = binds
  intro bt kv
  have hl' : ∀ y ∈ binds, scope.names.lookup y.1 = some .local := fun y hy => by
    obtain ⟨a, ha⟩ := kv.names y hy
    have z := List.all_eq_true.mp hloc _ ha
    dsimp only at z
    split at z
    · assumption
    · cases z
  refine code_defG B F G.X N T hA rfl rfl ho hcd (Nat.lt_of_lt_of_le (Nat.lt_of_succ_le hd) (Nat.le_trans hk' (Nat.le_of_ble_eq_true rfl))) bt hl' (fun g L' h₁ FG F' N' B' X' T' _ => ?_) hco hgen hk hcell
  have G' : Good (C.sub A g L' (R' g L') qual scope f cdv) k' := ⟨hd, hu, ⟨A, B'⟩, X', ⟨mean, mg, mb, T'⟩⟩
  have z := (hb g L' G' B' FG).run { s with heap := h₁, toks := s.toks + binds.length } ⟨_, ⟨F', kv.rev.lk⟩, den_en dn N', nd⟩
  rw [hE g L', hE' g L'] at z
  refine wpAny_mono z (fun fl s' ⟨af, fm', l', p, df, ⟨m', ⟨F₂, _⟩, en', nd'⟩, e'⟩ => ?_) fun v s' ⟨s₀, sm, hr⟩ => by
    exact wpAny_mono (lv g L' s₀ s' v hr) (fun _ s'' z => Cx.er.same ((hp_same s h₁ _).trans sm) z) fun _ _ x => x.elim
  obtain ⟨n', dn', N₂⟩ := den_ex en'
  refine ⟨L', m', n', F₂, N₂, fun F₃ N₃ => ?_⟩
  have H₃ : C.K m fm l' s' := ⟨⟨F₃, fh⟩, den_en dn' N₃, nd'⟩
  have e'' : Same s s' := (hp_same s h₁ _).trans e'
  cases af with
  | ret v => obtain ⟨u, rfl, du⟩ := df; exact ⟨v, l', p, du, H₃, e''⟩
  | next => cases df; exact ⟨.none, l', p, rfl, H₃, e''⟩
  | brk => cases df; exact ⟨.none, l', p, rfl, H₃, e''⟩
  | cont => cases df; exact ⟨.none, l', p, rfl, H₃, e''⟩
/-- what leaves the frame env that is entered from C -/
def LvR (C : Cx) (A : Around) (env : Env) (e : Value) (s₀ s' : Shared) : Prop := wpAny (model Pg C.w) (A.deeper env) (leaving env e) (fun _ s'' => C.er s₀ e s'') (fun _ _ => False) s'
/-- what is raised in C passes out of a loop there -/
def Own (C : Cx) (env : Env) : Prop := ∀ s, PassesOwn (model Pg C.w) C.A env (C.er s)
theorem own_nop {C : Cx} {env : Env} (hR : C.R = nopR) : Own C env := fun _ _ _ h => no_er hR h
/-- as code_fnG: nothing is raised out of it -/
theorem code_fn {f : Addr} {name qual : Str} {params : Arguments} {body : List Stmt} {scope : Scope} {dV kV doc pm cdv ct oc : Value} {an od : Option Addr} {osl : Array (Option Value)} {as : List AV} {P : AV → LG → Prop} {s : Shared} {vs : List Value} (G : Good C k)
    (hA : A.frames = some (C.env :: C.outer)) (hd : A.depth + 1 ≤ k') (hu : A.units + 3 ≤ 10 * k') (hk' : k' ≤ 900)
    (ho : (KF C.w.params).lookup f = some ⟨oc, od, .func (fnOf name qual params body scope dV kV doc pm an cdv ct), osl⟩) (hcd : codeIn (KF C.w.params) cdv qual = true)
    (hbind : ∀ s, BindN as.length fun vs => BindsTo s (fnOf name qual params body scope dV kV doc pm an cdv ct) ⟨vs, []⟩ ((params.args.map (·.arg)).zip vs)) (hloc : ((params.args.map (·.arg)).zip as).all (fun y => match scope.names.lookup y.1 with | some .local => true | _ => false) = true)
    (hb : ∀ g L', Good (C.sub A g L' nopR qual scope f cdv) k' → Ex (C.sub A g L' nopR qual scope f cdv) (C.sub A g L' nopR qual scope f cdv).env ((params.args.map (·.arg)).zip as).reverse l body fun fl _ l' => P fl.out l')
    (hE : ∀ g L', (C.sub A g L' nopR qual scope f cdv).A = A.deeper (envOf qual scope L' f cdv) := by intro _ _; rfl) (hE' : ∀ g L', (C.sub A g L' nopR qual scope f cdv).env = envOf qual scope L' f cdv := by intro _ _; rfl)
    (hco : scope.isCoroutine = false := by rfl) (hgen : scope.isGenerator = false := by rfl) (hk : scope.kind = .function := by rfl) (hcell : ∀ x ∈ scope.names, x.2 ≠ .cell := by decide)
    (hs : C.K m fm l s) (d : AVs as vs) : codeAny (model Pg C.w) A (.call (.ref f) ⟨vs, []⟩) (fun r s' => match r with | .ok (.ret v) => C.vp m fm P s v s' | .ok _ => False | .error e => C.er s e s') s :=
  code_fnG (fun _ _ => nopR) G hA hd hu hk' ho hcd hbind hloc (fun g L' G' _ _ => hb g L' G') hE hE' hco hgen hk hcell hs d fun _ _ _ _ _ hr => False.elim hr
theorem Cl_code {f : Value} {as : List AV} {P : AV → LG → Prop} (h : ∀ m s vs, C.K m fm l s → AVs as vs → codeAny (model Pg C.w) C.A (.call f ⟨vs, []⟩) (fun r s' => match r with | .ok (.ret v) => C.vp m fm P s v s' | .ok _ => False | .error e => C.er s e s') s) : Cl C fm l f as P := .mk fun m s vs hs d => wpAny_call (h m s vs hs d)
/-- the new object stands: its dict is told as it was built, what is not wanted is dropped -/
inductive Made (P : AV → LG → Prop) (x dx : Addr) (l : LG) : Prop
  | mk {al al' : List (Str × AV)} {n : Nat} {l' l'' : LG} : Put l dx (.bld al n) (.attrs al') l' → build al = al' → al'.length ≤ 900 → l''.Sublist l' → P (.ref x) l'' → Made P x dx l
theorem Holds.conv {m : Str → Option Value} {fm : FM} {l l' : LG} {a : Addr} {x y : AO} (u : Put l a x y l') (c : ∀ o, x.den w a o → y.den w a o) (H : Holds w h₀ L m fm l h) : Holds w h₀ L m fm l' h := by
  obtain ⟨fr, en, nd⟩ := H
  obtain ⟨n, d, N⟩ := den_ex en
  obtain ⟨o, hm, dx, back⟩ := u.obj d
  exact ⟨fr, den_en (back (c o dx)) N, u.adr ▸ nd⟩
theorem Holds.sub (H : Holds w h₀ L m fm l h) (s : l'.Sublist l) : Holds w h₀ L m fm l' h := ⟨H.fr, fun p hp => H.en p (s.subset hp), (s.map (·.1)).nodup H.nd⟩
/-- an instance is made: its dict is new, its __init__ is called with it -/
theorem Cl_make {K fI : Addr} {as : List AV} {P : AV → LG → Prop} (G : Good C k) (hm : makesIn (KF C.w.params) K = true) (hi : findIn (KF C.w.params) (.ref K) "__init__" = some (some (.ref fI))) (hf : typeIn (KF C.w.params) (.ref fI) = some (.type "function"))
    (h : ∀ x dx m s vs A, A = C.A.under (.builtin "type.__call__" ⟨.ref K :: vs, []⟩) → C.K m fm ((x, .inst K dx) :: (dx, .bld [] 0) :: l) s → AVs (.ref x :: as) (.ref x :: vs) → codeAny (model Pg C.w) A (.call (.ref fI) ⟨.ref x :: vs, []⟩) (fun r s' => match r with | .ok (.ret v) => C.vp m fm (fun a l' => a = .none ∧ Made P x dx l') s v s' | .ok _ => False | .error e => C.er s e s') s) : Cl C fm l (.ref K) as P := .mk fun m s vs hs d => by
  obtain ⟨n, F, dn, N, nn, back⟩ := hs.out
  refine wpAny_call (make_K F N (G.X.keeps F.keep) hm hi hf fun x dx h' F' N' l1 l2 => ?_)
  have al : AllLt dx n := allLt_of l1
  have H1 := Holds.new (x := .bld [] 0) back dn F' ⟨Nat.le_refl _, [], Attrs.nil, .nil⟩ (fun p hp => N' p (.tail _ hp)) al
  have H2 : Holds C.w C.h₀ C.L m fm ((x, .inst K dx) :: (dx, .bld [] 0) :: l) h' := by
    refine ⟨H1.fr, fun p hp => ?_, ?_⟩
    · rcases List.mem_cons.mp hp with rfl | hp
      · exact ⟨_, rfl, N' _ (.head _)⟩
      · exact H1.en p hp
    · rw [List.map_cons, List.nodup_cons]
      refine ⟨fun hm => ?_, H1.nd⟩
      rcases List.mem_cons.mp hm with q | q
      · exact Nat.ne_of_gt l2 q
      · rw [← dn.adr] at q
        obtain ⟨r, hr, e'⟩ := List.mem_map.mp q
        exact Nat.ne_of_lt (Nat.lt_trans (allLt_mem' al hr) l2) e'
  refine codeAny_mono (h x dx m { s with heap := h' } vs _ rfl H2 (.cons rfl d)) fun r s' z => ?_
  cases r with
  | error e => exact Cx.er.same (hp_same s h' _) z
  | ok f =>
    cases f with
    | ret v =>
      obtain ⟨a, l', ⟨rfl, ⟨u, e1, e2, sl, p⟩⟩, da, hh, e⟩ := z
      cases da
      exact ⟨rfl, .ref x, _, p, rfl, Holds.sub (Holds.conv u (fun _ d => ⟨e2, e1 ▸ d.2⟩) hh) sl, (hp_same s h' _).trans e⟩
    | _ => exact z.elim
end
section
variable {w : World} {h₀ h : Heap} {L : Addr} {m : Str → Option Value} {fm : FM} {l l' : LG} {C : Cx} {env : Env} {k k' : Nat} {A : Around}
/-- a while, turn by turn -/
structure Wh (C : Cx) (env : Env) (fm : FM) (l : LG) (t : PySem.Expr) (b : List Stmt) (P : AF → FM → LG → Prop) : Prop where
  run : ∀ s, C.H fm l s → WhlRest Pg C.w C.A (fun _ _ => False) env t b [] (C.fp P s) 0 s
theorem WhlRest.mono {test : PySem.Expr} {body : List Stmt} {Q Q' : Flow → Shared → Prop} {s : Shared} (h : WhlRest Pg C.w C.A (fun _ _ => False) env test body [] Q 0 s) (m : ∀ f s, Q f s → Q' f s) : WhlRest Pg C.w C.A (fun _ _ => False) env test body [] Q' 0 s :=
  codeAny_mono h fun r s' z => by
    cases r with
    | ok f => exact m f s' z
    | error e => exact z
inductive WP (X : FM → LG → Prop) (P : AF → FM → LG → Prop) : AF → FM → LG → Prop
  | next {fm : FM} {l : LG} : X fm l → WP X P .next fm l
  | cont {fm : FM} {l : LG} : X fm l → WP X P .cont fm l
  | brk {fm : FM} {l : LG} : P .next fm l → WP X P .brk fm l
  | ret {v : AV} {fm : FM} {l : LG} : P (.ret v) fm l → WP X P (.ret v) fm l
theorem Wh_turn {t : PySem.Expr} {b : List Stmt} {P : AF → FM → LG → Prop} (hR : C.R = nopR) (h : Tr C env fm l t fun c l' => IfP (Ex C env fm l' b (WP (fun fm' l' => Wh C env fm' l' t b P) P)) (P .next fm l') c) : Wh C env fm l t b P := .mk fun s ⟨m, hs⟩ => by
  refine whl_turn (k := 0) (by passes_own) (wpAny_mono (h.run m s hs) (fun c s' ⟨l', q, hh, e⟩ => ?_) fun _ _ x => no_er hR x)
  cases q with
  | f q => exact WhlIf.no rfl (wpAny_execs_nil ⟨.next, fm, l', q, rfl, ⟨m, hh⟩, e⟩)
  | t q =>
    refine WhlIf.yes rfl (wpAny_mono (q.run s' ⟨m, hh⟩) (fun f s₂ ⟨af, fm', l'', q₂, d, hh₂, e₂⟩ => ?_) fun _ _ x => no_er hR x)
    cases q₂ with
    | next q₂ => cases d; exact WhlRest.mono (q₂.run s₂ hh₂) fun f s₃ x => Cx.fp.same (e.trans e₂) x
    | cont q₂ => cases d; exact WhlRest.mono (q₂.run s₂ hh₂) fun f s₃ x => Cx.fp.same (e.trans e₂) x
    | brk q₂ => cases d; exact ⟨.next, fm', l'', q₂, rfl, hh₂, e.trans e₂⟩
    | ret q₂ => obtain ⟨v', rfl, d'⟩ := d; exact ⟨_, fm', l'', q₂, ⟨v', rfl, d'⟩, hh₂, e.trans e₂⟩
theorem Ex_while {t : PySem.Expr} {b r : List Stmt} {p : Pos} {P : AF → FM → LG → Prop} (h : Wh C env fm l t b (NxP (fun fm' l' => Ex C env fm' l' r P) P)) : Ex C env fm l (.While t b [] p :: r) P := .mk fun s hs => by
  refine wpAny_execs_cons (wpAny_mono (whl_start 0 (h.run s hs)) (fun f s₂ ⟨af, fm', l'', q₂, d, hh₂, e₂⟩ => ?_) fun _ _ x => x.elim)
  cases q₂ with
  | next q₂ => cases d; exact Ex.on q₂ hh₂ e₂
  | ret q₂ => obtain ⟨v', rfl, d'⟩ := d; exact ⟨_, fm', l'', q₂, ⟨v', rfl, d'⟩, hh₂, e₂⟩
  | brk q₂ => cases d; exact ⟨.brk, fm', l'', q₂, rfl, hh₂, e₂⟩
  | cont q₂ => cases d; exact ⟨.cont, fm', l'', q₂, rfl, hh₂, e₂⟩
end
section
theorem AttrOk.of {P : Params} {K : Addr} {name : Str} {attr : Option Value} (a : plainGet (KF P) K name = true) (b : hasDictIn (KF P) K = true) (c : findIn (KF P) (.ref K) name = some attr) (d : noGet (KF P) attr = true) : AttrOk P K name := ⟨a, b, attr, c, d⟩
variable {l : LG} {C : Cx} {env : Env} {fm : FM} {k : Nat}
/-- what the attribute of an instance is, as the ledger tells it -/
def Fld (l : LG) (x K : Addr) (name : Str) (b : AV) : Prop := ∃ dx al, Rd l x (.inst K dx) ∧ Rd l dx (.attrs al) ∧ alook name al = some b
theorem Fld.tail {x K : Addr} {name : Str} {b : AV} {p : Addr × AO} (h : Fld l x K name b) : Fld (p :: l) x K name b := let ⟨dx, al, a, b, c⟩ := h; ⟨dx, al, a.tail, b.tail, c⟩
theorem At_fld {o K : Addr} {name : Str} {b : AV} {P : AV → LG → Prop} (G : Good C k) (f : Fld l o K name b) (ok : AttrOk C.w.params K name) (h : P b l) (hb : b.plain = true := by rfl) : At' C fm l (.ref o) name P :=
  let ⟨_, _, g1, g2, e⟩ := f; At_inst G g1 g2 e ok h hb
end
theorem alook_same (name : Str) (v : AV) : ∀ l : List (Str × AV), alook name (aset name v l) = some v
  | [] => by unfold aset alook; rw [if_pos (by simp)]
  | (k, u) :: r => by
    unfold aset
    cases q : k == name with
    | true => simp only [if_true]; unfold alook; rw [q]; rfl
    | false => simp only [Bool.false_eq_true, if_false]; unfold alook; rw [q]; exact alook_same name v r
theorem alook_other {name nm : Str} (v : AV) (h : (nm == name) = false) : ∀ l : List (Str × AV), alook name (aset nm v l) = alook name l
  | [] => by unfold aset alook; rw [h]; rfl
  | (k, u) :: r => by
    unfold aset
    cases q : k == nm with
    | true =>
      have e : k = nm := by simpa using q
      subst e
      simp only [if_true]; unfold alook; rw [h]; rfl
    | false => simp only [Bool.false_eq_true, if_false]; unfold alook; rw [alook_other v h r]
section
variable {w : World} {h₀ h : Heap} {L : Addr} {m : Str → Option Value} {fm : FM} {l l' : LG} {C : Cx} {env : Env} {k k' : Nat} {A : Around}
theorem allLt_den {n : List (Addr × Obj)} {d : Addr} (h : ∀ p ∈ n, p.1 < d) : AllLt d n := allLt_of h
theorem AVs.len {as : List AV} {vs : List Value} (h : AVs as vs) : vs.length = as.length := by
  induction h with
  | nil => rfl
  | cons _ _ ih => rw [List.length_cons, List.length_cons, ih]
theorem AVs.snoc {as : List AV} {vs : List Value} {a : AV} {v : Value} (h : AVs as vs) (d : a.den v) : AVs (as ++ [a]) (vs ++ [v]) := by
  induction h with
  | nil => exact .cons d .nil
  | cons d' _ ih => exact .cons d' ih
-- the ledger made smaller
theorem Holds.perm (H : Holds w h₀ L m fm l h) (s : l'.Perm l) : Holds w h₀ L m fm l' h := ⟨H.fr, fun p hp => H.en p (s.subset hp), ((s.map (·.1)).nodup_iff).mpr H.nd⟩
theorem Ex_sub {ss : List Stmt} {P : AF → FM → LG → Prop} (s : l'.Sublist l) (h : Ex C env fm l' ss P) : Ex C env fm l ss P := .mk fun x ⟨m, hs⟩ => h.run x ⟨m, hs.sub s⟩
theorem Ex_perm {ss : List Stmt} {P : AF → FM → LG → Prop} (s : l'.Perm l) (h : Ex C env fm l' ss P) : Ex C env fm l ss P := .mk fun x ⟨m, hs⟩ => h.run x ⟨m, hs.perm s⟩
theorem Cl_sub {f : Value} {as : List AV} {P : AV → LG → Prop} (s : l'.Sublist l) (h : Cl C fm l' f as P) : Cl C fm l f as P := .mk fun m x vs hs d => h.run m x vs (hs.sub s) d
theorem Cl_perm {f : Value} {as : List AV} {P : AV → LG → Prop} (s : l'.Perm l) (h : Cl C fm l' f as P) : Cl C fm l f as P := .mk fun m x vs hs d => h.run m x vs (hs.perm s) d
theorem Ev_sub {e : PySem.Expr} {P : AV → LG → Prop} (s : l'.Sublist l) (h : Ev C env fm l' e P) : Ev C env fm l e P := .mk fun m x hs => h.run m x (hs.sub s)
def FSub (a b : FM) : Prop := ∀ x av, a.lookup x = some av → b.lookup x = some av
theorem FSub.nil {b : FM} : FSub [] b := fun _ _ h => nomatch h
theorem FSub.cons {a b : FM} {x : Str} {av : AV} (e : b.lookup x = some av) (h : FSub a b) : FSub ((x, av) :: a) b := fun y bv q => by
  rw [List.lookup_cons] at q
  by_cases z : y = x
  · subst z
    rw [beq_self_eq_true] at q
    cases q
    exact e
  · rw [show (y == x) = false from beq_eq_false_iff_ne.mpr z] at q
    exact h y bv q
theorem Holds.fsub {fm' : FM} (H : Holds w h₀ L m fm l h) (s : FSub fm' fm) : Holds w h₀ L m fm' l h := by
  obtain ⟨⟨F, fh⟩, en, nd⟩ := H
  exact ⟨⟨F, fun x av e => fh x av (s x av e)⟩, en, nd⟩
theorem Ex_fsub {fm' : FM} {ss : List Stmt} {P : AF → FM → LG → Prop} (s : FSub fm' fm) (h : Ex C env fm' l ss P) : Ex C env fm l ss P := .mk fun x ⟨m, hs⟩ => h.run x ⟨m, Holds.fsub hs s⟩
-- displays
theorem Ev_list {es : List PySem.Expr} {p : Pos} {P : AV → LG → Prop} (h : EvL C env fm l es fun as l' => as.length ≤ 1000 ∧ ∀ x, P (.ref x) ((x, .lst as) :: l')) : Ev C env fm l (.List es p) P := .mk fun m s hs =>
  List_ (wpAny_mono (h.run m s p hs) (fun vs s₁ ⟨as, l₁, ⟨z, q⟩, d, H₁, e₁⟩ => by
    obtain ⟨n, F, dn, N, nn, back⟩ := H₁.out
    exact newList_K F N (fun x h' F' N' l1 => ⟨.ref x, _, q x, rfl, Holds.new (x := .lst as) back dn F' ⟨vs, 0, rfl, d⟩ N' (allLt_of l1), e₁.trans (hp_same s₁ h' _)⟩) (Nat.le_trans (Nat.le_trans (Nat.le_of_eq d.len) z) (by rw [sizeLine_eq]; exact Nat.le_of_ble_eq_true rfl))) fun _ _ x => x)
theorem Ev_tup {es : List PySem.Expr} {kk : Nat} {p : Pos} {P : AV → LG → Prop} (h : EvL C env fm l es fun as l' => as.length ≤ 1000 ∧ ∀ x, P (.ref x) ((x, .tup as) :: l')) : Ev C env fm l (.Tuple es kk p) P := .mk fun m s hs =>
  Tuple_ (wpAny_mono (h.run m s p hs) (fun vs s₁ ⟨as, l₁, ⟨z, q⟩, d, H₁, e₁⟩ => by
    obtain ⟨n, F, dn, N, nn, back⟩ := H₁.out
    exact kup_newTuple F N (fun x h' F' N' l1 => ⟨.ref x, _, q x, rfl, Holds.new (x := .tup as) back dn F' ⟨vs, 0, rfl, d⟩ N' (allLt_of l1), e₁.trans (hp_same s₁ h' _)⟩) (Nat.le_trans (Nat.le_trans (Nat.le_of_eq d.len) z) (by rw [sizeLine_eq]; exact Nat.le_of_ble_eq_true rfl))) fun _ _ x => x)
theorem Ev_dict0 {b : Bool} {p : Pos} {P : AV → LG → Prop} (G : Good C k) (h : ∀ x, P (.ref x) ((x, if b then .sd [] else .idd []) :: l)) : Ev C env fm l (.Dict [] [] p) P := .mk fun m s hs => by
  obtain ⟨mean, mg, mb, T⟩ := G.T
  obtain ⟨n, F, dn, N, nn, back⟩ := hs.out
  refine newDict_K F N T.nolimit fun d h' o F' N' l1 lo a1 _ a2 _ => ⟨.ref d, _, h d, rfl, Holds.new (x := if b then .sd [] else .idd []) back dn F' ?_ N' (allLt_of l1), hp_same s h' _⟩
  cases b
  · exact ⟨lo, [], a2, .nil⟩
  · exact ⟨lo, [], a1, .nil⟩
theorem Ev_ifexp {t b o : PySem.Expr} {p : Pos} {P : AV → LG → Prop} (h : Tr C env fm l t fun c l' => IfP (Ev C env fm l' b P) (Ev C env fm l' o P) c) : Ev C env fm l (.IfExp t b o p) P := .mk fun m s hs =>
  IfExp_ (wpAny_mono (h.run m s hs) (fun c s' ⟨l', q, hh, e⟩ => by
    cases q with
    | t q => exact Ev.on q hh e
    | f q => exact Ev.on q hh e) fun _ _ x => x)
-- arithmetic
structure Bo (C : Cx) (fm : FM) (l : LG) (op : Operator) (a b : AV) (P : AV → LG → Prop) : Prop where
  run : ∀ m s v u, C.K m fm l s → a.den v → b.den u → wpAny (model Pg C.w) C.A (binaryOp op v u) (C.vp m fm P s) (C.er s) s
structure Io (C : Cx) (fm : FM) (l : LG) (op : Operator) (a b : AV) (P : AV → LG → Prop) : Prop where
  run : ∀ m s v u, C.K m fm l s → a.den v → b.den u → wpAny (model Pg C.w) C.A (inplaceOp op v u) (C.vp m fm P s) (C.er s) s
theorem Bo_addi {x y z : Int} {P : AV → LG → Prop} (e : x + y = z) (h : P (.int z) l) : Bo C fm l .Add (.int x) (.int y) P := .mk fun m s v u hs d d' => by
  obtain ⟨t, rfl⟩ := d; obtain ⟨t', rfl⟩ := d'
  exact wpAny_add_int ⟨.int z, l, h, ⟨_, by rw [e]⟩, hs, tk_same s _⟩
theorem Io_addi {x y z : Int} {P : AV → LG → Prop} (e : x + y = z) (h : P (.int z) l) : Io C fm l .Add (.int x) (.int y) P := .mk fun m s v u hs d d' => by
  obtain ⟨t, rfl⟩ := d; obtain ⟨t', rfl⟩ := d'
  exact wpAny_iadd_int ⟨.int z, l, h, ⟨_, by rw [e]⟩, hs, tk_same s _⟩
theorem Ev_bin {x y : PySem.Expr} {op : Operator} {p : Pos} {P : AV → LG → Prop} (h : Ev C env fm l x fun a l₁ => Ev C env fm l₁ y fun b l₂ => Bo C fm l₂ op a b P) : Ev C env fm l (.BinOp x op y p) P := .mk fun m s hs =>
  wpAny_BinOp (h.go hs fun a l₁ v s₁ q d H₁ e₁ => up e₁ (q.go H₁ fun b l₂ u s₂ q₂ d₂ H₂ e₂ => up (e₁.trans e₂) (wpAny_mono (q₂.run m s₂ v u H₂ d d₂) (fun _ _ x => Cx.vp.same (e₁.trans e₂) x) fun _ _ x => x)))
theorem Ex_augA {o e : PySem.Expr} {name : Str} {op : Operator} {pt p : Pos} {r : List Stmt} {P : AF → FM → LG → Prop}
    (h : Ev C env fm l o fun a l₁ => At' C fm l₁ a name fun old l₂ => Ev C env fm l₂ e fun b l₃ => Io C fm l₃ op old b fun c l₄ => Sa C fm l₄ a name c fun l₅ => Ex C env fm l₅ r P) : Ex C env fm l (.AugAssign (.Attribute o name pt) op e p :: r) P := .mk fun s ⟨m, hs⟩ =>
  wpAny_execs_cons (wpAny_AugAssign_AttributeAny (h.go hs fun a l₁ v s₁ q d H₁ e₁ => up e₁ (wpAny_mono (q.run m s₁ v H₁ d) (fun ov s₂ ⟨old, l₂, q₂, d₂, H₂, e₂⟩ =>
    up (e₁.trans e₂) (q₂.go H₂ fun b l₃ bv s₃ q₃ d₃ H₃ e₃ => up ((e₁.trans e₂).trans e₃) (wpAny_mono (q₃.run m s₃ ov bv H₃ d₂ d₃) (fun cv s₄ ⟨c, l₄, q₄, d₄, H₄, e₄⟩ =>
      up (((e₁.trans e₂).trans e₃).trans e₄) (wpAny_mono (q₄.run m s₄ v cv H₄ d d₄) (fun _ s₅ ⟨l₅, q₅, H₅, e₅⟩ => Ex.on q₅ ⟨m, H₅⟩ ((((e₁.trans e₂).trans e₃).trans e₄).trans e₅)) fun _ _ x => x)) fun _ _ x => x))) fun _ _ x => x)))
-- dicts and lists
def vat {K : Type} [DecidableEq K] : List (K × AV) → K → Option AV
  | [], _ => none
  | (k', a) :: r, k => if k' = k then some a else vat r k
def vst {K : Type} [DecidableEq K] (l : List (K × AV)) (k : K) (a : AV) : List (K × AV) := if l.any (fun p => decide (p.1 = k)) then l.map (fun p => if p.1 = k then (p.1, a) else p) else l ++ [(k, a)]
theorem KVs.any {K : Type} {l : List (K × AV)} {kv : List (K × Value)} (h : KVs l kv) (f : K → Bool) : kv.any (fun p => f p.1) = l.any (fun p => f p.1) := by
  induction h with
  | nil => rfl
  | cons _ _ ih => rw [List.any_cons, List.any_cons, ih]
theorem KVs.vst {K : Type} [DecidableEq K] {l : List (K × AV)} {kv : List (K × Value)} {k : K} {a : AV} {v : Value} (h : KVs l kv) (d : a.den v) : KVs (vst l k a) (PySem.stored kv k v) := by
  unfold Mine.vst PySem.stored
  rw [h.any fun x => decide (x = k)]
  cases l.any fun p => decide (p.1 = k) with
  | false => exact h.snoc d
  | true =>
    simp only [if_true]
    induction h with
    | nil => exact .nil
    | @cons k' a' v' l kv d' _ ih =>
      rw [List.map_cons, List.map_cons]
      by_cases q : k' = k
      · rw [if_pos q, if_pos q]; exact .cons d ih
      · rw [if_neg q, if_neg q]; exact .cons d' ih
theorem KVs.vat {K : Type} [DecidableEq K] {l : List (K × AV)} {kv : List (K × Value)} {k : K} (h : KVs l kv) : match vat l k with | some a => ∃ v, PySem.valueAt kv k = some v ∧ a.den v | none => PySem.valueAt kv k = none := by
  unfold PySem.valueAt
  induction h with
  | nil => rfl
  | @cons k' a' v' l kv d' _ ih =>
    unfold Mine.vat
    rw [List.find?_cons]
    by_cases q : k' = k
    · simp only [q, if_true, decide_true]; exact ⟨v', rfl, d'⟩
    · simp only [q, if_false, decide_false]; exact ih
theorem KVs.some {K : Type} [DecidableEq K] {l : List (K × AV)} {kv : List (K × Value)} {k : K} {a : AV} (h : KVs l kv) (e : Mine.vat l k = .some a) : ∃ v, PySem.valueAt kv k = .some v ∧ a.den v := by
  have z := h.vat (k := k)
  rw [e] at z
  exact z
theorem KVs.none {K : Type} [DecidableEq K] {l : List (K × AV)} {kv : List (K × Value)} {k : K} (h : KVs l kv) (e : Mine.vat l k = .none) : PySem.valueAt kv k = .none := by
  have z := h.vat (k := k)
  rw [e] at z
  exact z
structure MtB (C : Cx) (fm : FM) (l : LG) (a : AV) (name : Str) (id : String) : Prop where
  run : ∀ m s v pl (Q : Value × List Value → Shared → Prop) E, C.K m fm l s → a.den v → Q (.builtin id, [v]) s → wpAny (model Pg C.w) C.A (getMethod v name pl) Q E s
theorem MtB_append {D : Addr} {xs : List AV} (g : Get l D (.lst xs)) : MtB C fm l (.ref D) "append" "list.append" := .mk fun m s v pl Q E hs d q => by
  cases d
  obtain ⟨_, ⟨vs, n, rfl, _⟩, a⟩ := hs.en _ g.mem
  exact listMethod_K (h₀ := C.h₀) (L := C.L) (news := [(D, W.listOf vs.toArray n)]) (fun p hp => by rw [List.mem_singleton.mp hp]; exact a) (.head _) PySem.F.slot_list_append PySem.F.type_list_append q
theorem MtB_get {d : Addr} {kv : List (Str × AV)} (g : Rd l d (.sd kv)) : MtB C fm l (.ref d) "get" "dict.get" := .mk fun m s v pl Q E hs dd q => by
  cases dd
  obtain ⟨o, ⟨lo, kv', hd, _⟩, a⟩ := g.en hs
  exact kob_method (h₀ := C.h₀) (L := C.L) (news := [(d, o)]) PySem.F.slot_dict_get PySem.F.type_dict_get (fun p hp => by rw [List.mem_singleton.mp hp]; exact a) (.head _) hd q
theorem MtB_setdef {d : Addr} {kv : List (Str × AV)} (g : Get l d (.sd kv)) : MtB C fm l (.ref d) "setdefault" "dict.setdefault" := .mk fun m s v pl Q E hs dd q => by
  cases dd
  obtain ⟨o, ⟨lo, kv', hd, _⟩, a⟩ := hs.en _ g.mem
  exact kob_method (h₀ := C.h₀) (L := C.L) (news := [(d, o)]) PySem.F.slot_dict_setdefault PySem.F.type_dict_setdefault (fun p hp => by rw [List.mem_singleton.mp hp]; exact a) (.head _) hd q
theorem MtB_setdefi {d : Addr} {kv : List (Int × AV)} (g : Get l d (.idd kv)) : MtB C fm l (.ref d) "setdefault" "dict.setdefault" := .mk fun m s v pl Q E hs dd q => by
  cases dd
  obtain ⟨o, ⟨lo, kv', hd, _⟩, a⟩ := hs.en _ g.mem
  exact kob_method (h₀ := C.h₀) (L := C.L) (news := [(d, o)]) PySem.F.slot_dict_setdefault PySem.F.type_dict_setdefault (fun p hp => by rw [List.mem_singleton.mp hp]; exact a) (.head _) hd q
theorem Ev_meth {o e : PySem.Expr} {name : Str} {id : String} {r : List PySem.Expr} {pa p : Pos} {P : AV → LG → Prop} (G : Good C k) (h : Ev C env fm l o fun a l₁ => MtB C fm l₁ a name id ∧ EvL C env fm l₁ (e :: r) fun as l₂ => Cl C fm l₂ (.builtin id) (a :: as) P)
    (he : eval (.Call (.Attribute o name pa) (e :: r) [] p) env = (do
      let ov ← eval o env
      standAt pa.atName
      let (f, first) ← holding [ov] (getMethod ov name (do return (← importBound o env).getD true))
      callWith p f first (backTo p (starEach (e :: r) env)) []) := by rfl) (he' : starEach (e :: r) env = (false, eval e env) :: starEach r env := by rfl) (hp : (backTo p (starEach r env)).any (·.1) = false := by rfl) : Ev C env fm l (.Call (.Attribute o name pa) (e :: r) [] p) P := .mk fun m s hs =>
  MethodCall_ (h.go hs fun a l₁ v s₁ ⟨mt, q⟩ d H₁ e₁ => mt.run m s₁ v _ _ _ H₁ d (by
    refine callWith_B (K := KF C.w.params) .b ?_ he' hp
    refine up e₁ (wpAny_mono (q.run m s₁ p H₁) (fun vs s₂ ⟨as, l₂, q₂, d₂, H₂, e₂⟩ => ⟨?_, ?_⟩) fun _ _ x => x)
    · obtain ⟨F, _⟩ := H₂.fr
      exact G.X.keeps F.keep
    · exact up (e₁.trans e₂) (wpAny_mono (q₂.run m s₂ (v :: vs) H₂ (.cons d d₂)) (fun _ _ x => Cx.vp.same (e₁.trans e₂) x) fun _ _ x => x))) he
end
section
variable {w : World} {h₀ h : Heap} {L : Addr} {m : Str → Option Value} {fm : FM} {l l' : LG} {C : Cx} {env : Env} {k k' : Nat} {A : Around}
theorem Cl_append {D : Addr} {xs : List AV} {a : AV} {P : AV → LG → Prop} (u : Put l D (.lst xs) (.lst (xs ++ [a])) l') (h : P .none l') (z : xs.length ≤ 1000) : Cl C fm l (.builtin "list.append") [.ref D, a] P := .mk fun m s vs hs d => by
  cases d with
  | cons d1 d => cases d with
    | cons d2 d =>
    cases d
    cases d1
    obtain ⟨o, rest, F, ⟨vs, n, rfl, da⟩, N, nn, oth, back⟩ := hs.upd u
    refine append_K F N (.head nn.1.off) (fun h' F' N' => ⟨.none, l', h, rfl, back h' _ ⟨vs ++ [_], n + 1, ?_, da.snoc d2⟩ F' N', hp_same s h' _⟩) (Nat.le_trans (Nat.le_trans (Nat.le_of_eq (by rw [List.size_toArray, da.len])) z) (by rw [sizeLine_eq]; exact Nat.le_of_ble_eq_true rfl))
    rw [← List.push_toArray]
theorem Cl_dget {d : Addr} {kv : List (Str × AV)} {key : Str} {dflt : AV} {o : Option AV} {P : AV → LG → Prop} (g : Rd l d (.sd kv)) (e : vat kv key = o) (h : P (o.getD dflt) l) : Cl C fm l (.builtin "dict.get") [.ref d, .str key, dflt] P := .mk fun m s vs hs dd => by
  cases dd with
  | cons d1 dd => cases dd with
    | cons d2 dd => cases dd with
      | cons d3 dd =>
      cases dd
      cases d1
      obtain ⟨t, rfl⟩ := d2
      obtain ⟨ob, ⟨lo, kv', hd, dk⟩, a⟩ := g.en hs
      have N : News C.h₀ C.L s.heap [(d, ob)] := fun p hp => by rw [List.mem_singleton.mp hp]; exact a
      cases o with
      | none => exact kdg_get2 (knd := strKind _ _) N (.head _) hd lo (strKind_is _ _ _ _) none (dk.none e) ⟨dflt, l, h, d3, hs, tk_same s _⟩
      | some b =>
        obtain ⟨v, hv, db⟩ := dk.some e
        exact kdg_get2 (knd := strKind _ _) N (.head _) hd lo (strKind_is _ _ _ _) (some v) hv ⟨b, l, h, db, hs, tk_same s _⟩
theorem Cl_setdef {d : Addr} {kv : List (Str × AV)} {key : Str} {dflt : AV} {P : AV → LG → Prop} (u : Put l d (.sd kv) (.sd (vst kv key dflt)) l') (e : vat kv key = none) (z : kv.length ≤ 1000) (h : P dflt l') : Cl C fm l (.builtin "dict.setdefault") [.ref d, .str key, dflt] P := .mk fun m s vs hs dd => by
  cases dd with
  | cons d1 dd => cases dd with
    | cons d2 dd => cases dd with
      | cons d3 dd =>
      cases dd
      cases d1
      obtain ⟨t, rfl⟩ := d2
      obtain ⟨o, rest, F, ⟨lo, kv', hd, dk⟩, N, nn, oth, back⟩ := hs.upd u
      exact kob_setdef_new (knd := strKind _ _) F N (.head nn.1.off) hd lo (strKind_is _ _ _ _) (PySem.F.args_dict_setdefault_3 _ _ _) (dk.none e) (Nat.le_trans (Nat.le_trans (Nat.le_of_eq dk.len) z) (by rw [sizeLine_eq]; exact Nat.le_of_ble_eq_true rfl))
        fun h' o' F' N' hd' => ⟨dflt, l', h, d3, back h' o' ⟨lo, _, hd', dk.vst d3⟩ F' N', hp_same s h' _⟩
theorem Cl_setdefi {d : Addr} {kv : List (Int × AV)} {key : Int} {dflt : AV} {P : AV → LG → Prop} (u : Put l d (.idd kv) (.idd (vst kv key dflt)) l') (e : vat kv key = none) (z : kv.length ≤ 1000) (h : P dflt l') : Cl C fm l (.builtin "dict.setdefault") [.ref d, .int key, dflt] P := .mk fun m s vs hs dd => by
  cases dd with
  | cons d1 dd => cases dd with
    | cons d2 dd => cases dd with
      | cons d3 dd =>
      cases dd
      cases d1
      obtain ⟨t, rfl⟩ := d2
      obtain ⟨o, rest, F, ⟨lo, kv', hd, dk⟩, N, nn, oth, back⟩ := hs.upd u
      exact kob_setdef_new (knd := intKind _ _) F N (.head nn.1.off) hd lo (intKind_is _ _ _ _) (PySem.F.args_dict_setdefault_3 _ _ _) (dk.none e) (Nat.le_trans (Nat.le_trans (Nat.le_of_eq dk.len) z) (by rw [sizeLine_eq]; exact Nat.le_of_ble_eq_true rfl))
        fun h' o' F' N' hd' => ⟨dflt, l', h, d3, back h' o' ⟨lo, _, hd', dk.vst d3⟩ F' N', hp_same s h' _⟩
-- in a written tuple of texts
theorem Cp_inT {t : Addr} {o : Obj} {its : Array Value} {n : Nat} {ys : List Str} {x : Str} {c : Bool} {P : Bool → LG → Prop} (G : Good C k) (e : (KF C.w.params).lookup t = some o) (ec : o.cls = .type "tuple") (ed : o.data = .seq its n) (hi : StrsAre its.toList ys) (hb : ys.any (· == x) = c) (h : P c l) : Cp C fm l .In (.str x) (.val (.ref t)) P := .mk fun m s v u hs d d' => by
  obtain ⟨tk, rfl⟩ := d
  cases d'
  obtain ⟨F, _⟩ := hs.fr
  exact in_tuple_strs (kf_tup G.X F e ec ed) hi (by rw [hb]; exact ⟨c, rfl, bp_of hs h⟩)
theorem Cp_notinT {t : Addr} {o : Obj} {its : Array Value} {n : Nat} {ys : List Str} {x : Str} {c : Bool} {P : Bool → LG → Prop} (G : Good C k) (e : (KF C.w.params).lookup t = some o) (ec : o.cls = .type "tuple") (ed : o.data = .seq its n) (hi : StrsAre its.toList ys) (hb : ys.any (· == x) = c) (h : P (!c) l) : Cp C fm l .NotIn (.str x) (.val (.ref t)) P := .mk fun m s v u hs d d' => by
  obtain ⟨tk, rfl⟩ := d
  cases d'
  obtain ⟨F, _⟩ := hs.fr
  exact notin_tuple_strs (kf_tup G.X F e ec ed) hi (by rw [hb]; exact ⟨!c, rfl, bp_of hs h⟩)
-- targets
structure Tg (C : Cx) (env : Env) (fm : FM) (l : LG) (t : PySem.Expr) (a : AV) (P : FM → LG → Prop) : Prop where
  run : ∀ s v, C.H fm l s → a.den v → wpAny (model Pg C.w) C.A (assign t env v) (fun _ s' => ∃ fm' l', P fm' l' ∧ C.H fm' l' s' ∧ Same s s') (C.er s) s
theorem st_name {x : Str} {a : AV} {v : Value} {s : Shared} {P : FM → LG → Prop} (hs : C.H fm l s) (d : a.den v) (h : P ((x, a) :: fm) l) (hL : env.locals = C.L) (hx : env.kindOf x = some .local) (hp : (env.scope.kind == .class || (env.scope.kind == .module && env.locals != env.globals)) = false) :
    wpAny (model Pg C.w) C.A (storeName env x v) (fun _ s' => ∃ fm' l', P fm' l' ∧ C.H fm' l' s' ∧ Same s s') (C.er s) s := by
  obtain ⟨m, ⟨F, fh⟩, en, nd⟩ := hs
  refine wpAny_storeName_local hx (hL ▸ F.ns) (fun h' hn sb => ?_) hp
  rw [hL] at hn sb
  refine ⟨_, _, h, ⟨_, ⟨F.set hn sb, fr_set (h := h') (h' := h') fh d⟩, fun p hp => ?_, nd⟩, hp_same s h' _⟩
  obtain ⟨o, a, b, c, d⟩ := en p hp
  exact ⟨o, a, sb.extBut _ _ c b, c, d⟩
theorem Tg_name {x : Str} {p : Pos} {a : AV} {P : FM → LG → Prop} (h : P ((x, a) :: fm) l) (hL : env.locals = C.L := by rfl) (hx : env.kindOf x = some .local := by rfl) (hp : (env.scope.kind == .class || (env.scope.kind == .module && env.locals != env.globals)) = false := by rfl) : Tg C env fm l (.Name x p) a P := .mk fun s v hs d =>
  wpAny_assign_Name (st_name hs d h hL hx hp)
-- loops
inductive Take : LG → Addr → AO → LG → Prop
  | head {a : Addr} {x : AO} {l : LG} : Take ((a, x) :: l) a x l
  | tail {a : Addr} {x : AO} {p : Addr × AO} {l l' : LG} : Take l a x l' → Take (p :: l) a x (p :: l')
theorem Take.perm {l l' : LG} {a : Addr} {x : AO} (h : Take l a x l') : ((a, x) :: l').Perm l := by
  induction h with
  | head => exact .refl _
  | tail _ ih => exact (List.Perm.swap _ _ _).trans (.cons _ ih)
inductive FoP (X : FM → LG → Prop) (P : AF → FM → LG → Prop) (I : Addr) (it : Obj) : AF → FM → LG → Prop
  | next {fm : FM} {l l' : LG} : Take l I (.obj it) l' → X fm l' → FoP X P I it .next fm l
  | cont {fm : FM} {l l' : LG} : Take l I (.obj it) l' → X fm l' → FoP X P I it .cont fm l
  | brk {fm : FM} {l : LG} : P .next fm l → FoP X P I it .brk fm l
  | ret {v : AV} {fm : FM} {l : LG} : P (.ret v) fm l → FoP X P I it (.ret v) fm l
def Fo (C : Cx) (env : Env) (tg : PySem.Expr) (body : List Stmt) (src : LG → Prop) (P : AF → FM → LG → Prop) : List AV → FM → LG → Prop
  | [], fm, l => P .next fm l
  | a :: r, fm, l => ∀ I it, Tg C env fm ((I, .obj it) :: l) tg a fun fm₁ l₁ => Ex C env fm₁ l₁ body (FoP (fun fm' l' => src l' ∧ Fo C env tg body src P r fm' l') P I it)
theorem Fo.nil {tg : PySem.Expr} {body : List Stmt} {src : LG → Prop} {P : AF → FM → LG → Prop} (h : P .next fm l) : Fo C env tg body src P [] fm l := h
theorem Fo.tg {tg : PySem.Expr} {body : List Stmt} {src : LG → Prop} {P : AF → FM → LG → Prop} {a : AV} {r : List AV} (h : ∀ I it, Tg C env fm ((I, .obj it) :: l) tg a fun fm₁ l₁ => Ex C env fm₁ l₁ body (FoP (fun fm' l' => src l' ∧ Fo C env tg body src P r fm' l') P I it)) : Fo C env tg body src P (a :: r) fm l := h
theorem Fo.cons {x : Str} {px : Pos} {body : List Stmt} {src : LG → Prop} {P : AF → FM → LG → Prop} {a : AV} {r : List AV} (h : ∀ I it, Ex C env ((x, a) :: fm) ((I, .obj it) :: l) body (FoP (fun fm' l' => src l' ∧ Fo C env (.Name x px) body src P r fm' l') P I it)) (hL : env.locals = C.L := by rfl) (hx : env.kindOf x = some .local := by rfl) (hp : (env.scope.kind == .class || (env.scope.kind == .module && env.locals != env.globals)) = false := by rfl) : Fo C env (.Name x px) body src P (a :: r) fm l := fun I it => Tg_name (h I it) hL hx hp
theorem fo_rest {tg : PySem.Expr} {body : List Stmt} {ax : Addr} {lo : Obj} {src : LG → Prop} {P : AF → FM → LG → Prop} {R : Flow → Shared → Prop} {T : String} {I : Addr} {s₀ s : Shared} (hsrc : ∀ l n, src l → Den C.w l n → (ax, lo) ∈ n) (hPR : ∀ f s', C.fp P s₀ f s' → R f s') (e₀ : Same s₀ s) (hL : env.locals = C.L) :
    ∀ {items : List AV} {vs : List Value}, AVs items vs → ∀ {fm : FM} {l : LG} {m : Str → Option Value} {n : List (Addr × Obj)}, Fo C env tg body src P items fm l → (∀ y av, fm.lookup y = some av → ∃ v, m y = some v ∧ av.den v) → Den C.w l n → (l.map (·.1)).Nodup → I ∉ l.map (·.1) →
      ItemsRest Pg C.w C.A (C.er s₀) C.h₀ env tg body R s [(I, T)] [(ax, lo)] (vs.map .val) m n := by
  intro items vs d
  induction d with
  | nil =>
    intro fm l m n h fh dn nd hI
    exact ItemsRest.zero fun h' tk F N => hPR _ _ ⟨.next, fm, l, h, rfl, ⟨m, ⟨hL ▸ F, fh⟩, den_en dn (hL ▸ N), nd⟩, e₀.trans (hp_same s h' tk)⟩
  | @cons a v items vs da _ ih =>
    intro fm l m n h fh dn nd hI
    refine ItemsRest.val fun h' tk F => AllObj.cons fun it hc => AllObj.nil fun N => ?_
    have H : C.H fm ((I, .obj it) :: l) { s with heap := h', toks := tk } := by
      rw [hL] at F N
      refine ⟨_, ⟨F, fh⟩, fun p hp => ?_, ?_⟩
      · rcases List.mem_cons.mp hp with rfl | hp
        · exact ⟨it, rfl, N (I, it) (.head _)⟩
        · exact den_en dn (fun q hq => N q (.tail _ hq)) p hp
      · rw [List.map_cons, List.nodup_cons]
        exact ⟨hI, nd⟩
    have fin : ∀ {fm' : FM} {l₁ l' : LG} {s₃ : Shared}, Take l₁ I (.obj it) l' → (src l' ∧ Fo C env tg body src P items fm' l') → C.H fm' l₁ s₃ → Same { s with heap := h', toks := tk } s₃ →
        UnrEndW C.h₀ env.locals { s with heap := h', toks := tk } [(I, it)] (fun m' n' => SubL [(ax, lo)] n' ∧ ItemsRest Pg C.w C.A (C.er s₀) C.h₀ env tg body R s [(I, T)] [(ax, lo)] (vs.map .val) m' n') s₃ := by
      intro fm' l₁ l' s₃ tk' q H₃ e₃
      obtain ⟨m', H₃⟩ := H₃
      have H' := Holds.perm H₃ tk'.perm
      obtain ⟨⟨F', fh'⟩, en', nd'⟩ := H'
      obtain ⟨n', dn', N'⟩ := den_ex en'
      cases dn' with
      | @cons _ _ o _ n'' di dn'' =>
      cases di
      rw [List.map_cons, List.nodup_cons] at nd'
      obtain ⟨g1, g2, g3⟩ := e₃
      refine ⟨s₃.heap, s₃.toks, m', n'', ?_, hL ▸ F', hL ▸ N', fun p hp r hr e => ?_, ?_, ih q.2 fh' dn'' nd'.2 nd'.1⟩
      · obtain ⟨a1, a2, a3, a4, a5⟩ := s₃
        cases g1; cases g2; cases g3
        rfl
      · rw [List.mem_singleton.mp hr] at e
        refine nd'.1 ?_
        rw [← dn''.adr]
        exact List.mem_map.mpr ⟨p, hp, e⟩
      · exact ⟨hsrc _ _ q.1 dn'', trivial⟩
    have u₀ := e₀.trans (hp_same s h' tk)
    refine wpAny_mono ((h I it).run _ v H da) (fun _ s₂ ⟨fm₂, l₂, q₂, H₂, e₂⟩ => ?_) fun _ _ x => Cx.er.same u₀ x
    refine wpAny_mono (q₂.run _ H₂) (fun f s₃ ⟨af, fm', l₁, p, df, H₃, e₃⟩ => ?_) fun _ _ x => Cx.er.same (u₀.trans e₂) x
    replace e₃ := e₂.trans e₃
    cases p with
    | next tk' q => cases df; exact fin tk' q H₃ e₃
    | cont tk' q => cases df; exact fin tk' q H₃ e₃
    | brk q => cases df; exact hPR _ _ ⟨.next, fm', l₁, q, rfl, H₃, e₀.trans e₃⟩
    | ret q => obtain ⟨v', rfl, d'⟩ := df; exact hPR _ _ ⟨_, fm', l₁, q, ⟨v', rfl, d'⟩, H₃, e₀.trans e₃⟩
theorem seq_next {P : AF → FM → LG → Prop} {r : List Stmt} {s s₂ : Shared} {f : Flow} (h : C.fp (NxP (fun fm l => Ex C env fm l r P) P) s f s₂) : (match (generalizing := false) f with | .next => wpAny (model Pg C.w) C.A (execs r env) (C.fp P s) (C.er s) s₂ | f => C.fp P s f s₂) := by
  obtain ⟨af, fm', l'', q₂, d, hh₂, e₂⟩ := h
  cases q₂ with
  | next q₂ => cases d; exact Ex.on q₂ hh₂ e₂
  | ret q₂ => obtain ⟨v', rfl, d'⟩ := d; exact ⟨_, fm', l'', q₂, ⟨v', rfl, d'⟩, hh₂, e₂⟩
  | brk q₂ => cases d; exact ⟨.brk, fm', l'', q₂, rfl, hh₂, e₂⟩
  | cont q₂ => cases d; exact ⟨.cont, fm', l'', q₂, rfl, hh₂, e₂⟩
theorem fp_conv {P : AF → FM → LG → Prop} {a : Addr} {x y : AO} {s s' : Shared} {f : Flow} (c : ∀ o, x.den C.w a o → y.den C.w a o) (H : C.fp (fun af fm l => PutF l a x y (P af fm)) s f s') : C.fp P s f s' := by
  obtain ⟨af, fm', l', ⟨u, q⟩, d, ⟨m, hh⟩, e⟩ := H
  exact ⟨af, fm', _, q, d, ⟨m, Holds.conv u c hh⟩, e⟩
/-- what a for goes over, and its turns -/
inductive Sq (C : Cx) (env : Env) (fm : FM) (tg : PySem.Expr) (body : List Stmt) (P : AF → FM → LG → Prop) : AV → LG → Prop
  | lst {ax : Addr} {items : List AV} {l : LG} {l₁ : Obj → LG} : (∀ lo, Put l ax (.lst items) (.obj lo) (l₁ lo)) → (∀ lo, Fo C env tg body (fun l => Get l ax (.obj lo)) (fun af fm l => PutF l ax (.obj lo) (.lst items) (P af fm)) items fm (l₁ lo)) → Sq C env fm tg body P (.ref ax) l
  | rl {ax : Addr} {items : List AV} {l : LG} {lo : Obj} : Get l ax (.rl lo items) → Fo C env tg body (fun l => Get l ax (.rl lo items)) P items fm l → Sq C env fm tg body P (.ref ax) l
  | tup {ax : Addr} {items : List AV} {l : LG} {l₁ : Obj → LG} : (∀ lo, Put l ax (.tup items) (.obj lo) (l₁ lo)) → (∀ lo, Fo C env tg body (fun l => Get l ax (.obj lo)) (fun af fm l => PutF l ax (.obj lo) (.tup items) (P af fm)) items fm (l₁ lo)) → Sq C env fm tg body P (.ref ax) l
theorem Ex_for {tg : PySem.Expr} {p : Pos} {iter : PySem.Expr} {body r : List Stmt} {P : AF → FM → LG → Prop} (hO : Own C env) (h : Ev C env fm l iter (Sq C env fm tg body (NxP (fun fm l => Ex C env fm l r P) P))) (hL : env.locals = C.L := by rfl)
    (hs' : ∀ x, foldedSetIterable iter env x = pure x := by intro _; rfl) : Ex C env fm l (.For tg iter body [] p :: r) P := .mk fun s ⟨m, hs⟩ => by
  refine wpAny_execs_cons (wpAny_mono (Q := C.fp (NxP (fun fm l => Ex C env fm l r P) P) s) (E := C.er s) ?_ (fun f s₂ x => seq_next x) fun _ _ x => x)
  obtain ⟨F₀, _⟩ := hs.fr
  refine For_turns (h₀ := C.h₀) (m := m) (hL ▸ F₀) (wpAny_mono (h.run m s hs) (fun v s₁ ⟨av, l₁, q, d, H₁, e₁⟩ => ?_) fun _ _ x => x) hs' (hO s)
  obtain ⟨n, F, dn, N, nn, back⟩ := H₁.out
  have fh := H₁.fr
  cases q with
  | @lst ax items _ l₂ u q =>
    cases d
    obtain ⟨lo, hm, dl, _⟩ := (u (W.listOf #[] 0)).obj dn
    obtain ⟨lo', hm', dl', z⟩ := (u lo).obj dn
    have same : lo' = lo := by have := (N _ hm').1; rw [(N _ hm).1] at this; exact (Option.some.inj this).symm
    have dn₂ := z same
    obtain ⟨vs, k', rfl, da⟩ := id dl
    obtain ⟨⟨F', fh'⟩, en', nd'⟩ := H₁
    refine iter_listTurns rfl (hL ▸ F') (hL ▸ N) hm rfl rfl fun I hI => ?_
    exact fo_rest (src := fun l => Get l ax (.obj (W.listOf vs.toArray k'))) (T := "list_iterator") (I := I) (s := s₁) (fun l n g d => by obtain ⟨o', ho, eo⟩ := d.get g; cases eo; exact ho) (fun f s₂ hx => fp_conv (a := ax) (x := .obj (W.listOf vs.toArray k')) (y := .lst items) (P := NxP (fun fm l => Ex C env fm l r P) P) (fun o eo => by cases eo; exact dl) hx) e₁ hL da (q _) fh' dn₂ ((u _).adr ▸ nd') (fun hm => by
      rw [(u _).adr, ← dn.adr] at hm
      obtain ⟨p, hp, e⟩ := List.mem_map.mp hm
      exact Nat.ne_of_lt (hI p hp) e)
  | @rl ax items _ lo g q =>
    cases d
    obtain ⟨o, hm, rfl, vs, k', rfl, da⟩ := dn.get g
    obtain ⟨⟨F', fh'⟩, en', nd'⟩ := H₁
    refine iter_listTurns rfl (hL ▸ F') (hL ▸ N) hm rfl rfl fun I hI => ?_
    exact fo_rest (src := fun l => Get l ax (.rl (W.listOf vs.toArray k') items)) (T := "list_iterator") (I := I) (s := s₁) (fun l n g d => by obtain ⟨o', ho, eo, _⟩ := d.get g; cases eo; exact ho) (fun f s₂ hx => hx) e₁ hL da q fh' dn nd' (fun hm => by
      rw [← dn.adr] at hm
      obtain ⟨p, hp, e⟩ := List.mem_map.mp hm
      exact Nat.ne_of_lt (hI p hp) e)
  | @tup ax items _ l₂ u q =>
    cases d
    obtain ⟨lo, hm, dl, _⟩ := (u (W.listOf #[] 0)).obj dn
    obtain ⟨lo', hm', dl', z⟩ := (u lo).obj dn
    have same : lo' = lo := by have := (N _ hm').1; rw [(N _ hm).1] at this; exact (Option.some.inj this).symm
    have dn₂ := z same
    obtain ⟨vs, k', rfl, da⟩ := id dl
    obtain ⟨⟨F', fh'⟩, en', nd'⟩ := H₁
    refine iter_tupTurns rfl (hL ▸ F') (hL ▸ N) hm rfl rfl fun I hI => ?_
    exact fo_rest (src := fun l => Get l ax (.obj (tupN vs.toArray k'))) (T := "tuple_iterator") (I := I) (s := s₁) (fun l n g d => by obtain ⟨o', ho, eo⟩ := d.get g; cases eo; exact ho) (fun f s₂ hx => fp_conv (a := ax) (x := .obj (tupN vs.toArray k')) (y := .tup items) (P := NxP (fun fm l => Ex C env fm l r P) P) (fun o eo => by cases eo; exact dl) hx) e₁ hL da (q _) fh' dn₂ ((u _).adr ▸ nd') (fun hm => by
      rw [(u _).adr, ← dn.adr] at hm
      obtain ⟨p, hp, e⟩ := List.mem_map.mp hm
      exact Nat.ne_of_lt (hI p hp) e)
end
section
variable {w : World} {h₀ h : Heap} {L : Addr} {m : Str → Option Value} {fm : FM} {l l' : LG} {C : Cx} {env : Env} {k k' : Nat}
theorem Ls.isList {a : Addr} {xs : List AV} (H : Holds w h₀ L m fm l h) (g : Ls l a xs) : ∃ vs, h.IsList a vs.toArray ∧ AVs xs vs := by
  cases g with
  | l g =>
    obtain ⟨_, ⟨vs, n, rfl, d⟩, a, _⟩ := H.en _ g.mem
    exact ⟨vs, ⟨_, a, rfl, n, rfl⟩, d⟩
  | r g =>
    obtain ⟨_, ⟨rfl, vs, n, rfl, d⟩, a, _⟩ := H.en _ g.mem
    exact ⟨vs, ⟨_, a, rfl, n, rfl⟩, d⟩
theorem Rd.isTup {a : Addr} {xs : List AV} (H : Holds w h₀ L m fm l h) (g : Rd l a (.tup xs)) : ∃ vs, IsTup h a vs.toArray ∧ AVs xs vs := by
  obtain ⟨_, ⟨vs, n, rfl, d⟩, a, _⟩ := g.en H
  exact ⟨vs, ⟨_, a, rfl, n, rfl⟩, d⟩
theorem ints_av : ∀ {ns : List Int} {vs : List Value}, AVs (ns.map .int) vs → IntsAre vs ns
  | [], _, .nil => .nil
  | _ :: _, _, .cons ⟨t, e⟩ r => by subst e; exact .cons _ t (ints_av r)
theorem av_ints {ns : List Int} {vs : List Value} (h : IntsAre vs ns) : AVs (ns.map .int) vs := by
  induction h with
  | nil => exact .nil
  | cons n t _ ih => exact .cons ⟨t, rfl⟩ ih
theorem AVs.at {xs : List AV} {vs : List Value} (h : AVs xs vs) : ∀ {i : Nat} {b : AV}, xs[i]? = some b → ∃ v, vs[i]? = some v ∧ b.den v := by
  induction h with
  | nil => intro i b e; cases e
  | cons d _ ih =>
    intro i b e
    cases i with
    | zero => cases e; exact ⟨_, rfl, d⟩
    | succ i => exact ih (i := i) e
-- == and != of lists of ints; in
theorem Cp_eqI {a b : Addr} {xs ys : List Int} {c : Bool} {P : Bool → LG → Prop} (G : Good C k) (hk : k ≤ 900) (g1 : Ls l a (xs.map .int)) (g2 : Ls l b (ys.map .int)) (e : decide (xs = ys) = c) (h : P c l) : Cp C fm l .Eq (.ref a) (.ref b) P := .mk fun m s v u hs d d' => by
  cases d; cases d'
  obtain ⟨vs, h1, i1⟩ := g1.isList hs
  obtain ⟨us, h2, i2⟩ := g2.isList hs
  exact eq_intsK h1 (ints_av i1) h2 (ints_av i2) (by have := G.un; show C.un + 64 < 9900; omega) ⟨c, by rw [e], bp_of hs h⟩
theorem Cp_neI {a b : Addr} {xs ys : List Int} {c : Bool} {P : Bool → LG → Prop} (G : Good C k) (hk : k ≤ 900) (g1 : Ls l a (xs.map .int)) (g2 : Ls l b (ys.map .int)) (e : decide (xs = ys) = c) (h : P (!c) l) : Cp C fm l .NotEq (.ref a) (.ref b) P := .mk fun m s v u hs d d' => by
  cases d; cases d'
  obtain ⟨vs, h1, i1⟩ := g1.isList hs
  obtain ⟨us, h2, i2⟩ := g2.isList hs
  exact ne_intsK h1 (ints_av i1) h2 (ints_av i2) (by have := G.un; show C.un + 64 < 9900; omega) ⟨!c, by rw [e], bp_of hs h⟩
theorem Cp_inI {a : Addr} {xs : List Int} {x : Int} {c : Bool} {P : Bool → LG → Prop} (g1 : Ls l a (xs.map .int)) (e : (xs.any (· == x)) = c) (h : P c l) : Cp C fm l .In (.int x) (.ref a) P := .mk fun m s v u hs d d' => by
  obtain ⟨t, rfl⟩ := d; cases d'
  obtain ⟨vs, h1, i1⟩ := g1.isList hs
  exact in_list_ints h1 (ints_av i1) ⟨c, by rw [e], bp_of hs h⟩
theorem Cp_notinI {a : Addr} {xs : List Int} {x : Int} {c : Bool} {P : Bool → LG → Prop} (g1 : Ls l a (xs.map .int)) (e : (xs.any (· == x)) = c) (h : P (!c) l) : Cp C fm l .NotIn (.int x) (.ref a) P := .mk fun m s v u hs d d' => by
  obtain ⟨t, rfl⟩ := d; cases d'
  obtain ⟨vs, h1, i1⟩ := g1.isList hs
  exact notin_list_ints h1 (ints_av i1) ⟨!c, by rw [e], bp_of hs h⟩
theorem Cp_notinD {d : Addr} {kv : List (Int × AV)} {x : Int} {b : AV} {P : Bool → LG → Prop} (g : Rd l d (.idd kv)) (e : vat kv x = some b) (h : P false l) : Cp C fm l .NotIn (.int x) (.ref d) P := .mk fun m s v u hs d' d'' => by
  obtain ⟨t, rfl⟩ := d'; cases d''
  obtain ⟨ob, ⟨lo, kv', hd, dk⟩, a⟩ := g.en hs
  have N : News C.h₀ C.L s.heap [(d, ob)] := fun p hp => by rw [List.mem_singleton.mp hp]; exact a
  obtain ⟨v, hv, _⟩ := dk.some e
  exact kdg_notin (knd := intKind _ _) N (.head _) hd lo (intKind_is _ _ _ _) true (by rw [hv]; rfl) ⟨false, rfl, l, h, hs, tk_same s _⟩
theorem Cp_lti {x y : Int} {c : Bool} {P : Bool → LG → Prop} (e : decide (x < y) = c) (h : P c l) : Cp C fm l .Lt (.int x) (.int y) P := Cp_of (c := c) (fun s v u Q E d d' q => by obtain ⟨t, rfl⟩ := d; obtain ⟨t', rfl⟩ := d'; exact PySem.P.lt_int (e ▸ q)) h
theorem Cp_gti {x y : Int} {c : Bool} {P : Bool → LG → Prop} (e : decide (x > y) = c) (h : P c l) : Cp C fm l .Gt (.int x) (.int y) P := Cp_of (c := c) (fun s v u Q E d d' q => by obtain ⟨t, rfl⟩ := d; obtain ⟨t', rfl⟩ := d'; exact PySem.P.gt_int (e ▸ q)) h
-- built-ins
theorem Ev_built {x : Str} {p : Pos} {v : Value} {P : AV → LG → Prop} (G : Good C k) (e : nsIn (KF C.w.params) mainGlobals x = some none) (hv : bootBuiltins x = some v) (hn : x ≠ "__name__") (h : P (.val v) l) (hg : env.globals = mainGlobals := by rfl) (hb : env.builtins = builtinsNs := by rfl) (hk : env.scope.kind = .function := by rfl) (hx : env.kindOf x = some .globalImplicit := by rfl) (hd : (x == ("__debug__" : Str)) = false := by decide) :
    Ev C env fm l (.Name x p) P := .mk fun m s hs => by
  obtain ⟨F, fh⟩ := hs.fr
  obtain ⟨_, mg, mb, T⟩ := G.T
  exact PySem.Calls.Name_function_global hk hx (PySem.Calls.loadGlobal_builtin (mg := mg) (mb := mb) (hg ▸ T.g.keeps F.keep) (mg_none_of G.X T.g e) (hb ▸ T.b.keeps F.keep) ((T.builtins x hn).trans hv) ⟨.val v, l, h, rfl, hs, .refl s⟩) hd
theorem Cl_listT {a : Addr} {xs : List AV} {P : AV → LG → Prop} (g : Ls l a xs) (z : xs.length ≤ 1000) (h : ∀ x, P (.ref x) ((x, .lst xs) :: l)) : Cl C fm l (.type "list") [.ref a] P := .mk fun m s vs hs d => by
  cases d with
  | cons d1 d =>
  cases d
  cases d1
  obtain ⟨us, hl, da⟩ := g.isList hs
  obtain ⟨n, F, dn, N, nn, back⟩ := hs.out
  exact list_copyK F N hl (fun x c h' F' N' l1 => ⟨.ref x, _, h x, rfl, Holds.new (x := .lst xs) back dn F' ⟨us, c, rfl, da⟩ N' (allLt_of l1), hp_same s h' _⟩) (by rw [List.size_toArray, da.len]; exact Nat.le_trans z (by rw [sizeLine_eq]; exact Nat.le_of_ble_eq_true rfl))
theorem Cl_len {a : Addr} {xs : List AV} {n : Int} {P : AV → LG → Prop} (g : Ls l a xs) (z : xs.length ≤ 1000) (e : (xs.length : Int) = n) (h : P (.int n) l) : Cl C fm l (.builtin "len") [.ref a] P := .mk fun m s vs hs d => by
  cases d with
  | cons d1 d =>
  cases d
  cases d1
  obtain ⟨us, hl, da⟩ := g.isList hs
  exact len_list hl (by rw [List.size_toArray, da.len]; omega) ⟨.int n, l, h, ⟨_, by rw [List.size_toArray, da.len, e]⟩, hs, ⟨rfl, rfl, rfl⟩⟩
-- items
structure Su (C : Cx) (env : Env) (fm : FM) (l : LG) (vx sx : PySem.Expr) (a b : AV) (P : AV → LG → Prop) : Prop where
  run : ∀ m s v u, C.K m fm l s → a.den v → b.den u → wpAny (model Pg C.w) C.A (subscriptTail vx sx v u) (C.vp m fm P s) (C.er s) s
theorem Ev_item {vx sx : PySem.Expr} {p : Pos} {P : AV → LG → Prop} (h : Ev C env fm l vx fun a l₁ => Ev C env fm l₁ sx fun b l₂ => Su C env fm l₂ vx sx a b P) : Ev C env fm l (.Subscript vx sx p) P := .mk fun m s hs =>
  Subscript_ (h.go hs fun a l₁ v s₁ q d H₁ e₁ => up e₁ (q.go H₁ fun b l₂ u s₂ q₂ d₂ H₂ e₂ => up (e₁.trans e₂) (wpAny_mono (q₂.run m s₂ v u H₂ d d₂) (fun _ _ x => Cx.vp.same (e₁.trans e₂) x) fun _ _ x => x)))
theorem Su_tup {vx sx : PySem.Expr} {t : Addr} {xs : List AV} {n : Int} {i : Nat} {b : AV} {P : AV → LG → Prop} (g : Rd l t (.tup xs)) (hn : n = (i : Int)) (e : xs[i]? = some b) (z : xs.length ≤ 1000) (h : P b l)
    (hs' : ∀ a k u, subscripted sx false (.ref a) (.int k u) = operate [.ref a, .int k u] (getItem (.ref a) (.int k u)) := by intros; with_unfolding_all rfl) : Su C env fm l vx sx (.ref t) (.int n) P := .mk fun m s v u hs d d' => by
  cases d; obtain ⟨tk, rfl⟩ := d'
  obtain ⟨vs, ht, da⟩ := g.isTup hs
  obtain ⟨x, hx, dx⟩ := da.at e
  have hi : i < xs.length := by
    rcases Nat.lt_or_ge i xs.length with q | q
    · exact q
    · rw [List.getElem?_eq_none q] at e; cases e
  have hl := da.len
  subst hn
  exact tail_any ht.typeIs slot_tuple_getitem.lookup (PyProof.Rows.getItem_tuple ht (by omega) (by omega) (PySem.seqIndex_of (Int.natCast_nonneg _) (by rw [List.size_toArray, hl]; exact Int.ofNat_lt.mpr hi)) (x := x) (by simpa using hx) ⟨b, l, h, dx, hs, .refl s⟩) (hs' _ _ _)
theorem Su_lst {vx sx : PySem.Expr} {t : Addr} {xs : List AV} {n : Int} {i : Nat} {b : AV} {P : AV → LG → Prop} (g : Ls l t xs) (hn : n = (i : Int)) (e : xs[i]? = some b) (z : xs.length ≤ 1000) (h : P b l)
    (hs' : ∀ a k u, subscripted sx false (.ref a) (.int k u) = operate [.ref a, .int k u] (getItem (.ref a) (.int k u)) := by intros; with_unfolding_all rfl) : Su C env fm l vx sx (.ref t) (.int n) P := .mk fun m s v u hs d d' => by
  cases d; obtain ⟨tk, rfl⟩ := d'
  obtain ⟨vs, ht, da⟩ := g.isList hs
  obtain ⟨x, hx, dx⟩ := da.at e
  have hi : i < xs.length := by
    rcases Nat.lt_or_ge i xs.length with q | q
    · exact q
    · rw [List.getElem?_eq_none q] at e; cases e
  subst hn
  exact tail_any ht.typeIs slot_list_getitem.lookup (wpAny_getItem_list ht (Int.natCast_nonneg _) (by omega) (x := x) (by simpa using hx) ⟨b, l, h, dx, hs, .refl s⟩) (hs' _ _ _)
theorem Su_idd {vx sx : PySem.Expr} {d : Addr} {kv : List (Int × AV)} {n : Int} {b : AV} {P : AV → LG → Prop} (g : Rd l d (.idd kv)) (e : vat kv n = some b) (h : P b l)
    (hs' : ∀ a k u, subscripted sx false (.ref a) (.int k u) = operate [.ref a, .int k u] (getItem (.ref a) (.int k u)) := by intros; with_unfolding_all rfl) : Su C env fm l vx sx (.ref d) (.int n) P := .mk fun m s v u hs d1 d' => by
  cases d1; obtain ⟨tk, rfl⟩ := d'
  obtain ⟨ob, ⟨lo, kv', hd, dk⟩, a⟩ := g.en hs
  have N : News C.h₀ C.L s.heap [(d, ob)] := fun p hp => by rw [List.mem_singleton.mp hp]; exact a
  obtain ⟨v, hv, db⟩ := dk.some e
  have hD := kda_dict (knd := intKind _ _) N (.head _) hd
  exact tail_any hD.typeIs slot_dict_getitem.lookup (wpAny_getItem_of (intKind_is _ _ _ _) hD.mapOf hv ⟨b, l, h, db, hs, tk_same s _⟩) (hs' _ _ _)
theorem Su_sd {vx sx : PySem.Expr} {d : Addr} {kv : List (Str × AV)} {n : Str} {b : AV} {P : AV → LG → Prop} (g : Rd l d (.sd kv)) (e : vat kv n = some b) (h : P b l)
    (hs' : ∀ a k u, subscripted sx false (.ref a) (.str k u) = operate [.ref a, .str k u] (getItem (.ref a) (.str k u)) := by intros; with_unfolding_all rfl) : Su C env fm l vx sx (.ref d) (.str n) P := .mk fun m s v u hs d1 d' => by
  cases d1; obtain ⟨tk, rfl⟩ := d'
  obtain ⟨ob, ⟨lo, kv', hd, dk⟩, a⟩ := g.en hs
  have N : News C.h₀ C.L s.heap [(d, ob)] := fun p hp => by rw [List.mem_singleton.mp hp]; exact a
  obtain ⟨v, hv, db⟩ := dk.some e
  have hD := kda_dict (knd := strKind _ _) N (.head _) hd
  exact tail_any hD.typeIs slot_dict_getitem.lookup (wpAny_getItem_of (strKind_is _ _ _ _) hD.mapOf hv ⟨b, l, h, db, hs, tk_same s _⟩) (hs' _ _ _)
theorem Su_str {vx sx : PySem.Expr} {x y : Str} {n : Int} {j : Nat} {P : AV → LG → Prop} (hk : x.length = j) (h0 : 0 ≤ n) (h1 : n < (j : Int)) (hn : j ≤ 1000) (e : Txt.item x n = y) (h : P (.str y) l)
    (hs' : ∀ t k u, subscripted sx false (.str x t) (.int k u) = operate [.str x t, .int k u] (getItem (.str x t) (.int k u)) := by intros; with_unfolding_all rfl) (hg : ∀ t r, letTemporaryGo vx (.str x t) r = pure () := by intros; with_unfolding_all rfl) : Su C env fm l vx sx (.str x) (.int n) P := .mk fun m s v u hs d d' => by
  obtain ⟨t, rfl⟩ := d; obtain ⟨tk, rfl⟩ := d'
  exact PySem.W.KXi.item hk (by omega) h1 (by omega) (fun _ => ⟨.str y, l, h, ⟨_, by rw [e]⟩, hs, tk_same s _⟩) (hs' _ _ _) (hg _)
end
section
variable {w : World} {h₀ h : Heap} {L : Addr} {m : Str → Option Value} {fm : FM} {l l' : LG} {C : Cx} {env : Env} {k k' : Nat} {A : Around}
theorem cells_nd : ∀ (names : List (Str × NameKind)) (n b : Nat) (acc : List (Str × Addr)), b ≤ n → (∀ p ∈ acc, b ≤ p.2 ∧ p.2 < n) → (acc.map (·.2)).Nodup → ((cellsFrom n names acc).map (·.2)).Nodup ∧ ∀ p ∈ cellsFrom n names acc, b ≤ p.2
  | [], _, _, acc, _, ha, hn => ⟨hn, fun p hp => (ha p hp).1⟩
  | (x, kd) :: r, n, b, acc, hb, ha, hn => by
    unfold cellsFrom
    split
    · refine cells_nd r (n + 1) b _ (Nat.le_succ_of_le hb) (fun p hp => ?_) ?_
      · rcases List.mem_cons.mp hp with rfl | hp
        · exact ⟨hb, Nat.lt_succ_self _⟩
        · exact ⟨(ha p hp).1, Nat.lt_succ_of_lt (ha p hp).2⟩
      · rw [List.map_cons, List.nodup_cons]
        refine ⟨fun hm => ?_, hn⟩
        obtain ⟨p, hp, e⟩ := List.mem_map.mp hm
        have := (ha p hp).2
        rw [e] at this
        exact Nat.lt_irrefl _ this
    · exact cells_nd r n b acc hb ha hn
def fmOf (kd : Str → Option NameKind) : FM → FM → FM
  | [], acc => acc
  | (n, a) :: r, acc => fmOf kd r (if kd n = some .local then (n, a) :: acc else acc)
def cmOf (kd : Str → Option NameKind) : FM → FM → FM
  | [], acc => acc
  | (n, a) :: r, acc => cmOf kd r (if kd n = some .local then acc else (n, a) :: acc)
def FmOk (fm : FM) (m : Str → Option Value) : Prop := ∀ x av, fm.lookup x = some av → ∃ v, m x = some v ∧ av.den v
/-- the names that fm does not tell are not bound -/
def FmAll (fm : FM) (m : Str → Option Value) : Prop := ∀ x, match fm.lookup x with | some av => ∃ v, m x = some v ∧ av.den v | none => m x = none
theorem FmAll.ok {m : Str → Option Value} (h : FmAll fm m) : FmOk fm m := fun x av e => by
  have z := h x
  rw [e] at z
  exact z
theorem FmAll.set {m : Str → Option Value} {x : Str} {a : AV} {v : Value} (h : FmAll fm m) (d : a.den v) : FmAll ((x, a) :: fm) (fun y => if y = x then some v else m y) := fun y => by
  rw [List.lookup_cons]
  by_cases q : y = x
  · subst q
    rw [beq_self_eq_true]
    exact ⟨v, if_pos rfl, d⟩
  · rw [show (y == x) = false from beq_eq_false_iff_ne.mpr q]
    simp only [if_neg q]
    exact h y
theorem fmOf_ok {kd : Str → Option NameKind} {bm : FM} {binds : List (Str × Value)} (kv : KVs bm binds) : ∀ {acc : FM} {m : Str → Option Value}, FmAll acc m → FmAll (fmOf kd bm acc) (bindL kd binds m) := by
  induction kv with
  | nil => exact id
  | @cons k a v l kv d _ ih =>
    intro acc m h
    unfold fmOf bindL
    refine ih ?_
    split
    · exact h.set d
    · exact h
theorem cmOf_ok {kd : Str → Option NameKind} {bm : FM} {binds : List (Str × Value)} (kv : KVs bm binds) : ∀ {acc : FM} {m : Str → Option Value}, FmAll acc m → FmAll (cmOf kd bm acc) (bindC kd binds m) := by
  induction kv with
  | nil => exact id
  | @cons k a v l kv d _ ih =>
    intro acc m h
    unfold cmOf bindC
    refine ih ?_
    split
    · exact h
    · exact h.set d
def cellAO (cm : FM) (x : Str) : AO := match cm.lookup x with | some a => .cell a | none => .cell0
def cellsLG (cm : FM) (cs : List (Str × Addr)) : LG := cs.map fun p => (p.2, cellAO cm p.1)
theorem cells_den {cm : FM} {m : Str → Option Value} (h : FmAll cm m) {cs : List (Str × Addr)} {cells : List (Addr × Obj)} (x : CellsAre m cs cells) : Den w (cellsLG cm cs) cells := by
  induction x with
  | nil => exact .nil
  | @cons n c o cs cells e _ ih =>
    refine .cons ?_ ih
    have z := h n
    unfold cellAO
    split
    · rename_i a q
      rw [q] at z
      obtain ⟨v, hv, d⟩ := z
      exact ⟨v, by rw [e, hv], d⟩
    · exact ⟨_, e⟩
noncomputable abbrev Cx.subC (C : Cx) (A : Around) (g : Heap) (L' : Addr) (R : Value → Shared → Shared → Prop) (qual : Str) (sc : Scope) (f : Addr) (cdv : Value) : Cx :=
  { w := C.w, h₀ := g, L := L', R := R, dp := A.depth + 1, un := A.units + 3, gd := A.guards, cn := qual, nm := sc.names, g1 := sc.isGenerator, g2 := sc.isCoroutine, mr := sc.more, a := f, ccd := cdv, cl := cellsFrom (L' + 1) sc.names [], outer := C.env :: C.outer, base := C.base }
/-- as code_fn, of a function some of whose names stand in cells -/
theorem code_fnC {f : Addr} {name qual : Str} {params : Arguments} {body : List Stmt} {scope : Scope} {dV kV doc pm cdv ct oc : Value} {an od : Option Addr} {osl : Array (Option Value)} {as : List AV} {P : AV → LG → Prop} {s : Shared} {vs : List Value} (G : Good C k)
    (hA : A.frames = some (C.env :: C.outer)) (hd : A.depth + 1 ≤ k') (hu : A.units + 3 ≤ 10 * k') (hk' : k' ≤ 900)
    (ho : (KF C.w.params).lookup f = some ⟨oc, od, .func (fnOf name qual params body scope dV kV doc pm an cdv ct), osl⟩) (hcd : codeIn (KF C.w.params) cdv qual = true)
    (hbind : ∀ s, BindN as.length fun vs => BindsTo s (fnOf name qual params body scope dV kV doc pm an cdv ct) ⟨vs, []⟩ ((params.args.map (·.arg)).zip vs)) (hloc : ((params.args.map (·.arg)).zip as).all (fun y => match scope.names.lookup y.1 with | some .local => true | some .cell => true | _ => false) = true) (hnd : ((cellsFrom 0 scope.names []).map (·.1)).Nodup)
    (hb : ∀ g L', Good (C.subC A g L' nopR qual scope f cdv) k' → Ex (C.subC A g L' nopR qual scope f cdv) (C.subC A g L' nopR qual scope f cdv).env (fmOf (C.subC A g L' nopR qual scope f cdv).env.kindOf ((params.args.map (·.arg)).zip as) []) (cellsLG (cmOf (C.subC A g L' nopR qual scope f cdv).env.kindOf ((params.args.map (·.arg)).zip as) []) (cellsFrom (L' + 1) scope.names []) ++ l) body fun fl _ l' => P fl.out l')
    (hE : ∀ g L', (C.subC A g L' nopR qual scope f cdv).A = A.deeper (envOfC qual scope L' f cdv) := by intro _ _; rfl) (hE' : ∀ g L', (C.subC A g L' nopR qual scope f cdv).env = envOfC qual scope L' f cdv := by intro _ _; rfl)
    (hco : scope.isCoroutine = false := by rfl) (hgen : scope.isGenerator = false := by rfl) (hk : scope.kind = .function := by rfl)
    (hs : C.K m fm l s) (d : AVs as vs) : codeAny (model Pg C.w) A (.call (.ref f) ⟨vs, []⟩) (fun r s' => match r with | .ok (.ret v) => C.vp m fm P s v s' | .ok _ => False | .error e => C.er s e s') s := by
  obtain ⟨A₀, B⟩ := G.B
  obtain ⟨mean, mg, mb, T⟩ := G.T
  obtain ⟨⟨F, fh⟩, en, nd⟩ := hs
  obtain ⟨n, dn, N⟩ := den_ex en
  have bt := (hbind s).at d
  have kv := KVs.zip (params.args.map (·.arg)) d
  revert bt kv
  generalize (params.args.map (·.arg)).zip vs = binds
  intro bt kv
  have hl' : (binds.all fun y => scope.names.lookup y.1 == some .local || scope.names.lookup y.1 == some .cell) = true := List.all_eq_true.mpr fun y hy => by
    obtain ⟨a, ha⟩ := kv.names y hy
    have z := List.all_eq_true.mp hloc _ ha
    dsimp only at z
    split at z
    · rename_i q; rw [q]; rfl
    · rename_i q; rw [q]; rfl
    · cases z
  refine code_defC B F G.X N T hA rfl rfl ho hcd (Nat.lt_of_lt_of_le (Nat.lt_of_succ_le hd) (Nat.le_trans hk' (Nat.le_of_ble_eq_true rfl))) bt hl' hnd (fun g L' h₁ tk cells FG F' N' Y' B' X' T' l1 => ?_) hco hgen hk
  have G' : Good (C.subC A g L' nopR qual scope f cdv) k' := ⟨hd, hu, ⟨A, B'⟩, X', ⟨mean, mg, mb, T'⟩⟩
  have c0 := cells_nd scope.names (L' + 1) (L' + 1) [] (Nat.le_refl _) (fun p hp => nomatch hp) List.nodup_nil
  have hnod : ((cellsLG (cmOf (C.subC A g L' nopR qual scope f cdv).env.kindOf ((params.args.map (·.arg)).zip as) []) (cellsFrom (L' + 1) scope.names []) ++ l).map (·.1)).Nodup := by
    rw [List.map_append, List.nodup_append]
    refine ⟨by rw [cellsLG, List.map_map]; exact c0.1, nd, fun x hx y hy e => ?_⟩
    rw [cellsLG, List.map_map] at hx
    obtain ⟨p, hp, rfl⟩ := List.mem_map.mp hx
    rw [← dn.adr] at hy
    obtain ⟨q, hq, rfl⟩ := List.mem_map.mp hy
    have h1 := c0.2 p hp
    have h2 := l1 q hq
    have e' : p.2 = q.1 := e
    rw [e'] at h1
    exact Nat.lt_irrefl _ (Nat.lt_of_lt_of_le (Nat.lt_succ_of_lt h2) h1)
  have z := (hb g L' G').run { s with heap := h₁, toks := tk } ⟨_, ⟨F', (by rw [hE' g L']; exact (fmOf_ok kv (m := fun _ => none) (acc := []) (fun _ => rfl)).ok)⟩, den_en (Den.app (cells_den (by rw [hE' g L']; exact cmOf_ok kv (m := fun _ => none) (acc := []) (fun _ => rfl)) Y') dn) N', hnod⟩
  rw [hE g L', hE' g L'] at z
  refine wpAny_mono z (fun fl s' ⟨af, fm', l', p, df, ⟨m', ⟨F₂, _⟩, en', nd'⟩, e'⟩ => ?_) fun _ _ x => no_er rfl x
  obtain ⟨n', dn', N₂⟩ := den_ex en'
  refine ⟨L', m', n', F₂, N₂, fun F₃ N₃ => ?_⟩
  have H₃ : C.K m fm l' s' := ⟨⟨F₃, fh⟩, den_en dn' N₃, nd'⟩
  have e'' : Same s s' := (hp_same s h₁ _).trans e'
  cases af with
  | ret v => obtain ⟨u, rfl, du⟩ := df; exact ⟨v, l', p, du, H₃, e''⟩
  | next => cases df; exact ⟨.none, l', p, rfl, H₃, e''⟩
  | brk => cases df; exact ⟨.none, l', p, rfl, H₃, e''⟩
  | cont => cases df; exact ⟨.none, l', p, rfl, H₃, e''⟩
end
section
open PyProof.Rows.LCg (NsObj lst Off3 CompEnd CompRest SrcAt FinE FinA CompSrc)
variable {w : World} {h₀ h : Heap} {L : Addr} {m : Str → Option Value} {fm : FM} {l l' : LG} {C : Cx} {env : Env} {k k' : Nat} {A : Around}
/-- behind a turn: the iterator, the block's names and the list stand as they stood -/
inductive CeP (X : AV → LG → Prop) (I : Addr) (oI : Obj) (Cn : Addr) (ns : AO) (D : Addr) (oD : Obj) : AV → LG → Prop
  | mk {y : AV} {l l1 l2 l3 : LG} : Take l I (.obj oI) l1 → Take l1 Cn ns l2 → Take l2 D (.obj oD) l3 → X y l3 → CeP X I oI Cn ns D oD y l
theorem ev_ns {scope : Scope} {cl : List (Str × Addr)} {Cn : Addr} {oC : Obj} {x : Str} {a : AV} {p : Pos} {P : AV → LG → Prop} (g : Get l Cn (.ns oC x a)) (h : P a l)
    (hk : (compEnvC scope cl Cn env).scope.kind = .function := by rfl) (hl : (compEnvC scope cl Cn env).kindOf x = some .local := by rfl) (hd : (x == ("__debug__" : Str)) = false := by decide) : Ev C (compEnvC scope cl Cn env) fm l (.Name x p) P := .mk fun m s hs => by
  obtain ⟨o, ⟨rfl, m₂, v, hC, hx, d⟩, e⟩ := hs.en _ g.mem
  exact PySem.W.LCgL.ld_own (h₀ := C.h₀) (L := C.L) (news := [(Cn, o)]) (fun p hp => by rw [List.mem_singleton.mp hp]; exact e) (.head _) hC hx ⟨a, l, h, d, hs, .refl s⟩ hk hl hd
/-- the turns of a list comprehension, its test (if any) with it -/
def Co (C : Cx) (fm : FM) (env : Env) (ct : Option PySem.Expr) (elt : PySem.Expr) (x : Str) (scope : Scope) (cl : List (Str × Addr)) (src : LG → Prop) (Fin : List AV → LG → Prop) : List AV → List AV → LG → Prop
  | [], ys, l => Fin ys l
  | a :: r, ys, l => ∀ I oI Cn oC D oD, match ct with
    | none => Ev C (compEnvC scope cl Cn env) fm ((I, .obj oI) :: (Cn, .ns oC x a) :: (D, .obj oD) :: l) elt (CeP (fun y l' => src l' ∧ Co C fm env ct elt x scope cl src Fin r (ys ++ [y]) l') I oI Cn (.ns oC x a) D oD)
    | some t => Tr C (compEnvC scope cl Cn env) fm ((I, .obj oI) :: (Cn, .ns oC x a) :: (D, .obj oD) :: l) t fun b l₁ => IfP
        (Ev C (compEnvC scope cl Cn env) fm l₁ elt (CeP (fun y l' => src l' ∧ Co C fm env ct elt x scope cl src Fin r (ys ++ [y]) l') I oI Cn (.ns oC x a) D oD))
        (CeP (fun _ l' => src l' ∧ Co C fm env ct elt x scope cl src Fin r ys l') I oI Cn (.ns oC x a) D oD .none l₁) b
theorem Co.nil {ct : Option PySem.Expr} {elt : PySem.Expr} {x : Str} {scope : Scope} {cl : List (Str × Addr)} {src : LG → Prop} {Fin : List AV → LG → Prop} {ys : List AV} (h : Fin ys l) : Co C fm env ct elt x scope cl src Fin [] ys l := h
theorem Co.one {elt : PySem.Expr} {x : Str} {scope : Scope} {cl : List (Str × Addr)} {src : LG → Prop} {Fin : List AV → LG → Prop} {a : AV} {r ys : List AV}
    (h : ∀ I oI Cn oC D oD, Ev C (compEnvC scope cl Cn env) fm ((I, .obj oI) :: (Cn, .ns oC x a) :: (D, .obj oD) :: l) elt (CeP (fun y l' => src l' ∧ Co C fm env none elt x scope cl src Fin r (ys ++ [y]) l') I oI Cn (.ns oC x a) D oD)) : Co C fm env none elt x scope cl src Fin (a :: r) ys l := h
theorem Co.test {t elt : PySem.Expr} {x : Str} {scope : Scope} {cl : List (Str × Addr)} {src : LG → Prop} {Fin : List AV → LG → Prop} {a : AV} {r ys : List AV}
    (h : ∀ I oI Cn oC D oD, Tr C (compEnvC scope cl Cn env) fm ((I, .obj oI) :: (Cn, .ns oC x a) :: (D, .obj oD) :: l) t fun b l₁ => IfP
        (Ev C (compEnvC scope cl Cn env) fm l₁ elt (CeP (fun y l' => src l' ∧ Co C fm env (some t) elt x scope cl src Fin r (ys ++ [y]) l') I oI Cn (.ns oC x a) D oD))
        (CeP (fun _ l' => src l' ∧ Co C fm env (some t) elt x scope cl src Fin r ys l') I oI Cn (.ns oC x a) D oD .none l₁) b) : Co C fm env (some t) elt x scope cl src Fin (a :: r) ys l := h
theorem off3_of {I Cn D : Addr} {n : List (Addr × Obj)} (h : (I :: Cn :: D :: n.map (·.1)).Nodup) : Off3 I Cn D n := by
  refine Off3.of fun p hp => ?_
  have hm : p.1 ∈ n.map (·.1) := List.mem_map_of_mem hp
  rw [List.nodup_cons, List.nodup_cons, List.nodup_cons] at h
  exact ⟨fun e => h.1 (.tail _ (.tail _ (e ▸ hm))), fun e => h.2.1 (.tail _ (e ▸ hm)), fun e => h.2.2.1 (e ▸ hm)⟩
theorem ce_end {I Cn D : Addr} {oI oC oD : Obj} {x : Str} {a : AV} {s₁ : Shared} {X : AV → LG → Prop} {S : List (Addr × Obj) → Prop} {rest : Value → List (Addr × Obj) → Prop} {y : AV} {v : Value} {l₁ : LG} {s₂ : Shared}
    (hc : CeP X I oI Cn (.ns oC x a) D oD y l₁) (H : C.K m fm l₁ s₂) (e : Same s₁ s₂) (q : ∀ l' n, X y l' → Den C.w l' n → (l'.map (·.1)).Nodup → S n ∧ rest v n) :
    CompEnd C.h₀ C.L m s₁ I oI Cn oC D oD S rest v s₂ := by
  obtain ⟨t1, t2, t3, hx⟩ := hc
  have p : ((I, AO.obj oI) :: (Cn, AO.ns oC x a) :: (D, AO.obj oD) :: _).Perm l₁ := ((t3.perm.cons _).trans t2.perm |>.cons _).trans t1.perm
  have H' := Holds.perm H p
  obtain ⟨⟨hm, _⟩, en, nd⟩ := H'
  obtain ⟨n, d, N⟩ := den_ex en
  cases d with
  | cons d1 d => cases d with
    | cons d2 d => cases d with
      | @cons _ _ _ _ n' d3 d =>
      cases d1
      obtain ⟨rfl, _⟩ := d2
      cases d3
      obtain ⟨g1, g2, g3⟩ := e
      have nd' : (I :: Cn :: D :: n'.map (·.1)).Nodup := by rw [d.adr]; exact nd
      have nd3 : (n'.map (·.1)).Nodup := by
        rw [List.nodup_cons, List.nodup_cons, List.nodup_cons] at nd'
        exact nd'.2.2.2
      obtain ⟨hS, hr⟩ := q _ n' hx d (d.adr ▸ nd3)
      refine ⟨s₂.heap, s₂.toks, n', ?_, hm, N, off3_of nd', hS, hr⟩
      obtain ⟨a1, a2, a3, a4, a5⟩ := s₂
      cases g1; cases g2; cases g3
      rfl
theorem co_start {I Cn D : Addr} {oI oC : Obj} {ys : List Value} {x : Str} {a : AV} {v : Value} {m₂ : Str → Option Value} {n : List (Addr × Obj)} {s : Shared} (da : a.den v) (hC : NsObj oC m₂) (hx : m₂ x = some v) (F : Fr C.h₀ C.L s.heap m) (fh : FmOk fm m) (dn : Den C.w l n) (nd : (l.map (·.1)).Nodup)
    (N : News C.h₀ C.L s.heap ((I, oI) :: (Cn, oC) :: (D, lst ys) :: n)) (off : Off3 I Cn D n) (ne : (I ≠ Cn) ∧ (I ≠ D) ∧ (Cn ≠ D)) : C.K m fm ((I, .obj oI) :: (Cn, .ns oC x a) :: (D, .obj (lst ys)) :: l) s := by
  refine ⟨⟨F, fh⟩, den_en (n := (I, oI) :: (Cn, oC) :: (D, lst ys) :: n) (.cons rfl (.cons ⟨rfl, m₂, v, hC, hx, da⟩ (.cons rfl dn))) N, ?_⟩
  rw [List.map_cons, List.map_cons, List.map_cons, List.nodup_cons, List.nodup_cons, List.nodup_cons, ← dn.adr]
  have o := off.mem
  have nin : ∀ z : Addr, (∀ p ∈ n, p.1 ≠ z) → z ∉ n.map (·.1) := fun z q hm => by
    obtain ⟨p, hp, e⟩ := List.mem_map.mp hm
    exact q p hp e
  refine ⟨fun hm => ?_, fun hm => ?_, nin _ fun p hp => (o p hp).2.2, dn.adr ▸ nd⟩
  · rcases List.mem_cons.mp hm with q | q
    · exact ne.1 q
    · rcases List.mem_cons.mp q with q | q
      · exact ne.2.1 q
      · exact nin _ (fun p hp => (o p hp).1) q
  · rcases List.mem_cons.mp hm with q | q
    · exact ne.2.2 q
    · exact nin _ (fun p hp => (o p hp).2.1) q
theorem rest_U {elt : PySem.Expr} {x : Str} {scope : Scope} {cl : List (Str × Addr)} {src : LG → Prop} {Fin : List AV → LG → Prop} {s : Shared} {S : List (Addr × Obj) → Prop} {Pv : Nat → Value → Prop} {FinC : List Value → List (Addr × Obj) → Prop} {items : List AV} (hR : C.R = nopR)
    (fh : FmOk fm m) (hP : ∀ i v a, Pv i v → items[i]? = some a → a.den v) (hS : ∀ l n, src l → Den C.w l n → S n) (hF : ∀ ys' ys l n, Fin ys' l → AVs ys' ys → Den C.w l n → (l.map (·.1)).Nodup → FinC ys n) :
    ∀ (r : List AV) (i : Nat) {ys' : List AV} {ys : List Value} {l : LG} {n : List (Addr × Obj)}, items.drop i = r → Co C fm env none elt x scope cl src Fin r ys' l → AVs ys' ys → Den C.w l n → (l.map (·.1)).Nodup → CompRest Pg C.w C.A C.h₀ C.L m env elt x scope cl s S Pv FinC r.length i ys n
  | [], i, ys', ys, l, n, _, h, d, dn, nd => CompRest.zero (hF ys' ys l n h d dn nd)
  | a :: r, i, ys', ys, l, n, e, h, d, dn, nd => CompRest.succ fun v I oI Cn oC D m₂ hp tk E' pv hC hx F N off ne => by
    have ea : items[i]? = some a := by
      have : (items.drop i)[0]? = some a := by rw [e]; rfl
      rwa [List.getElem?_drop, Nat.add_zero] at this
    have er : items.drop (i + 1) = r := by rw [← List.drop_drop, e]; rfl
    have H := co_start (s := { s with heap := hp, toks := tk }) (hP i v a pv ea) hC hx F fh dn nd N off ne
    refine wpAny_mono ((h I oI Cn oC D (lst ys)).run m _ H) (fun u s₂ ⟨y, l₁, c, du, H₂, e₂⟩ => ?_) fun _ _ x => no_er hR x
    exact ce_end c H₂ e₂ fun l' n' q dn' nd' => ⟨hS l' n' q.1 dn', rest_U hR fh hP hS hF r (i + 1) er q.2 (d.snoc du) dn' nd'⟩
end
section
open PyProof.Rows.LCg (NsObj lst Off3 CompEnd CompRest SrcAt FinE FinA CompSrc)
open PyProof.Rows.LCt (CompRestT CompSrcT)
variable {w : World} {h₀ h : Heap} {L : Addr} {m : Str → Option Value} {fm : FM} {l l' : LG} {C : Cx} {env : Env} {k k' : Nat} {A : Around}
theorem rest_T {ct elt : PySem.Expr} {x : Str} {scope : Scope} {cl : List (Str × Addr)} {src : LG → Prop} {Fin : List AV → LG → Prop} {s : Shared} {S : List (Addr × Obj) → Prop} {Pv : Nat → Value → Prop} {FinC : List Value → List (Addr × Obj) → Prop} {items : List AV} (hR : C.R = nopR)
    (fh : FmOk fm m) (hP : ∀ i v a, Pv i v → items[i]? = some a → a.den v) (hS : ∀ l n, src l → Den C.w l n → S n) (hF : ∀ ys' ys l n, Fin ys' l → AVs ys' ys → Den C.w l n → (l.map (·.1)).Nodup → FinC ys n) :
    ∀ (r : List AV) (i : Nat) {ys' : List AV} {ys : List Value} {l : LG} {n : List (Addr × Obj)}, items.drop i = r → Co C fm env (some ct) elt x scope cl src Fin r ys' l → AVs ys' ys → Den C.w l n → (l.map (·.1)).Nodup → CompRestT Pg C.w C.A C.h₀ C.L m env ct elt x scope cl s S Pv FinC r.length i ys n
  | [], i, ys', ys, l, n, _, h, d, dn, nd => LCt.CompRestT.zero (hF ys' ys l n h d dn nd)
  | a :: r, i, ys', ys, l, n, e, h, d, dn, nd => LCt.CompRestT.succ fun v I oI Cn oC D m₂ hp tk E' pv hC hx F N off ne => by
    have ea : items[i]? = some a := by
      have : (items.drop i)[0]? = some a := by rw [e]; rfl
      rwa [List.getElem?_drop, Nat.add_zero] at this
    have er : items.drop (i + 1) = r := by rw [← List.drop_drop, e]; rfl
    have H := co_start (s := { s with heap := hp, toks := tk }) (hP i v a pv ea) hC hx F fh dn nd N off ne
    refine wpAny_mono ((h I oI Cn oC D (lst ys)).run m _ H) (fun b s₂ ⟨l₁, q, H₂, e₂⟩ => ?_) fun _ _ x => no_er hR x
    cases q with
    | t q =>
      rw [if_pos rfl]
      refine wpAny_mono (q.run m s₂ H₂) (fun u s₃ ⟨y, l₃, c, du, H₃, e₃⟩ => ?_) fun _ _ x => no_er hR x
      exact ce_end c H₃ (e₂.trans e₃) fun l' n' q dn' nd' => ⟨hS l' n' q.1 dn', rest_T hR fh hP hS hF r (i + 1) er q.2 (d.snoc du) dn' nd'⟩
    | f q =>
      rw [if_neg Bool.false_ne_true]
      exact ce_end q H₂ e₂ fun l' n' q dn' nd' => ⟨hS l' n' q.1 dn', rest_T hR fh hP hS hF r (i + 1) er q.2 d dn' nd'⟩
def upto (n : Nat) : List AV := (List.range n).map fun (i : Nat) => AV.int (i : Int)
theorem off1_ne {D : Addr} : ∀ {l : List (Addr × Obj)}, LCg.Off1 D l → ∀ p ∈ l, p.1 ≠ D
  | [], _, _, hp => nomatch hp
  | q :: r, h, p, hp => by
    rcases List.mem_cons.mp hp with rfl | hp
    · exact h.1
    · exact off1_ne h.2 p hp
/-- what a comprehension goes over, and its turns -/
inductive Sc (C : Cx) (fm : FM) (env : Env) (ct : Option PySem.Expr) (elt : PySem.Expr) (x : Str) (scope : Scope) (cl : List (Str × Addr)) (Fin : List AV → LG → Prop) : AV → LG → Prop
  | lst {ax : Addr} {items : List AV} {l : LG} {l₂ : Obj → LG} : (∀ lo, Put l ax (.lst items) (.obj lo) (l₂ lo)) → items.length ≤ 1000 → (∀ lo, Co C fm env ct elt x scope cl (fun l => Get l ax (.obj lo)) (fun ys l => PutF l ax (.obj lo) (.lst items) (Fin ys)) items [] (l₂ lo)) → Sc C fm env ct elt x scope cl Fin (.ref ax) l
  | rl {ax : Addr} {items : List AV} {l : LG} {lo : Obj} : Get l ax (.rl lo items) → items.length ≤ 1000 → Co C fm env ct elt x scope cl (fun l => Get l ax (.rl lo items)) Fin items [] l → Sc C fm env ct elt x scope cl Fin (.ref ax) l
  | rng {r : Addr} {n : Nat} {l : LG} : Get l r (.rng n) → n ≤ 1000 → Co C fm env ct elt x scope cl (fun _ => True) Fin (upto n) [] l → Sc C fm env ct elt x scope cl Fin (.ref r) l
theorem src_of {ax : Addr} {lo : Obj} {vs : List Value} {k : Nat} (e : lo = W.listOf vs.toArray k) (l : LG) (n : List (Addr × Obj)) (g : Get l ax (.obj lo)) (d : Den C.w l n) : SrcAt C.h₀ ax vs.toArray n := by
  obtain ⟨o, hm, ho⟩ := d.get g
  cases ho
  subst e
  exact .inr ⟨_, hm, rfl, _, rfl⟩
theorem fin_off {D : Addr} {n : List (Addr × Obj)} {h : Heap} {ys : List Value} {as : List AV} (F : Fr C.h₀ C.L h m) (fh : FmOk fm m) (dn : Den C.w l n) (nd : (l.map (·.1)).Nodup) (N : News C.h₀ C.L h ((D, lst ys) :: n)) (o : LCg.Off1 D n) (d : AVs as ys) : Holds C.w C.h₀ C.L m fm ((D, .lst as) :: l) h := by
  refine ⟨⟨F, fh⟩, den_en (n := (D, lst ys) :: n) (.cons ⟨ys, ys.length, rfl, d⟩ dn) N, ?_⟩
  rw [List.map_cons, List.nodup_cons, ← dn.adr]
  refine ⟨fun hm => ?_, dn.adr ▸ nd⟩
  obtain ⟨p, hp, e⟩ := List.mem_map.mp hm
  exact off1_ne o p hp e
theorem rng_den {n i : Nat} {v : Value} {a : AV} (e : (upto n)[i]? = some a) (hv : ∃ t, v = .int ((0 : Int) + (i : Int)) t) : a.den v := by
  obtain ⟨t, rfl⟩ := hv
  unfold upto at e
  rw [List.getElem?_map] at e
  obtain ⟨j, hj, rfl⟩ := Option.map_eq_some_iff.mp e
  have hi : i < n := by
    rcases Nat.lt_or_ge i n with q | q
    · exact q
    · rw [List.getElem?_eq_none (by rw [List.length_range]; exact q)] at hj; cases hj
  rw [List.getElem?_range hi] at hj
  cases hj
  exact ⟨t, by rw [Int.zero_add]⟩
theorem upto_len (n : Nat) : (upto n).length = n := by unfold upto; rw [List.length_map, List.length_range]
theorem range_small {n : Nat} (h : n ≤ 1000) : Builtin.Range.small 0 (n : Int) 1 = true ∧ Builtin.Range.rangeSize 0 (n : Int) 1 = (n : Int) :=
  ⟨small_one (by omega) (by omega) (by omega) (by omega), by rw [rangeSize_nat]; omega⟩
theorem src_U {elt : PySem.Expr} {x : Str} {scope : Scope} {cl : List (Str × Addr)} {s₁ : Shared} {a : AV} {v : Value} {Fin : List AV → LG → Prop} {FinC : Shared → List Value → List (Addr × Obj) → Prop} (hR : C.R = nopR) (d : a.den v) (q : Sc C fm env none elt x scope cl Fin a l) (H₁ : C.K m fm l s₁)
    (hF : ∀ g ys' ys l n, Fin ys' l → AVs ys' ys → Den C.w l n → (l.map (·.1)).Nodup → FinC { s₁ with heap := g } ys n) : CompSrc Pg C.w C.A C.h₀ C.L m env elt x scope cl FinC v s₁ := by
  cases q with
  | @lst ax items _ l₂ u z q =>
    cases d
    obtain ⟨n, F, dn, N, nn, back⟩ := H₁.out
    obtain ⟨lo, hm, dl, _⟩ := (u (W.listOf #[] 0)).obj dn
    obtain ⟨lo', hm', dl', zz⟩ := (u lo).obj dn
    have same : lo' = lo := by have := (N _ hm').1; rw [(N _ hm).1] at this; exact (Option.some.inj this).symm
    have dn₂ := zz same
    obtain ⟨vs, k', e, da⟩ := id dl
    have hl := da.len
    refine .inl ⟨ax, vs.toArray, n, rfl, rfl, F, N, src_of (C := C) e _ _ (u lo).get' dn₂, by rw [List.size_toArray, hl]; exact Nat.le_trans z (by rw [sizeLine_eq]; exact Nat.le_of_ble_eq_true rfl), fun s₂ hs₂ => ?_⟩
    obtain ⟨g, rfl⟩ := hs₂
    rw [List.size_toArray, hl]
    exact rest_U (items := items) hR H₁.fr.2 (fun i v a hv ha => by
        obtain ⟨v', hv', dv⟩ := da.at ha
        rw [List.getElem?_toArray, hv'] at hv
        exact Option.some.inj hv ▸ dv) (fun l n g d => src_of (C := C) e l n g d) (fun ys' ys l n ⟨p, f⟩ dy dn nd => by
          obtain ⟨o, _, eo, back⟩ := p.obj dn
          cases eo
          exact hF g ys' ys _ n f dy (back dl) (p.adr ▸ nd)) items 0 rfl (q lo) .nil dn₂ ((u lo).adr ▸ H₁.nd)
  | @rl ax items _ lo g z q =>
    cases d
    obtain ⟨n, F, dn, N, nn, back⟩ := H₁.out
    obtain ⟨o, hm, rfl, vs, k', e, da⟩ := dn.get g
    have hl := da.len
    have sr : ∀ (l : LG) (n : List (Addr × Obj)), Get l ax (.rl o items) → Den C.w l n → SrcAt C.h₀ ax vs.toArray n := fun l n g d => by
      obtain ⟨o', hm, e', _⟩ := d.get g
      rw [e', e] at hm
      exact .inr ⟨_, hm, rfl, _, rfl⟩
    refine .inl ⟨ax, vs.toArray, n, rfl, rfl, F, N, sr _ _ g dn, by rw [List.size_toArray, hl]; exact Nat.le_trans z (by rw [sizeLine_eq]; exact Nat.le_of_ble_eq_true rfl), fun s₂ hs₂ => ?_⟩
    obtain ⟨g, rfl⟩ := hs₂
    rw [List.size_toArray, hl]
    exact rest_U (items := items) hR H₁.fr.2 (fun i v a hv ha => by
        obtain ⟨v', hv', dv⟩ := da.at ha
        rw [List.getElem?_toArray, hv'] at hv
        exact Option.some.inj hv ▸ dv) sr (fun ys' ys l n f dy dn nd => hF g ys' ys _ n f dy dn nd) items 0 rfl q .nil dn H₁.nd
  | @rng r n' _ g z q =>
    cases d
    obtain ⟨n, F, dn, N, nn, back⟩ := H₁.out
    obtain ⟨o, ⟨t, u, v, e⟩, ho, _⟩ := H₁.en _ g.mem
    subst e
    refine .inr ⟨r, 0, n', t, u, v, n', n, rfl, rfl, F, N, ho, (range_small z).1, (range_small z).2, Nat.le_trans z (by rw [sizeLine_eq]; exact Nat.le_of_ble_eq_true rfl), fun s₂ hs₂ => ?_⟩
    obtain ⟨g, rfl⟩ := hs₂
    have w := rest_U (items := upto n') (src := fun _ => True) (S := fun _ => True) (s := { s₁ with heap := g }) hR H₁.fr.2 (fun i v a hv ha => rng_den ha hv) (fun _ _ _ _ => trivial) (FinC := FinC { s₁ with heap := g }) (fun ys' ys l n f dy dn nd => hF g ys' ys l n f dy dn nd) (upto n') 0 rfl q .nil dn H₁.nd
    rw [upto_len] at w
    exact w
theorem src_T {ct elt : PySem.Expr} {x : Str} {scope : Scope} {cl : List (Str × Addr)} {s₁ : Shared} {a : AV} {v : Value} {Fin : List AV → LG → Prop} {FinC : Shared → List Value → List (Addr × Obj) → Prop} (hR : C.R = nopR) (d : a.den v) (q : Sc C fm env (some ct) elt x scope cl Fin a l) (H₁ : C.K m fm l s₁)
    (hF : ∀ g ys' ys l n, Fin ys' l → AVs ys' ys → Den C.w l n → (l.map (·.1)).Nodup → FinC { s₁ with heap := g } ys n) : CompSrcT Pg C.w C.A C.h₀ C.L m env ct elt x scope cl FinC v s₁ := by
  cases q with
  | @lst ax items _ l₂ u z q =>
    cases d
    obtain ⟨n, F, dn, N, nn, back⟩ := H₁.out
    obtain ⟨lo, hm, dl, _⟩ := (u (W.listOf #[] 0)).obj dn
    obtain ⟨lo', hm', dl', zz⟩ := (u lo).obj dn
    have same : lo' = lo := by have := (N _ hm').1; rw [(N _ hm).1] at this; exact (Option.some.inj this).symm
    have dn₂ := zz same
    obtain ⟨vs, k', e, da⟩ := id dl
    have hl := da.len
    refine .inl ⟨ax, vs.toArray, n, rfl, rfl, F, N, src_of (C := C) e _ _ (u lo).get' dn₂, by rw [List.size_toArray, hl]; exact Nat.le_trans z (by rw [sizeLine_eq]; exact Nat.le_of_ble_eq_true rfl), fun s₂ hs₂ => ?_⟩
    obtain ⟨g, rfl⟩ := hs₂
    rw [List.size_toArray, hl]
    exact rest_T (items := items) hR H₁.fr.2 (fun i v a hv ha => by
        obtain ⟨v', hv', dv⟩ := da.at ha
        rw [List.getElem?_toArray, hv'] at hv
        exact Option.some.inj hv ▸ dv) (fun l n g d => src_of (C := C) e l n g d) (fun ys' ys l n ⟨p, f⟩ dy dn nd => by
          obtain ⟨o, _, eo, back⟩ := p.obj dn
          cases eo
          exact hF g ys' ys _ n f dy (back dl) (p.adr ▸ nd)) items 0 rfl (q lo) .nil dn₂ ((u lo).adr ▸ H₁.nd)
  | @rl ax items _ lo g z q =>
    cases d
    obtain ⟨n, F, dn, N, nn, back⟩ := H₁.out
    obtain ⟨o, hm, rfl, vs, k', e, da⟩ := dn.get g
    have hl := da.len
    have sr : ∀ (l : LG) (n : List (Addr × Obj)), Get l ax (.rl o items) → Den C.w l n → SrcAt C.h₀ ax vs.toArray n := fun l n g d => by
      obtain ⟨o', hm, e', _⟩ := d.get g
      rw [e', e] at hm
      exact .inr ⟨_, hm, rfl, _, rfl⟩
    refine .inl ⟨ax, vs.toArray, n, rfl, rfl, F, N, sr _ _ g dn, by rw [List.size_toArray, hl]; exact Nat.le_trans z (by rw [sizeLine_eq]; exact Nat.le_of_ble_eq_true rfl), fun s₂ hs₂ => ?_⟩
    obtain ⟨g, rfl⟩ := hs₂
    rw [List.size_toArray, hl]
    exact rest_T (items := items) hR H₁.fr.2 (fun i v a hv ha => by
        obtain ⟨v', hv', dv⟩ := da.at ha
        rw [List.getElem?_toArray, hv'] at hv
        exact Option.some.inj hv ▸ dv) sr (fun ys' ys l n f dy dn nd => hF g ys' ys _ n f dy dn nd) items 0 rfl q .nil dn H₁.nd
  | @rng r n' _ g z q =>
    cases d
    obtain ⟨n, F, dn, N, nn, back⟩ := H₁.out
    obtain ⟨o, ⟨t, u, v, e⟩, ho, _⟩ := H₁.en _ g.mem
    subst e
    refine .inr ⟨r, 0, n', t, u, v, n', n, rfl, rfl, F, N, ho, (range_small z).1, (range_small z).2, Nat.le_trans z (by rw [sizeLine_eq]; exact Nat.le_of_ble_eq_true rfl), fun s₂ hs₂ => ?_⟩
    obtain ⟨g, rfl⟩ := hs₂
    have w := rest_T (items := upto n') (src := fun _ => True) (S := fun _ => True) (s := { s₁ with heap := g }) hR H₁.fr.2 (fun i v a hv ha => rng_den ha hv) (fun _ _ _ _ => trivial) (FinC := FinC { s₁ with heap := g }) (fun ys' ys l n f dy dn nd => hF g ys' ys l n f dy dn nd) (upto n') 0 rfl q .nil dn H₁.nd
    rw [upto_len] at w
    exact w
theorem Ev_lcU {elt iter : PySem.Expr} {x : Str} {px : Pos} {scope : Scope} {cl : List (Str × Addr)} {pos : Pos} {P : AV → LG → Prop} (hR : C.R = nopR) (h : Ev C env fm l iter (Sc C fm env none elt x scope cl fun ys l => ∀ D, P (.ref D) ((D, .lst ys) :: l)))
    (hclos : closureFor scope env = pure cl := by with_unfolding_all rfl) (hcell : ∀ y ∈ scope.names, y.2 ≠ .cell := by decide) (hkind : scope.kind = .function := by rfl)
    (hnames : ∀ y ∈ scope.names, y.2 = .local → scope.names.lookup y.1 = some .local := by decide) (hx : scope.names.lookup x = some .local := by rfl) (hs' : ∀ x, foldedSetIterable iter env x = pure x := by intro _; rfl) :
    Ev C env fm l (.ListComp elt [⟨.Name x px, iter, [], 0⟩] scope pos) P := .mk fun m s hs =>
  LCg.ListComp_U (h₀ := C.h₀) (L := C.L) (m := m) hs.fr.1 hclos hcell hkind hnames hx (h.go hs fun a l₁ v s₁ q d H₁ e₁ => src_U hR d q H₁ fun g ys' ys l n f dy dn nd D h' tk F' N' o => ⟨.ref D, _, f D, rfl, fin_off F' H₁.fr.2 dn nd N' o dy, e₁.trans (hp_same s₁ h' tk)⟩) hs'
theorem Ex_lcU {elt iter : PySem.Expr} {x y : Str} {px py : Pos} {scope : Scope} {cl : List (Str × Addr)} {pos p : Pos} {r : List Stmt} {P : AF → FM → LG → Prop} (hR : C.R = nopR) (h : Ev C env fm l iter (Sc C fm env none elt x scope cl fun ys l => ∀ D, Ex C env ((y, .ref D) :: fm) ((D, .lst ys) :: l) r P))
    (hL : env.locals = C.L := by rfl) (hsw : swapsWith (.ListComp elt [⟨.Name x px, iter, [], 0⟩] scope pos) (some (.Name y py)) p.line env = pure true := by rfl) (hy : env.kindOf y = some .local := by rfl) (hp : (env.scope.kind == .class || (env.scope.kind == .module && env.locals != env.globals)) = false := by rfl)
    (hclos : closureFor scope env = pure cl := by with_unfolding_all rfl) (hcell : ∀ y ∈ scope.names, y.2 ≠ .cell := by decide) (hkind : scope.kind = .function := by rfl)
    (hnames : ∀ y ∈ scope.names, y.2 = .local → scope.names.lookup y.1 = some .local := by decide) (hx : scope.names.lookup x = some .local := by rfl) (hs' : ∀ x, foldedSetIterable iter env x = pure x := by intro _; rfl) :
    Ex C env fm l (.Assign [.Name y py] (.ListComp elt [⟨.Name x px, iter, [], 0⟩] scope pos) p :: r) P := .mk fun s ⟨m, hs⟩ =>
  wpAny_execs_cons (LCg.Assign_ListComp_U (h₀ := C.h₀) (L := C.L) (m := m) hs.fr.1 hL hsw hclos hcell hkind hnames hx hy hp (h.go hs fun a l₁ v s₁ q d H₁ e₁ => src_U hR d q H₁ fun g ys' ys l n f dy dn nd D h' tk F' N' o =>
    Ex.on (f D) ⟨_, fin_off F' (fr_set (h := h') (h' := h') H₁.fr.2 rfl) dn nd N' o dy⟩ (e₁.trans (hp_same s₁ h' tk))) hs')
theorem Ev_lcT {ct elt iter : PySem.Expr} {x : Str} {px : Pos} {scope : Scope} {cl : List (Str × Addr)} {pos : Pos} {P : AV → LG → Prop} (hR : C.R = nopR) (h : Ev C env fm l iter (Sc C fm env (some ct) elt x scope cl fun ys l => ∀ D, P (.ref D) ((D, .lst ys) :: l)))
    (hclos : closureFor scope env = pure cl := by with_unfolding_all rfl) (hcell : ∀ y ∈ scope.names, y.2 ≠ .cell := by decide) (hkind : scope.kind = .function := by rfl)
    (hnames : ∀ y ∈ scope.names, y.2 = .local → scope.names.lookup y.1 = some .local := by decide) (hx : scope.names.lookup x = some .local := by rfl) (hs' : ∀ x, foldedSetIterable iter env x = pure x := by intro _; rfl) :
    Ev C env fm l (.ListComp elt [⟨.Name x px, iter, [ct], 0⟩] scope pos) P := .mk fun m s hs =>
  LCt.ListComp_T (h₀ := C.h₀) (L := C.L) (m := m) hs.fr.1 hclos hcell hkind hnames hx (h.go hs fun a l₁ v s₁ q d H₁ e₁ => src_T hR d q H₁ fun g ys' ys l n f dy dn nd D h' tk F' N' o => ⟨.ref D, _, f D, rfl, fin_off F' H₁.fr.2 dn nd N' o dy, e₁.trans (hp_same s₁ h' tk)⟩) hs'
theorem Ex_lcT {ct elt iter : PySem.Expr} {x y : Str} {px py : Pos} {scope : Scope} {cl : List (Str × Addr)} {pos p : Pos} {r : List Stmt} {P : AF → FM → LG → Prop} (hR : C.R = nopR) (h : Ev C env fm l iter (Sc C fm env (some ct) elt x scope cl fun ys l => ∀ D, Ex C env ((y, .ref D) :: fm) ((D, .lst ys) :: l) r P))
    (hL : env.locals = C.L := by rfl) (hsw : swapsWith (.ListComp elt [⟨.Name x px, iter, [ct], 0⟩] scope pos) (some (.Name y py)) p.line env = pure true := by rfl) (hy : env.kindOf y = some .local := by rfl) (hp : (env.scope.kind == .class || (env.scope.kind == .module && env.locals != env.globals)) = false := by rfl)
    (hclos : closureFor scope env = pure cl := by with_unfolding_all rfl) (hcell : ∀ y ∈ scope.names, y.2 ≠ .cell := by decide) (hkind : scope.kind = .function := by rfl)
    (hnames : ∀ y ∈ scope.names, y.2 = .local → scope.names.lookup y.1 = some .local := by decide) (hx : scope.names.lookup x = some .local := by rfl) (hs' : ∀ x, foldedSetIterable iter env x = pure x := by intro _; rfl) :
    Ex C env fm l (.Assign [.Name y py] (.ListComp elt [⟨.Name x px, iter, [ct], 0⟩] scope pos) p :: r) P := .mk fun s ⟨m, hs⟩ =>
  wpAny_execs_cons (LCt.Assign_ListComp_T (h₀ := C.h₀) (L := C.L) (m := m) hs.fr.1 hL hsw hclos hcell hkind hnames hx hy hp (h.go hs fun a l₁ v s₁ q d H₁ e₁ => src_T hR d q H₁ fun g ys' ys l n f dy dn nd D h' tk F' N' o =>
    Ex.on (f D) ⟨_, fin_off F' (fr_set (h := h') (h' := h') H₁.fr.2 rfl) dn nd N' o dy⟩ (e₁.trans (hp_same s₁ h' tk))) hs')
end
section
variable {w : World} {h₀ h : Heap} {L : Addr} {m : Str → Option Value} {fm : FM} {l l' : LG} {C : Cx} {env : Env} {k k' : Nat}
/-- at the end: entries may be told otherwise, or dropped -/
inductive Drp (P : AV → LG → Prop) (v : AV) : LG → Prop
  | mk {l l' : LG} : l'.Sublist l → P v l' → Drp P v l
  | re {l l' : LG} {a : Addr} {al al' : List (Str × AV)} : Put l a (.attrs al) (.attrs al') l' → al = al' → Drp P v l' → Drp P v l
  | bl {l l' : LG} {a : Addr} {al al' : List (Str × AV)} {n : Nat} : Put l a (.bld al n) (.attrs al') l' → build al = al' → al'.length ≤ 900 → Drp P v l' → Drp P v l
  | th {l l' : LG} {a : Addr} {o : Obj} {al : List AV} : Put l a (.rl o al) (.lst al) l' → Drp P v l' → Drp P v l
theorem Drp.out {P : AV → LG → Prop} {v : AV} (d : Drp P v l) : Holds w h₀ L m fm l h → ∃ l', P v l' ∧ Holds w h₀ L m fm l' h := by
  induction d with
  | mk s p => exact fun H => ⟨_, p, H.sub s⟩
  | re u e _ ih => exact fun H => ih (Holds.conv u (fun _ d => e ▸ d) H)
  | bl u e z _ ih => exact fun H => ih (Holds.conv u (fun _ d => ⟨z, e ▸ d.2⟩) H)
  | th u _ ih => exact fun H => ih (Holds.conv u (fun _ d => by obtain ⟨rfl, d⟩ := d; exact d) H)
theorem Cl_drop {f : Value} {as : List AV} {P : AV → LG → Prop} (h : Cl C fm l f as (Drp P)) : Cl C fm l f as P := .mk fun m s vs hs d =>
  wpAny_mono (h.run m s vs hs d) (fun v s' ⟨a, l', q, dv, H, e⟩ => let ⟨l'', p, H'⟩ := q.out H; ⟨a, l'', p, dv, H', e⟩) fun _ _ x => x
/-- a list is held: its object has a name -/
theorem Holds.frz {a : Addr} {al : List AV} {l₂ : Obj → LG} (u : ∀ o, Put l a (.lst al) (.rl o al) (l₂ o)) (H : Holds w h₀ L m fm l h) : ∃ o, Holds w h₀ L m fm (l₂ o) h := by
  obtain ⟨fr, en, nd⟩ := H
  obtain ⟨n, d, N⟩ := den_ex en
  obtain ⟨o, hm, dx, _⟩ := (u (W.listOf #[] 0)).obj d
  obtain ⟨o', hm', dx', back⟩ := (u o).obj d
  have same : o' = o := by have := (N _ hm').1; rw [(N _ hm).1] at this; exact (Option.some.inj this).symm
  subst same
  exact ⟨o', fr, den_en (back ⟨rfl, dx'⟩) N, (u o').adr ▸ nd⟩
theorem Cl_frz {a : Addr} {al : List AV} {l₂ : Obj → LG} {f : Value} {as : List AV} {P : AV → LG → Prop} (u : ∀ o, Put l a (.lst al) (.rl o al) (l₂ o)) (h : ∀ o, Cl C fm (l₂ o) f as P) : Cl C fm l f as P := .mk fun m s vs hs d => by
  obtain ⟨o, H⟩ := Holds.frz u hs
  exact (h o).run m s vs H d
theorem Ex_frz {a : Addr} {al : List AV} {l₂ : Obj → LG} {ss : List Stmt} {P : AF → FM → LG → Prop} (u : ∀ o, Put l a (.lst al) (.rl o al) (l₂ o)) (h : ∀ o, Ex C env fm (l₂ o) ss P) : Ex C env fm l ss P := .mk fun s ⟨m, hs⟩ => by
  obtain ⟨o, H⟩ := Holds.frz u hs
  exact (h o).run s ⟨m, H⟩
theorem Ex_thaw {a : Addr} {o : Obj} {al : List AV} {ss : List Stmt} {P : AF → FM → LG → Prop} (u : Put l a (.rl o al) (.lst al) l') (h : Ex C env fm l' ss P) : Ex C env fm l ss P :=
  Ex_conv u (fun _ d => by obtain ⟨rfl, d⟩ := d; exact d) h
theorem Ev_cmp {x y : PySem.Expr} {op : CmpOp} {p : Pos} {P : AV → LG → Prop} (h : Ev C env fm l x fun a l₁ => Ev C env fm l₁ y fun b l₂ => Cp C fm l₂ op a b fun c l₃ => P (.bool c) l₃) (hm : behindInMarks op y = false := by with_unfolding_all rfl) : Ev C env fm l (.Compare x [op] [y] p) P := .mk fun m s hs =>
  wpAny_Compare1 (h.go hs fun a l₁ v s₁ q d H₁ e₁ => up e₁ (q.go H₁ fun b l₂ u s₂ q₂ d₂ H₂ e₂ => up (e₁.trans e₂) (wpAny_mono (q₂.run m s₂ v u H₂ d d₂) (fun c s₃ ⟨b, hb, l₃, r, hh, e₃⟩ => by subst hb; exact ⟨.bool b, l₃, r, rfl, hh, (e₁.trans e₂).trans e₃⟩) fun _ _ x => x))) hm
theorem Cl_front {a : Addr} {x : AO} {f : Value} {as : List AV} {P : AV → LG → Prop} (t : Take l a x l') (h : Cl C fm ((a, x) :: l') f as P) : Cl C fm l f as P := Cl_perm t.perm h
theorem Ex_front {a : Addr} {x : AO} {ss : List Stmt} {P : AF → FM → LG → Prop} (t : Take l a x l') (h : Ex C env fm ((a, x) :: l') ss P) : Ex C env fm l ss P := Ex_perm t.perm h
theorem Cl_range {n : Nat} {P : AV → LG → Prop} (h : ∀ x, P (.ref x) ((x, .rng n) :: l)) : Cl C fm l (.type "range") [.int n] P := .mk fun m s vs hs d => by
  cases d with
  | cons d1 d =>
  cases d
  obtain ⟨t, rfl⟩ := d1
  obtain ⟨n', F, dn, N, nn, back⟩ := hs.out
  exact call_range_1 ⟨_, _, h _, rfl, Holds.new (x := .rng n) back dn (F.push _) ⟨_, _, _, rfl⟩ (N.push F _) (allLt_of fun p hp => Heap.lt_size (N p hp).1), hp_same s _ _⟩
end
section
variable {w : World} {h₀ h : Heap} {L : Addr} {m : Str → Option Value} {fm : FM} {l l' : LG} {C : Cx} {env : Env} {k k' : Nat}
-- stores at a subscript
structure Si (C : Cx) (fm : FM) (l : LG) (a b c : AV) (P : LG → Prop) : Prop where
  run : ∀ m s v i u, C.K m fm l s → a.den v → b.den i → c.den u → wpAny (model Pg C.w) C.A (setItem v i u) (fun _ s' => ∃ l', P l' ∧ C.K m fm l' s' ∧ Same s s') (C.er s) s
theorem Si_sd {d : Addr} {kv : List (Str × AV)} {key : Str} {b : AV} {P : LG → Prop} (u : Put l d (.sd kv) (.sd (vst kv key b)) l') (z : kv.length ≤ 1000) (h : P l') : Si C fm l (.ref d) (.str key) b P := .mk fun m s v i x hs d1 d2 d3 => by
  cases d1
  obtain ⟨t, rfl⟩ := d2
  obtain ⟨o, rest, F, ⟨lo, kv', hd, dk⟩, N, nn, oth, back⟩ := hs.upd u
  exact kda_set (knd := strKind _ _) F N (.head nn.1.off) hd (strKind_is _ _ _ _) (Nat.le_trans (Nat.le_trans (Nat.le_of_eq dk.len) z) (by rw [sizeLine_eq]; exact Nat.le_of_ble_eq_true rfl))
    fun h' o' F' N' hd' => ⟨l', h, back h' o' ⟨lo, _, hd', dk.vst d3⟩ F' N', hp_same s h' _⟩
theorem Si_idd {d : Addr} {kv : List (Int × AV)} {key : Int} {b : AV} {P : LG → Prop} (u : Put l d (.idd kv) (.idd (vst kv key b)) l') (z : kv.length ≤ 1000) (h : P l') : Si C fm l (.ref d) (.int key) b P := .mk fun m s v i x hs d1 d2 d3 => by
  cases d1
  obtain ⟨t, rfl⟩ := d2
  obtain ⟨o, rest, F, ⟨lo, kv', hd, dk⟩, N, nn, oth, back⟩ := hs.upd u
  exact kda_set (knd := intKind _ _) F N (.head nn.1.off) hd (intKind_is _ _ _ _) (Nat.le_trans (Nat.le_trans (Nat.le_of_eq dk.len) z) (by rw [sizeLine_eq]; exact Nat.le_of_ble_eq_true rfl))
    fun h' o' F' N' hd' => ⟨l', h, back h' o' ⟨lo, _, hd', dk.vst d3⟩ F' N', hp_same s h' _⟩
theorem Ex_asgI {o i e : PySem.Expr} {pa p : Pos} {r : List Stmt} {P : AF → FM → LG → Prop} (h : Ev C env fm l e fun c l₁ => Ev C env fm l₁ o fun a l₂ => Ev C env fm l₂ i fun b l₃ => Si C fm l₃ a b c fun l₄ => Ex C env fm l₄ r P)
    (hs' : swapsWith e (some (.Subscript o i pa)) p.line env = pure false := by rfl) : Ex C env fm l (.Assign [.Subscript o i pa] e p :: r) P := .mk fun s ⟨m, hs⟩ =>
  wpAny_execs_cons (wpAny_Assign_Subscript (h.go hs fun c l₁ cv s₁ q d H₁ e₁ => up e₁ (q.go H₁ fun a l₂ av s₂ q₂ d₂ H₂ e₂ => up (e₁.trans e₂) (q₂.go H₂ fun b l₃ bv s₃ q₃ d₃ H₃ e₃ => up ((e₁.trans e₂).trans e₃) (wpAny_mono (q₃.run m s₃ av bv cv H₃ d₂ d₃ d) (fun _ s₄ ⟨l₄, q₄, H₄, e₄⟩ => Ex.on q₄ ⟨m, H₄⟩ (((e₁.trans e₂).trans e₃).trans e₄)) fun _ _ x => x)))) hs')
-- texts
theorem Cp_insub {x y : Str} {c : Bool} {P : Bool → LG → Prop} (e : (Builtin.Str.occurrences x y 0 x.length 1).isEmpty = !c) (h : P c l) : Cp C fm l .In (.str y) (.str x) P := Cp_of (c := c) (fun s v u Q E d d' q => by
  obtain ⟨t, rfl⟩ := d; obtain ⟨t', rfl⟩ := d'
  exact PySem.P.in_str (by rw [e, Bool.not_not]; exact q)) h
theorem Bo_adds {x y : Str} {P : AV → LG → Prop} (h : P (.str (x ++ y)) l) (z : x.length + y.length ≤ 1000) : Bo C fm l .Add (.str x) (.str y) P := .mk fun m s v u hs d d' => by
  obtain ⟨t, rfl⟩ := d; obtain ⟨t', rfl⟩ := d'
  exact PySem.SB.add (fun t' k => ⟨.str (x ++ y), l, h, ⟨_, rfl⟩, hs, hp_same s s.heap k⟩) (Nat.le_trans z (by rw [sizeLine_eq]; exact Nat.le_of_ble_eq_true rfl))
theorem Cl_strI {n : Int} {P : AV → LG → Prop} (z : n.natAbs.log2 < 1920) (h : P (.str (toString n)) l) : Cl C fm l (.type "str") [.int n] P := .mk fun m s vs hs d => by
  cases d with
  | cons d1 d =>
  cases d
  obtain ⟨t, rfl⟩ := d1
  exact PySem.P.str_of_int z ⟨.str _, l, h, ⟨_, rfl⟩, hs, tk_same s _⟩
-- numbers
theorem Bo_subi {x y z : Int} {P : AV → LG → Prop} (e : x - y = z) (h : P (.int z) l) : Bo C fm l .Sub (.int x) (.int y) P := .mk fun m s v u hs d d' => by
  obtain ⟨t, rfl⟩ := d; obtain ⟨t', rfl⟩ := d'
  exact PySem.P.sub_int ⟨.int z, l, h, ⟨_, by rw [e]⟩, hs, tk_same s _⟩
end
section
variable {fm : FM} {l l' : LG} {C : Cx} {k k' : Nat} {m : Str → Option Value} {A : Around}
theorem code_fnC2 (fm0 : FM) (lg0 : Addr → LG) {f : Addr} {name qual : Str} {params : Arguments} {body : List Stmt} {scope : Scope} {dV kV doc pm cdv ct oc : Value} {an od : Option Addr} {osl : Array (Option Value)} {as : List AV} {P : AV → LG → Prop} {s : Shared} {vs : List Value} (G : Good C k)
    (hA : A.frames = some (C.env :: C.outer)) (hd : A.depth + 1 ≤ k') (hu : A.units + 3 ≤ 10 * k') (hk' : k' ≤ 900)
    (ho : (KF C.w.params).lookup f = some ⟨oc, od, .func (fnOf name qual params body scope dV kV doc pm an cdv ct), osl⟩) (hcd : codeIn (KF C.w.params) cdv qual = true)
    (hbind : ∀ s, BindN as.length fun vs => BindsTo s (fnOf name qual params body scope dV kV doc pm an cdv ct) ⟨vs, []⟩ ((params.args.map (·.arg)).zip vs)) (hloc : ((params.args.map (·.arg)).zip as).all (fun y => match scope.names.lookup y.1 with | some .local => true | some .cell => true | _ => false) = true) (hnd : ((cellsFrom 0 scope.names []).map (·.1)).Nodup)
    (e1 : ∀ g L', fmOf (C.subC A g L' nopR qual scope f cdv).env.kindOf ((params.args.map (·.arg)).zip as) [] = fm0)
    (e2 : ∀ g L', cellsLG (cmOf (C.subC A g L' nopR qual scope f cdv).env.kindOf ((params.args.map (·.arg)).zip as) []) (cellsFrom (L' + 1) scope.names []) ++ l = lg0 L')
    (hb : ∀ g L', Good (C.subC A g L' nopR qual scope f cdv) k' → Ex (C.subC A g L' nopR qual scope f cdv) (C.subC A g L' nopR qual scope f cdv).env fm0 (lg0 L') body fun fl _ l' => P fl.out l')
    (hE : ∀ g L', (C.subC A g L' nopR qual scope f cdv).A = A.deeper (envOfC qual scope L' f cdv) := by intro _ _; rfl) (hE' : ∀ g L', (C.subC A g L' nopR qual scope f cdv).env = envOfC qual scope L' f cdv := by intro _ _; rfl)
    (hco : scope.isCoroutine = false := by rfl) (hgen : scope.isGenerator = false := by rfl) (hk : scope.kind = .function := by rfl)
    (hs : C.K m fm l s) (d : AVs as vs) : codeAny (model Pg C.w) A (.call (.ref f) ⟨vs, []⟩) (fun r s' => match r with | .ok (.ret v) => C.vp m fm P s v s' | .ok _ => False | .error e => C.er s e s') s :=
  code_fnC G hA hd hu hk' ho hcd hbind hloc hnd (fun g L' G' => by rw [e1, e2]; exact hb g L' G') hE hE' hco hgen hk hs d
theorem Bo_addsV {x y : Str} {t : Nat} {P : AV → LG → Prop} (h : P (.str (x ++ y)) l) (z : x.length + y.length ≤ 1000) : Bo C fm l .Add (.str x) (.val (.str y t)) P := .mk fun m s v u hs d d' => by
  cases d'
  exact (Bo_adds (fm := fm) h z).run m s v _ hs d ⟨t, rfl⟩
theorem Cl_dgetS {d : Addr} {kv : List (Str × AV)} {key : Str} {dflt b : AV} {P : AV → LG → Prop} (g : Rd l d (.sd kv)) (e : vat kv key = some b) (h : P b l) : Cl C fm l (.builtin "dict.get") [.ref d, .str key, dflt] P := Cl_dget g e h
theorem Cl_dgetN {d : Addr} {kv : List (Str × AV)} {key : Str} {dflt : AV} {P : AV → LG → Prop} (g : Rd l d (.sd kv)) (e : vat kv key = none) (h : P dflt l) : Cl C fm l (.builtin "dict.get") [.ref d, .str key, dflt] P := Cl_dget g e h
theorem Ex_exprV {env : Env} {e : PySem.Expr} {p : Pos} {r : List Stmt} {P : AF → FM → LG → Prop} (h : Ev C env fm l e fun _ l' => Ex C env fm l' r P) (hi : interactive env = false := by rfl) (hs' : swapsWith e none p.line env = pure false := by rfl) : Ex C env fm l (.Expr e p :: r) P := .mk fun s ⟨m, hs⟩ =>
  wpAny_execs_cons (by
    rw [exec_Expr env e p hi hs']
    exact wpAny_bind (wpAny_standAt (wpAny_bind (h.go hs fun av l' v s' q d hh e => wpAny_dropValue (Ex.on q ⟨m, hh⟩ e)))))
end
section
variable {fm : FM} {l l' l'' : LG} {C : Cx} {env : Env} {k k' : Nat} {m : Str → Option Value}
theorem Get.put {a b : Addr} {x y z : AO} (u : Put l a y z l') (ne : x ≠ y) (g : Get l b x) : Get l' b x := by
  induction u with
  | head => cases g with
    | head => exact absurd rfl ne
    | tail g => exact .tail g
  | tail _ ih => cases g with
    | head => exact .head
    | tail g => exact .tail (ih ne g)
theorem Get.putA {a b : Addr} {x y z : AO} (u : Put l a y z l') (g : Get l b x) : Get l' b x ∨ (x = y ∧ Get l' b z) := by
  induction u with
  | head => cases g with
    | head => exact .inr ⟨rfl, .head⟩
    | tail g => exact .inl (.tail g)
  | tail _ ih => cases g with
    | head => exact .inl .head
    | tail g => exact (ih g).elim (fun g => .inl (.tail g)) fun ⟨e, g⟩ => .inr ⟨e, .tail g⟩
theorem Put.got {a : Addr} {x y : AO} (u : Put l a x y l') : Get l' a y := by
  induction u with
  | head => exact .head
  | tail _ ih => exact .tail ih
theorem Put.mid {a : Addr} {x z : AO} (u : Put l a x z l'') (y : AO) : ∃ l', Put l a x y l' ∧ Put l' a y z l'' := by
  induction u with
  | head => exact ⟨_, .head, .head⟩
  | tail _ ih => obtain ⟨l', a, b⟩ := ih; exact ⟨_, .tail a, .tail b⟩
/-- an entry that holds no attributes -/
def AO.noA : AO → Bool
  | .inst .. => false
  | .attrs _ => false
  | .fz _ => false
  | _ => true
theorem Rd.put {a b : Addr} {x y z : AO} (u : Put l a y z l') (ne : x ≠ y) (nf : .fz x ≠ y) (g : Rd l b x) : Rd l' b x := by
  cases g with
  | g g => exact .g (g.put u ne)
  | f g => exact .f (g.put u nf)
theorem Fld.mk {x K dx : Addr} {al : List (Str × AV)} {name : Str} {b : AV} (g1 : Rd l x (.inst K dx)) (g2 : Rd l dx (.attrs al)) (e : alook name al = some b) : Fld l x K name b := ⟨dx, al, g1, g2, e⟩
theorem Fld.put {a x K : Addr} {y z : AO} {name : Str} {b : AV} (u : Put l a y z l') (f : Fld l x K name b) (n : y.noA = true := by rfl) : Fld l' x K name b :=
  let ⟨dx, al, g1, g2, e⟩ := f
  ⟨dx, al, g1.put u (fun q => by subst q; cases n) (fun q => by subst q; cases n), g2.put u (fun q => by subst q; cases n) (fun q => by subst q; cases n), e⟩
theorem Fld.putA {a x K : Addr} {al : List (Str × AV)} {nm name : Str} {v b : AV} (u : Put l a (.attrs al) (.attrs (aset nm v al)) l') (f : Fld l x K name b) (n : (nm == name) = false := by decide +kernel) : Fld l' x K name b := by
  obtain ⟨dx, al₂, g1, g2, e⟩ := f
  have g1' := g1.put u (fun q => by cases q) (fun q => by cases q)
  cases g2 with
  | f g => exact ⟨dx, al₂, g1', .f (g.put u (fun q => by cases q)), e⟩
  | g g =>
    rcases g.putA u with gn | ⟨q, gn⟩
    · exact ⟨dx, al₂, g1', .g gn, e⟩
    · cases q
      exact ⟨dx, _, g1', .g gn, by rw [alook_other v n]; exact e⟩
theorem Ex_re {a : Addr} {al : List (Str × AV)} (al' : List (Str × AV)) {ss : List Stmt} {P : AF → FM → LG → Prop} (u : Put l a (.attrs al) (.attrs al') l') (e : al = al') (h : Ex C env fm l' ss P) : Ex C env fm l ss P :=
  Ex_conv u (fun _ d => e ▸ d) h
/-- the frame in which a region's names are counted -/
inductive FrOf (l : LG) : Addr → Addr → Prop
  | root {r : Addr} : Fld l r 127 "kind" (.str "root") → FrOf l r r
  | pkg {R r : Addr} : Fld l R 127 "kind" (.str "package") → Fld l R 127 "parent" (.ref r) → Fld l r 127 "kind" (.str "root") → FrOf l R r
theorem FrOf.put {a R r : Addr} {y z : AO} (u : Put l a y z l') (f : FrOf l R r) (n : y.noA = true := by rfl) : FrOf l' R r := by
  cases f with
  | root a => exact .root (a.put u n)
  | pkg a b c => exact .pkg (a.put u n) (b.put u n) (c.put u n)
theorem FrOf.putA {a R r : Addr} {al : List (Str × AV)} {nm : Str} {v : AV} (u : Put l a (.attrs al) (.attrs (aset nm v al)) l') (f : FrOf l R r) (n1 : (nm == "kind") = false := by decide +kernel) (n2 : (nm == "parent") = false := by decide +kernel) : FrOf l' R r := by
  cases f with
  | root a => exact .root (a.putA u n1)
  | pkg a b c => exact .pkg (a.putA u n1) (b.putA u n2) (c.putA u n1)
theorem FrOf.tail {R r : Addr} {p : Addr × AO} (f : FrOf l R r) : FrOf (p :: l) R r := by
  cases f with
  | root a => exact .root a.tail
  | pkg a b c => exact .pkg a.tail b.tail c.tail
end
section
variable {w : World} {h₀ h : Heap} {L : Addr} {m : Str → Option Value} {fm : FM} {l l' : LG} {C : Cx} {env : Env} {k k' : Nat}
theorem Get.toPut {a : Addr} {x : AO} (g : Get l a x) (y : AO) : ∃ l', Put l a x y l' := by
  induction g with
  | head => exact ⟨_, .head⟩
  | tail _ ih => obtain ⟨l', u⟩ := ih; exact ⟨_, .tail u⟩
theorem Tg_attr {o : PySem.Expr} {name : Str} {p : Pos} {a : AV} {P : FM → LG → Prop} (h : Ev C env fm l o fun b l₁ => Sa C fm l₁ b name a fun l₂ => P fm l₂) : Tg C env fm l (.Attribute o name p) a P := .mk fun s v ⟨m, hs⟩ d => by
  rw [assign_Attribute]
  refine wpAny_bind (wpAny_holding (h.go hs fun b l₁ u s₁ q du H₁ e₁ => ?_))
  refine wpAny_bind (wpAny_standAt (wpAny_bind (wpAny_holding (up e₁ (wpAny_mono (q.run m s₁ u v H₁ du d) (fun _ s₂ ⟨l₂, p₂, H₂, e₂⟩ => ?_) fun _ _ x => x)))))
  exact wpAny_releaseD ⟨fm, l₂, p₂, ⟨m, H₂⟩, e₁.trans e₂⟩
theorem st_cell {x : Str} {c : Addr} {y : AO} {a : AV} {v : Value} {s : Shared} {P : LG → Prop} (hs : C.K m fm l s) (d : a.den v) (u : Put l c y (.cell a) l') (hy : y = .cell0 ∨ ∃ b, y = .cell b) (h : P l') (hk : env.scope.kind = .function) (hx : env.kindOf x = some .cell) (hc : env.cells.lookup x = some c) :
    wpAny (model Pg C.w) C.A (storeName env x v) (fun _ s' => ∃ l', P l' ∧ C.K m fm l' s' ∧ Same s s') (C.er s) s := by
  obtain ⟨o, rest, F, dy, N, nn, oth, back⟩ := hs.upd u
  have hcell : ∃ v₀, o.data = .cell v₀ := by
    rcases hy with rfl | ⟨b, rfl⟩
    · exact dy
    · obtain ⟨v₀, e, _⟩ := dy; exact ⟨_, e⟩
  obtain ⟨v₀, e⟩ := hcell
  have ho := N _ (.head _)
  refine wpAny_storeName_cell (v₀ := v₀) hk hx hc ⟨o, ho.1, e⟩ fun h' hc' sb => ?_
  obtain ⟨o', ho', e'⟩ := hc'
  exact ⟨l', h, back h' o' ⟨v, e', d⟩ (F.change sb ho.2.1 ho.2.2) fun p hp => by
    rcases List.mem_cons.mp hp with rfl | hp
    · exact ⟨ho', ho.2⟩
    · have z := N p (.tail _ hp)
      exact ⟨sb.extBut _ _ (fun q => nn.1.off.ne p hp q) z.1, z.2⟩, hp_same s h' _⟩
def TgL (C : Cx) (env : Env) : List PySem.Expr → List AV → FM → LG → (FM → LG → Prop) → Prop
  | [], [], fm, l, P => P fm l
  | t :: ts, a :: as, fm, l, P => Tg C env fm l t a fun fm' l' => TgL C env ts as fm' l' P
  | _, _, _, _, _ => False
theorem TgL.len {as : List AV} {vs : List Value} (dd : AVs as vs) : ∀ {ts : List PySem.Expr} {fm : FM} {l : LG} {P : FM → LG → Prop} (s : Shared), TgL C env ts as fm l P → C.H fm l s →
    wpAny (model Pg C.w) C.A (assignInOrder (ts.map fun t => assign t env) vs) (fun _ s' => ∃ fm' l', P fm' l' ∧ C.H fm' l' s' ∧ Same s s') (C.er s) s := by
  induction dd with
  | nil =>
    intro ts fm l P s h hs
    cases ts with
    | nil => exact assignInOrder_nil ⟨_, _, h, hs, .refl s⟩
    | cons t ts => exact False.elim h
  | cons d _ ih =>
    intro ts fm l P s h hs
    cases ts with
    | nil => exact False.elim h
    | cons t ts =>
      have h' : Tg C env fm l t _ fun fm' l' => TgL C env ts _ fm' l' P := h
      exact assignInOrder_cons (wpAny_mono (h'.run s _ hs d) (fun _ s₁ ⟨fm₁, l₁, q, H₁, e₁⟩ => up e₁ (wpAny_mono (ih s₁ q H₁) (fun _ s₂ ⟨fm₂, l₂, q₂, H₂, e₂⟩ => ⟨fm₂, l₂, q₂, H₂, e₁.trans e₂⟩) fun _ _ x => x)) fun _ _ x => x)
theorem Ex_asgT {elts : List PySem.Expr} {kk : Nat} {tp p : Pos} {e : PySem.Expr} {r : List Stmt} {P : AF → FM → LG → Prop} (h : Ev C env fm l e fun a l₁ => ∃ t xs, a = .ref t ∧ Rd l₁ t (.tup xs) ∧ elts.length = xs.length ∧ TgL C env elts xs fm l₁ fun fm' l' => Ex C env fm' l' r P)
    (he : assignEach elts env = elts.map fun t => (false, assign t env) := by rfl) (hst : (assignEach elts env).findIdx? (·.1) = none := by rfl) (hsw : swapsWithSole [.Tuple elts kk tp] e p.line env = pure false := by rfl) (hw : swappedStores [.Tuple elts kk tp] e env = pure none := by rfl) : Ex C env fm l (.Assign [.Tuple elts kk tp] e p :: r) P := .mk fun s ⟨m, hs⟩ =>
  wpAny_execs_cons (Assign_Tuple (h.go hs fun a l₁ v s₁ ⟨t, xs, ea, g, hn, q⟩ d H₁ e₁ => by
    subst ea
    cases d
    obtain ⟨vs, ht, da⟩ := g.isTup H₁
    obtain ⟨⟨F, fh⟩, en, nd⟩ := H₁
    refine assign_Tuple_tuple rfl ht (by rw [he, List.length_map, hn, List.size_toArray, da.len]) hst fun h' eb => ?_
    have H' : C.H fm l₁ { s₁ with heap := h' } := ⟨m, ⟨F.extBut eb (Nat.le_refl _), fh⟩, fun p hp => by
      obtain ⟨o, a, b, c⟩ := en p hp
      exact ⟨o, a, eb _ _ (Nat.ne_of_lt (Heap.lt_size b)) b, c⟩, nd⟩
    have ee : (assignEach elts env).map (·.2) = elts.map fun t => assign t env := by rw [he, List.map_map]; rfl
    rw [ee]
    show wpAny _ _ (assignInOrder _ vs) _ _ _
    exact up e₁ (wpAny_mono (TgL.len da { s₁ with heap := h' } q H') (fun _ s₂ ⟨fm₂, l₂, q₂, H₂, e₂⟩ => Ex.on q₂ H₂ (e₁.trans e₂)) fun _ _ x => x)) hsw hw)
theorem nm_run {as : List AV} {vs : List Value} (dd : AVs as vs) (hL : env.locals = C.L) (hp : (env.scope.kind == .class || (env.scope.kind == .module && env.locals != env.globals)) = false) : ∀ {ns : List Str} {fm : FM} {s : Shared}, ns.length = as.length → C.H fm l s → (∀ x ∈ ns, env.kindOf x = some .local) →
    wpAny (model Pg C.w) C.A (assignInOrder (ns.map fun n => bindName env n) vs) (fun _ s' => C.H ((ns.zip as).reverse ++ fm) l s' ∧ Same s s') (C.er s) s := by
  induction dd with
  | nil =>
    intro ns fm s hn hs hx
    cases ns with
    | nil => exact assignInOrder_nil ⟨hs, .refl s⟩
    | cons n ns => cases hn
  | @cons a v as vs d _ ih =>
    intro ns fm s hn hs hx
    cases ns with
    | nil => cases hn
    | cons n ns =>
      refine assignInOrder_cons (bindName_ (wpAny_mono (st_name (P := fun fm' l' => fm' = (n, a) :: fm ∧ l' = l) hs d ⟨rfl, rfl⟩ hL (hx n (.head _)) hp) (fun _ s₁ ⟨fm₁, l₁, ⟨e1, e2⟩, H₁, e₁⟩ => ?_) fun _ _ x => x))
      subst e1; subst e2
      refine up e₁ (wpAny_mono (ih (Nat.succ.inj hn) H₁ fun x hx' => hx x (.tail _ hx')) (fun _ s₂ ⟨H₂, e₂⟩ => ⟨?_, e₁.trans e₂⟩) fun _ _ x => x)
      rw [List.zip_cons_cons, List.reverse_cons, List.append_assoc]
      exact H₂
theorem AVs.rev {as : List AV} {vs : List Value} (d : AVs as vs) : AVs as.reverse vs.reverse := by
  induction d with
  | nil => exact .nil
  | cons d _ ih => rw [List.reverse_cons, List.reverse_cons]; exact ih.snoc d
theorem Ex_asgN {elts : List PySem.Expr} {names : List Str} {kk : Nat} {tp p : Pos} {e : PySem.Expr} {r : List Stmt} {P : AF → FM → LG → Prop} (h : Ev C env fm l e fun a l₁ => ∃ t xs, a = .ref t ∧ Rd l₁ t (.tup xs) ∧ names.length = xs.length ∧ Ex C env ((names.reverse.zip xs.reverse).reverse ++ fm) l₁ r P)
    (hw : swappedStores [.Tuple elts kk tp] e env = pure (some names)) (hx : ∀ x ∈ names.reverse, env.kindOf x = some .local) (hL : env.locals = C.L := by rfl) (hp : (env.scope.kind == .class || (env.scope.kind == .module && env.locals != env.globals)) = false := by rfl) (hsw : swapsWithSole [.Tuple elts kk tp] e p.line env = pure false := by rfl) : Ex C env fm l (.Assign [.Tuple elts kk tp] e p :: r) P := .mk fun s ⟨m, hs⟩ =>
  wpAny_execs_cons (Assign_Tuple_swapped (h.go hs fun a l₁ v s₁ ⟨t, xs, ea, g, hn, q⟩ d H₁ e₁ => by
    subst ea
    cases d
    obtain ⟨vs, ht, da⟩ := g.isTup H₁
    obtain ⟨⟨F, fh⟩, en, nd⟩ := H₁
    have e' : names.length = vs.toArray.size := by rw [List.size_toArray, da.len, hn]
    rw [e']
    refine unpackItems_tuple rfl ht fun h' eb => ?_
    have H' : C.H fm l₁ { s₁ with heap := h' } := ⟨m, ⟨F.extBut eb (Nat.le_refl _), fh⟩, fun p hp => by
      obtain ⟨o, a, b, c⟩ := en p hp
      exact ⟨o, a, eb _ _ (Nat.ne_of_lt (Heap.lt_size b)) b, c⟩, nd⟩
    show wpAny _ _ (assignInOrder _ vs.reverse) _ _ _
    exact up e₁ (wpAny_mono (nm_run da.rev hL hp (by rw [List.length_reverse, List.length_reverse, hn]) H' hx) (fun _ s₂ ⟨H₂, e₂⟩ => Ex.on q H₂ (e₁.trans e₂)) fun _ _ x => x)) hsw hw)
theorem TgL_nil {P : FM → LG → Prop} (h : P fm l) : TgL C env [] [] fm l P := h
theorem TgL_cons {t : PySem.Expr} {ts : List PySem.Expr} {a : AV} {as : List AV} {P : FM → LG → Prop} (h : Tg C env fm l t a fun fm' l' => TgL C env ts as fm' l' P) : TgL C env (t :: ts) (a :: as) fm l P := h
theorem Cl_re {a : Addr} {al al' : List (Str × AV)} {f : Value} {as : List AV} {P : AV → LG → Prop} (u : Put l a (.attrs al) (.attrs al') l') (e : al = al') (h : Cl C fm l' f as P) : Cl C fm l f as P := .mk fun m s vs hs d => h.run m s vs (Holds.conv u (fun _ d => e ▸ d) hs) d
theorem Ev_neg {e : PySem.Expr} {p : Pos} {P : AV → LG → Prop} (h : Ev C env fm l e fun a l' => ∃ n, a = .int n ∧ P (.int (-n)) l') : Ev C env fm l (.UnaryOp .USub e p) P := .mk fun m s hs =>
  wpAny_UnaryOp (h.go hs fun a l' v s' ⟨n, ea, q⟩ d H e => by
    subst ea
    obtain ⟨t, rfl⟩ := d
    exact PySem.P.neg_int ⟨_, _, q, ⟨_, rfl⟩, H, e.trans (tk_same s' _)⟩)
end
section
variable {w : World} {h₀ h : Heap} {L : Addr} {m : Str → Option Value} {fm : FM} {l l' rest : LG} {C : Cx} {env : Env} {k k' : Nat}
/-- every entry of a ledger is held for good -/
def frz : LG → LG
  | [] => []
  | (a, x) :: l => (a, match x with | .rl o xs => .rl o xs | x => .fz x) :: frz l
theorem frz_adr : ∀ l : LG, (frz l).map (·.1) = l.map (·.1)
  | [] => rfl
  | (a, x) :: l => by
    show a :: _ = a :: _
    exact congrArg _ (frz_adr l)
theorem frz_en {pre : LG} (H : ∀ p ∈ pre, ∃ o, EnAt w h₀ L h p o) : ∀ p ∈ frz pre, ∃ o, EnAt w h₀ L h p o := by
  induction pre with
  | nil => intro p hp; cases hp
  | cons q r ih =>
    intro p hp
    obtain ⟨a, x⟩ := q
    rcases List.mem_cons.mp hp with rfl | hp
    · obtain ⟨o, d, z⟩ := H _ (.head _)
      refine ⟨o, ?_, z⟩
      cases x <;> exact d
    · exact ih (fun p hp => H p (.tail _ hp)) p hp
theorem Holds.hold {pre : LG} (H : Holds w h₀ L m fm (pre ++ rest) h) : Holds w h₀ L m fm (Mine.frz pre ++ rest) h := by
  refine ⟨H.fr, fun p hp => ?_, ?_⟩
  · rcases List.mem_append.mp hp with hp | hp
    · exact frz_en (fun p hp => H.en p (List.mem_append_left _ hp)) p hp
    · exact H.en p (List.mem_append_right _ hp)
  · have := H.nd
    rw [List.map_append] at this ⊢
    rw [frz_adr]
    exact this
def AO.isRl : AO → Bool
  | .rl .. => true
  | _ => false
theorem Get.frz {pre : LG} {a : Addr} {x : AO} (g : Get pre a x) (n : x.isRl = false := by rfl) : Get (Mine.frz pre) a (.fz x) := by
  induction g with
  | head => unfold Mine.frz; split
            · cases n
            · exact .head
  | tail _ ih => exact .tail (ih n)
theorem Get.frzL {pre : LG} {a : Addr} {o : Obj} {xs : List AV} (g : Get pre a (.rl o xs)) : Get (Mine.frz pre) a (.rl o xs) := by
  generalize e : AO.rl o xs = y at g
  induction g with
  | head => subst e; exact .head
  | tail _ ih => exact .tail (ih e)
theorem Get.app {a : Addr} {x : AO} (g : Get l a x) : Get (l ++ rest) a x := by
  induction g with
  | head => exact .head
  | tail _ ih => exact .tail ih
/-- at the end of a builder: entries to the front, told otherwise, held -/
inductive Hld (P : AV → LG → Prop) (v : AV) : LG → Prop
  | mk {l : LG} : Drp P v l → Hld P v l
  | sub {l l' : LG} : l'.Sublist l → Hld P v l' → Hld P v l
  | re {l l' : LG} {a : Addr} {al al' : List (Str × AV)} : Put l a (.attrs al) (.attrs al') l' → al = al' → Hld P v l' → Hld P v l
  | front {l l' : LG} {a : Addr} {x : AO} : Take l a x l' → Hld P v ((a, x) :: l') → Hld P v l
  | rl {l : LG} {l₂ : Obj → LG} {a : Addr} {xs : List AV} : (∀ o, Put l a (.lst xs) (.rl o xs) (l₂ o)) → (∀ o, Hld P v (l₂ o)) → Hld P v l
  | fz {fr pre rest : LG} : Hld P v (fr ++ (Mine.frz pre ++ rest)) → Hld P v (fr ++ (pre ++ rest))
theorem Hld.out {P : AV → LG → Prop} {v : AV} (d : Hld P v l) : Holds w h₀ L m fm l h → ∃ l', P v l' ∧ Holds w h₀ L m fm l' h := by
  induction d with
  | mk d => exact fun H => d.out H
  | sub s _ ih => exact fun H => ih (H.sub s)
  | re u e _ ih => exact fun H => ih (Holds.conv u (fun _ d => e ▸ d) H)
  | front t _ ih => exact fun H => ih (H.perm t.perm)
  | rl u _ ih => exact fun H => let ⟨o, H'⟩ := Holds.frz u H; ih o H'
  | fz _ ih => exact fun H => ih (Holds.perm (Holds.hold (Holds.perm H (List.perm_append_comm_assoc _ _ _))) (List.perm_append_comm_assoc _ _ _))
theorem Cl_hold {f : Value} {as : List AV} {P : AV → LG → Prop} (h : Cl C fm l f as (Hld P)) : Cl C fm l f as P := .mk fun m s vs hs d =>
  wpAny_mono (h.run m s vs hs d) (fun v s' ⟨a, l', q, dv, H, e⟩ => let ⟨l'', p, H'⟩ := q.out H; ⟨a, l'', p, dv, H', e⟩) fun _ _ x => x
/-- an attribute of an instance held for good -/
def FldF (l : LG) (x K : Addr) (name : Str) (b : AV) : Prop := ∃ dx al, Get l x (.fz (.inst K dx)) ∧ Get l dx (.fz (.attrs al)) ∧ alook name al = some b
theorem FldF.fld {x K : Addr} {name : Str} {b : AV} (f : FldF l x K name b) : Fld l x K name b := let ⟨dx, al, a, c, e⟩ := f; ⟨dx, al, .f a, .f c, e⟩
theorem FldF.of {pre : LG} {x K dx : Addr} {al : List (Str × AV)} {name : Str} {b : AV} (g1 : Get pre x (.inst K dx)) (g2 : Get pre dx (.attrs al)) (e : alook name al = some b) : FldF (Mine.frz pre) x K name b := ⟨dx, al, g1.frz, g2.frz, e⟩
structure PkgD where
  x : Addr
  R : Addr
  nd : Addr
  le1 : Addr
  le2 : Addr
  e1 : Addr
  e2 : Addr
  s1 : Addr
  s2 : Addr
  t : Addr
  w : Addr
  lx : Addr
  tt : Addr
  o : Obj
  o1 : Obj
  o2 : Obj
  nR : Int
  num : Int
/-- what is read of an entity that tells a type -/
structure TypE (l : LG) (e s t : Addr) : Prop where
  kind : FldF l e 70 "kind" (.str "type")
  part : FldF l e 70 "part" (.str "visible")
  ready : FldF l e 70 "is_ready" (.bool true)
  over : FldF l e 70 "is_overridden" (.bool false)
  full : FldF l e 70 "full" .none
  sub : FldF l e 70 "subtype" (.ref s)
  ty : FldF l s 322 "type" (.ref t)
  con : FldF l s 322 "constraint" .none
/-- what is read of a package -/
structure PkgF (l : LG) (tg : Bool) (D : PkgD) : Prop where
  lx : Get l D.lx (.rl D.o [.ref D.x])
  kind : FldF l D.x 70 "kind" (.str "package")
  reg : FldF l D.x 70 "region" (.ref D.R)
  data : FldF l D.x 70 "data" .none
  over : FldF l D.x 70 "is_overridden" (.bool false)
  ready : FldF l D.x 70 "is_ready" (.bool true)
  nR : FldF l D.R 127 "number" (.int D.nR)
  names : FldF l D.R 127 "names" (.ref D.nd)
  nd : Get l D.nd (.fz (.sd [("t", .ref D.le1), ("s", .ref D.le2)]))
  l1 : Get l D.le1 (.rl D.o1 [.ref D.e1])
  l2 : Get l D.le2 (.rl D.o2 [.ref D.e2])
  e1 : TypE l D.e1 D.s1 D.t
  e2 : TypE l D.e2 D.s2 D.t
  tk : FldF l D.t 301 "kind" (.str (if tg then "record" else "int"))
  tn : FldF l D.t 301 "number" (.int D.num)
  tp : FldF l D.t 301 "is_private" (.bool false)
  wide : FldF l D.t 301 "wide" (if tg then .ref D.w else .none)
  tag : FldF l D.t 301 "is_tagged" (.bool tg)
  tt : Get l D.tt (.fz (.tup [.ref D.R, .str "visible"]))
  wk : tg = true → FldF l D.w 301 "kind" (.str "class") ∧ FldF l D.w 301 "parent" (.ref D.t)
inductive Spl : LG → LG → LG → Prop
  | nil {rest : LG} : Spl rest [] rest
  | cons {l pre rest : LG} {p : Addr × AO} : Spl l pre rest → Spl (p :: l) (p :: pre) rest
theorem Spl.eq {pre : LG} (s : Spl l pre rest) : l = pre ++ rest := by
  induction s with
  | nil => rfl
  | cons _ ih => rw [ih]; rfl
theorem Hld.fz5 {P : AV → LG → Prop} {v : AV} {p1 p2 p3 p4 p5 : Addr × AO} {pre : LG} (s : Spl l pre rest) (h : Hld P v (p1 :: p2 :: p3 :: p4 :: p5 :: (Mine.frz pre ++ rest))) : Hld P v (p1 :: p2 :: p3 :: p4 :: p5 :: l) := by
  rw [s.eq]
  exact Hld.fz (fr := [p1, p2, p3, p4, p5]) h
end
section
variable {prog : Program} {w : World} {A : Around} {E : Value → Shared → Prop} {s : Shared} {h₀ h : Heap} {L D b : Addr} {m : Str → Option Value} {news news' : List (Addr × Obj)} {its its2 : Array Value} {n n2 : Nat}
theorem fills_iadd : fillsInplaceSlot (.type "list") "add" (Operator.Add == .Add) = pure false := by
  unfold fillsInplaceSlot
  show (typeLookup (.type "list") (dunderI "add") >>= fun fi => pure (fi.isSome && !isSeqSlot fi)) = pure false
  rw [PySem.F.slot_list_iadd.lookup, pure_bind]
  have e : isSeqSlot (some (Value.builtin "list.__iadd__")) = true := by decide +kernel
  rw [e]; rfl
theorem seq_iadd : seqSlot? (.type "list") (dunderI "add") = pure (some (.builtin "list.__iadd__")) := PySem.seqSlot_of PySem.F.slot_list_iadd.lookup (by decide +kernel)
theorem iadd_call {Q : Value → Shared → Prop} {x y : Value} (ha : s.TypeIs x "list") (hb : s.TypeIs y "list") (hc : wpAny (model prog w) A (call (.builtin "list.__iadd__") [x, y]) Q E s) : wpAny (model prog w) A (inplaceOp .Add x y) Q E s := by
  unfold inplaceOp
  refine wpAny_holding ?_
  refine wpAny_bind (wpAny_typeOf ha (wpAny_bind (wpAny_of_eq fills_iadd ?_)))
  show wpAny _ A (if false = true then _ else _) Q E s
  rw [if_neg Bool.false_ne_true]
  refine wpAny_bind (wpAny_binaryOp1_none (nm := "add") ha hb noFill_list_add ?_)
  refine wpAny_bind (wpAny_of_eq seq_iadd ?_)
  exact wpAny_bind (wpAny_rule hc)
end
section
variable {w : World} {h₀ h : Heap} {L : Addr} {m : Str → Option Value} {fm : FM} {l l' : LG} {C : Cx} {env : Env} {k k' : Nat} {A : Around}
theorem Ls.tail {a : Addr} {xs : List AV} {p : Addr × AO} (h : Ls l a xs) : Ls (p :: l) a xs := by
  cases h with
  | l g => exact .l g.tail
  | r g => exact .r g.tail
-- a name stored anew in place
theorem Ex_augN {x : Str} {op : Operator} {e : PySem.Expr} {pt p : Pos} {r : List Stmt} {P : AF → FM → LG → Prop} {old : AV} (eo : fm.lookup x = some old) (h : Ev C env fm l e fun b l₁ => Io C fm l₁ op old b fun c l₂ => Ex C env ((x, c) :: fm) l₂ r P)
    (hL : env.locals = C.L := by rfl) (hk : env.scope.kind = .function := by rfl) (hx : env.kindOf x = some .local := by rfl) (hp : (env.scope.kind == .class || (env.scope.kind == .module && env.locals != env.globals)) = false := by rfl) : Ex C env fm l (.AugAssign (.Name x pt) op e p :: r) P := .mk fun s ⟨m, hs⟩ => by
  obtain ⟨F, fh⟩ := hs.fr
  obtain ⟨v, hv, d⟩ := fh x old eo
  refine wpAny_execs_cons (wpAny_AugAssign_Name (wpAny_loadName_local hk hx (hL ▸ F.ns) hv (h.go hs fun b l₁ u s₁ q db H₁ e₁ => up e₁ (wpAny_mono (q.run m s₁ v u H₁ d db) (fun c s₂ ⟨ca, l₂, q₂, dc, H₂, e₂⟩ => ?_) fun _ _ x => x))))
  refine up (e₁.trans e₂) (wpAny_mono (st_name (P := fun fm' l' => fm' = (x, ca) :: fm ∧ l' = l₂) ⟨m, H₂⟩ dc ⟨rfl, rfl⟩ hL hx hp) (fun _ s₃ ⟨fm₃, l₃, ⟨e1, e2⟩, H₃, e₃⟩ => ?_) fun _ _ x => x)
  subst e1; subst e2
  exact Ex.on q₂ H₃ ((e₁.trans e₂).trans e₃)
theorem Cp_eqb {x y c : Bool} {P : Bool → LG → Prop} (e : (x == y) = c) (h : P c l) : Cp C fm l .Eq (.bool x) (.bool y) P := Cp_of (c := c) (fun s v u Q E d d' q => by cases d; cases d'; exact PyProof.Rows.eq_bool (e ▸ q)) h
-- lists joined
theorem iadd_listH {prog : Program} {A : Around} {E : Value → Shared → Prop} {s : Shared} {D b : Addr} {news news' : List (Addr × Obj)} {its its2 its' : Array Value} {n n' n2 : Nat} {Q : Value → Shared → Prop} (F : Fr h₀ L s.heap m) (N : News h₀ L s.heap news) (hb : s.heap.get? b = some (W.listOf its2 n2))
    (e : its ++ its2 = its') (en : (if its'.size == its.size then n else n + 1) = n') (U : Upd D (W.listOf its n) (W.listOf its' n') news news') (hz : its.size + its2.size ≤ 1000)
    (h : ∀ h', Fr h₀ L h' m → News h₀ L h' news' → Q (.ref D) { s with heap := h' }) : wpAny (model prog w) A (inplaceOp .Add (.ref D) (.ref b)) Q E s := by
  subst e
  subst en
  obtain ⟨pre, post, rfl, rfl, a, c⟩ := U.split
  have z := N (D, W.listOf its n) (List.mem_append.mpr (.inr (.head _)))
  have hd : ¬(!its.isEmpty && Builtin.List.listTooLong (its.size + its2.size)) = true := by
    have : Builtin.List.listTooLong (its.size + its2.size) = false := by
      unfold Builtin.List.listTooLong; rw [sizeLine_eq]; exact decide_eq_false (by omega)
    rw [this, Bool.and_false]; exact Bool.false_ne_true
  refine iadd_call ⟨_, z.1, rfl⟩ ⟨_, hb, rfl⟩ ?_
  refine call_meets PySem.F.slot_list_iadd ⟨_, z.1, rfl⟩ PySem.F.entry_list_iadd (PySem.F.args_list_iadd_2 _ _) (PySem.AutoSeq1.list___iadd___list_list_0 D its n b its2 n2 hd (by rw [sizeLine_eq]; omega) (by rw [sizeLine_eq]; omega)) ⟨z.1, hb, h _ (F.change (Heap.SameBut.update ..) z.2.1 z.2.2) (news_set N a c (Heap.SameBut.update ..) ?_)⟩
  have q := PySem.IsL.update z.1 (fun x => x ++ its2)
  exact q
theorem AVs.app {as bs : List AV} {vs us : List Value} (h : AVs as vs) (g : AVs bs us) : AVs (as ++ bs) (vs ++ us) := by
  induction h with
  | nil => exact g
  | cons d _ ih => exact .cons d ih
theorem Ls.obj {a : Addr} {xs : List AV} {s : Shared} (H : C.K m fm l s) (g : Ls l a xs) : ∃ vs n, s.heap.get? a = some (W.listOf vs.toArray n) ∧ AVs xs vs := by
  cases g with
  | l g => obtain ⟨_, ⟨vs, n, rfl, d⟩, a, _⟩ := H.en _ g.mem; exact ⟨vs, n, a, d⟩
  | r g => obtain ⟨_, ⟨rfl, vs, n, rfl, d⟩, a, _⟩ := H.en _ g.mem; exact ⟨vs, n, a, d⟩
theorem Io_addL {D b : Addr} {xs ys : List AV} {P : AV → LG → Prop} (g : Ls l b ys) (u : Put l D (.lst xs) (.lst (xs ++ ys)) l') (z : xs.length + ys.length ≤ 1000) (h : P (.ref D) l') : Io C fm l .Add (.ref D) (.ref b) P := .mk fun m s v x hs d d' => by
  cases d; cases d'
  obtain ⟨us, nb, hb, db⟩ := g.obj hs
  obtain ⟨o, rest, F, ⟨vs, n, rfl, da⟩, N, nn, oth, back⟩ := hs.upd u
  exact iadd_listH (its' := (vs ++ us).toArray) F N hb (by simp) rfl (.head nn.1.off) (by rw [List.size_toArray, List.size_toArray, da.len, db.len]; exact z) fun h' F' N' => ⟨.ref D, l', h, rfl, back h' _ ⟨_, _, rfl, da.app db⟩ F' N', hp_same s h' _⟩
theorem Cl_extend {D b : Addr} {xs ys : List AV} {P : AV → LG → Prop} (g : Ls l b ys) (u : Put l D (.lst xs) (.lst (xs ++ ys)) l') (z : xs.length + ys.length ≤ 1000) (h : P .none l') : Cl C fm l (.builtin "list.extend") [.ref D, .ref b] P := .mk fun m s vs hs d => by
  cases d with
  | cons d1 d => cases d with
    | cons d2 d =>
    cases d
    cases d1
    cases d2
    obtain ⟨us, nb, hb, db⟩ := g.obj hs
    obtain ⟨o, rest, F, ⟨vs, n, rfl, da⟩, N, nn, oth, back⟩ := hs.upd u
    refine extend_in (own := []) (its2 := us.toArray) F N (fun p hp => nomatch hp) (fun p hp => nn.1.off p hp) hb (fun h' n' F' N' => ⟨.none, l', h, rfl, back h' _ ⟨_, n', rfl, da.app db⟩ F' N', hp_same s h' _⟩) ?_
    rw [List.size_toArray, da.len, db.len]
    exact Nat.le_trans z (by rw [sizeLine_eq]; exact Nat.le_of_ble_eq_true rfl)
theorem MtB_extend {D : Addr} {xs : List AV} (g : Get l D (.lst xs)) : MtB C fm l (.ref D) "extend" "list.extend" := .mk fun m s v pl Q E hs d q => by
  cases d
  obtain ⟨_, ⟨vs, n, rfl, _⟩, a⟩ := hs.en _ g.mem
  exact listMethod_K (h₀ := C.h₀) (L := C.L) (news := [(D, W.listOf vs.toArray n)]) (fun p hp => by rw [List.mem_singleton.mp hp]; exact a) (.head _) PySem.F.slot_list_extend PySem.F.type_list_extend q
theorem Bo_addL {a b : Addr} {xs ys : List AV} {P : AV → LG → Prop} (g : Ls l a xs) (g' : Ls l b ys) (z : xs.length + ys.length ≤ 1000) (h : ∀ x, P (.ref x) ((x, .lst (xs ++ ys)) :: l)) : Bo C fm l .Add (.ref a) (.ref b) P := .mk fun m s v u hs d d' => by
  cases d; cases d'
  obtain ⟨vs, h1, i1⟩ := g.isList hs
  obtain ⟨us, h2, i2⟩ := g'.isList hs
  obtain ⟨n, F, dn, N, nn, back⟩ := hs.out
  exact add_lists (hsz := by rw [i1.len, i2.len]; exact Nat.le_trans z (by rw [sizeLine_eq]; exact Nat.le_of_ble_eq_true rfl)) F N h1 h2 fun h' F' N' => ⟨.ref _, _, h _, rfl, Holds.new (x := .lst (xs ++ ys)) back dn F' ⟨vs ++ us, 0, rfl, i1.app i2⟩ N' (allLt_of fun p hp => Heap.lt_size (N p hp).1), hp_same s h' _⟩
-- the first part of a text
theorem Ev_slcU {vx sx : PySem.Expr} {p1 p : Pos} {P : AV → LG → Prop} (h : Ev C env fm l vx fun a l₁ => ∃ x, a = .str x ∧ x.length ≤ 1000 ∧ Ev C env fm l₁ sx fun b l₂ => ∃ j, b = .int j ∧ P (.str (Txt.slice x none (some j))) l₂)
    (hs' : ∀ x t a, subscripted (.Slice none (some sx) none p1) false (.str x t) (.ref a) = operate [.ref a, .str x t] (getItem (.str x t) (.ref a)) := by intros; with_unfolding_all rfl) (hg : ∀ x t r, letTemporaryGo vx (.str x t) r = pure () := by intros; with_unfolding_all rfl) : Ev C env fm l (.Subscript vx (.Slice none (some sx) none p1) p) P := .mk fun m s hs =>
  Subscript_ (h.go hs fun a l₁ v s₁ ⟨x, ea, hz, q⟩ d H₁ e₁ => by
    subst ea
    obtain ⟨t, rfl⟩ := d
    refine up e₁ (wpAny_Slice (evalPart_none_step (evalPart_some_step (q.go H₁ fun b l₂ u s₂ ⟨j, eb, q₂⟩ d₂ H₂ e₂ => evalPart_none_step ?_))))
    subst eb
    obtain ⟨tj, rfl⟩ := d₂
    obtain ⟨n, F, dn, N, nn, back⟩ := H₂.out
    exact up ((e₁.trans e₂).trans (hp_same s₂ _ _)) (slice_strN_ns F N (fun h' t' k F' N' => ⟨_, l₂, q₂, ⟨t', rfl⟩, back h' F' N', (e₁.trans e₂).trans (hp_same s₂ h' k)⟩) (hs' _ _ _) (hg _ _) (Nat.le_trans hz (by rw [sizeLine_eq]; exact Nat.le_of_ble_eq_true rfl))))
-- what is not wanted is dropped
inductive DrX (P : AF → FM → LG → Prop) (af : AF) : FM → LG → Prop
  | mk {fm fm' : FM} {l l' : LG} : FSub fm' fm → l'.Sublist l → P af fm' l' → DrX P af fm l
  | re {fm : FM} {l l' : LG} {a : Addr} {al al' : List (Str × AV)} : Put l a (.attrs al) (.attrs al') l' → al = al' → DrX P af fm l' → DrX P af fm l
  | th {fm : FM} {l l' : LG} {a : Addr} {o : Obj} {al : List AV} : Put l a (.rl o al) (.lst al) l' → DrX P af fm l' → DrX P af fm l
  | front {fm : FM} {l l' : LG} {a : Addr} {x : AO} : Take l a x l' → DrX P af fm ((a, x) :: l') → DrX P af fm l
theorem DrX.out {P : AF → FM → LG → Prop} {af : AF} (d : DrX P af fm l) : Holds w h₀ L m fm l h → ∃ fm' l', P af fm' l' ∧ Holds w h₀ L m fm' l' h := by
  induction d with
  | mk f s p => exact fun H => ⟨_, _, p, (H.fsub f).sub s⟩
  | re u e _ ih => exact fun H => ih (Holds.conv u (fun _ d => e ▸ d) H)
  | th u _ ih => exact fun H => ih (Holds.conv u (fun _ d => by obtain ⟨rfl, d⟩ := d; exact d) H)
  | front t _ ih => exact fun H => ih (H.perm t.perm)
theorem Ex_drop {ss : List Stmt} {P : AF → FM → LG → Prop} (h : Ex C env fm l ss (DrX P)) : Ex C env fm l ss P := .mk fun s hs =>
  wpAny_mono (h.run s hs) (fun f s' ⟨af, fm', l', q, d, ⟨m, H⟩, e⟩ => let ⟨fm₂, l₂, p, H'⟩ := q.out H; ⟨af, fm₂, l₂, p, d, ⟨m, H'⟩, e⟩) fun _ _ x => x
theorem Ex_mono {ss : List Stmt} {P Q : AF → FM → LG → Prop} (h : Ex C env fm l ss P) (i : ∀ af fm l, P af fm l → Q af fm l) : Ex C env fm l ss Q := .mk fun s hs =>
  wpAny_mono (h.run s hs) (fun f s' ⟨af, fm', l', q, d, H, e⟩ => ⟨af, fm', l', i _ _ _ q, d, H, e⟩) fun _ _ x => x
/-- a loop whose turn leaves all as it was, but for its own name -/
inductive Kept (fm : FM) (l : LG) : AF → FM → LG → Prop
  | n {fm' : FM} : FSub fm fm' → Kept fm l .next fm' l
  | c {fm' : FM} : FSub fm fm' → Kept fm l .cont fm' l
theorem Fo_same {x : Str} {px : Pos} {body : List Stmt} {src : LG → Prop} {P : AF → FM → LG → Prop} (hs : src l) (fin : ∀ fm', FSub fm fm' → P .next fm' l) : ∀ {items : List AV} (_ : ∀ a ∈ items, ∀ I it, Ex C env ((x, a) :: fm) ((I, .obj it) :: l) body (Kept fm ((I, .obj it) :: l))) (_ : env.locals = C.L := by rfl) (_ : env.kindOf x = some .local := by rfl) (_ : (env.scope.kind == .class || (env.scope.kind == .module && env.locals != env.globals)) = false := by rfl) {fm' : FM}, FSub fm fm' → Fo C env (.Name x px) body src P items fm' l
  | [], _, _, _, _, fm', f => fin fm' f
  | a :: r, turn, z1, z2, z3, fm', f => Fo.cons (hL := z1) (hx := z2) (hp := z3) fun I it => by
    have f' : FSub ((x, a) :: fm) ((x, a) :: fm') := fun y bv q => by
      rw [List.lookup_cons] at q ⊢
      by_cases z : y = x
      · subst z; rw [beq_self_eq_true] at q ⊢; exact q
      · rw [show (y == x) = false from beq_eq_false_iff_ne.mpr z] at q ⊢; exact f y bv q
    refine Ex_mono (Ex_fsub f' (turn a (.head _) I it)) fun af fm₂ l₂ z => ?_
    cases z with
    | n g => exact .next .head ⟨hs, Fo_same hs fin (fun a ha => turn a (.tail _ ha)) z1 z2 z3 g⟩
    | c g => exact .cont .head ⟨hs, Fo_same hs fin (fun a ha => turn a (.tail _ ha)) z1 z2 z3 g⟩
theorem Wh_drop {fm' : FM} {t : PySem.Expr} {b : List Stmt} {P : AF → FM → LG → Prop} (f : FSub fm' fm) (s : l'.Sublist l) (h : Wh C env fm' l' t b P) : Wh C env fm l t b P := .mk fun x ⟨m, hs⟩ => h.run x ⟨m, (Holds.fsub hs f).sub s⟩
theorem FSub.refl (b : FM) : FSub b b := fun _ _ h => h
theorem FSub.of : ∀ {a b : FM}, (∀ p ∈ a, b.lookup p.1 = some p.2) → FSub a b
  | [], _, _ => .nil
  | (x, _) :: _, _, h => .cons (h _ (.head _)) (FSub.of fun p hp => h p (.tail _ hp))
end
section
variable {w : World} {h₀ h : Heap} {L : Addr} {m : Str → Option Value} {fm : FM} {l l' : LG} {C : Cx} {env : Env} {k k' : Nat} {A : Around}
theorem Fo_keep {x : Str} {px : Pos} {body : List Stmt} {src : LG → Prop} {P : AF → FM → LG → Prop} {items : List AV} (hs : src l) (fin : ∀ fm', FSub fm fm' → P .next fm' l) (turn : ∀ a ∈ items, ∀ I it, Ex C env ((x, a) :: fm) ((I, .obj it) :: l) body (Kept fm ((I, .obj it) :: l)))
    (z1 : env.locals = C.L := by rfl) (z2 : env.kindOf x = some .local := by rfl) (z3 : (env.scope.kind == .class || (env.scope.kind == .module && env.locals != env.globals)) = false := by rfl) : Fo C env (.Name x px) body src P items fm l := Fo_same hs fin turn z1 z2 z3 (FSub.refl _)
/-- a cell told anew -/
inductive PutC (l : LG) (c : Addr) (z : AO) (X : LG → Prop) : Prop
  | z {l' : LG} : Put l c .cell0 z l' → X l' → PutC l c z X
  | s {b : AV} {l' : LG} : Put l c (.cell b) z l' → X l' → PutC l c z X
theorem PutC.out {c : Addr} {z : AO} {X : LG → Prop} (h : PutC l c z X) : ∃ y l', (y = .cell0 ∨ ∃ b, y = .cell b) ∧ Put l c y z l' ∧ X l' := by
  cases h with
  | z u x => exact ⟨_, _, .inl rfl, u, x⟩
  | s u x => exact ⟨_, _, .inr ⟨_, rfl⟩, u, x⟩
theorem Ex_asgC {x : Str} {c : Addr} {e : PySem.Expr} {px p : Pos} {r : List Stmt} {P : AF → FM → LG → Prop} (hc : env.cells.lookup x = some c) (h : Ev C env fm l e fun av l₁ => PutC l₁ c (.cell av) fun l₂ => Ex C env fm l₂ r P) (hk : env.scope.kind = .function := by rfl) (hx : env.kindOf x = some .cell := by rfl)
    (hs' : swapsWith e (some (.Name x px)) p.line env = pure false := by rfl) : Ex C env fm l (.Assign [.Name x px] e p :: r) P := .mk fun s ⟨m, hs⟩ => by
  refine wpAny_execs_cons (wpAny_Assign_Name (h.go hs fun av l₁ v s₁ q d H₁ e₁ => ?_) hs')
  obtain ⟨y, l₂, hy, u, q⟩ := q.out
  exact up e₁ (wpAny_mono (st_cell (P := fun l' => l' = l₂) H₁ d u hy rfl hk hx hc) (fun _ s₂ ⟨l₃, e3, H₂, e₂⟩ => by subst e3; exact Ex.on q ⟨m, H₂⟩ (e₁.trans e₂)) fun _ _ x => x)
theorem Ex_augC {x : Str} {c : Addr} {op : Operator} {e : PySem.Expr} {pt p : Pos} {r : List Stmt} {P : AF → FM → LG → Prop} {old : AV} (hc : env.cells.lookup x = some c) (g : Get l c (.cell old)) (h : Ev C env fm l e fun b l₁ => Io C fm l₁ op old b fun av l₂ => PutC l₂ c (.cell av) fun l₃ => Ex C env fm l₃ r P)
    (hk : env.scope.kind = .function := by rfl) (hx : env.kindOf x = some .cell := by rfl) : Ex C env fm l (.AugAssign (.Name x pt) op e p :: r) P := .mk fun s ⟨m, hs⟩ => by
  obtain ⟨o, ⟨v, hv, d⟩, hg, _⟩ := hs.en _ g.mem
  refine wpAny_execs_cons (wpAny_AugAssign_Name (wpAny_loadName_cell hk hx hc ⟨o, hg, hv⟩ (h.go hs fun b l₁ u s₁ q db H₁ e₁ => up e₁ (wpAny_mono (q.run m s₁ v u H₁ d db) (fun c s₂ ⟨ca, l₂, q₂, dc, H₂, e₂⟩ => ?_) fun _ _ x => x))))
  obtain ⟨y, l₃, hy, u₃, q₃⟩ := q₂.out
  refine up (e₁.trans e₂) (wpAny_mono (st_cell (P := fun l' => l' = l₃) H₂ dc u₃ hy rfl hk hx hc) (fun _ s₃ ⟨l₄, e4, H₃, e₃⟩ => ?_) fun _ _ x => x)
  subst e4
  exact Ex.on q₃ ⟨m, H₃⟩ ((e₁.trans e₂).trans e₃)
theorem Tg_cell {x : Str} {c : Addr} {p : Pos} {a : AV} {P : FM → LG → Prop} (hc : env.cells.lookup x = some c) (h : PutC l c (.cell a) fun l₂ => P fm l₂) (hk : env.scope.kind = .function := by rfl) (hx : env.kindOf x = some .cell := by rfl) : Tg C env fm l (.Name x p) a P := .mk fun s v ⟨m, hs⟩ d => by
  obtain ⟨y, l₂, hy, u, q⟩ := h.out
  exact wpAny_assign_Name (wpAny_mono (st_cell (P := fun l' => l' = l₂) hs d u hy rfl hk hx hc) (fun _ s₂ ⟨l₃, e3, H₂, e₂⟩ => by subst e3; exact ⟨fm, _, q, ⟨m, H₂⟩, e₂⟩) fun _ _ x => x)
/-- a place: its parent, its number, what it uses -/
structure PlF (l : LG) (p q r : Addr) (num : Int) (us : List Int) : Prop where
  num : Fld l p 127 "number" (.int num)
  par : Fld l p 127 "parent" (.ref q)
  root : Fld l p 127 "root" (.ref r)
  gen : Fld l p 127 "generic" .none
  names : ∃ nd, Fld l p 127 "names" (.ref nd) ∧ Rd l nd (.sd [])
  uses : ∃ ul o, Fld l p 127 "uses" (.ref ul) ∧ Get l ul (.rl o [])
  ut : ∃ utl o, Fld l p 127 "use_types" (.ref utl) ∧ Get l utl (.rl o (us.map .int))
theorem PlF.tail {p q r : Addr} {num : Int} {us : List Int} {e : Addr × AO} (h : PlF l p q r num us) : PlF (e :: l) p q r num us :=
  let ⟨a, b, c, d, ⟨_, f, f'⟩, ⟨_, _, g, g'⟩, ⟨_, _, i, i'⟩⟩ := h
  ⟨a.tail, b.tail, c.tail, d.tail, ⟨_, f.tail, f'.tail⟩, ⟨_, _, g.tail, g'.tail⟩, ⟨_, _, i.tail, i'.tail⟩⟩
/-- the root region -/
structure RtF (l : LG) (r : Addr) (kn : List (Str × AV)) (kt : List (Int × AV)) : Prop where
  num : Fld l r 127 "number" (.int 1)
  par : Fld l r 127 "parent" .none
  root : Fld l r 127 "root" (.ref r)
  gen : Fld l r 127 "generic" .none
  names : ∃ nd, Fld l r 127 "names" (.ref nd) ∧ Rd l nd (.sd kn)
  uses : ∃ ul o, Fld l r 127 "uses" (.ref ul) ∧ Get l ul (.rl o [])
  ut : ∃ utl o, Fld l r 127 "use_types" (.ref utl) ∧ Get l utl (.rl o [])
  homes : ∃ td, Fld l r 127 "type_homes" (.ref td) ∧ Rd l td (.idd kt)
theorem RtF.tail {r : Addr} {kn : List (Str × AV)} {kt : List (Int × AV)} {e : Addr × AO} (h : RtF l r kn kt) : RtF (e :: l) r kn kt :=
  let ⟨a, b, c, d, ⟨_, f, f'⟩, ⟨_, _, g, g'⟩, ⟨_, _, i, i'⟩, ⟨_, j, j'⟩⟩ := h
  ⟨a.tail, b.tail, c.tail, d.tail, ⟨_, f.tail, f'.tail⟩, ⟨_, _, g.tail, g'.tail⟩, ⟨_, _, i.tail, i'.tail⟩, ⟨_, j.tail, j'.tail⟩⟩
/-- the places from p out to the root -/
inductive Ch (l : LG) (r : Addr) : Addr → List (Int × List Int) → Prop
  | root : Ch l r r []
  | up {p q : Addr} {num : Int} {us : List Int} {c : List (Int × List Int)} : PlF l p q r num us → Ch l r q c → Ch l r p ((num, us) :: c)
theorem Ch.tail {r p : Addr} {c : List (Int × List Int)} {e : Addr × AO} (h : Ch l r p c) : Ch (e :: l) r p c := by
  induction h with
  | root => exact .root
  | up a _ ih => exact .up a.tail ih
theorem Ch.rt {r p : Addr} {c : List (Int × List Int)} {kn : List (Str × AV)} {kt : List (Int × AV)} (h : Ch l r p c) (R : RtF l r kn kt) : Fld l p 127 "root" (.ref r) := by
  cases h with
  | root => exact R.root
  | up a _ => exact a.root
/-- every entry of the one stands in the other -/
def GSub (a b : LG) : Prop := ∀ x y, Get a x y → Get b x y
theorem GSub.refl (a : LG) : GSub a a := fun _ _ g => g
theorem GSub.trans {a b c : LG} (f : GSub a b) (g : GSub b c) : GSub a c := fun _ _ z => g _ _ (f _ _ z)
theorem GSub.tail {a b : LG} {p : Addr × AO} (f : GSub a b) : GSub a (p :: b) := fun _ _ g => (f _ _ g).tail
theorem GSub.cons {a b : LG} {p : Addr × AO} (f : GSub a b) : GSub (p :: a) (p :: b) := fun x y g => by
  cases g with
  | head => exact .head
  | tail g => exact (f _ _ g).tail
theorem GSub.app {a b : LG} : GSub a (a ++ b) := fun _ _ g => g.app
theorem GSub.appR : ∀ {a b : LG}, GSub b (a ++ b)
  | [], _ => fun _ _ g => g
  | _ :: _, _ => GSub.appR.tail
theorem FldF.sub {x K : Addr} {name : Str} {b : AV} (f : FldF l x K name b) (s : GSub l l') : FldF l' x K name b := let ⟨dx, al, a, c, e⟩ := f; ⟨dx, al, s _ _ a, s _ _ c, e⟩
theorem TypE.mono {e s t : Addr} (h : TypE l e s t) (g : GSub l l') : TypE l' e s t := ⟨h.1.sub g, h.2.sub g, h.3.sub g, h.4.sub g, h.5.sub g, h.6.sub g, h.7.sub g, h.8.sub g⟩
theorem PkgF.sub {tg : Bool} {D : PkgD} (h : PkgF l tg D) (g : GSub l l') : PkgF l' tg D where
  lx := g _ _ h.lx
  kind := h.kind.sub g
  reg := h.reg.sub g
  data := h.data.sub g
  over := h.over.sub g
  ready := h.ready.sub g
  nR := h.nR.sub g
  names := h.names.sub g
  nd := g _ _ h.nd
  l1 := g _ _ h.l1
  l2 := g _ _ h.l2
  e1 := h.e1.mono g
  e2 := h.e2.mono g
  tk := h.tk.sub g
  tn := h.tn.sub g
  tp := h.tp.sub g
  wide := h.wide.sub g
  tag := h.tag.sub g
  tt := g _ _ h.tt
  wk := fun q => ⟨(h.wk q).1.sub g, (h.wk q).2.sub g⟩
theorem PkgF.tail {tg : Bool} {D : PkgD} {p : Addr × AO} (h : PkgF l tg D) : PkgF (p :: l) tg D := h.sub (GSub.refl _).tail
theorem TypE.tail {e s t : Addr} {p : Addr × AO} (h : TypE l e s t) : TypE (p :: l) e s t := h.mono (GSub.refl _).tail
end
section
variable {m : Str → Option Value} {fm : FM} {l l' : LG} {C : Cx} {env : Env} {k k' : Nat}
theorem Cp_eqns {x : Str} {P : Bool → LG → Prop} (h : P false l) : Cp C fm l .Eq .none (.str x) P := Cp_of (c := false) (fun s v u Q E d d' q => by cases d; obtain ⟨t, rfl⟩ := d'; exact PySem.EqNone.eq_none_str q) h
theorem Ev_notB {e : PySem.Expr} {p : Pos} {P : AV → LG → Prop} (h : Ev C env fm l e fun a l' => ∃ b, a = .bool b ∧ P (.bool (!b)) l') : Ev C env fm l (.UnaryOp .Not e p) P := .mk fun m s hs =>
  wpAny_UnaryOp (h.go hs fun a l' v s' ⟨b, ea, q⟩ d H e => by
    subst ea
    cases d
    exact not_value (wpAny_truthy_bool ⟨_, _, q, rfl, H, e⟩))
theorem Ev_or2 {x y : PySem.Expr} {p : Pos} {P : AV → LG → Prop} (h : Ev C env fm l x fun a l₁ => ∃ b, a = .bool b ∧ IfP (P (.bool true) l₁) (Ev C env fm l₁ y P) b) : Ev C env fm l (.BoolOp .Or [x, y] p) P := .mk fun m s hs =>
  wpAny_Or2 (h.go hs fun a l' v s' ⟨b, ea, q⟩ d H e => by
    subst ea
    cases d
    refine wpAny_truthy_bool ?_
    cases q with
    | t q => exact ⟨_, _, q, rfl, H, e⟩
    | f q => exact q.on H e)
theorem Ev_and2 {x y : PySem.Expr} {p : Pos} {P : AV → LG → Prop} (h : Ev C env fm l x fun a l₁ => ∃ b, a = .bool b ∧ IfP (Ev C env fm l₁ y P) (P (.bool false) l₁) b) : Ev C env fm l (.BoolOp .And [x, y] p) P := .mk fun m s hs =>
  wpAny_And2 (h.go hs fun a l' v s' ⟨b, ea, q⟩ d H e => by
    subst ea
    cases d
    refine wpAny_truthy_bool ?_
    cases q with
    | t q => exact q.on H e
    | f q => exact ⟨_, _, q, rfl, H, e⟩)
end
section
variable {m : Str → Option Value} {fm : FM} {l l' : LG} {C : Cx} {env : Env} {k k' : Nat}
structure Gi (C : Cx) (fm : FM) (l : LG) (a b : AV) (P : AV → LG → Prop) : Prop where
  run : ∀ m s v u, C.K m fm l s → a.den v → b.den u → wpAny (model Pg C.w) C.A (getItem v u) (C.vp m fm P s) (C.er s) s
theorem Gi_idd {d : Addr} {kv : List (Int × AV)} {n : Int} {b : AV} {P : AV → LG → Prop} (g : Rd l d (.idd kv)) (e : vat kv n = some b) (h : P b l) : Gi C fm l (.ref d) (.int n) P := .mk fun m s v u hs d1 d' => by
  cases d1; obtain ⟨tk, rfl⟩ := d'
  obtain ⟨ob, ⟨lo, kv', hd, dk⟩, a⟩ := g.en hs
  have N : News C.h₀ C.L s.heap [(d, ob)] := fun p hp => by rw [List.mem_singleton.mp hp]; exact a
  obtain ⟨v, hv, db⟩ := dk.some e
  exact wpAny_getItem_of (knd := intKind _ _) (intKind_is _ _ _ _) (kda_dict N (.head _) hd).mapOf hv ⟨b, l, h, db, hs, tk_same s _⟩
theorem Gi_sd {d : Addr} {kv : List (Str × AV)} {n : Str} {b : AV} {P : AV → LG → Prop} (g : Rd l d (.sd kv)) (e : vat kv n = some b) (h : P b l) : Gi C fm l (.ref d) (.str n) P := .mk fun m s v u hs d1 d' => by
  cases d1; obtain ⟨tk, rfl⟩ := d'
  obtain ⟨ob, ⟨lo, kv', hd, dk⟩, a⟩ := g.en hs
  have N : News C.h₀ C.L s.heap [(d, ob)] := fun p hp => by rw [List.mem_singleton.mp hp]; exact a
  obtain ⟨v, hv, db⟩ := dk.some e
  exact wpAny_getItem_of (knd := strKind _ _) (strKind_is _ _ _ _) (kda_dict N (.head _) hd).mapOf hv ⟨b, l, h, db, hs, tk_same s _⟩
theorem Ex_augI {o i e : PySem.Expr} {op : Operator} {pt p : Pos} {r : List Stmt} {P : AF → FM → LG → Prop}
    (h : Ev C env fm l o fun a l₁ => Ev C env fm l₁ i fun b l₂ => Gi C fm l₂ a b fun old l₃ => Ev C env fm l₃ e fun c l₄ => Io C fm l₄ op old c fun d l₅ => Si C fm l₅ a b d fun l₆ => Ex C env fm l₆ r P)
    (hi : ∀ ov iv new, augStore i ov iv new = (do holding [new, ov, iv] (setItem ov iv new); release [new, ov, iv] []; pure .next) := by intros; rfl) : Ex C env fm l (.AugAssign (.Subscript o i pt) op e p :: r) P := .mk fun s ⟨m, hs⟩ =>
  wpAny_execs_cons (wpAny_AugAssign_SubscriptAny (h.go hs fun a l₁ v s₁ q d H₁ e₁ => up e₁ (q.go H₁ fun b l₂ u s₂ q₂ d₂ H₂ e₂ => up (e₁.trans e₂) (wpAny_mono (q₂.run m s₂ v u H₂ d d₂) (fun ov s₃ ⟨old, l₃, q₃, d₃, H₃, e₃⟩ =>
    have f₃ := (e₁.trans e₂).trans e₃
    up f₃ (q₃.go H₃ fun c l₄ cv s₄ q₄ d₄ H₄ e₄ => have f₄ := f₃.trans e₄; up f₄ (wpAny_mono (q₄.run m s₄ ov cv H₄ d₃ d₄) (fun nv s₅ ⟨nw, l₅, q₅, d₅, H₅, e₅⟩ => have f₅ := f₄.trans e₅; up f₅ (wpAny_mono (q₅.run m s₅ v u nv H₅ d d₂ d₅) (fun _ s₆ ⟨l₆, q₆, H₆, e₆⟩ => Ex.on q₆ ⟨m, H₆⟩ (f₅.trans e₆)) fun _ _ x => x)) fun _ _ x => x))) fun _ _ x => x))) hi)
theorem Bo_modi {x y z : Int} {P : AV → LG → Prop} (hy : y ≠ 0) (e : x.fmod y = z) (h : P (.int z) l) : Bo C fm l .Mod (.int x) (.int y) P := .mk fun m s v u hs d d' => by
  obtain ⟨t, rfl⟩ := d; obtain ⟨t', rfl⟩ := d'
  exact PyProof.Rows.mod_int' hy ⟨.int z, l, h, ⟨_, by rw [e]⟩, hs, tk_same s _⟩
theorem Su_kft {vx sx : PySem.Expr} {t : Addr} {o : Obj} {its : Array Value} {c : Nat} {n : Int} {P : AV → LG → Prop} (G : Good C k) (e : (KF C.w.params).lookup t = some o) (ec : o.cls = .type "tuple") (ed : o.data = .seq its c) (ha : its.toList.all (fun v => match v with | .int .. => true | _ => false) = true) (hz : its.size ≤ 1000) (h0 : 0 ≤ n) (h1 : n < (its.size : Int)) (h : ∀ x, P (.int x) l)
    (hs' : ∀ a k u, subscripted sx false (.ref a) (.int k u) = operate [.ref a, .int k u] (getItem (.ref a) (.int k u)) := by intros; with_unfolding_all rfl) : Su C env fm l vx sx (.val (.ref t)) (.int n) P := .mk fun m s v u hs d d' => by
  cases d; obtain ⟨tk, rfl⟩ := d'
  obtain ⟨F, _⟩ := hs.fr
  have ht := kf_tup G.X F e ec ed
  have hi : n.toNat < its.size := by omega
  have hm := List.all_eq_true.mp ha its[n.toNat] (Array.mem_toList_iff.mpr (Array.getElem_mem hi))
  obtain ⟨x, tx, hx⟩ : ∃ x tx, its[n.toNat] = .int x tx := by
    revert hm
    cases its[n.toNat] <;> intro hm <;> first | exact ⟨_, _, rfl⟩ | cases hm
  exact tail_any ht.typeIs slot_tuple_getitem.lookup (PyProof.Rows.getItem_tuple ht (by omega) (by omega) (PySem.seqIndex_of h0 (by omega)) (x := .int x tx) (by rw [Array.getElem?_eq_getElem hi, hx]) ⟨.int x, l, h x, ⟨_, rfl⟩, hs, .refl s⟩) (hs' _ _ _)
theorem Cl_lenK {t : Addr} {o : Obj} {its : Array Value} {c : Nat} {n : Int} {P : AV → LG → Prop} (G : Good C k) (e : (KF C.w.params).lookup t = some o) (ec : o.cls = .type "tuple") (ed : o.data = .seq its c) (hz : its.size ≤ 1000) (en : (its.size : Int) = n) (h : P (.int n) l) : Cl C fm l (.builtin "len") [.val (.ref t)] P := .mk fun m s vs hs d => by
  cases d with
  | cons d1 d =>
  cases d
  cases d1
  obtain ⟨F, _⟩ := hs.fr
  exact len_tuple (kf_tup G.X F e ec ed) (by omega) ⟨.int n, l, h, ⟨_, by rw [en]⟩, hs, ⟨rfl, rfl, rfl⟩⟩
theorem Put.same' {a : Addr} {x y : AO} (u : Put l a x y l') (e : x = y) : l' = l := by
  induction u with
  | head => subst e; rfl
  | tail _ ih => rw [ih e]
theorem Put.same {a : Addr} {x : AO} (u : Put l a x x l') : l' = l := u.same' rfl
def addU (us : List Int) (u : Int) : List Int := if us.any (fun x => x == u) then us else us ++ [u]
theorem Ch.gen {r p : Addr} {c : List (Int × List Int)} {kn : List (Str × AV)} {kt : List (Int × AV)} (h : Ch l r p c) (R : RtF l r kn kt) : Fld l p 127 "generic" .none := by
  cases h with
  | root => exact R.gen
  | up a _ => exact a.gen
end
section
variable {prog : Program} {w : World} {A₀ : Around} {E : Value → Shared → Prop} {s' : Shared} {h₀ h : Heap} {outer : List Env} {L a e t : Addr} {m : Str → Option Value} {name : Str} {scope : Scope} {cd : Value}
  {vs : List Value} {b₀ : Stmt} {suite : List Stmt} {pos np : Pos} {rest : List ExceptHandler} {Q : Flow → Shared → Prop} {news : List (Addr × Obj)} {KF : Frag} {C : Addr}
  {p : Program} {loose : List Str} {mean : ExcName → Option Value} {mg mb : Str → Option Value} {x : Str} {nm qn : Str} {N : Addr} {bs bm : List Value} {hdct : Bool} {sn : List Str} {sub : List Value} {ab : Bool} {col : Option Bool} {dd : Option Addr} {k0 k1 k2 k3 k5 : Option Value} {newId : String}
end
section
variable {M : Model} {A : Around} {E : Value → Shared → Prop} {s' : Shared} {base g : Heap} {outer : List Env} {L a e t : Addr} {m : Str → Option Value} {name : Str} {scope : Scope} {cd : Value} {Q : Unit → Shared → Prop} {news all : List (Addr × Obj)}
theorem leave_own {oe ot : Obj} {ws : Array Value} {vs : List Value} {n : Nat} (K : Below A base outer g) (F : Fr g L s'.heap m) (N : News g L s'.heap all) (he : (e, oe) ∈ all) (ht : (t, ot) ∈ all)
    (hd : oe.data = .fields ws) (h1 : ws[1]? = some .none) (h0 : ws[0]? = some (.ref t)) (tc : ot.cls = .type "tuple") (td : ot.data = .seq vs.toArray n) (sub : ∀ q ∈ news, q ∈ all) (ne : ∀ q ∈ news, q.1 ≠ e ∧ q.1 ≠ t)
    (hQ : ∀ h', RaisedK base outer e oe.cls t vs news h' → g.UpToSlots h' → Q () { s' with heap := h' }) (hk : scope.kind = .function := by rfl) :
    wpAny M (A.deeper (envOf name scope L a cd)) (leaving (envOf name scope L a cd) (.ref e)) Q E s' := by
  have K' := K.push (name := name) (a := a) (cd := cd) F hk
  have hin : ∀ env ∈ (envOf name scope L a cd :: outer), ∀ b, env.frame = some b → b ∈ e :: t :: (envOf name scope L a cd :: outer).filterMap (·.frame) := fun env hv b hb => .tail _ (.tail _ (List.mem_filterMap.mpr ⟨env, hv, hb⟩))
  have be : base.get? e = none := fresh_of_stays K.stays (N _ he).2.2
  have bt : base.get? t = none := fresh_of_stays K.stays (N _ ht).2.2
  have st : base.StaysIn (hideAll s'.heap (e :: t :: (envOf name scope L a cd :: outer).filterMap (·.frame))) := fun b o q => hideAll_get _ (K'.stays b o q) fun hm => by
    rcases List.mem_cons.mp hm with rfl | hm
    · rw [be] at q; cases q
    rcases List.mem_cons.mp hm with rfl | hm
    · rw [bt] at q; cases q
    rw [(K'.frames.mem hm).1] at q; cases q
  have hl : ∀ q ∈ news, (hideAll s'.heap (e :: t :: (envOf name scope L a cd :: outer).filterMap (·.frame))).get? q.1 = some q.2 ∧ base.get? q.1 = none := fun q hq => by
    have z := N q (sub q hq)
    refine ⟨hideAll_get _ z.1 fun hm => ?_, fresh_of_stays K.stays z.2.2⟩
    rcases List.mem_cons.mp hm with h | hm
    · exact (ne q hq).1 h
    rcases List.mem_cons.mp hm with h | hm
    · exact (ne q hq).2 h
    obtain ⟨env, hv, hf⟩ := List.mem_filterMap.mp hm
    rcases List.mem_cons.mp hv with rfl | hv
    · exact z.2.1 (Option.some.inj hf).symm
    · obtain ⟨o, ho, _⟩ := (K.frames.mem (List.mem_filterMap.mpr ⟨env, hv, hf⟩)).2
      rw [z.2.2] at ho; cases ho
  have hen := hideAll_none (e :: t :: (envOf name scope L a cd :: outer).filterMap (·.frame)) (h := s'.heap) (b := e) (.head _)
  have htn := hideAll_none (e :: t :: (envOf name scope L a cd :: outer).filterMap (·.frame)) (h := s'.heap) (b := t) (.tail _ (.head _))
  refine wpAny_leaving_firstW (a0 := .ref t) K'.stack (funFrames_hide K'.frames hin) rfl (N _ he).1 (fun b o q => of_hideAll _ q) hen hd h1 h0 fun h' hL => ?_
  obtain ⟨k1, ⟨_, _, k2⟩, k3, k4⟩ := hL
  exact hQ h' ⟨⟨_, st, hl, ⟨k1, hen, k2, k3⟩, htn⟩, Heap.TupAt.of_slots ⟨_, _, (N _ ht).1, tc, td⟩ k4⟩ ((Heap.UpToSlots.of_keeps F.keep).trans k4)
end
section
open Sem (wp)
variable {prog : Program} {w : World} {A : Around} {E : Value → Shared → Prop} {h : Heap} {g : Array GenState} {d : Drawn} {t : Nat} {os : OsState}
variable {nm q : Str} {C N : Addr} {bs bm bmB : List Value} {hdct : Bool} {sn : List Str} {sub : List Value} {ab : Bool} {col : Option Bool} {dd : Option Addr} {k0 k1 k2 k3 k5 : Option Value} {B newId initId : String}
theorem chk_new (F : ExcBaseFacts B newId initId bmB) (hb : bm.contains (.type B) = true) {M : Model} {rest : List Value} {Q : Unit → Shared → Prop} (hC : h.get? C = some (excClassObj nm q C N bs bm hdct sn sub ab col dd k0 k1 k2 k3 k5 newId))
    (hq : Q () ⟨h, g, d, t, os⟩) : wpAny M A (checkBuiltinCall newId ⟨.ref C :: rest, []⟩) Q E ⟨h, g, d, t, os⟩ := by
  have hcont : (Value.ref C :: bm).contains (.type B) = true := by rw [List.contains_cons, hb, Bool.or_true]
  have hstar := F.noStar
  simp only [checkBuiltinCall, F.newKind, F.newSplit, F.newRow]
  repeat (first | refine wpAny_loadPart_at hC ?_ | (refine wpAny_isSubtype_exc hC ?_; rw [hcont]) | refine wpAny_staticBase_exc hC ?_ | refine wpAny_madeBy_exc hC ?_ | simp only [bne_self_eq_false, Bool.false_eq_true, if_false] | wp_step)
  exact hq
theorem new_own {R : Result → Shared → Prop} (F : ExcBaseFacts B newId initId bmB) (hb : bm.contains (.type B) = true) (ha : bm.contains (.type "AttributeError") = false) (hn' : bm.contains (.type "NameError") = false) {rest : List Value}
    (hC : h.get? C = some (excClassObj nm q C N bs bm hdct sn sub ab col dd k0 k1 k2 k3 k5 newId))
    (hq : R (.ok (.ret (.ref (h.objs.size + 1)))) ⟨(h.push { cls := .type "tuple", data := .seq rest.toArray }).push
      { cls := .ref C, data := .fields #[.ref h.objs.size, .none, .none, .none, .bool false, .none] }, g, d, t, os⟩) (hrest : rest.length ≤ sizeLine := by size_fits) :
    codeAny (model prog w) A (.builtin newId ⟨.ref C :: rest, []⟩) R ⟨h, g, d, t, os⟩ := by
  have hends := F.ends
  have hcB : (Value.ref C :: bm).contains (.type B) = true := by rw [List.contains_cons, hb, Bool.or_true]
  have hcA : (Value.ref C :: bm).contains (.type "AttributeError") = false := by rw [List.contains_cons, ha]; rfl
  have hcN : (Value.ref C :: bm).contains (.type "NameError") = false := by rw [List.contains_cons, hn']; rfl
  refine codeAny_builtinAt F.entry ?_
  unfold Builtin.«BaseException.__new__»
  refine PySem.wpAt_bind ?_
  show PySem.wpAt _ _ _ (stack >>= _) _ _ _
  refine PySem.wpAt_bind (PySem.wpAt_stack fun p below => PySem.wpAt_of_wpAny ?_)
  wp_walk
  refine PySem.wpAt_of_wpAny ?_
  rw [F.owner]
  repeat (first | with_reducible refine wpAny_madeHere_exc F.canon hC ?_ | with_reducible refine wpAny_loadPart_at hC ?_ | (with_reducible refine wpAny_isSubtype_exc hC ?_; first | rw [hcB] | rw [hcA] | rw [hcN]) | wp_step)
  show R _ _
  rw [Heap.size_push]
  exact hq
theorem look_init {M : Model} {mN : Str → Option Value} {v : Value} {Q : Option Value → Shared → Prop}
    (hC : h.get? C = some (excClassObj nm q C N bs bm hdct sn sub ab col dd k0 k1 k2 k3 k5 newId)) (hn : h.Ns N mN) (hi : mN "__init__" = some v)
    (hq : Q (some v) ⟨h, g, d, t, os⟩) : wpAny M A (typeLookup (.ref C) "__init__") Q E ⟨h, g, d, t, os⟩ := by
  rw [typeLookup_eq]
  refine wpAny_bind (wpAny_mroOf_exc hC ?_)
  rw [lookupAlong_cons]
  refine wpAny_bind (wpAny_classOwn_exc hC hn ?_)
  rw [hi]
  exact wpAny_pure hq
theorem made_own (F : ExcBaseFacts B newId initId bmB) (hb : bm.contains (.type B) = true) (ha : bm.contains (.type "AttributeError") = false) (hn' : bm.contains (.type "NameError") = false) {mN : Str → Option Value} {rest : List Value} {fI : Addr} {oI : Obj} {Q : Fin → Shared → Prop}
    (hC : h.get? C = some (excClassObj nm q C N bs bm hdct sn sub ab col dd k0 k1 k2 k3 k5 newId)) (hn : h.Ns N mN) (hi : mN "__init__" = some (.ref fI))
    (hfI : h.get? fI = some oI) (hfc : oI.cls = .type "function")
    (hq : ∀ h' e, Heap.MadeExcOf h h' e (.ref C) rest →
      wpAny (model prog w) A (call (.ref fI) (.ref e :: rest)) (fun r s' => r = .none ∧ Q (.done (.ret (.ref e))) s') E ⟨h', g, d, t, os⟩) (hrest : rest.length ≤ sizeLine := by size_fits) :
    wpAny (model prog w) A (Builtin.«type.__call__» ⟨.ref C :: rest, []⟩) Q E ⟨h, g, d, t, os⟩ := by
  repeat (first | with_reducible refine wpAny_loadPart_at hC ?_ | with_reducible refine wpAny_madeBy_exc hC ?_ | wp_step)
  refine codeAny_call_builtin_code (Code.quiet_builtin _ F.quiet) (chk_new F hb hC ?_)
  refine new_own F hb ha hn' hC ?_ hrest
  show wpAny _ _ _ _ _ _
  have hC₁ := Heap.get?_push_of_some { cls := .ref C, data := .fields #[.ref h.objs.size, .none, .none, .none, .bool false, .none] }
    (Heap.get?_push_of_some { cls := .type "tuple", data := .seq rest.toArray } hC)
  have hfI₁ := Heap.get?_push_of_some { cls := .ref C, data := .fields #[.ref h.objs.size, .none, .none, .none, .bool false, .none] }
    (Heap.get?_push_of_some { cls := .type "tuple", data := .seq rest.toArray } hfI)
  have hn₁ : ((h.push { cls := .type "tuple", data := .seq rest.toArray }).push { cls := .ref C, data := .fields #[.ref h.objs.size, .none, .none, .none, .bool false, .none] }).Ns N mN :=
    let ⟨o, es, ep, e, r⟩ := hn; ⟨o, es, ep, Heap.get?_push_of_some _ (Heap.get?_push_of_some _ e), r⟩
  have hget : ((h.push { cls := .type "tuple", data := .seq rest.toArray }).push
      { cls := .ref C, data := .fields #[.ref h.objs.size, .none, .none, .none, .bool false, .none] }).get? (h.objs.size + 1) = some
      { cls := .ref C, data := .fields #[.ref h.objs.size, .none, .none, .none, .bool false, .none] } := by heap_get
  have hcC : (Value.ref C :: bm).contains (.ref C) = true := by simp
  unfold isInstance
  repeat (first | with_reducible refine wpAny_loadPart_at hget ?_ | (with_reducible refine wpAny_isSubtype_exc hC₁ ?_; rw [hcC]) | wp_step)
  show wpAny _ _ (typeLookup (.ref C) _) _ _ _
  refine look_init hC₁ hn₁ hi ?_
  refine wpAny_holding (wpAny_bind ?_)
  unfold bindSpecial
  refine wpAny_bind (wpAny_typeOf (T := "function") ⟨_, hfI₁, hfc⟩ ?_)
  rw [if_pos (by decide)]
  refine wpAny_pure (wpAny_bind (wpAny_mono (hq _ (h.objs.size + 1) ⟨fun b o hb => Heap.get?_push_of_some _ (Heap.get?_push_of_some _ hb), Heap.get?_none_of_le (Nat.le_succ _), h.objs.size, hget, Heap.get?_none_of_le (Nat.le_refl _), ?_⟩) (fun r s' hr => ?_) fun _ _ x => x))
  · exact Heap.get?_push_of_some _ (Heap.get?_push_at rfl rfl)
  · obtain ⟨rfl, hQ⟩ := hr
    wp_walk
    exact hQ
theorem call_own (F : ExcBaseFacts B newId initId bmB) (hb : bm.contains (.type B) = true) (ha : bm.contains (.type "AttributeError") = false) (hn' : bm.contains (.type "NameError") = false) {mN : Str → Option Value} {rest : List Value} {fI : Addr} {oI : Obj} {Q : Value → Shared → Prop}
    (hC : h.get? C = some (excClassObj nm q C N bs bm hdct sn sub ab col dd k0 k1 k2 k3 k5 newId)) (hn : h.Ns N mN) (hi : mN "__init__" = some (.ref fI))
    (hfI : h.get? fI = some oI) (hfc : oI.cls = .type "function")
    (hq : ∀ h' e, Heap.MadeExcOf h h' e (.ref C) rest →
      wpAny (model prog w) (A.under (.builtin "type.__call__" ⟨.ref C :: rest, []⟩)) (call (.ref fI) (.ref e :: rest)) (fun r s' => r = .none ∧ Q (.ref e) s') E ⟨h', g, d, t, os⟩) (hrest : rest.length ≤ sizeLine := by size_fits) :
    wpAny (model prog w) A (call (.ref C) rest) Q E ⟨h, g, d, t, os⟩ := by
  have f1 := tc_lookup
  have f2 := tc_bind (.ref C)
  have hT : (⟨h, g, d, t, os⟩ : Shared).TypeIs (.ref C) "type" := ⟨_, hC, rfl⟩
  refine wpAny_call (codeAny_of_tree ?_)
  show wpAny _ _ (callAny (.ref C) _) _ _ _
  repeat (any_goals (first | assumption | with_reducible refine wpAny_loadPart_at hC ?_ | wp_step))
  refine ⟨rfl, ?_⟩
  refine codeAny_call_builtin_at (Code.quiet_builtin _ (by decide +kernel)) entry_typeCall (wpAny_check_type_call_sub hC (made_own (hrest := hrest) F hb ha hn' hC hn hi hfI hfc fun h' e hm => ?_))
  exact hq h' e hm
end
section
open PySem.Builtin PySem.Builtin.ObjectAttr
variable {prog : Program} {w : World} {A : Around} {K : Frag} {C C2 x : Addr} {s : Shared} {h₀ : Heap} {L : Addr} {m : Str → Option Value} {news : List (Addr × Obj)} {R : Result → Shared → Prop}
theorem refuse_exc (self : Value) : refuseLoop self "__setattr__" [.type "Exception", .type "BaseException", .type "object"] = pure () := by kernel_rfl
theorem osa_openE {ox : Obj} {od : Option Obj} {name : Str} {tk : Tok} {v : Value} {r : Option Value} {cd : ClassData} (X : K.In s.heap) (I : InstAt s.heap x ox C od) (hc : clsIn K C = some cd) (hmro : cd.mro = [.ref C, .ref C2, .type "Exception", .type "BaseException", .type "object"]) (ht : takerIn K C name = some r)
    (h : ∀ b, wpAny (model prog w) A.in1 (match r with | some a => setByDescriptor a (.ref x) v | none => storeInOwnDict (.ref x) (.ref C) (.str name tk) name v b)
      (fun fin s' => match fin with | .done f => R (.ok f) s' | .again c' => c'.quiet = true ∧ codeAny (model prog w) A c' R s') (fun e s' => R (.error e) s') s) :
    codeAny (model prog w) A (.call (.builtin "object.__setattr__") ⟨[.ref x, .str name tk, v], []⟩) R s := by
  have SF := PySem.F.store_object
  have ne : cd.mro.isEmpty = false := by rw [hmro]; rfl
  have sub : Looks (model prog w) s.heap (isInstance (.ref x) (.type "object")) true := I.type.andThen (looks_mroIn X (by unfold mroIn; rw [hc, Option.bind_some, if_neg (by rw [ne]; decide), hmro]; simp))
  refine codeAny_call_builtin SF.slot.plain SF.entry (@check_slot (model prog w) _ _ s "object.__setattr__" "object" "__setattr__" (.ref x) [.str name tk, v] [] _ SF.kind SF.split sub (SF.args (.ref x) (.str name tk) v) ?_)
  obtain ⟨attr, ha, hr⟩ := Option.bind_eq_some_iff.mp ht
  have hm : Looks (model prog w) s.heap (mroOf (.ref C)) cd.mro := (looks_clsIn X hc).andThen .now
  have L3 : Looks (model prog w) s.heap (storeTaker? attr) r := by
    cases attr with
    | none => cases hr; exact .now
    | some a =>
      obtain ⟨b, hb, rfl⟩ := Option.map_eq_some_iff.mp hr
      refine (looks_takesIn X hb).andThen ?_
      cases b <;> exact .now
  rw [osa_eq, refuse_eq]
  refine wpAny_bind (wpAny_bind (I.type.here (wpAny_bind (hm.here ?_))))
  rw [hmro, refuseLoop_ref, refuseLoop_ref, refuse_exc]
  refine wpAny_pure (wpAny_bind (I.type.here (wpAny_bind ((looks_findIn X ha).here (wpAny_bind (L3.here ?_))))))
  exact h _
end
section
open PySem.Builtin PySem.Builtin.ObjectAttr
variable {prog : Program} {w : World} {A : Around} {K : Frag} {C C2 x : Addr} {s : Shared} {h₀ : Heap} {L : Addr} {m : Str → Option Value} {rest : List (Addr × Obj)} {R : Result → Shared → Prop}
theorem osa_new {ws : Array Value} {name : Str} {tk : Tok} {v : Value} {cd : ClassData} (F : Fr h₀ L s.heap m) (N : News h₀ L s.heap ((x, (⟨.ref C, none, .fields ws, #[]⟩ : Obj)) :: rest)) (off : Off x rest) (X : K.In s.heap)
    (hc : clsIn K C = some cd) (hmro : cd.mro = [.ref C, .ref C2, .type "Exception", .type "BaseException", .type "object"]) (hdict : cd.hasDict = true) (ht : takerIn K C name = some none)
    (h : ∀ h' d od n, Fr h₀ L h' m → News h₀ L h' ((d, od) :: (x, (⟨.ref C, some d, .fields ws, #[]⟩ : Obj)) :: rest) → od = dictOf [⟨PyData.keyHash w.params name, .str name s.toks, v⟩] n → d ≠ x → Off d rest → R (.ok (.ret .none)) { s with heap := h', toks := s.toks + 1 }) :
    codeAny (model prog w) A (.call (.builtin "object.__setattr__") ⟨[.ref x, .str name tk, v], []⟩) R s := by
  have hx := (N _ (.head _)).1
  have I : InstAt s.heap x ⟨.ref C, none, .fields ws, #[]⟩ C none := ⟨hx, rfl, rfl, trivial⟩
  refine osa_openE X I hc hmro ht fun b => ?_
  refine wpAny_bind (wpAny_pure (wpAny_bind (wpAny_bind (wpAny_loadPart hx (wpAny_bind ((looks_clsIn X hc).here ?_))))))
  rw [hdict]
  refine wpAny_bind (wpAny_alloc ?_)
  have F1 : Fr h₀ L (s.heap.push emptyDict) m := F.push _
  have N1 : News h₀ L (s.heap.push emptyDict) ((s.heap.objs.size, emptyDict) :: (x, (⟨.ref C, none, .fields ws, #[]⟩ : Obj)) :: rest) := N.push F emptyDict
  have hlt : x < s.heap.objs.size := Heap.lt_size hx
  have dn : s.heap.objs.size ≠ x := Nat.ne_of_gt hlt
  have doff : Off s.heap.objs.size rest := fun p hp => Nat.ne_of_lt (Heap.lt_size (N p (.tail _ hp)).1)
  obtain ⟨U1, U2⟩ := news_upd (pre := [(s.heap.objs.size, emptyDict)]) (post := rest) (f := fun o => { o with dict := some s.heap.objs.size }) (o' := ⟨.ref C, some s.heap.objs.size, .fields ws, #[]⟩) F1 N1 (fun p hp => by rw [List.mem_singleton.mp hp]; exact dn) off rfl rfl
  refine wpAny_bind (wpAny_update (Heap.get?_push_of_some _ hx) ?_)
  refine wpAny_pure ?_
  have D := (U2 _ (.head _)).1
  refine wpAny_bind (wpAny_pure (wpAny_bind ?_))
  unfold nsSet
  refine wpAny_bind (wpAny_bind (wpAny_askSetting (wpAny_pure (wpAny_bind (wpAny_mkText (wpAny_bind (wpAny_loadPart D ?_)))))))
  obtain ⟨V1, V2⟩ := news_upd (pre := []) (post := (x, (⟨.ref C, some s.heap.objs.size, .fields ws, #[]⟩ : Obj)) :: rest) (f := Obj.putName name (PyData.keyHash w.params name) (.str name s.toks) v) (o' := dictOf [⟨PyData.keyHash w.params name, .str name s.toks, v⟩] 1) U1 U2 (fun p hp => nomatch hp) (Off.cons (Ne.symm dn) doff) rfl rfl
  have D' := (V2 _ (.head _)).1
  have c : aRefKeyMayBeTheName name #[] = false := by rw [aRefKeyMayBeTheName_at]; simp
  dsimp only [emptyDict]
  rw [c]
  refine wpAny_updatePart D ?_
  refine wpAny_bind (wpAny_lookBehind D' (pastItsLine_dict (by rw [sizeLine_eq]; exact Nat.le_of_ble_eq_true rfl)) ?_)
  exact wpAny_pure (h _ _ _ _ V1 V2 rfl dn doff)
end
section
open PySem.Builtin PySem.Builtin.ObjectAttr
variable {prog : Program} {w : World} {A : Around} {E : Value → Shared → Prop} {K : Frag} {C C2 x : Addr} {s : Shared} {h₀ : Heap} {L : Addr} {m : Str → Option Value} {rest : List (Addr × Obj)} {R : Result → Shared → Prop}
theorem osa_dictE {ox od od' : Obj} {dx : Addr} {name : Str} {tk : Tok} {v : Value} {pre post : List (Addr × Obj)} {es : List DictEntry} {n : Nat} {cd : ClassData} (F : Fr h₀ L s.heap m) (N : News h₀ L s.heap (pre ++ (dx, od) :: post)) (X : K.In s.heap)
    (I : InstAt s.heap x ox C (some od)) (hd : ox.dict = some dx) (hc : clsIn K C = some cd) (hmro : cd.mro = [.ref C, .ref C2, .type "Exception", .type "BaseException", .type "object"]) (hdict : cd.hasDict = true) (ht : takerIn K C name = some none)
    (hl : (lookIn name od).isSome = true) (h1 : ∀ p ∈ pre, p.1 ≠ dx) (h2 : ∀ p ∈ post, p.1 ≠ dx)
    (e : Obj.putName name (PyData.keyHash w.params name) (.str name s.toks) v od = od') (e' : od'.data = .dict es.toArray n) (hz : es.length ≤ 1000)
    (h : ∀ h', Fr h₀ L h' m → News h₀ L h' (pre ++ (dx, od') :: post) → R (.ok (.ret .none)) { s with heap := h', toks := s.toks + 1 }) :
    codeAny (model prog w) A (.call (.builtin "object.__setattr__") ⟨[.ref x, .str name tk, v], []⟩) R s := by
  refine osa_openE X I hc hmro ht fun b => ?_
  obtain ⟨U1, U2⟩ := news_upd (f := Obj.putName name (PyData.keyHash w.params name) (.str name s.toks) v) F N h1 h2 e (by obtain ⟨_, _, dd, _⟩ := od'; cases e'; rfl)
  have D := (N (dx, od) (by simp)).1
  have D' := (U2 (dx, od') (by simp)).1
  obtain ⟨hx, hcl, hn, -⟩ := I
  obtain ⟨oc, odi, oda, osl⟩ := ox
  dsimp only at hcl hd
  subst hcl hd
  refine wpAny_bind (wpAny_pure (wpAny_bind (wpAny_bind (wpAny_loadPart hx (wpAny_bind ((looks_clsIn X hc).here ?_))))))
  rw [hdict]
  refine wpAny_pure (a := some dx) (wpAny_bind (wpAny_pure (wpAny_bind ?_)))
  unfold nsSet
  refine wpAny_bind (wpAny_bind (wpAny_askSetting (wpAny_pure (wpAny_bind (wpAny_mkText (wpAny_bind (wpAny_loadPart D ?_)))))))
  unfold lookIn at hl
  split at hl
  · rename_i es₀ n₀ q
    rw [q]
    dsimp only
    have c : (!es₀.any (·.key.isStr name) && es₀.any (·.refKey)) = false := by
      rw [← Array.any_toList, ← Array.any_toList]
      split at hl
      · rename_i en he
        rw [List.any_eq_true.mpr ⟨en, List.mem_of_find?_eq_some he, List.find?_some he⟩]; rfl
      · split at hl
        · cases hl
        · rename_i z; rw [Bool.not_eq_true] at z; rw [z, Bool.and_false]
    rw [aRefKeyMayBeTheName_at, c]
    refine wpAny_updatePart D ?_
    refine wpAny_bind (wpAny_lookBehind D' (by rw [e']; exact pastItsLine_dict (by rw [List.size_toArray, sizeLine_eq]; omega)) ?_)
    exact wpAny_pure (h _ U1 U2)
  · cases hl
theorem setE0 {ws : Array Value} {name : Str} {v : Value} {cd : ClassData} {Q : Unit → Shared → Prop} (F : Fr h₀ L s.heap m) (X₀ : K.In h₀) (N : News h₀ L s.heap ((x, (⟨.ref C, none, .fields ws, #[]⟩ : Obj)) :: rest)) (off : Off x rest)
    (hs : findIn K (.ref C) "__setattr__" = some (some (.builtin "object.__setattr__"))) (hc : clsIn K C = some cd) (hmro : cd.mro = [.ref C, .ref C2, .type "Exception", .type "BaseException", .type "object"]) (hdict : cd.hasDict = true) (ht : takerIn K C name = some none)
    (h : ∀ h' d od n, Fr h₀ L h' m → News h₀ L h' ((d, od) :: (x, (⟨.ref C, some d, .fields ws, #[]⟩ : Obj)) :: rest) → od = dictOf [⟨PyData.keyHash w.params name, .str name (s.toks + 1), v⟩] n → d ≠ x → Off d rest → Q () { s with heap := h', toks := s.toks + 2 }) :
    wpAny (model prog w) A (setAttr (.ref x) name v) Q E s :=
  set_plain (od := none) (ox := ⟨.ref C, none, .fields ws, #[]⟩) (X₀.keeps F.keep) ⟨(N _ (.head _)).1, rfl, rfl, trivial⟩ hs (osa_new (s := { s with toks := s.toks + 1 }) F N off (X₀.keeps F.keep) hc hmro hdict ht fun h' d od n F' N' e a b => h h' d od n F' N' e a b)
theorem setE1 {ws : Array Value} {d : Addr} {es es' : List DictEntry} {n n' : Nat} {name : Str} {v : Value} {cd : ClassData} {Q : Unit → Shared → Prop} (F : Fr h₀ L s.heap m) (X₀ : K.In h₀) (N : News h₀ L s.heap ((d, dictOf es n) :: (x, (⟨.ref C, some d, .fields ws, #[]⟩ : Obj)) :: rest)) (dx : d ≠ x) (off : Off d rest)
    (hs : findIn K (.ref C) "__setattr__" = some (some (.builtin "object.__setattr__"))) (hc : clsIn K C = some cd) (hmro : cd.mro = [.ref C, .ref C2, .type "Exception", .type "BaseException", .type "object"]) (hdict : cd.hasDict = true) (ht : takerIn K C name = some none)
    (hl : (lookIn name (dictOf es n)).isSome = true) (e : Obj.putName name (PyData.keyHash w.params name) (.str name (s.toks + 1)) v (dictOf es n) = dictOf es' n') (hz : es'.length ≤ 1000)
    (h : ∀ h', Fr h₀ L h' m → News h₀ L h' ((d, dictOf es' n') :: (x, (⟨.ref C, some d, .fields ws, #[]⟩ : Obj)) :: rest) → Q () { s with heap := h', toks := s.toks + 2 }) :
    wpAny (model prog w) A (setAttr (.ref x) name v) Q E s :=
  set_plain (od := some (dictOf es n)) (ox := ⟨.ref C, some d, .fields ws, #[]⟩) (X₀.keeps F.keep) ⟨(N _ (.tail _ (.head _))).1, rfl, rfl, (N _ (.head _)).1⟩ hs
    (osa_dictE (s := { s with toks := s.toks + 1 }) (pre := []) (post := (x, (⟨.ref C, some d, .fields ws, #[]⟩ : Obj)) :: rest) F N (X₀.keeps F.keep) ⟨(N _ (.tail _ (.head _))).1, rfl, rfl, (N _ (.head _)).1⟩ rfl hc hmro hdict ht hl (fun p hp => nomatch hp) (Off.cons (Ne.symm dx) off) e rfl hz fun h' F' N' => h h' F' N')
end
section
variable {prog : Program} {w : World} {A : Around} {E : Value → Shared → Prop} {h : Heap} {g : Array GenState} {d : Drawn} {t : Nat} {os : OsState}
variable {nm q : Str} {C N : Addr} {bs bm bmB : List Value} {hdct : Bool} {sn : List Str} {sub : List Value} {ab : Bool} {col : Option Bool} {dd : Option Addr} {k0 k1 k2 k3 k5 : Option Value} {B newId initId : String}
theorem chk_init (F : ExcBaseFacts B newId initId bmB) (hb : bm.contains (.type B) = true) {M : Model} {e : Addr} {oe : Obj} {rest : List Value} {Q : Unit → Shared → Prop}
    (hC : h.get? C = some (excClassObj nm q C N bs bm hdct sn sub ab col dd k0 k1 k2 k3 k5 newId)) (he : h.get? e = some oe) (hcls : oe.cls = .ref C) (hq : Q () ⟨h, g, d, t, os⟩) :
    wpAny M A (checkBuiltinCall initId ⟨.ref e :: rest, []⟩) Q E ⟨h, g, d, t, os⟩ := by
  have hcB : (Value.ref C :: bm).contains (.type B) = true := by rw [List.contains_cons, hb, Bool.or_true]
  have hshort := F.noStar
  simp only [checkBuiltinCall, F.initKind, F.initSplit, F.initRow]
  repeat (first | (with_reducible refine wpAny_loadPart_at he ?_; rw [hcls]) | with_reducible refine wpAny_loadPart_at hC ?_ | (with_reducible refine wpAny_isSubtype_exc hC ?_; rw [hcB]) | wp_step)
  refine wpAny_onRaise ?_
  rw [show ∀ (a b : String) (n : Nat), Bind.check ⟨.positional, "*", B, .self, [⟨"args", .varPos, false⟩]⟩ a b n (List.map (fun x => x.fst) ({ pos := Value.ref e :: rest } : Args).kw) = pure () from
    fun a b n => check_star_args _ _ _ _ _ _]
  exact wpAny_pure hq
theorem init_base (F : ExcBaseFacts B newId initId bmB) (hb : bm.contains (.type B) = true) {e : Addr} {ed : Option Addr} {ws : Array Value} {v : Value} {Q : Value → Shared → Prop}
    (hC : h.get? C = some (excClassObj nm q C N bs bm hdct sn sub ab col dd k0 k1 k2 k3 k5 newId)) (he : h.get? e = some ⟨.ref C, ed, .fields ws, #[]⟩) {t0 : Addr} (h0 : ws[0]? = some (.ref t0)) (hz : 0 < ws.size)
    (hq : Q .none ⟨(h.push { cls := .type "tuple", data := .seq #[v] }).update e (Obj.mapFields (·.setIfInBounds 0 (.ref h.objs.size))), g, d, t, os⟩) :
    wpAny (model prog w) A (call (.builtin initId) [.ref e, v]) Q E ⟨h, g, d, t, os⟩ := by
  refine wpAny_call (codeAny_call_builtin F.init.plain F.initEntry (chk_init F hb hC he rfl ?_))
  have he1 := Heap.get?_push_of_some { cls := .type "tuple", data := .seq #[v] } he
  wp_walk
  rw [h0]
  refine wpAny_pure (wpAny_bind (wpAny_setField he1 rfl (by simpa using hz) ?_))
  wp_walk
  exact hq
end
theorem cls51 (P : Params) : ∃ nm qn bs dd k0 k1 k2 k3 k5, (KF P).lookup 51 = some (excClassObj nm qn 51 50 bs [.ref 31, .type "Exception", .type "BaseException", .type "object"] true [] [] false none dd k0 k1 k2 k3 k5 "Exception.__new__") := ⟨_, _, _, _, _, _, _, _, _, rfl⟩
theorem ns50 (P : Params) : nsOkIn (KF P) 50 = true := by kernel_rfl
theorem ini50 (P : Params) : nsIn (KF P) 50 "__init__" = some (some (.ref 48)) := by kernel_rfl
theorem fn48 (P : Params) : ∃ o, (KF P).lookup 48 = some o ∧ o.cls = .type "function" := ⟨_, rfl, rfl⟩
section
variable {w : World} {A : Around} {E : Value → Shared → Prop} {s : Shared} {h₀ : Heap} {L : Addr} {m : Str → Option Value} {news : List (Addr × Obj)} {Q : Value → Shared → Prop} {rest : List Value}
theorem mg_of_ns {K : Frag} {h : Heap} {ns : Addr} {mg : Str → Option Value} {n : Str} {v : Value} (X : K.In h) (G : h.Ns ns mg) (e : nsIn K ns n = some (some v)) : mg n = some v := by
  obtain ⟨o, es, ep, ho, hd, _, hf⟩ := G
  unfold nsIn at e
  split at e
  · rename_i c d es' n' sl q
    have z := X _ _ q
    rw [ho] at z
    cases z
    cases hd
    split at e
    · rename_i en he
      rw [← hf]
      unfold nsFind findBy
      rw [← Array.find?_toList, he]
      exact congrArg some (Option.some.inj (Option.some.inj e))
    · split at e <;> cases e
  · cases e
theorem exc_call (F : Fr h₀ L s.heap m) (X₀ : (KF w.params).In h₀) (N : News h₀ L s.heap news) (hz : rest.length ≤ 1000)
    (hq : ∀ e t h', Fr h₀ L h' m → News h₀ L h' ((e, (⟨.ref 51, none, .fields #[.ref t, .none, .none, .none, .bool false, .none], #[]⟩ : Obj)) :: (t, (⟨.type "tuple", none, .seq rest.toArray 0, #[]⟩ : Obj)) :: news) → e ≠ t → Off e news → Off t news →
      wpAny (model Pg w) (A.under (.builtin "type.__call__" ⟨.ref 51 :: rest, []⟩)) (call (.ref 48) (.ref e :: rest)) (fun r s' => r = .none ∧ Q (.ref e) s') E { s with heap := h' }) :
    wpAny (model Pg w) A (call (.ref 51) rest) Q E s := by
  obtain ⟨h, g, d, t, os⟩ := s
  obtain ⟨nm, qn, bs, dd, k0, k1, k2, k3, k5, hc⟩ := cls51 w.params
  obtain ⟨oI, hI, hf⟩ := fn48 w.params
  have X := X₀.keeps F.keep
  have hn : h.Ns 50 (h.nsMap 50) := .of_isNs (isNs_of_in X (ns50 _))
  refine call_own PySem.F.excBase_Exception (by decide +kernel) (by decide +kernel) (by decide +kernel) (X _ _ hc) hn (mg_of_ns X hn (ini50 _)) (X _ _ hI) hf (fun h' e M => ?_) (Nat.le_trans hz (by rw [sizeLine_eq]; exact Nat.le_of_ble_eq_true rfl))
  obtain ⟨tt, he, tn, ht⟩ := M.there
  have fr : ∀ b, h.get? b = none → h₀.get? b = none := fun b q => by
    cases z : h₀.get? b with
    | none => rfl
    | some o => have := F.keep _ _ z; rw [q] at this; cases this
  obtain ⟨oL, _, _, hL, _⟩ := F.ns
  have nl : ∀ b, h.get? b = none → b ≠ L := fun b q z => by rw [z, hL] at q; cases q
  have off : ∀ b, h.get? b = none → Off b news := fun b q p hp z => by rw [← z, (N p hp).1] at q; cases q
  refine hq e tt h' (F.keeps M.keeps) (fun p hp => ?_) ?_ (off _ M.new) (off _ tn)
  · rcases List.mem_cons.mp hp with rfl | hp
    · exact ⟨he, nl _ M.new, fr _ M.new⟩
    · rcases List.mem_cons.mp hp with rfl | hp
      · exact ⟨ht, nl _ tn, fr _ tn⟩
      · exact ⟨M.keeps _ _ (N p hp).1, (N p hp).2⟩
  · intro z
    subst z
    rw [he] at ht
    cases ht
end
def ExcUp (C : Addr) (o : Obj) (E : Value → Shared → Prop) (v : Value) (s₁ : Shared) : Prop := ∃ e ed ws, v = .ref e ∧ s₁.heap.get? C = some o ∧ s₁.heap.get? e = some ⟨.ref C, ed, .fields ws, #[]⟩ ∧ ws[1]? = some .none ∧ E (.ref e) s₁
section
variable {M : Model} {A : Around} {E : Value → Shared → Prop} {s : Shared} {env : Env}
variable {nm q : Str} {C N : Addr} {bs bm : List Value} {hdct : Bool} {sn : List Str} {sub : List Value} {ab : Bool} {col : Option Bool} {dd : Option Addr} {k0 k1 k2 k3 k5 : Option Value} {newId : String}
theorem raise_any {x : Sem Value} {Q : Flow → Shared → Prop} (hbase : bm.contains (.type "BaseException") = true) (hh : A.handled = none)
    (h : wpAny M A x (fun v s₁ => ∃ e ed ws, v = .ref e ∧ s₁.heap.get? C = some (excClassObj nm q C N bs bm hdct sn sub ab col dd k0 k1 k2 k3 k5 newId) ∧ s₁.heap.get? e = some ⟨.ref C, ed, .fields ws, #[]⟩ ∧ ws[1]? = some .none ∧ E (.ref e) s₁) E s) :
    wpAny M A (raiseStmt env (some x) none) Q E s := by
  have hcB : (Value.ref C :: bm).contains (.type "BaseException") = true := by rw [List.contains_cons, hbase, Bool.or_true]
  unfold raiseStmt
  refine wpAny_bind (wpAny_mono h (fun v s₁ h₁ => ?_) fun _ _ x => x)
  obtain ⟨e, ed, ws, rfl, hC, he, hw, hE⟩ := h₁
  obtain ⟨hp, g, d, tk, os⟩ := s₁
  repeat (first | with_reducible refine wpAny_loadPart_at he ?_ | with_reducible refine wpAny_loadPart_at hC ?_ | (with_reducible refine wpAny_isSubtype_exc hC ?_; rw [hcB]) | wp_step)
  rw [hw]
  repeat wp_step
  exact wpAny_raiseNew_none hh hE
theorem Raise_any {ex : PySem.Expr} {pos : Pos} {Q : Flow → Shared → Prop} (hbase : bm.contains (.type "BaseException") = true) (hh : A.handled = none)
    (h : wpAny M A (eval ex env) (ExcUp C (excClassObj nm q C N bs bm hdct sn sub ab col dd k0 k1 k2 k3 k5 newId) E) E s) :
    wpAny M A (exec (.Raise (some ex) none pos) env) Q E s := by
  rw [arm_exec_Raise]
  first
    | exact wpAny_bind (wpAny_standAt (raise_any hbase hh (wpAny_bind (wpAny_mono h (fun v s₃ h₃ => wpAny_bind (wpAny_standAt (wpAny_pure h₃))) fun _ _ x => x))))
    | (simp only [evalOpt, Option.map]; exact wpAny_bind (wpAny_standAt (raise_any hbase hh (wpAny_bind (wpAny_mono h (fun v s₃ h₃ => wpAny_bind (wpAny_standAt (wpAny_pure h₃))) fun _ _ x => x)))))
end
section
variable {w : World} {A : Around} {E : Value → Shared → Prop} {s : Shared} {h₀ : Heap} {L : Addr} {m : Str → Option Value} {rest : List (Addr × Obj)} {Q : Value → Shared → Prop}
theorem exc_init {e a : Addr} {ed : Option Addr} {v : Value} (F : Fr h₀ L s.heap m) (X₀ : (KF w.params).In h₀) (N : News h₀ L s.heap ((e, (⟨.ref 51, ed, .fields #[.ref a, .none, .none, .none, .bool false, .none], #[]⟩ : Obj)) :: rest)) (off : Off e rest)
    (h : ∀ h' t, Fr h₀ L h' m → News h₀ L h' ((e, (⟨.ref 51, ed, .fields #[.ref t, .none, .none, .none, .bool false, .none], #[]⟩ : Obj)) :: (t, (⟨.type "tuple", none, .seq #[v] 0, #[]⟩ : Obj)) :: rest) → e ≠ t → Off e ((t, (⟨.type "tuple", none, .seq #[v] 0, #[]⟩ : Obj)) :: rest) → Off t rest → Q .none { s with heap := h' }) :
    wpAny (model Pg w) A (call (.builtin "Exception.__init__") [.ref e, v]) Q E s := by
  obtain ⟨hp, g, d, tk, os⟩ := s
  obtain ⟨nm, qn, bs, dd, k0, k1, k2, k3, k5, hc⟩ := cls51 w.params
  have X := X₀.keeps F.keep
  have he := (N _ (.head _)).1
  refine init_base PySem.F.excBase_Exception (by decide +kernel) (X _ _ hc) he (t0 := a) rfl (Nat.lt_of_sub_pos (Nat.le_of_ble_eq_true rfl)) ?_
  have F1 : Fr h₀ L (hp.push { cls := .type "tuple", data := .seq #[v] }) m := F.push _
  have N1 := N.push F { cls := .type "tuple", data := .seq #[v] }
  have hlt : e < hp.objs.size := Heap.lt_size he
  have toff : Off hp.objs.size rest := fun p hp => Nat.ne_of_lt (Heap.lt_size (N p (.tail _ hp)).1)
  obtain ⟨U1, U2⟩ := news_upd (pre := [(hp.objs.size, { cls := .type "tuple", data := .seq #[v] })]) (post := rest) (f := Obj.mapFields (·.setIfInBounds 0 (.ref hp.objs.size))) (o' := ⟨.ref 51, ed, .fields #[.ref hp.objs.size, .none, .none, .none, .bool false, .none], #[]⟩) F1 N1 (fun p hp => by rw [List.mem_singleton.mp hp]; exact Nat.ne_of_gt hlt) off rfl rfl
  exact h _ _ U1 (fun p hp => U2 p (by rcases List.mem_cons.mp hp with rfl | hp; exact .tail _ (.head _); rcases List.mem_cons.mp hp with rfl | hp; exact .head _; exact .tail _ (.tail _ hp))) (Nat.ne_of_lt hlt) (Off.cons (Nat.ne_of_gt hlt) off) toff
end
section
variable {w : World} {h₀ h : Heap} {L : Addr} {m : Str → Option Value} {fm : FM} {l l' : LG} {C : Cx} {env : Env} {k k' : Nat} {A : Around}
/-- between frames: the CheckFault e is under way to C's frame, whose names are told by fm -/
def RK (C : Cx) (fm : FM) (e : Addr) (h : Heap) : Prop := ∃ t vs g₂ m, Fr C.h₀ C.L g₂ m ∧ FmOk fm m ∧ RaisedK C.base (C.env :: C.outer) e (.ref 51) t vs [] h ∧ g₂.UpToSlots h
/-- in the frame of C: the CheckFault e is made -/
def XK (C : Cx) (e : Addr) (h : Heap) : Prop := ∃ t ed ws vs n m all, Fr C.h₀ C.L h m ∧ News C.h₀ C.L h all ∧ (e, (⟨.ref 51, ed, .fields ws, #[]⟩ : Obj)) ∈ all ∧ (t, (⟨.type "tuple", none, .seq (List.toArray vs) n, #[]⟩ : Obj)) ∈ all ∧ ws[1]? = some .none ∧ ws[0]? = some (.ref t)
def Rz (C : Cx) (fm : FM) : Prop := ∀ e s s', RK C fm e s'.heap → Same s s' → C.R (.ref e) s s'
def Xz (C : Cx) : Prop := ∀ e s s', XK C e s'.heap → Same s s' → C.R (.ref e) s s'
theorem er_of {s s' : Shared} {e : Addr} (h : C.R (.ref e) s s') : C.er s (.ref e) s' := ⟨s, .refl s, h⟩
/-- a function of the text's own is entered; what it raises leaves it -/
theorem code_fnR {f : Addr} {name qual : Str} {params : Arguments} {body : List Stmt} {scope : Scope} {dV kV doc pm cdv ct oc : Value} {an od : Option Addr} {osl : Array (Option Value)} {as : List AV} {P : AV → LG → Prop} {s : Shared} {vs : List Value} (G : Good C k) (hZ : Rz C fm)
    (hA : A.frames = some (C.env :: C.outer)) (hd : A.depth + 1 ≤ k') (hu : A.units + 3 ≤ 10 * k') (hk' : k' ≤ 900)
    (ho : (KF C.w.params).lookup f = some ⟨oc, od, .func (fnOf name qual params body scope dV kV doc pm an cdv ct), osl⟩) (hcd : codeIn (KF C.w.params) cdv qual = true)
    (hbind : ∀ s, BindN as.length fun vs => BindsTo s (fnOf name qual params body scope dV kV doc pm an cdv ct) ⟨vs, []⟩ ((params.args.map (·.arg)).zip vs)) (hloc : ((params.args.map (·.arg)).zip as).all (fun y => match scope.names.lookup y.1 with | some .local => true | _ => false) = true)
    (hb : ∀ g L', Good (C.sub A g L' (LvR C A (envOf qual scope L' f cdv)) qual scope f cdv) k' → (∀ fm', Rz (C.sub A g L' (LvR C A (envOf qual scope L' f cdv)) qual scope f cdv) fm') → Xz (C.sub A g L' (LvR C A (envOf qual scope L' f cdv)) qual scope f cdv) → Own (C.sub A g L' (LvR C A (envOf qual scope L' f cdv)) qual scope f cdv) (C.sub A g L' (LvR C A (envOf qual scope L' f cdv)) qual scope f cdv).env →
      Ex (C.sub A g L' (LvR C A (envOf qual scope L' f cdv)) qual scope f cdv) (C.sub A g L' (LvR C A (envOf qual scope L' f cdv)) qual scope f cdv).env ((params.args.map (·.arg)).zip as).reverse l body fun fl _ l' => P fl.out l')
    (hE : ∀ g L', (C.sub A g L' (LvR C A (envOf qual scope L' f cdv)) qual scope f cdv).A = A.deeper (envOf qual scope L' f cdv) := by intro _ _; rfl) (hE' : ∀ g L', (C.sub A g L' (LvR C A (envOf qual scope L' f cdv)) qual scope f cdv).env = envOf qual scope L' f cdv := by intro _ _; rfl)
    (hco : scope.isCoroutine = false := by rfl) (hgen : scope.isGenerator = false := by rfl) (hk : scope.kind = .function := by rfl) (hcell : ∀ x ∈ scope.names, x.2 ≠ .cell := by decide)
    (hs : C.K m fm l s) (d : AVs as vs) : codeAny (model Pg C.w) A (.call (.ref f) ⟨vs, []⟩) (fun r s' => match r with | .ok (.ret v) => C.vp m fm P s v s' | .ok _ => False | .error e => C.er s e s') s :=
  code_fnG (fun g L' => LvR C A (envOf qual scope L' f cdv)) G hA hd hu hk' ho hcd hbind hloc (fun g L' G' B' FG => hb g L' G'
    (fun fm' e s s' ⟨t, vs, g₂, m', F₂, _, R, U⟩ sm => by
      rw [hE'] at R
      exact leave_onK B' F₂ R U (hQ := fun h' R' U' => er_of (hZ e s _ ⟨t, vs, g, m, FG, hs.fr.2, R', U'⟩ (sm.trans (hp_same s' h' _)))) )
    (fun e s s' ⟨t, ed, ws, vs, n, m', all, F', N', he, ht, h1, h0⟩ sm =>
      leave_own (news := []) B' F' N' he ht rfl h1 h0 rfl rfl (fun q hq => nomatch hq) (fun q hq => nomatch hq) (fun h' R' U' => er_of (hZ e s _ ⟨t, vs, g, m, FG, hs.fr.2, R', U'⟩ (sm.trans (hp_same s' h' _)))) hk)
    (fun s e s' ⟨s₀, sm, hr⟩ => by
      rw [hE, hE']
      have z := (PassesOwn.leaving (M := model Pg C.w) (A := A.deeper (envOf qual scope L' f cdv)) (env := envOf qual scope L' f cdv) (Q₁ := fun v s'' => C.er s₀ v s'') (E₁ := fun _ _ => False)) _ _ hr
      exact wpAny_mono z (fun _ _ y => wpAny_mono y (fun _ s₃ x => ⟨s₀, sm, x⟩) fun _ s₃ x => ⟨s₀, sm, x⟩) fun _ _ y => wpAny_mono y (fun _ s₃ x => ⟨s₀, sm, x⟩) fun _ s₃ x => ⟨s₀, sm, x⟩))
    hE hE' hco hgen hk hcell hs d fun _ _ _ _ _ hr => hr
end
end Mine
set_option Elab.async false
set_option linter.all false
set_option pp.deepTerms false
set_option pp.maxSteps 3000
namespace Mine
set_option maxRecDepth 100000
set_option maxHeartbeats 4000000
set_option compiler.extract_closed false
theorem fillKall : (fun (_ : OpenLaw) (_ : Params → Frag) => True) PySem.Challenge.rw_rg0027_01 KF := by
  k_fill
  trivial
local macro_rules | `(tactic| walk_at "call ref") => `(tactic| (k_here; k_dflt (refine wpAny_call ?_; k_enter)))
local macro_rules | `(tactic| k_lt $h:ident) => `(tactic| replace $h := allLt_of $h)
local macro_rules | `(tactic| k_ne) => `(tactic| (refine neN ?_; (try dsimp only); with_reducible first | assumption | exact Ne.symm (by assumption) | exact Nat.ne_of_gt (allLt_mem (by assumption) (by walk_at "in")) | exact Nat.ne_of_lt (allLt_mem (by assumption) (by walk_at "in")) | exact Nat.ne_of_lt (by assumption) | exact Nat.ne_of_gt (by assumption) | exact Nat.ne_of_gt (lt_two (by assumption) (by assumption) (by walk_at "in")) | exact Nat.ne_of_lt (lt_two (by assumption) (by assumption) (by walk_at "in"))))
local macro_rules | `(tactic| walk_at "in") => `(tactic| ((repeat (first | exact List.mem_cons_self | refine List.mem_cons_of_mem _ ?_)); done))
local macro_rules | `(tactic| walk_at "sub") => `(tactic| (intro p hp; (repeat (first | exact hp | refine List.mem_cons_of_mem _ ?_)); done))
local macro_rules | `(tactic| k_all) => `(tactic| (with_reducible first | exact Off.ne (by assumption) | exact allLt_ne (by assumption) | exact allLt_sub (by assumption) (by walk_at "sub")))
local macro_rules | `(tactic| walk_at "mem") => `(tactic| first | exact List.Mem.head _ | (refine' List.mem_cons_of_mem _ ?_; walk_at "mem") | with_reducible assumption)
local macro_rules | `(tactic| k_mem) => `(tactic| walk_at "mem")
local macro_rules | `(tactic| k_room) => `(tactic| ((try simp only [depth_under_make, depth_under_kw, depth_in1, depth_deeper, depth_caller]); (try dsimp only [topA, ktrTop, recursionLimit]); first | decide | omega))
local macro_rules | `(tactic| units_room) => `(tactic| ((try simp only [units_under_make, units_in1, units_deeper, Around.mark_units, units_caller]); (try dsimp only [topA, ktrTop]); (rw [cLine_is]); omega))
local macro_rules | `(tactic| walk_at "tail") => `(tactic| ((with_reducible rename News _ _ _ _ => nT); repeat (first | with_reducible exact nT | replace nT := News.tl nT)))
local macro_rules | `(tactic| walk_at "pick") => `(tactic| ((with_reducible rename News _ _ _ _ => nT); refine News.pick nT (by k_mem) ?_))
local macro_rules | `(tactic| walk_at "call builtin:Exception.__init__") => `(tactic| (k_here; k_dflt (refine' exc_init ?F ?X ?N ?o ?_; (case F => k_asm); (case X => k_in); (case N => k_asm); (case o => assumption)); intro h' t' F' N' a' b' c'))
local macro_rules | `(tactic| walk_at "setAttr ref") => `(tactic| (k_here; k_dflt (refine' setE0 ?F ?X ?N ?o ?s ?c ?m ?d ?t ?_; (case F => k_asm); (case X => k_in); (case N => k_asm); (case o => assumption); (case s => k_is); (case c => k_is); (case m => exact rfl); (case d => exact rfl); (case t => k_is)); intro h' d' od' n' F' N' e' a' b'; subst e'))
local macro_rules | `(tactic| walk_at "setAttr ref") => `(tactic| (k_here; k_dflt (refine' setE1 ?F ?X ?N ?a ?o ?s ?c ?m ?d ?t ?l ?e ?z ?_; (case F => k_asm); (case X => k_in); (case N => k_asm); (case a => assumption); (case o => assumption); (case s => k_is); (case c => k_is); (case m => exact rfl); (case d => exact rfl); (case t => k_is); (case l => exact rfl); (case e => exact rfl); (case z => exact Nat.le_of_ble_eq_true rfl)); intro h' F' N'))
theorem meta_Exception : typeOf (.type "Exception") = pure (.type "type") := by kernel_rfl
local macro_rules | `(tactic| walk_at "getMethod type:Exception") => `(tactic| (k_here; refine' method_type ?F ?X ?m (by decide +kernel) ?e ?h ?_; (case F => k_asm); (case X => k_asm); (case m => exact meta_Exception); (case e => k_dflt k_is); (case h => k_handed)))
section
variable {w : World} {mean : ExcName → Option Value} {mg mb : Str → Option Value} {dp un : Nat} {gd : Option (List Code)} {cn : Str} {nm : List (Str × NameKind)} {g1 g2 : Bool} {mr : List (Str × Const)} {a : Addr} {ccd : Value} {cl : List (Str × Addr)} {outer : List Env} {A₀ : Around} {base h₀ : Heap} {L : Addr} {m : Str → Option Value} {news rest : List (Addr × Obj)} {s : Shared} {Q E : Value → Shared → Prop}
theorem exc_new (hdp : dp ≤ 850) (hun : un ≤ 8500) (B : Below A₀ base outer h₀) (F : Fr h₀ L s.heap m) (X : (KF w.params).In h₀) (T : Top view0 (looseW view0 loose0) mean mg mb h₀) {l : Int} {tl tt : Nat} {tx : Str} (hz : tx.length ≤ 100) (N : News h₀ L s.heap news)
   (ret : ∀ e d t h' tk', Fr h₀ L h' m → News h₀ L h' ((e, (⟨.ref 51, some d, .fields #[.ref t, .none, .none, .none, .bool false, .none], #[]⟩ : Obj)) :: (t, (⟨.type "tuple", none, .seq #[.str tx tt] 0, #[]⟩ : Obj)) :: news) → e ≠ t → Off e news → Off t news → Q (.ref e) ⟨h', s.gens, s.drawn, tk', s.os⟩) :
   wpAny (model Pg w) (topA dp un gd cn nm g1 g2 mr L a ccd cl outer) (call (.ref 51) [.int l tl, .str tx tt]) Q (fun _ _ => False) s := by
  refine exc_call F X N (Nat.le_of_ble_eq_true rfl) ?_
  intro e t h' F' N' ne oe ot
  have oe' := (Off.cons (Ne.symm ne) oe : Off e ((t, (⟨.type "tuple", none, .seq #[.int l tl, .str tx tt] 0, #[]⟩ : Obj)) :: news))
  k_steps
  rename Off _ ((t, _) :: news) => ot'
  exact ret _ _ _ _ _ (by assumption) (by walk_at "pick"; walk_at "pick"; walk_at "tail") (by assumption) oe (fun p hp => ot' p (.tail _ hp))
end
section
variable {w : World} {mean : ExcName → Option Value} {mg mb : Str → Option Value} {dp un : Nat} {gd : Option (List Code)} {cn : Str} {nm : List (Str × NameKind)} {g1 g2 : Bool} {mr : List (Str × Const)} {a : Addr} {ccd : Value} {cl : List (Str × Addr)} {outer : List Env} {A₀ : Around} {base h₀ : Heap} {L : Addr} {m : Str → Option Value} {news rest : List (Addr × Obj)} {s : Shared} {Q E : Value → Shared → Prop}
theorem lim_new (hdp : dp ≤ 850) (hun : un ≤ 8500) (B : Below A₀ base outer h₀) (F : Fr h₀ L s.heap m) (X : (KF w.params).In h₀) (T : Top view0 (looseW view0 loose0) mean mg mb h₀) (N : News h₀ L s.heap news)
   (ret : ∀ x h' tk', Fr h₀ L h' m → News h₀ L h' news → Q (.ref x) ⟨h', s.gens, s.drawn, tk', s.os⟩) :
   wpAny (model Pg w) (topA dp un gd cn nm g1 g2 mr L a ccd cl outer) (call (.ref 477) []) Q (fun _ _ => False) s := by
  k_steps
  exact ret _ _ _ (by assumption) (by walk_at "tail")
end
end Mine
set_option Elab.async false
set_option linter.all false
set_option pp.deepTerms false
set_option pp.maxSteps 3000
namespace Mine
set_option maxRecDepth 100000
set_option maxHeartbeats 4000000
set_option compiler.extract_closed false
section
variable {m : Str → Option Value} {fm : FM} {l l' : LG} {C : Cx} {env : Env} {k k' : Nat} {P : AV → LG → Prop}
theorem w_exc (G : Good C k) (hk : k ≤ 850) {n : Int} {tx : Str} (hz : tx.length ≤ 100) (h : ∀ e t d tt, P (.ref e) ((e, .obj ⟨.ref 51, some d, .fields #[.ref t, .none, .none, .none, .bool false, .none], #[]⟩) :: (t, .obj ⟨.type "tuple", none, .seq (List.toArray [.str tx tt]) 0, #[]⟩) :: l)) : Cl C fm l (.ref 51) [.int n, .str tx] P := .mk fun m s vs hs d => by
  cases d with
  | cons d1 d => cases d with
    | cons d2 d =>
    cases d
    obtain ⟨t1, rfl⟩ := d1
    obtain ⟨t2, rfl⟩ := d2
    obtain ⟨A₀, B⟩ := G.B
    obtain ⟨mean, mg, mb, T⟩ := G.T
    obtain ⟨n', F, dn, N, nn, back⟩ := hs.out
    refine noR (exc_new (Nat.le_trans G.dp hk) (Nat.le_trans G.un (by omega)) B F G.X T hz N fun e d t h' tk' F' N' ne oe ot => ⟨.ref e, _, h e t d t2, rfl, ?_, ⟨rfl, rfl, rfl⟩⟩)
    have H := back h' F' fun p hp => N' p (.tail _ (.tail _ hp))
    refine ⟨H.fr, fun p hp => ?_, ?_⟩
    · rcases List.mem_cons.mp hp with rfl | hp
      · exact ⟨_, rfl, N' _ (.head _)⟩
      · rcases List.mem_cons.mp hp with rfl | hp
        · exact ⟨_, rfl, N' _ (.tail _ (.head _))⟩
        · exact H.en p hp
    · have nin : ∀ z : Addr, Off z n' → z ∉ l.map (·.1) := fun z o hm => by
        rw [← dn.adr] at hm
        obtain ⟨p, hp, e⟩ := List.mem_map.mp hm
        exact o p hp e
      rw [List.map_cons, List.map_cons, List.nodup_cons, List.nodup_cons]
      refine ⟨fun hm => ?_, nin _ ot, H.nd⟩
      rcases List.mem_cons.mp hm with q | q
      · exact ne q
      · exact nin _ oe q
/-- a made CheckFault -/
inductive MkX (l : LG) : AV → Prop
  | mk {e t : Addr} {d : Option Addr} {ws : Array Value} {vs : List Value} {n : Nat} : Get l e (.obj ⟨.ref 51, d, .fields ws, #[]⟩) → Get l t (.obj ⟨.type "tuple", none, .seq vs.toArray n, #[]⟩) → ws[1]? = some .none → ws[0]? = some (.ref t) → MkX l (.ref e)
theorem Ex_raise {ex : PySem.Expr} {p : Pos} {r : List Stmt} {P : AF → FM → LG → Prop} (G : Good C k) (hX : Xz C) (h : Ev C env fm l ex fun a l' => MkX l' a) : Ex C env fm l (.Raise (some ex) none p :: r) P := .mk fun s ⟨m, hs⟩ => by
  obtain ⟨nm', qn, bs, dd, k0, k1, k2, k3, k5, hc⟩ := cls51 C.w.params
  refine wpAny_execs_cons (Raise_any (C := 51) (nm := nm') (q := qn) (N := 50) (bs := bs) (bm := [.ref 31, .type "Exception", .type "BaseException", .type "object"]) (hdct := true) (sn := []) (sub := []) (ab := false) (col := none) (dd := dd) (k0 := k0) (k1 := k1) (k2 := k2) (k3 := k3) (k5 := k5) (newId := "Exception.__new__") (by decide +kernel) (by rfl) ?_)
  refine wpAny_mono (h.run m s hs) (fun v s₁ ⟨a, l₁, q, d, H, sm⟩ => ?_) fun _ _ x => x
  cases q with
  | @mk e t d ws vs n ge gt h1 h0 =>
    cases d
    obtain ⟨n', F, dn, N, nn, back⟩ := H.out
    obtain ⟨oe, me, rfl⟩ := dn.get ge
    obtain ⟨ot, mt, rfl⟩ := dn.get gt
    exact ⟨e, _, ws, rfl, F.keep _ _ (G.X _ _ hc), (N _ me).1, h1, er_of (hX e s s₁ ⟨t, _, ws, vs, n, m, n', F, N, me, mt, h1, h0⟩ sm)⟩
end
section
variable {m : Str → Option Value} {fm : FM} {l l' : LG} {C : Cx} {env : Env} {k k' : Nat} {P : AV → LG → Prop}
theorem Cl_thaw {a : Addr} {o : Obj} {al : List AV} {f : Value} {as : List AV} (u : Put l a (.rl o al) (.lst al) l') (h : Cl C fm l' f as P) : Cl C fm l f as P := .mk fun m s vs hs d => h.run m s vs (Holds.conv u (fun _ d => by obtain ⟨rfl, d⟩ := d; exact d) hs) d
theorem Tg_fsub {fm' : FM} {t : PySem.Expr} {a : AV} {P : FM → LG → Prop} (f : FSub fm' fm) (h : Tg C env fm' l t a P) : Tg C env fm l t a P := .mk fun s v ⟨m, hs⟩ d => h.run s v ⟨m, Holds.fsub hs f⟩ d
theorem Fo_fsub {fm' : FM} {tg : PySem.Expr} {body r : List Stmt} {src : LG → Prop} {P : AF → FM → LG → Prop} {items : List AV} (f : FSub fm' fm) (h : Fo C env tg body src (NxP (fun fm l => Ex C env fm l r P) P) items fm' l) : Fo C env tg body src (NxP (fun fm l => Ex C env fm l r P) P) items fm l := by
  cases items with
  | nil =>
    have h : NxP (fun fm l => Ex C env fm l r P) P .next fm' l := h
    cases h with
    | next h => exact Fo.nil (.next (Ex_fsub f h))
  | cons a r => exact fun I it => Tg_fsub f (h I it)
theorem Fo_items {tg : PySem.Expr} {body : List Stmt} {src : LG → Prop} {P : AF → FM → LG → Prop} {items items' : List AV} (e : items = items') (h : Fo C env tg body src P items' fm l) : Fo C env tg body src P items fm l := e ▸ h
/-- a place, but for what it uses -/
structure PlS (l : LG) (p q r : Addr) (num : Int) (utl : Addr) : Prop where
  num : Fld l p 127 "number" (.int num)
  par : Fld l p 127 "parent" (.ref q)
  root : Fld l p 127 "root" (.ref r)
  gen : Fld l p 127 "generic" .none
  names : ∃ nd, Fld l p 127 "names" (.ref nd) ∧ Rd l nd (.sd [])
  uses : ∃ ul o, Fld l p 127 "uses" (.ref ul) ∧ Get l ul (.rl o [])
  ut : Fld l p 127 "use_types" (.ref utl)
theorem PlS.tail {p q r utl : Addr} {num : Int} {e : Addr × AO} (h : PlS l p q r num utl) : PlS (e :: l) p q r num utl :=
  let ⟨a, b, c, d, ⟨_, f, f'⟩, ⟨_, _, g, g'⟩, i⟩ := h
  ⟨a.tail, b.tail, c.tail, d.tail, ⟨_, f.tail, f'.tail⟩, ⟨_, _, g.tail, g'.tail⟩, i.tail⟩
theorem PlS.pl {p q r utl : Addr} {num : Int} {us : List Int} {o : Obj} (h : PlS l p q r num utl) (g : Get l utl (.rl o (us.map .int))) : PlF l p q r num us :=
  let ⟨a, b, c, d, e, f, i⟩ := h
  ⟨a, b, c, d, e, f, ⟨_, _, i, g⟩⟩
/-- the name of the package i -/
def pk : Nat → Str
  | 0 => "p"
  | 1 => "q"
  | _ => "r"
theorem pk_op (i : Nat) : (Txt.slice (pk i) none (some 1) == Str.ofString "\"") = false := by
  match i with
  | 0 => decide +kernel
  | 1 => decide +kernel
  | _ + 2 => exact (by decide +kernel : (Txt.slice (Str.ofString "r") none (some 1) == Str.ofString "\"") = false)
theorem pk_len (i : Nat) : (pk i).length ≤ 1000 := by
  match i with
  | 0 => decide
  | 1 => decide
  | _ + 2 => exact (by decide : (Str.ofString "r").length ≤ 1000)
/-- the mark of the package k: its type or subtype, or the class of either -/
inductive NdF (l : LG) : AV → Nat × Bool → Prop
  | plain {tn t1 : Addr} {k : Nat} {x : Str} : x = Str.ofString "t" ∨ x = Str.ofString "s" → Rd l tn (.tup [.str "select", .ref t1, .str x]) → Rd l t1 (.tup [.str "name", .str (pk k)]) → NdF l (.ref tn) (k, false)
  | cls {tt tn t1 l0 : Addr} {k : Nat} {x : Str} : x = Str.ofString "t" ∨ x = Str.ofString "s" → Rd l tt (.tup [.str "tick", .ref tn, .str "class", .ref l0]) → Rd l tn (.tup [.str "select", .ref t1, .str x]) → Rd l t1 (.tup [.str "name", .str (pk k)]) → NdF l (.ref tt) (k, true)
theorem NdF.tail {a : AV} {q : Nat × Bool} {e : Addr × AO} (h : NdF l a q) : NdF (e :: l) a q := by
  cases h with
  | plain z a b => exact .plain z a.tail b.tail
  | cls z a b c => exact .cls z a.tail b.tail c.tail
inductive Mks (l : LG) : List AV → List (Nat × Bool) → Prop
  | nil : Mks l [] []
  | cons {v : AV} {k : Nat × Bool} {vs : List AV} {ks : List (Nat × Bool)} : NdF l v k → Mks l vs ks → Mks l (v :: vs) (k :: ks)
theorem Mks.tail {vs : List AV} {ks : List (Nat × Bool)} {e : Addr × AO} (h : Mks l vs ks) : Mks (e :: l) vs ks := by
  induction h with
  | nil => exact .nil
  | cons a _ ih => exact .cons a.tail ih
theorem PkgF.ent {tg : Bool} {D : PkgD} {x : Str} (Q : PkgF l tg D) (z : x = Str.ofString "t" ∨ x = Str.ofString "s") : ∃ lt o e s, vat ([("t", .ref D.le1), ("s", .ref D.le2)] : List (Str × AV)) x = some (.ref lt) ∧ Get l lt (.rl o [.ref e]) ∧ TypE l e s D.t := by
  rcases z with rfl | rfl
  · exact ⟨_, _, _, _, rfl, Q.l1, Q.e1⟩
  · exact ⟨_, _, _, _, rfl, Q.l2, Q.e2⟩
/-- the packages as laid -/
structure PkI (l : LG) (kn : List (Str × AV)) (kt : List (Int × AV)) (nb : Int) (i : Nat) (b : Bool) (D : PkgD) : Prop where
  Q : PkgF l b D
  kn : vat kn (pk i) = some (.ref D.lx)
  kt : vat kt (71 + (i : Int)) = some (.ref D.tt)
  num : D.num = 71 + (i : Int)
  lo : 1 < D.nR
  hi : D.nR < nb
theorem PkI.tail {kn : List (Str × AV)} {kt : List (Int × AV)} {nb : Int} {i : Nat} {b : Bool} {D : PkgD} {e : Addr × AO} (h : PkI l kn kt nb i b D) : PkI (e :: l) kn kt nb i b D := ⟨h.Q.tail, h.kn, h.kt, h.num, h.lo, h.hi⟩
theorem PkI.one {kn : List (Str × AV)} {kt : List (Int × AV)} {nb : Int} {i : Nat} {b : Bool} {D : PkgD} (h : PkI l kn kt nb i b D) : (1 == D.nR) = false := beq_eq_false_iff_ne.mpr (Int.ne_of_lt h.lo)
theorem PkI.off {kn : List (Str × AV)} {kt : List (Int × AV)} {nb : Int} {i : Nat} {b : Bool} {D : PkgD} (h : PkI l kn kt nb i b D) {c : List (Int × List Int)} (hc : ∀ q ∈ c, nb ≤ q.1) : ∀ q ∈ c, (q.1 == D.nR) = false := fun q hq => beq_eq_false_iff_ne.mpr (Int.ne_of_gt (Int.lt_of_lt_of_le h.hi (hc q hq)))
def addM (us : List Int) (k : Nat × Bool) : List Int := addU us (71 + (k.1 : Int))
theorem addU_mem {us : List Int} {u x : Int} (h : x ∈ addU us u) : x ∈ us ∨ x = u := by
  unfold addU at h
  split at h
  · exact .inl h
  · rcases List.mem_append.mp h with h | h
    · exact .inl h
    · exact .inr (List.mem_singleton.mp h)
theorem addU_len (us : List Int) (u : Int) : (addU us u).length ≤ us.length + 1 := by
  unfold addU
  split
  · exact Nat.le_succ _
  · rw [List.length_append]; exact Nat.le_refl _
end
section
variable {w : World} {h₀ h : Heap} {L : Addr} {m : Str → Option Value} {fm : FM} {l l' : LG} {C : Cx} {env : Env} {k k' : Nat}
theorem w_limits {P : AV → LG → Prop} (G : Good C k) (hk : k ≤ 850) (h : ∀ x, P (.ref x) l) : Cl C fm l (.ref 477) [] P := .mk fun m s vs hs d => by
  cases d
  obtain ⟨A₀, B⟩ := G.B
  obtain ⟨mean, mg, mb, T⟩ := G.T
  obtain ⟨n', F, dn, N, nn, back⟩ := hs.out
  exact noR (lim_new (Nat.le_trans G.dp hk) (Nat.le_trans G.un (by omega)) B F G.X T N fun x h' tk' F' N' => ⟨.ref x, l, h x, rfl, back h' F' N', ⟨rfl, rfl, rfl⟩⟩)
-- displays of dicts
inductive PVs : List (AV × AV) → List (Value × Value) → Prop
  | nil : PVs [] []
  | cons {a b : AV} {v u : Value} {l : List (AV × AV)} {vs : List (Value × Value)} : a.den v → b.den u → PVs l vs → PVs ((a, b) :: l) ((v, u) :: vs)
structure EvP (C : Cx) (env : Env) (fm : FM) (l : LG) (ks : List (Option PySem.Expr)) (es : List PySem.Expr) (P : List (AV × AV) → LG → Prop) : Prop where
  run : ∀ m s pos, C.K m fm l s → wpAny (model Pg C.w) C.A (evalPairs (pairTrees ks es env pos)) (fun vs s' => ∃ av l', P av l' ∧ PVs av vs ∧ C.K m fm l' s' ∧ Same s s') (C.er s) s
theorem EvP_nil {P : List (AV × AV) → LG → Prop} (h : P [] l) : EvP C env fm l [] [] P := .mk fun m s pos hs => wpAny_pure ⟨[], l, h, .nil, hs, .refl s⟩
theorem EvP_cons {x e : PySem.Expr} {ks : List (Option PySem.Expr)} {es : List PySem.Expr} {P : List (AV × AV) → LG → Prop} (h : Ev C env fm l x fun a l₁ => Ev C env fm l₁ e fun b l₂ => EvP C env fm l₂ ks es fun ps l₃ => P ((a, b) :: ps) l₃) : EvP C env fm l (some x :: ks) (e :: es) P := .mk fun m s pos hs =>
  evalPairs_cons (h.go hs fun a l₁ v s₁ q d H₁ e₁ => wpAny_bind (q.go H₁ (fun b l₂ u s₂ q₂ d₂ H₂ e₂ => wpAny_bind (wpAny_standAt (wpAny_pure (wpAny_mono (q₂.run m s₂ pos H₂) (fun vs s₃ ⟨ps, l₃, q₃, d₃, H₃, e₃⟩ => ⟨_, l₃, q₃, .cons d d₂ d₃, H₃, (e₁.trans e₂).trans e₃⟩) fun _ _ x => Cx.er.same (e₁.trans e₂) x)))) |> (wpAny_mono · (fun _ _ x => x) fun _ _ x => Cx.er.same e₁ x)))
theorem pv_str : ∀ {kv : List (Str × AV)} {vs : List (Value × Value)}, PVs (kv.map fun x => (AV.str x.1, x.2)) vs → allStrKeys vs = true ∧ (strPairs vs).map (·.1) = kv.map (·.1) ∧ KVs kv (strPairs vs)
  | [], _, .nil => ⟨rfl, rfl, .nil⟩
  | (x, b) :: kv, _, .cons (v := v) d d' r => by
    obtain ⟨t, rfl⟩ := d
    obtain ⟨e1, e2, e3⟩ := pv_str r
    exact ⟨e1, congrArg (x :: ·) e2, .cons d' e3⟩
theorem pv_int : ∀ {kv : List (Int × AV)} {vs : List (Value × Value)}, PVs (kv.map fun x => (AV.int x.1, x.2)) vs → allIntKeys vs = true ∧ (intKeyPairs vs).map (·.1) = kv.map (·.1) ∧ KVs kv (intKeyPairs vs)
  | [], _, .nil => ⟨rfl, rfl, .nil⟩
  | (x, b) :: kv, _, .cons (v := v) d d' r => by
    obtain ⟨t, rfl⟩ := d
    obtain ⟨e1, e2, e3⟩ := pv_int r
    exact ⟨e1, congrArg (x :: ·) e2, .cons d' e3⟩
inductive DsS (d : Addr) (P : AV → LG → Prop) (ps : List (AV × AV)) (l : LG) : Prop
  | mk {kv : List (Str × AV)} {l' : LG} : ps = kv.map (fun x => (AV.str x.1, x.2)) → (kv.map (·.1)).Nodup → Put l d (.sd []) (.sd kv) l' → P (.ref d) l' → DsS d P ps l
inductive DsI (d : Addr) (P : AV → LG → Prop) (ps : List (AV × AV)) (l : LG) : Prop
  | mk {kv : List (Int × AV)} {l' : LG} : ps = kv.map (fun x => (AV.int x.1, x.2)) → (kv.map (·.1)).Nodup → Put l d (.idd []) (.idd kv) l' → P (.ref d) l' → DsI d P ps l
theorem Ev_dictS {ks : List (Option PySem.Expr)} {es : List PySem.Expr} {p : Pos} {P : AV → LG → Prop} (G : Good C k) (h : ∀ d, EvP C env fm ((d, .sd []) :: l) ks es (DsS d P)) (ha : ks.all (·.isSome) = true := by rfl) (hl : ks.length = es.length := by rfl) (h0 : ks ≠ [] := by exact List.cons_ne_nil _ _) (hn : ks.length ≤ 15 := by exact Nat.le_of_ble_eq_true rfl) : Ev C env fm l (.Dict ks es p) P := .mk fun m s hs => by
  obtain ⟨mean, mg, mb, T⟩ := G.T
  obtain ⟨n, F, dn, N, nn, back⟩ := hs.out
  refine kdn_eval (knd := strKind _ _) F N T.nolimit ha hl h0 hn fun d h' o F' N' l1 lo hd => ?_
  have H : C.K m fm ((d, .sd []) :: l) { s with heap := h' } := Holds.new (x := .sd []) back dn F' ⟨lo, [], hd, .nil⟩ N' (allLt_of l1)
  refine wpAny_mono ((h d).run m _ p H) (fun vs s₁ ⟨ps, l₁, q, dp, H₁, e₁⟩ => ?_) fun _ _ x => Cx.er.same (hp_same s h' _) x
  obtain ⟨ep, nd, u, pp⟩ := q
  subst ep
  obtain ⟨k1, k2, k3⟩ := pv_str dp
  obtain ⟨o₁, rest, F₁, ⟨lo₁, kv₁, hd₁, dk₁⟩, N₁, nn₁, oth, back₁⟩ := H₁.upd u
  cases dk₁
  exact kdn_made_str F₁ N₁ (.head nn₁.1.off) hd₁ k1 (by rw [k2]; exact nd) fun h₂ o₂ F₂ N₂ hd₂ => ⟨.ref d, _, pp, rfl, back₁ h₂ o₂ ⟨lo₁, _, hd₂, k3⟩ F₂ N₂, ((hp_same s h' _).trans e₁).trans (hp_same s₁ h₂ _)⟩
theorem Ev_dictI {ks : List (Option PySem.Expr)} {es : List PySem.Expr} {p : Pos} {P : AV → LG → Prop} (G : Good C k) (h : ∀ d, EvP C env fm ((d, .idd []) :: l) ks es (DsI d P)) (ha : ks.all (·.isSome) = true := by rfl) (hl : ks.length = es.length := by rfl) (h0 : ks ≠ [] := by exact List.cons_ne_nil _ _) (hn : ks.length ≤ 15 := by exact Nat.le_of_ble_eq_true rfl) : Ev C env fm l (.Dict ks es p) P := .mk fun m s hs => by
  obtain ⟨mean, mg, mb, T⟩ := G.T
  obtain ⟨n, F, dn, N, nn, back⟩ := hs.out
  refine kdn_eval (knd := intKind _ _) F N T.nolimit ha hl h0 hn fun d h' o F' N' l1 lo hd => ?_
  have H : C.K m fm ((d, .idd []) :: l) { s with heap := h' } := Holds.new (x := .idd []) back dn F' ⟨lo, [], hd, .nil⟩ N' (allLt_of l1)
  refine wpAny_mono ((h d).run m _ p H) (fun vs s₁ ⟨ps, l₁, q, dp, H₁, e₁⟩ => ?_) fun _ _ x => Cx.er.same (hp_same s h' _) x
  obtain ⟨ep, nd, u, pp⟩ := q
  subst ep
  obtain ⟨k1, k2, k3⟩ := pv_int dp
  obtain ⟨o₁, rest, F₁, ⟨lo₁, kv₁, hd₁, dk₁⟩, N₁, nn₁, oth, back₁⟩ := H₁.upd u
  cases dk₁
  exact kdn_made_int F₁ N₁ (.head nn₁.1.off) hd₁ k1 (by rw [k2]; exact nd) fun h₂ o₂ F₂ N₂ hd₂ => ⟨.ref d, _, pp, rfl, back₁ h₂ o₂ ⟨lo₁, _, hd₂, k3⟩ F₂ N₂, ((hp_same s h' _).trans e₁).trans (hp_same s₁ h₂ _)⟩
-- the first items of an old list of ints
theorem Ev_slcOld {vx sx : PySem.Expr} {p1 p : Pos} {P : AV → LG → Prop} {a : Addr} {ns : List Int} {vs : List Value} (hl : C.h₀.IsList a vs.toArray) (hi : IntsAre vs ns) (hz : vs.length ≤ 1000) (h : Ev C env fm l vx fun x l₁ => x = .ref a ∧ Ev C env fm l₁ sx fun b l₂ => ∃ j, b = .int j ∧ 0 ≤ j ∧ ∀ D, P (.ref D) ((D, .lst ((ns.take j.toNat).map .int)) :: l₂))
    (hs' : ∀ x a, subscripted (.Slice none (some sx) none p1) false (.ref x) (.ref a) = operate [.ref a, .ref x] (getItem (.ref x) (.ref a)) := by intros; with_unfolding_all rfl) (hg : ∀ x r, letTemporaryGo vx (.ref x) r = pure () := by intros; with_unfolding_all rfl) : Ev C env fm l (.Subscript vx (.Slice none (some sx) none p1) p) P := .mk fun m s hs =>
  Subscript_ (h.go hs fun x l₁ v s₁ ⟨ea, q⟩ d H₁ e₁ => by
    subst ea
    cases d
    refine up e₁ (wpAny_Slice (evalPart_none_step (evalPart_some_step (q.go H₁ fun b l₂ u s₂ ⟨j, eb, hj, q₂⟩ d₂ H₂ e₂ => evalPart_none_step ?_))))
    subst eb
    obtain ⟨tj, rfl⟩ := d₂
    obtain ⟨n, F, dn, N, nn, back⟩ := H₂.out
    obtain ⟨o, ho, r⟩ := hl
    exact up ((e₁.trans e₂).trans (hp_same s₂ _ _)) (kmk_slice_ints F N ⟨o, F.keep _ _ ho, r⟩ .none (.int j tj) hi (kmk_upto hi hj) rfl (fun D ws h' F' N' l1 iw _ _ => ⟨_, _, q₂ D, rfl, Holds.new (x := .lst _) back dn F' ⟨ws, 0, rfl, av_ints iw⟩ N' (allLt_of l1), (e₁.trans e₂).trans (hp_same s₂ h' _)⟩) (hs' _ _) (hg _) (by rw [List.size_toArray]; exact Nat.le_trans hz (by rw [sizeLine_eq]; exact Nat.le_of_ble_eq_true rfl))))
theorem Bo_pow {x y z : Int} {P : AV → LG → Prop} (c0 : y ≥ 0) (c1 : ¬(y == 0) = true) (c2 : ¬(x == 0 || x == 1) = true) (c3 : ¬(x == -1) = true) (c4 : ¬Builtin.Int.intTooBig (((Builtin.Int.intBits x : Nat) : Int) * y) = true) (e : x ^ y.toNat = z) (h : P (.int z) l) : Bo C fm l .Pow (.int x) (.int y) P := .mk fun m s v u hs d d' => by
  obtain ⟨t, rfl⟩ := d; obtain ⟨t', rfl⟩ := d'
  exact PySem.AutoIntOps.pow_4 c0 c1 c2 c3 c4 ⟨.int z, l, h, ⟨_, by rw [e]⟩, hs, tk_same s _⟩
/-- a list of ints comprehended, each by itself -/
theorem Co_ints {elt : PySem.Expr} {x : Str} {scope : Scope} {cl : List (Str × Addr)} {src : LG → Prop} {Fin : List AV → LG → Prop} (f : Int → Int) (hs : src l) (turn : ∀ n I oI Cn oC D oD (Q : AV → LG → Prop), Q (.int (f n)) ((I, .obj oI) :: (Cn, .ns oC x (.int n)) :: (D, .obj oD) :: l) → Ev C (compEnvC scope cl Cn env) fm ((I, .obj oI) :: (Cn, .ns oC x (.int n)) :: (D, .obj oD) :: l) elt Q) :
    ∀ {ns : List Int} {ys : List AV}, Fin (ys ++ (ns.map f).map .int) l → Co C fm env none elt x scope cl src Fin (ns.map .int) ys l
  | [], ys, h => Co.nil (by simpa using h)
  | n :: r, ys, h => Co.one fun I oI Cn oC D oD => turn n I oI Cn oC D oD _ (.mk .head .head .head ⟨hs, Co_ints f hs turn (by simpa using h)⟩)
-- a for over a range
def FoN (C : Cx) (env : Env) (x : Str) (body : List Stmt) (P : AF → FM → LG → Prop) : List AV → FM → LG → Prop
  | [], fm, l => P .next fm l
  | a :: r, fm, l => ∀ I it, Ex C env ((x, a) :: fm) ((I, .obj it) :: l) body (FoP (fun fm' l' => True ∧ FoN C env x body P r fm' l') P I it)
theorem fon_rest {x : Str} {body : List Stmt} {P : AF → FM → LG → Prop} {R : Flow → Shared → Prop} {I : Addr} {n : Nat} {s₀ s : Shared} (hPR : ∀ f s', C.fp P s₀ f s' → R f s') (e₀ : Same s₀ s) (hL : env.locals = C.L) :
    ∀ (k i : Nat) {fm : FM} {l : LG} {m : Str → Option Value} {nw : List (Addr × Obj)}, i + k = n → FoN C env x body P ((upto n).drop i) fm l → FmOk fm m → Den C.w l nw → (l.map (·.1)).Nodup → I ∉ l.map (·.1) →
      RangeRest Pg C.w C.A (C.er s₀) C.h₀ env x body R s I 0 n k i m nw
  | 0, i, fm, l, m, nw, e, h, fh, dn, nd, hI => RangeRest.zero fun h' tk F N => by
    rw [List.drop_eq_nil_of_le (by rw [upto_len]; omega)] at h
    exact hPR _ _ ⟨.next, fm, l, h, rfl, ⟨m, ⟨hL ▸ F, fh⟩, den_en dn (hL ▸ N), nd⟩, e₀.trans (hp_same s h' tk)⟩
  | k + 1, i, fm, l, m, nw, e, h, fh, dn, nd, hI => RangeRest.succ fun t h' tk F N => by
    have hi : i < (upto n).length := by rw [upto_len]; omega
    have ei : (upto n)[i] = .int (i : Int) := Option.some.inj ((List.getElem?_eq_getElem hi).symm.trans (by
      unfold upto
      rw [List.getElem?_map, List.getElem?_range (by omega)]
      rfl))
    rw [List.drop_eq_getElem_cons hi, ei] at h
    have H : C.H ((x, .int (i : Int)) :: fm) ((I, .obj (itR (0 + ((i + 1 : Nat) : Int)) ((n : Int) - ((i + 1 : Nat) : Int)))) :: l) { s with heap := h', toks := tk } := by
      rw [hL] at F N
      refine ⟨_, ⟨F, fr_set (h := h') (h' := h') fh ⟨t, by rw [Int.zero_add]⟩⟩, fun p hp => ?_, ?_⟩
      · rcases List.mem_cons.mp hp with rfl | hp
        · exact ⟨_, rfl, N _ (.head _)⟩
        · exact den_en dn (fun q hq => N q (.tail _ hq)) p hp
      · rw [List.map_cons, List.nodup_cons]
        exact ⟨hI, nd⟩
    have u₀ := e₀.trans (hp_same s h' tk)
    refine wpAny_mono ((h I _).run _ H) (fun f s₃ ⟨af, fm', l₁, p, df, H₃, e₃⟩ => ?_) fun _ _ x => Cx.er.same u₀ x
    have fin : ∀ {l' : LG}, Take l₁ I (.obj (itR (0 + ((i + 1 : Nat) : Int)) ((n : Int) - ((i + 1 : Nat) : Int)))) l' → (True ∧ FoN C env x body P ((upto n).drop (i + 1)) fm' l') → UnrEnd C.h₀ env.locals { s with heap := h', toks := tk } I (itR (0 + ((i + 1 : Nat) : Int)) ((n : Int) - ((i + 1 : Nat) : Int))) (RangeRest Pg C.w C.A (C.er s₀) C.h₀ env x body R s I 0 n k (i + 1)) s₃ := by
      intro l' tk' q
      obtain ⟨m', H₃⟩ := H₃
      have H' := Holds.perm H₃ tk'.perm
      obtain ⟨⟨F', fh'⟩, en', nd'⟩ := H'
      obtain ⟨n', dn', N'⟩ := den_ex en'
      cases dn' with
      | @cons _ _ o _ n'' di dn'' =>
      cases di
      rw [List.map_cons, List.nodup_cons] at nd'
      obtain ⟨g1, g2, g3⟩ := e₃
      refine ⟨s₃.heap, s₃.toks, m', n'', ?_, hL ▸ F', hL ▸ N', fun p hp e => ?_, fon_rest hPR e₀ hL k (i + 1) (by omega) q.2 fh' dn'' nd'.2 nd'.1⟩
      · obtain ⟨a1, a2, a3, a4, a5⟩ := s₃
        cases g1; cases g2; cases g3
        rfl
      · refine nd'.1 ?_
        rw [← dn''.adr]
        exact List.mem_map.mpr ⟨p, hp, e⟩
    cases p with
    | next tk' q => cases df; exact fin tk' q
    | cont tk' q => cases df; exact fin tk' q
    | brk q => cases df; exact hPR _ _ ⟨.next, fm', l₁, q, rfl, H₃, u₀.trans e₃⟩
    | ret q => obtain ⟨v', rfl, d'⟩ := df; exact hPR _ _ ⟨_, fm', l₁, q, ⟨v', rfl, d'⟩, H₃, u₀.trans e₃⟩
theorem Ex_forR {x : Str} {px p : Pos} {iter : PySem.Expr} {body r : List Stmt} {P : AF → FM → LG → Prop} (hO : Own C env) (h : Ev C env fm l iter fun a l₁ => ∃ rg n, a = .ref rg ∧ Get l₁ rg (.rng ((n : Nat) : Int)) ∧ n ≤ 1000 ∧ FoN C env x body (NxP (fun fm l => Ex C env fm l r P) P) (upto n) fm l₁) (hL : env.locals = C.L := by rfl) (hx : env.kindOf x = some .local := by rfl) (hp : (env.scope.kind == .class || (env.scope.kind == .module && env.locals != env.globals)) = false := by rfl)
    (hs' : ∀ x, foldedSetIterable iter env x = pure x := by intro _; rfl) : Ex C env fm l (.For (.Name x px) iter body [] p :: r) P := .mk fun s ⟨m, hs⟩ => by
  refine wpAny_execs_cons (wpAny_mono (Q := C.fp (NxP (fun fm l => Ex C env fm l r P) P) s) (E := C.er s) ?_ (fun f s₂ x => seq_next x) fun _ _ x => x)
  obtain ⟨F₀, _⟩ := hs.fr
  refine For_invVF (h₀ := C.h₀) (m := m) (hL ▸ F₀) hx hp (wpAny_mono (h.run m s hs) (fun v s₁ ⟨av, l₁, ⟨rg, n, ea, g, hn, q⟩, d, H₁, e₁⟩ => ?_) fun _ _ x => x) hs' (hO s)
  subst ea
  cases d
  obtain ⟨nw, F, dn, N, nn, back⟩ := H₁.out
  obtain ⟨o, ⟨t, u, v, e⟩, ho, _⟩ := H₁.en _ g.mem
  subst e
  refine iter_rangeUnr rfl ho (range_small hn).1 (range_small hn).2 (hL ▸ F) (hL ▸ N) fun I hI => ?_
  exact fon_rest (C := C) (fun f s' x => x) e₁ hL n 0 (by omega) q H₁.fr.2 dn H₁.nd (fun hm => by
    rw [← dn.adr] at hm
    obtain ⟨p, hp, e⟩ := List.mem_map.mp hm
    exact Nat.ne_of_lt (hI p hp) e)
end
section
open PyProof.Rows.LCg (NsObj lst Off3 CompEnd CompRest FinE CompSrc block_U Off1)
variable {w : World} {h₀ h : Heap} {L : Addr} {m : Str → Option Value} {fm : FM} {l l' : LG} {C : Cx} {env : Env} {k k' : Nat}
-- a comprehension over a tuple
def TupIn (ax : Addr) (its : Array Value) (news : List (Addr × Obj)) : Prop := ∃ o, (ax, o) ∈ news ∧ o.cls = .type "tuple" ∧ ∃ n, o.data = .seq its n
theorem TupIn.tup {ax : Addr} {its : Array Value} {news : List (Addr × Obj)} (x : TupIn ax its news) (N : News h₀ L h news) : h.IsTuple ax its := let ⟨o, hm, r⟩ := x; ⟨o, (N _ hm).1, r⟩
theorem ListComp_Tup {prog : Program} {A : Around} {E : Value → Shared → Prop} {s : Shared} {elt iter : PySem.Expr} {x : Str} {px : Pos} {scope : Scope} {cl : List (Str × Addr)} {pos : Pos} {Q : Value → Shared → Prop}
    (hclos : closureFor scope env = pure cl) (hcell : ∀ y ∈ scope.names, y.2 ≠ .cell) (hkind : scope.kind = .function)
    (hnames : ∀ y ∈ scope.names, y.2 = .local → scope.names.lookup y.1 = some .local) (hx : scope.names.lookup x = some .local)
    (h : wpAny (model prog w) A (eval iter env) (fun xv s₁ => ∃ ax its news, xv = .ref ax ∧ A.handled = none ∧ Fr h₀ L s₁.heap m ∧ News h₀ L s₁.heap news ∧ TupIn ax its news ∧ its.size ≤ sizeLine ∧
      ∀ s₂ : Shared, (∃ h, s₂ = { s₁ with heap := h }) → CompRest prog w A h₀ L m env elt x scope cl s₂ (TupIn ax its) (fun i v => its[i]? = some v) (FinE h₀ L m s₂ Q) its.size 0 [] news) E s)
    (hs : ∀ x, foldedSetIterable iter env x = pure x) : wpAny (model prog w) A (eval (.ListComp elt [⟨.Name x px, iter, [], 0⟩] scope pos) env) Q E s := by
  rw [eval_ListComp]
  refine wpAny_comprehension_free (use := none) rfl hs hclos hkind hnames (wpAny_mono h (fun xv s₁ h₁ => ?_) fun _ _ e => e)
  obtain ⟨ax, its, news, rfl, hh, F, N, S, hsz, R⟩ := h₁
  have hl := S.tup N
  have hlt : ax < s₁.heap.objs.size := by obtain ⟨_, e, _⟩ := hl; exact Heap.lt_size e
  refine wpAny_pyIter_tuple hl ?_
  have up : ∀ b o, s₁.heap.get? b = some o → (s₁.heap.push { cls := .type "tuple_iterator", data := .fields #[.ref ax, .int 0 0] }).get? b = some o := fun b o e => Heap.get?_push_of_some _ e
  refine block_U (Walks.tuple hh s₁.heap.objs.size ax (Nat.ne_of_lt hlt) its) hsz (fun i h st => by obtain ⟨o, e, _⟩ := st.1; exact ⟨o, e⟩) (fun i h h' o nw st e e' k N S => ⟨by obtain ⟨o', q, r⟩ := st.1; rw [e] at q; cases q; exact ⟨o, e', r⟩, TupIn.tup S N⟩) hcell hkind hx ⟨⟨_, Heap.get?_push_size _ rfl, rfl, rfl⟩, let ⟨o, e, r⟩ := hl; ⟨o, up _ _ e, r⟩⟩ (fun b hb => ?_)
    (F.keeps up) (N.grown up) (Nat.ne_of_lt F.ns.lt) (next_is_new F) (fun p hp => Nat.ne_of_lt (Heap.lt_size (N p hp).1)) S (R _ ⟨_, rfl⟩) ?_
  · show b < (s₁.heap.push _).objs.size
    rw [Heap.size_push]
    rcases List.mem_cons.mp hb with rfl | hb
    · exact Nat.lt_succ_self _
    · rw [List.mem_singleton.mp hb]; exact Nat.lt_succ_of_lt hlt
  · intro D C h' tk m' ys news' F' N' o1 hn hC₀ hD₀ hCL hDL hCD offC fin
    refine ⟨m', hn, fun h'' hs'' => fin D h'' tk (F'.change hs'' hCL hC₀) (fun p hp => ?_) o1⟩
    refine ⟨hs''.extBut _ _ ?_ (N' p hp).1, (N' p hp).2⟩
    rcases List.mem_cons.mp hp with rfl | hp
    · exact Ne.symm hCD
    · exact offC p hp
theorem Ev_lcUT {elt iter : PySem.Expr} {x : Str} {px : Pos} {scope : Scope} {cl : List (Str × Addr)} {pos : Pos} {P : AV → LG → Prop} (hR : C.R = nopR)
    (h : Ev C env fm l iter fun a l₁ => ∃ ax items, ∃ l₂ : Obj → LG, a = .ref ax ∧ (∀ lo, Put l₁ ax (.tup items) (.obj lo) (l₂ lo)) ∧ items.length ≤ 1000 ∧ ∀ lo, Co C fm env none elt x scope cl (fun l => Get l ax (.obj lo)) (fun ys l => PutF l ax (.obj lo) (.tup items) fun l => ∀ D, P (.ref D) ((D, .lst ys) :: l)) items [] (l₂ lo))
    (hclos : closureFor scope env = pure cl := by with_unfolding_all rfl) (hcell : ∀ y ∈ scope.names, y.2 ≠ .cell := by decide) (hkind : scope.kind = .function := by rfl)
    (hnames : ∀ y ∈ scope.names, y.2 = .local → scope.names.lookup y.1 = some .local := by decide) (hx : scope.names.lookup x = some .local := by rfl) (hs' : ∀ x, foldedSetIterable iter env x = pure x := by intro _; rfl) :
    Ev C env fm l (.ListComp elt [⟨.Name x px, iter, [], 0⟩] scope pos) P := .mk fun m s hs =>
  ListComp_Tup (h₀ := C.h₀) (L := C.L) (m := m) hclos hcell hkind hnames hx (h.go hs fun a l₁ v s₁ ⟨ax, items, l₂, ea, u, z, q⟩ d H₁ e₁ => by
    subst ea
    cases d
    obtain ⟨n, F, dn, N, nn, back⟩ := H₁.out
    obtain ⟨lo, hm, dl, _⟩ := (u (W.listOf #[] 0)).obj dn
    obtain ⟨lo', hm', dl', zz⟩ := (u lo).obj dn
    have same : lo' = lo := by have := (N _ hm').1; rw [(N _ hm).1] at this; exact (Option.some.inj this).symm
    have dn₂ := zz same
    obtain ⟨vs, k', e, da⟩ := id dl
    have hl := da.len
    have sr : ∀ (l : LG) (n : List (Addr × Obj)), Get l ax (.obj lo) → Den C.w l n → TupIn ax vs.toArray n := fun l n g d => by
      obtain ⟨o, hm, ho⟩ := d.get g
      cases ho
      subst e
      exact ⟨_, hm, rfl, _, rfl⟩
    refine ⟨ax, vs.toArray, n, rfl, rfl, F, N, sr _ _ (u lo).get' dn₂, by rw [List.size_toArray, hl]; exact Nat.le_trans z (by rw [sizeLine_eq]; exact Nat.le_of_ble_eq_true rfl), fun s₂ hs₂ => ?_⟩
    obtain ⟨g, rfl⟩ := hs₂
    rw [List.size_toArray, hl]
    exact rest_U (items := items) hR H₁.fr.2 (fun i v a hv ha => by
        obtain ⟨v', hv', dv⟩ := da.at ha
        rw [List.getElem?_toArray, hv'] at hv
        exact Option.some.inj hv ▸ dv) (fun l n g d => sr l n g d) (fun ys' ys l n ⟨p, f⟩ dy dn nd => by
          obtain ⟨o, _, eo, back⟩ := p.obj dn
          cases eo
          exact fun D h' tk F' N' o => ⟨.ref D, _, f D, rfl, fin_off F' H₁.fr.2 (back dl) (p.adr ▸ nd) N' o dy, e₁.trans (hp_same s₁ h' tk)⟩) items 0 rfl (q lo) .nil dn₂ ((u lo).adr ▸ H₁.nd)) hs'
-- lists of bools compared
theorem bl_canLay : ∀ ns : List Bool, PyData.canLayAll0 (ns.map PyData.bool) = true
  | [] => rfl
  | _ :: r => by simp [PyData.canLayAll0, PyData.canLay0, bl_canLay r]
theorem bl_depth : ∀ ns : List Bool, PyData.depthAll (ns.map PyData.bool) = 0
  | [] => rfl
  | _ :: r => by simp [PyData.depthAll, PyData.depth, bl_depth r]
theorem bl_shaped (ns : List Bool) : SeqAt.shaped (.list (ns.map PyData.bool)) = true := by
  simp [SeqAt.shaped, PyData.canLay0, PyData.depth, bl_canLay, bl_depth]
theorem bl_sameAll : ∀ ns ms : List Bool, PySem.Spec.sameAll (ns.map PyData.bool) (ms.map PyData.bool) = decide (ns = ms)
  | [], [] => by simp [PySem.Spec.sameAll]
  | [], _ :: _ => by simp [PySem.Spec.sameAll]
  | _ :: _, [] => by simp [PySem.Spec.sameAll]
  | a :: r, b :: t => by
    simp only [List.map_cons, PySem.Spec.sameAll, PySem.Spec.same, bl_sameAll r t]
    cases a <;> cases b <;> by_cases h' : r = t <;> simp [h']
theorem bl_same (ns ms : List Bool) : PySem.Spec.same (.list (ns.map PyData.bool)) (.list (ms.map PyData.bool)) = decide (ns = ms) := by
  simp only [PySem.Spec.same]; exact bl_sameAll ns ms
theorem bl_carried : ∀ {ns : List Bool} {vs : List Value}, AVs (ns.map .bool) vs → CarriedAll vs (ns.map PyData.bool)
  | [], _, .nil => .nil
  | _ :: _, _, .cons d r => by cases d; exact .cons (.bool _) (bl_carried r)
theorem Cp_neB {a b : Addr} {xs ys : List Bool} {c : Bool} {P : Bool → LG → Prop} (G : Good C k) (hk : k ≤ 900) (g1 : Ls l a (xs.map .bool)) (g2 : Ls l b (ys.map .bool)) (e : decide (xs = ys) = c) (h : P (!c) l) : Cp C fm l .NotEq (.ref a) (.ref b) P := .mk fun m s v u hs d d' => by
  cases d; cases d'
  obtain ⟨vs, h1, i1⟩ := g1.isList hs
  obtain ⟨us, h2, i2⟩ := g2.isList hs
  exact ne_dataH_same (reads_newData h1 (bl_carried i1)) (reads_newData h2 (bl_carried i2)) (bl_shaped _) (bl_shaped _) (by have := G.un; show C.un + 64 < 9900; omega) (SeqAt.noMix_of_shape (.list .bool) rfl _ _ (list_map_has fun _ => rfl) (list_map_has fun _ => rfl)) (by rw [bl_same, e]; exact ⟨!c, rfl, bp_of hs h⟩)
-- sorted
theorem Cl_sortedL {a : Addr} {ns : List Int} {P : AV → LG → Prop} (g : Ls l a (ns.map .int)) (z : ns.length < 64) (h : ∀ (x : Addr) (ms : List Int), ms.Perm ns → ms.Pairwise (· ≤ ·) → P (.ref x) ((x, .lst (ms.map .int)) :: l)) : Cl C fm l (.builtin "sorted") [.ref a] P := .mk fun m s vs hs d => by
  cases d with
  | cons d1 d =>
  cases d
  cases d1
  obtain ⟨us, hl, da⟩ := g.isList hs
  obtain ⟨n, F, dn, N, nn, back⟩ := hs.out
  exact kso_sorted F N hl (ints_av da) z fun D vs' ns' c h' F' N' l1 i1 _ p1 p2 _ => ⟨.ref D, _, h D ns' p1 p2, rfl, Holds.new (x := .lst (ns'.map .int)) back dn F' ⟨vs', c, rfl, av_ints i1⟩ N' (allLt_of l1), hp_same s h' _⟩
end
section
variable {w : World} {h₀ h : Heap} {L : Addr} {m : Str → Option Value} {fm : FM} {l l' : LG} {C : Cx} {env : Env} {k k' : Nat}
theorem sorted_old {B : Addr} {vs : List Value} {out : Array Value} {b : Addr} {o : Obj} (hb : b ≠ B) (e : h.get? b = some o) : (sortedHeap h B vs out).get? b = some o := (sortedHeap_old hb (Heap.lt_size e)).trans e
theorem Cl_sortedD {d : Addr} {kv : List (Int × AV)} {P : AV → LG → Prop} (g : Rd l d (.idd kv)) (z : kv.length < 64) (h : ∀ (x : Addr) (ms : List Int), ms.Perm (kv.map (·.1)) → ms.Pairwise (· ≤ ·) → P (.ref x) ((x, .lst (ms.map .int)) :: l)) : Cl C fm l (.builtin "sorted") [.ref d] P := .mk fun m s vs hs dd => by
  cases dd with
  | cons d1 dd =>
  cases dd
  cases d1
  obtain ⟨ob, ⟨lo, kv', hd, dk⟩, a⟩ := g.en hs
  obtain ⟨n, F, dn, N, nn, back⟩ := hs.out
  have hD : s.heap.DictOf (intKind Pg C.w) d kv' := Heap.dictOf_iff.mpr ⟨ob, a.1, hd⟩
  obtain ⟨ep, hat⟩ := hD.dictAt
  have hl := dk.len
  refine kdu_sorted (kdl_dict (knd := intKind Pg C.w) (kvs := kv') (ep := ep) lo) rfl F N hat (by rw [hl]; exact Nat.le_trans (Nat.le_of_lt z) (by rw [sizeLine_eq]; exact Nat.le_of_ble_eq_true rfl)) fun B h' tk us F' N' l1 hn hv => ?_
  have key : ∀ {al : List (Int × AV)} {kv : List (Int × Value)}, KVs al kv → ∀ {us : List Value}, us.length = kv.length → (∀ (j : Nat) (v : Value), us[j]? = some v → ∃ k x, kv[j]? = some (k, x) ∧ (intKind Pg C.w).is k v = true) → IntsAre us (al.map (·.1)) := by
    intro al kv q
    induction q with
    | nil => intro us hl _; cases us with
      | nil => exact .nil
      | cons => cases hl
    | @cons k a v l kv d _ ih =>
      intro us hl hv
      cases us with
      | nil => cases hl
      | cons u us =>
        obtain ⟨k', x, e1, e2⟩ := hv 0 u rfl
        cases e1
        obtain ⟨t, rfl⟩ : ∃ t, u = .int k t := by
          cases u with
          | int n t => exact ⟨t, by
            have e3 : (n == k) = true := e2
            rw [eq_of_beq e3]⟩
          | _ => cases e2
        exact .cons k t (ih (Nat.succ.inj hl) fun j v e => hv (j + 1) v e)
  have iu := key dk hn hv
  have hB := N' _ (.head _)
  refine wpAny_call_entry PyProof.Rows.slot_list_sort ⟨_, hB.1, rfl⟩ PyProof.Rows.entry_list_sort (list_sort_tree (n := 0) (vs := us) hB.1 iu (by rw [hn, hl]; exact z) fun out ns' hI hp hP => ⟨.none, rfl, ?_⟩) (PyProof.Rows.args_list_sort _)
  obtain ⟨e, he⟩ := sortedHeap_at (out := out) (vs := us) hB.1
  obtain ⟨oL, _, _, hL, _⟩ := F'.ns
  have F₂ : Fr C.h₀ C.L (sortedHeap h' B us out) m := ⟨F'.ns.at' fun o q => sorted_old (Ne.symm hB.2.1) q, fun b o q => sorted_old (fun q' => by rw [q', hB.2.2] at q; cases q) (F'.keep b o q), F'.above⟩
  have N₂ : News C.h₀ C.L (sortedHeap h' B us out) ((B, W.listOf out e) :: n) := fun p hp => by
    rcases List.mem_cons.mp hp with rfl | hp
    · exact ⟨he, hB.2⟩
    · exact ⟨sorted_old (Nat.ne_of_lt (l1 p hp)) (N' p (.tail _ hp)).1, (N' p (.tail _ hp)).2⟩
  exact ⟨.ref B, _, h B ns' hp hP, rfl, Holds.new (x := .lst (ns'.map .int)) back dn F₂ ⟨out.toList, e, by rw [Array.toArray_toList], av_ints hI⟩ N₂ (allLt_of l1), hp_same s _ _⟩
-- a dict made of a list of ints
def dd (ns : List Int) : List Int := ns.foldl addU []
theorem vst_one (us : List Int) (n : Int) : vst (us.map fun n => (n, AV.int 1)) n (.int 1) = (addU us n).map fun n => (n, AV.int 1) := by
  unfold vst addU
  have e : ((us.map fun n => (n, AV.int 1)).any fun p => decide (p.1 = n)) = us.any fun x => x == n := by
    rw [List.any_map]
    rfl
  rw [e]
  cases us.any fun x => x == n with
  | true =>
    simp only [if_true, List.map_map]
    apply List.map_congr_left
    intro x _
    show (if x = n then (x, AV.int 1) else (x, AV.int 1)) = (x, AV.int 1)
    split <;> rfl
  | false => simp
theorem AVs.snoc_inv : ∀ {as : List AV} {vs : List Value} {a : AV} {v : Value}, AVs (as ++ [a]) (vs ++ [v]) → AVs as vs ∧ a.den v
  | [], [], _, _, .cons d .nil => ⟨.nil, d⟩
  | [], _ :: vs, _, _, h => by have := h.len; simp at this
  | _ :: as, [], _, _, h => by have := h.len; simp at this
  | _ :: as, _ :: vs, _, _, .cons d r => let ⟨a, b⟩ := AVs.snoc_inv r; ⟨.cons d a, b⟩
theorem stored_dd {vs : List Value} {kvs : List (Int × Value)} (x : StoredAll (fun v k => ∃ t, v = .int k t) (fun _ y => ∃ t, y = .int 1 t) vs kvs) : ∀ {ns : List Int}, AVs (ns.map .int) vs → KVs ((dd ns).map fun n => (n, AV.int 1)) kvs := by
  induction x with
  | nil =>
    intro ns h
    cases ns with
    | nil => exact .nil
    | cons => cases h
  | @snoc l kvs v k y _ hk hy ih =>
    intro ns h
    rcases List.eq_nil_or_concat ns with e0 | ⟨ns0, n', e0⟩
    · subst e0; have := h.len; simp at this
    · rw [List.concat_eq_append] at e0
      subst e0
      rw [List.map_append] at h
      obtain ⟨h1, h2⟩ := AVs.snoc_inv h
      obtain ⟨t, rfl⟩ := hk
      obtain ⟨t', e⟩ := h2
      cases e
      obtain ⟨t2, rfl⟩ := hy
      have e2 : dd (ns0 ++ [k]) = addU (dd ns0) k := by unfold dd; rw [List.foldl_append]; rfl
      rw [e2, ← vst_one]
      exact (ih h1).vst ⟨t2, rfl⟩
theorem newDict_here {M : Model} {A : Around} {E : Value → Shared → Prop} {s : Shared} {X : Value → Shared → Prop} (h : wpAny M A newDict X E s) : wpAny M A newDict (fun acc s' => acc = .ref s.heap.objs.size ∧ X acc s') E s := fun Γ p hΓ => by
  have z := h Γ p hΓ
  have e : newDict = (do let a ← alloc ⟨.type "dict", none, .dict #[], #[]⟩; pure (.ref a)) := by rfl
  rw [e] at z ⊢
  exact ⟨rfl, z⟩
theorem Ev_dcI {iter : PySem.Expr} {x : Str} {px pn pc pos : Pos} {kk : Nat} {scope : Scope} {cl : List (Str × Addr)} {P : AV → LG → Prop}
    (h : Ev C env fm l iter fun a l₁ => ∃ ax, ∃ ns : List Int, a = .ref ax ∧ Ls l₁ ax (ns.map .int) ∧ ns.length ≤ 1000 ∧ ∀ D, P (.ref D) ((D, .idd ((dd ns).map fun n => (n, AV.int 1))) :: l₁))
    (G : Good C k) (hclos : closureFor scope env = pure cl := by with_unfolding_all rfl) (hcell : ∀ y ∈ scope.names, y.2 ≠ .cell := by decide) (hkind : scope.kind = .function := by rfl)
    (hnames : ∀ y ∈ scope.names, y.2 = .local → scope.names.lookup y.1 = some .local := by decide) (hx : scope.names.lookup x = some .local := by rfl) (hs' : ∀ x, foldedSetIterable iter env x = pure x := by intro _; rfl)
    (hk : ∀ Cn, (compEnvC scope cl Cn env).scope.kind = .function := by intro _; rfl) (hl : ∀ Cn, (compEnvC scope cl Cn env).kindOf x = some .local := by intro _; rfl) (hloc : ∀ Cn, (compEnvC scope cl Cn env).locals = Cn := by intro _; rfl) (hd : (x == ("__debug__" : Str)) = false := by decide) :
    Ev C env fm l (.DictComp (.Name x pn) (.Constant (.int 1) kk pc) [⟨.Name x px, iter, [], 0⟩] scope pos) P := .mk fun m s hs => by
  obtain ⟨mean, mg, mb, T⟩ := G.T
  rw [arm_eval_DictComp]
  refine wpAny_comprehension_free (use := none) rfl hs' hclos hkind hnames (h.go hs fun a l₁ v s₁ ⟨ax, ns, ea, g, z, q⟩ d H₁ e₁ => ?_)
  subst ea
  cases d
  obtain ⟨vs, hls, da⟩ := g.isList H₁
  obtain ⟨n, F, dn, N, nn, back⟩ := H₁.out
  have hlt : ax < s₁.heap.objs.size := by obtain ⟨_, e, _⟩ := hls; exact Heap.lt_size e
  have hlen : vs.length = ns.length := by rw [da.len, List.length_map]
  have up : ∀ (h₃ : Heap), (∀ b o, b ∉ [s₁.heap.objs.size] → (s₁.heap.push { cls := .type "list_iterator", data := .fields #[.ref ax, .int 0 0] }).get? b = some o → h₃.get? b = some o) → ∀ b o, s₁.heap.get? b = some o → h₃.get? b = some o :=
    fun h₃ hk b o e => hk b o (fun hm => by rcases List.mem_cons.mp hm with rfl | hm; exact Nat.lt_irrefl _ (Heap.lt_size e); cases hm) (Heap.get?_push_of_some _ e)
  refine wpAny_pyIter_list hls (wpAny_mono (newDict_here (comp_block_walkCD (knd := intKind Pg C.w) (RR := fun acc Cn r s' => acc = .ref _ → compPost (model Pg C.w) C.A (C.er s) none (C.vp m fm P s) acc Cn r s') (Walks.list rfl s₁.heap.objs.size ax (Nat.ne_of_lt hlt) vs.toArray) (by rw [List.size_toArray, hlen]; exact Nat.le_trans z (by rw [sizeLine_eq]; exact Nat.le_of_ble_eq_true rfl)) (fun _ => true) (fun v k => ∃ t, v = .int k t) (fun _ y => ∃ t, y = .int 1 t) hcell hkind hx ⟨⟨_, Heap.get?_push_size _ rfl, rfl, rfl⟩, hls.push _⟩ ?_ ⟨?_, ?_, ?_⟩ ?_)) (fun acc s₃ ⟨ea, x⟩ => wpAny_mono x (fun cenv s₄ y => codeAny_mono y fun r s' z => z ea) fun _ _ e => e) fun _ _ e => e)
  · intro b hb
    show b < (s₁.heap.push _).objs.size
    rw [Heap.size_push]
    rcases List.mem_cons.mp hb with rfl | hb
    · exact Nat.lt_succ_self _
    · rcases List.mem_cons.mp hb with rfl | hb
      · exact Nat.lt_succ_of_lt hlt
      · cases hb
  · intro Cn i v s₃ m₃ E' hP hn hm hk
    exact wpAny_pure ⟨rfl, _, _, rfl, fun _ _ e => e⟩
  · intro Cn i v s₃ m₃ E' hP hp hn hm _
    obtain ⟨b, hb, dv⟩ : ∃ t, v = .int (ns.getD i 0) t ∧ True := by
      have hP' : vs[i]? = some v := by simpa using hP
      have hi : i < vs.length := by
        rcases Nat.lt_or_ge i vs.length with q | q
        · exact q
        · rw [List.getElem?_eq_none q] at hP'; cases hP'
      obtain ⟨v', hv', t, e⟩ := da.at (i := i) (b := .int (ns.getD i 0)) (by
        rw [List.getElem?_map, List.getElem?_eq_getElem (by omega)]
        show some (AV.int _) = some (AV.int _)
        rw [List.getD_eq_getElem?_getD, List.getElem?_eq_getElem (by omega)]
        rfl)
      rw [hP'] at hv'
      cases hv'
      exact ⟨t, e, trivial⟩
    subst hb
    exact wpAny_Name (wpAny_loadName_local (hk Cn) (hl Cn) ((hloc Cn).symm ▸ hn) hm ⟨⟨_, intKind_is _ _ _ _, _, rfl⟩, _, _, rfl, fun _ _ e => e⟩) hd
  · intro Cn i v s₃ m₃ E' hP hp hn hm _
    exact wpAny_Constant_int ⟨⟨_, rfl⟩, _, _, rfl, fun _ _ e => e⟩
  · intro D Cn h' tk m' kvs vs' hnew hC hDC hn hlD hlen' hP hF hk eD
    have eD : D = (s₁.heap.push { cls := .type "list_iterator", data := .fields #[.ref ax, .int 0 0] }).objs.size := by cases eD; rfl
    rw [Heap.size_push] at eD
    refine ⟨m', hn, fun h'' hs'' => ?_⟩
    have e : vs' = vs := by simpa using list_of_places hlen' hP
    subst e
    have keep : ∀ b o, s₁.heap.get? b = some o → h''.get? b = some o := fun b o q => hs''.extBut b o (by rintro rfl; rw [Heap.get?_push_of_some _ q] at hC; cases hC) (up h' hk b o q)
    obtain ⟨o, ho, hdo⟩ := Heap.dictOf_iff.mp (hlD.extBut hs''.extBut hDC)
    have hsz : s₁.heap.objs.size ≤ D := by rw [eD]; exact Nat.le_succ _
    have F' := F.keeps keep
    have N' : News C.h₀ C.L h'' ((D, o) :: n) := News.kept_cons F N keep hsz ho
    have f : (vs'.filter fun _ => true) = vs' := List.filter_eq_self.mpr fun _ _ => rfl
    rw [f] at hF
    have lo : (D == sysModules) = false := beq_eq_false_iff_ne.mpr (Nat.ne_of_gt (Nat.lt_of_lt_of_le (Nat.lt_trans (modules_low T.nolimit) (Nat.lt_of_le_of_lt F.above F.ns.lt)) hsz))
    exact ⟨.ref D, _, q D, rfl, Holds.new (x := .idd _) back dn F' ⟨lo, kvs, hdo, stored_dd hF da⟩ N' (allLt_of fun p hp => Nat.lt_of_lt_of_le (Heap.lt_size (N p hp).1) hsz), e₁.trans (hp_same s₁ h'' tk)⟩
end
section
variable {w : World} {h₀ h : Heap} {L : Addr} {m : Str → Option Value} {fm : FM} {l l' : LG} {C : Cx} {env : Env} {k k' : Nat}
theorem caught_W {prog : Program} {A : Around} {E : Value → Shared → Prop} {s' : Shared} {outer : List Env} {e t : Addr} {vs : List Value} {b₀ : Stmt} {suite : List Stmt} {pos np : Pos} {rest : List ExceptHandler} {Q : Flow → Shared → Prop} {K : Frag} {D : Addr}
    {p : Program} {loose : List Str} {mean : ExcName → Option Value} {mg mb : Str → Option Value} {x nm qn : Str} {N : Addr} {bs bm : List Value} {hdct : Bool} {sn : List Str} {sub : List Value} {ab : Bool} {col : Option Bool} {dd : Option Addr} {k0 k1 k2 k3 k5 : Option Value} {newId : String}
    (hA : A.frames = some (env :: outer)) (hf : env.frame = some L) (hgl : env.globals = mainGlobals) (hk : env.scope.kind = .function) (F : Fr h₀ L h m) (hsm : h.UpToSlots s'.heap) (R : RaisedK h₀ (env :: outer) e (.ref D) t vs [] s'.heap)
    (X : K.In h₀) (T : Top p loose mean mg mb h₀) (ex : nsIn K mainGlobals x = some (some (.ref D))) (q : K.lookup D = some (excClassObj nm qn D N bs bm hdct sn sub ab col dd k0 k1 k2 k3 k5 newId)) (hbase : bm.contains (.type "BaseException") = true)
    (hgo : ∀ h', Fr h₀ L h' m → wpAny (model prog w) (A.mark (some (.ref e))) (execs (b₀ :: suite) env) Q E { s' with heap := h' })
    (hx : env.kindOf x = some .globalImplicit) (hd : (x == ("__debug__" : Str)) = false) (hE : PassesOwnAt (model prog w) (A.mark (some (.ref e))) A env E) :
    wpAny (model prog w) A (noteFrame (.ref e) env) (fun _ s₂ => wpAny (model prog w) A (setFlight (.ref e) none) (fun _ s₃ =>
      wpAny (model prog w) A (handleBy (.ref e) env (.ExceptHandler (some (.Name x np)) none (b₀ :: suite) pos :: rest)) Q E s₃) E s₂) E s' := by
  obtain ⟨⟨B, hB, hl, hfl, hnew⟩, htup⟩ := R
  refine wpAny_looks_onW hA hf hfl fun h₄ hheld₄ hsm₄ => ?_
  refine wpAny_landsW hheld₄ fun h₅ hheld hsm₅' => ?_
  have hsm₅ := hsm₄.trans hsm₅'
  have hheld' := flyingW_base hB hheld
  have F₅ := F.of_stays hheld'.1 (hsm.trans hsm₅)
  obtain ⟨ob, hob, hobc⟩ := hheld'.there
  refine wpAny_handleBy_cons (codeAny_handlers_test (PySem.Calls.Name_function_global hk hx (PySem.Calls.loadGlobal_global (mg := mg) (hgl ▸ T.g.keeps F₅.keep) (mg_of X T.g ex) ?_) hd)) (by intro q; cases q)
  have hC := F₅.keep _ _ (X _ _ q)
  refine wpAny_excMatches_sub_self hC hob hobc hbase (codeAny_handlers_suite ?_)
  refine lands_againW hheld fun h₆ hfl₆ hsm₆ => ?_
  have hfl₆' := flyingW_base hB hfl₆
  have F₆ := F.of_stays hfl₆'.1 ((hsm.trans hsm₅).trans hsm₆)
  exact wpAny_passesOwnAt hE (hgo h₆ F₆)
/-- try: one call that may raise a CheckFault; the handler gives back the negation of a flag -/
def TryR (C : Cx) (fm : FM) (bad : Prop) (v : Value) (s s' : Shared) : Prop := bad ∧ Same s s' ∧ ∃ e, v = .ref e ∧ RK C fm e s'.heap
noncomputable abbrev Cx.tryC (C : Cx) (fm : FM) (bad : Prop) : Cx := { C with R := TryR C fm bad }
theorem Rz_try {bad : Prop} (hb : bad) : Rz (C.tryC fm bad) fm := fun e s s' r sm => ⟨hb, sm, e, rfl, r⟩
theorem Good.tryC {bad : Prop} (G : Good C k) : Good (C.tryC fm bad) k := ⟨G.dp, G.un, G.B, G.X, G.T⟩
theorem Ex_try {body : List Stmt} {x y : Str} {np hp rp up yp p : Pos} {r : List Stmt} {P : AF → FM → LG → Prop} {b : Bool} (bad : Prop) (G : Good C k) (hR : C.R = nopR) (hb : C.base = C.h₀) (he : env = C.env) (ex : nsIn (KF C.w.params) mainGlobals x = some (some (.ref 51)))
    (hy : fm.lookup y = some (.bool b)) (hret : bad → ∀ fm' l', P (.ret (.bool (!b))) fm' l') (h : Ex (C.tryC fm bad) env fm l body (NxP (fun fm' l' => Ex C env fm' l' r P) P))
    (hk : env.scope.kind = .function := by rfl) (hx : env.kindOf x = some .globalImplicit := by rfl) (hyl : env.kindOf y = some .local := by rfl) (hd : (x == ("__debug__" : Str)) = false := by decide) (hd2 : (y == ("__debug__" : Str)) = false := by decide) :
    Ex C env fm l (.Try body [.ExceptHandler (some (.Name x np)) none [.Return (some (.UnaryOp .Not (.Name y yp) up)) rp] hp] [] [] p :: r) P := .mk fun s hs => by
  obtain ⟨mean, mg, mb, T⟩ := G.T
  obtain ⟨nm', qn, bs, dd, k0, k1, k2, k3, k5, hc⟩ := cls51 C.w.params
  refine wpAny_execs_cons (wpAny_Try_except (wpAny_mono (h.run s hs) (fun f s₁ z => ?_) fun v s₁ ⟨s₀, sm, hbad, sm', e, ev, t, vs, g₂, m, F, fh, R, U⟩ => ?_))
  · have z' : C.fp (NxP (fun fm' l' => Ex C env fm' l' r P) P) s f s₁ := z
    have z₂ := seq_next z'
    cases f with
    | next => exact wpAny_execs_nil z₂
    | _ => exact z₂
  · subst ev
    have R' : RaisedK C.h₀ (env :: C.outer) e (.ref 51) t vs [] s₁.heap := by rw [he, ← hb]; exact R
    refine caught_W (x := x) (D := 51) (L := C.L) (by rw [he]) (by rw [he]) (by rw [he]) hk F U R' G.X T ex hc (by decide +kernel) (fun h' F' => ?_) hx hd (fun _ _ h => no_er hR h)
    obtain ⟨v, hv, d⟩ := fh y _ hy
    cases d
    refine wpAny_execs_cons (wpAny_Return_some (wpAny_UnaryOp (wpAny_Name (wpAny_loadName_local hk hyl (by rw [he]; exact F'.ns) hv (not_value (wpAny_truthy_bool ?_))) hd2)))
    exact ⟨.ret (.bool (!b)), fm, [], hret hbad fm [], ⟨_, rfl, rfl⟩, ⟨m, ⟨F', fh⟩, (fun _ hp => nomatch hp), List.nodup_nil⟩, (sm.trans sm').trans (hp_same s₁ h' _)⟩
end
section
/-- the statements of law -/
noncomputable def lawB : List Stmt := match st 71 with
  | .FunctionDef _ _ b _ _ _ _ _ _ _ => b
  | _ => []
noncomputable def lawSc : Scope := match st 71 with
  | .FunctionDef _ _ _ _ _ _ sc _ _ _ => sc
  | _ => ⟨.function, [], false, false, []⟩
/-- a for's body -/
def forB : Stmt → List Stmt
  | .For _ _ b _ _ => b
  | _ => []
noncomputable def placeB : List Stmt := match lawB.drop 7 with
  | s :: _ => forB s
  | _ => []
noncomputable def turnB : List Stmt := match placeB.drop 1 with
  | s :: _ => forB s
  | _ => []
noncomputable def seenB : List Stmt := match lawB.drop 8 with
  | s :: _ => forB s
  | _ => []
abbrev lawNm : List (Str × NameKind) := [("script", .local), ("flask", .cell), ("root", .cell), ("at", .local), ("types", .local), ("outer", .local), ("inner", .local), ("scope", .local), ("used", .local), ("place", .local), ("nodes", .local), ("numbers", .local), ("is_let", .local), ("turn", .local), ("way", .local), ("mark", .local), ("is_heard", .local), ("t", .cell), ("seen", .local), ("open_region", .globalImplicit), ("range", .globalImplicit), ("_law_tip", .globalImplicit), ("Scope", .globalImplicit), ("Limits", .globalImplicit), ("len", .globalImplicit), ("declare_use_type", .globalImplicit), ("CheckFault", .globalImplicit), ("sorted", .globalImplicit)]
/-- law's own frame -/
structure LP where
  w : World
  h₀ : Heap
  L : Addr
  dp : Nat
  un : Nat
  gd : Option (List Code)
  mr : List (Str × Const)
  a : Addr
  ccd : Value
  outer : List Env
noncomputable abbrev LP.C (p : LP) : Cx := ⟨p.w, p.h₀, p.L, nopR, p.dp, p.un, p.gd, "law", lawNm, false, false, p.mr, p.a, p.ccd, [("t", p.L + 3), ("root", p.L + 2), ("flask", p.L + 1)], p.outer, p.h₀⟩
theorem law_nm : lawSc.names = lawNm := by rfl
variable {l : LG} {pks : List (Bool × PkgD)}
structure LetOk (pks : List (Bool × PkgD)) (mks : List (Nat × Bool)) (b : Bool) : Prop where
  al : ∀ y ∈ mks, ∃ b D, pks[y.1]? = some (b, D)
  t : b = true → ∀ y ∈ mks, ∃ b D, pks[y.1]? = some (b, D) ∧ (y.2 = true → b = true)
  f : b = false → ∃ y ∈ mks, y.2 = true ∧ ∃ D, pks[y.1]? = some (false, D)
theorem LetOk.nil : LetOk pks [] true := ⟨(fun _ h => (nomatch h)), (fun _ _ h => (nomatch h)), (fun h => (nomatch h))⟩
theorem LetOk.snoc {mks : List (Nat × Bool)} {b tg c : Bool} {i : Nat} {D : PkgD} (h : LetOk pks mks b) (e : pks[i]? = some (tg, D)) : LetOk pks (mks ++ [(i, c)]) (b && (!c || tg)) := by
  refine ⟨fun y hy => ?_, fun hb y hy => ?_, fun hb => ?_⟩
  · rcases List.mem_append.mp hy with hy | hy
    · exact h.al y hy
    · rw [List.mem_singleton.mp hy]; exact ⟨_, _, e⟩
  · rw [Bool.and_eq_true] at hb
    rcases List.mem_append.mp hy with hy | hy
    · exact h.t hb.1 y hy
    · rw [List.mem_singleton.mp hy]
      refine ⟨tg, D, e, fun hc => ?_⟩
      have z := hb.2
      dsimp only at hc
      rw [hc] at z
      exact z
  · cases b with
    | false =>
      obtain ⟨y, hy, r⟩ := h.f rfl
      exact ⟨y, List.mem_append_left _ hy, r⟩
    | true =>
      refine ⟨(i, c), List.mem_append_right _ (.head _), ?_⟩
      cases c with
      | false => cases hb
      | true =>
        cases tg with
        | true => cases hb
        | false => exact ⟨rfl, D, e⟩
theorem Mks.snoc {nds : List AV} {mks : List (Nat × Bool)} {v : AV} {y : Nat × Bool} (h : Mks l nds mks) (n : NdF l v y) : Mks l (nds ++ [v]) (mks ++ [y]) := by
  induction h with
  | nil => exact .cons n .nil
  | cons a _ ih => exact .cons a ih
theorem FSub.skip {a b : FM} {x : Str} {v : AV} (f : FSub a b) (n : a.lookup x = none) : FSub a ((x, v) :: b) := fun y bv q => by
  rw [List.lookup_cons]
  by_cases z : y = x
  · subst z; rw [n] at q; cases q
  · rw [show (y == x) = false from beq_eq_false_iff_ne.mpr z]; exact f y bv q
theorem FSub.get {a b : FM} {x : Str} {v : AV} (f : FSub a b) (h : a.lookup x = some v) : b.lookup x = some v := f x v h
theorem Ex_asgM {C : Cx} {env : Env} {fm : FM} {elts : List PySem.Expr} {names : List Str} {kk : Nat} {tp p : Pos} {e : PySem.Expr} {r : List Stmt} {P : AF → FM → LG → Prop} (h : Ev C env fm l e fun a l₁ => ∃ t xs, a = .ref t ∧ Rd l₁ t (.tup xs) ∧ names.length = xs.length ∧ Ex C env ((names.reverse.zip xs.reverse).reverse ++ fm) l₁ r P)
    (hw : swappedStores [.Tuple elts kk tp] e env = pure (some names)) (hx : (names.reverse.all fun x => env.kindOf x == some .local) = true) (hL : env.locals = C.L := by rfl) (hp : (env.scope.kind == .class || (env.scope.kind == .module && env.locals != env.globals)) = false := by rfl) (hsw : swapsWithSole [.Tuple elts kk tp] e p.line env = pure false := by rfl) : Ex C env fm l (.Assign [.Tuple elts kk tp] e p :: r) P :=
  Ex_asgN h hw (fun x hx' => eq_of_beq (List.all_eq_true.mp hx x hx')) hL hp hsw
theorem pk_item {v : Int} {n : Nat} (h0 : 0 ≤ v) (h1 : v < 3) (e : v = (n : Int)) : Txt.item "pqr" v = pk n := by
  subst e
  match n, h1 with
  | 0, _ => decide +kernel
  | 1, _ => decide +kernel
  | 2, _ => decide +kernel
  | n + 3, h => exact absurd h (by omega)
theorem ts_item {v : Int} (h0 : 0 ≤ v) (h1 : v < 2) : ∃ x, Txt.item "ts" v = x ∧ (x = Str.ofString "t" ∨ x = Str.ofString "s") := by
  obtain ⟨n, rfl⟩ : ∃ n : Nat, v = (n : Int) := ⟨v.toNat, by omega⟩
  match n, h1 with
  | 0, _ => exact ⟨_, rfl, .inl (by decide +kernel)⟩
  | 1, _ => exact ⟨_, rfl, .inr (by decide +kernel)⟩
  | n + 2, h => exact absurd h (by omega)
theorem vst_same {K : Type} [DecidableEq K] : ∀ {kv : List (K × AV)} {k : K} {a : AV}, (kv.map (·.1)).Nodup → vat kv k = some a → vst kv k a = kv := by
  intro kv k a nd e
  have key : ∀ {kv : List (K × AV)}, (kv.map (·.1)).Nodup → vat kv k = some a → (kv.any fun p => decide (p.1 = k)) = true ∧ (kv.map fun p => if p.1 = k then (p.1, a) else p) = kv := by
    intro kv
    induction kv with
    | nil => intro _ e; cases e
    | cons p r ih =>
      obtain ⟨k', b⟩ := p
      intro nd e
      rw [List.map_cons, List.nodup_cons] at nd
      unfold vat at e
      by_cases q : k' = k
      · rw [if_pos q] at e
        cases e
        refine ⟨by rw [List.any_cons]; simp [q], ?_⟩
        rw [List.map_cons]
        dsimp only
        rw [if_pos q]
        congr 1
        have : ∀ r : List (K × AV), k' ∉ r.map (·.1) → (r.map fun p => if p.1 = k then (p.1, a) else p) = r := by
          intro r
          induction r with
          | nil => intro _; rfl
          | cons p r ih =>
            intro h
            rw [List.map_cons, List.mem_cons, not_or] at h
            rw [List.map_cons, ih h.2, if_neg (fun z => h.1 (q.trans z.symm))]
        exact this r nd.1
      · rw [if_neg q] at e
        obtain ⟨h1, h2⟩ := ih nd.2 e
        refine ⟨by rw [List.any_cons, h1, Bool.or_true], ?_⟩
        rw [List.map_cons, h2]
        dsimp only
        rw [if_neg q]
  obtain ⟨h1, h2⟩ := key nd e
  unfold vst
  rw [h1]
  exact h2
end
section
variable {l l' rest : LG} {C : Cx} {env : Env} {fm : FM}
theorem Rd.sub {a : Addr} {x : AO} (r : Rd l a x) (g : GSub l l') : Rd l' a x := by
  cases r with
  | g r => exact .g (g _ _ r)
  | f r => exact .f (g _ _ r)
theorem Ls.sub {a : Addr} {xs : List AV} (r : Ls l a xs) (g : GSub l l') : Ls l' a xs := by
  cases r with
  | l r => exact .l (g _ _ r)
  | r r => exact .r (g _ _ r)
theorem Fld.sub {x K : Addr} {name : Str} {b : AV} (f : Fld l x K name b) (g : GSub l l') : Fld l' x K name b := let ⟨dx, al, a, c, e⟩ := f; ⟨dx, al, a.sub g, c.sub g, e⟩
theorem PlF.sub {p q r : Addr} {num : Int} {us : List Int} (h : PlF l p q r num us) (s : GSub l l') : PlF l' p q r num us :=
  let ⟨a, b, c, d, ⟨_, f, f'⟩, ⟨_, _, g, g'⟩, ⟨_, _, i, i'⟩⟩ := h
  ⟨a.sub s, b.sub s, c.sub s, d.sub s, ⟨_, f.sub s, f'.sub s⟩, ⟨_, _, g.sub s, s _ _ g'⟩, ⟨_, _, i.sub s, s _ _ i'⟩⟩
theorem PlS.sub {p q r utl : Addr} {num : Int} (h : PlS l p q r num utl) (s : GSub l l') : PlS l' p q r num utl :=
  let ⟨a, b, c, d, ⟨_, f, f'⟩, ⟨_, _, g, g'⟩, i⟩ := h
  ⟨a.sub s, b.sub s, c.sub s, d.sub s, ⟨_, f.sub s, f'.sub s⟩, ⟨_, _, g.sub s, s _ _ g'⟩, i.sub s⟩
theorem RtF.sub {r : Addr} {kn : List (Str × AV)} {kt : List (Int × AV)} (h : RtF l r kn kt) (s : GSub l l') : RtF l' r kn kt :=
  let ⟨a, b, c, d, ⟨_, f, f'⟩, ⟨_, _, g, g'⟩, ⟨_, _, i, i'⟩, ⟨_, j, j'⟩⟩ := h
  ⟨a.sub s, b.sub s, c.sub s, d.sub s, ⟨_, f.sub s, f'.sub s⟩, ⟨_, _, g.sub s, s _ _ g'⟩, ⟨_, _, i.sub s, s _ _ i'⟩, ⟨_, j.sub s, j'.sub s⟩⟩
theorem Ch.sub {r p : Addr} {c : List (Int × List Int)} (h : Ch l r p c) (s : GSub l l') : Ch l' r p c := by
  induction h with
  | root => exact .root
  | up a _ ih => exact .up (a.sub s) ih
theorem PkI.sub {kn : List (Str × AV)} {kt : List (Int × AV)} {nb : Int} {i : Nat} {b : Bool} {D : PkgD} (h : PkI l kn kt nb i b D) (s : GSub l l') : PkI l' kn kt nb i b D := ⟨h.Q.sub s, h.kn, h.kt, h.num, h.lo, h.hi⟩
theorem Take.app {a : Addr} {x : AO} (t : Take l a x l') : ∀ {n : LG}, Take (n ++ l) a x (n ++ l')
  | [] => t
  | _ :: _ => .tail t.app
theorem FoN_perm {x : Str} {body r : List Stmt} {P : AF → FM → LG → Prop} {items : List AV} (s : l'.Perm l) (h : FoN C env x body (NxP (fun fm l => Ex C env fm l r P) P) items fm l') : FoN C env x body (NxP (fun fm l => Ex C env fm l r P) P) items fm l := by
  cases items with
  | nil =>
    have h : NxP (fun fm l => Ex C env fm l r P) P .next fm l' := h
    cases h with
    | next h => exact .next (Ex_perm s h)
  | cons a its => exact fun I it => Ex_perm (s.cons _) (h I it)
theorem FoN_front {x : Str} {body r : List Stmt} {P : AF → FM → LG → Prop} {items : List AV} {a : Addr} {y : AO} (t : Take l a y l') (h : FoN C env x body (NxP (fun fm l => Ex C env fm l r P) P) items fm ((a, y) :: l')) : FoN C env x body (NxP (fun fm l => Ex C env fm l r P) P) items fm l := FoN_perm t.perm h
theorem FoN_fsub {x : Str} {body r : List Stmt} {P : AF → FM → LG → Prop} {items : List AV} {fm' : FM} (f : FSub fm' fm) (h : FoN C env x body (NxP (fun fm l => Ex C env fm l r P) P) items fm' l) : FoN C env x body (NxP (fun fm l => Ex C env fm l r P) P) items fm l := by
  cases items with
  | nil =>
    have h : NxP (fun fm l => Ex C env fm l r P) P .next fm' l := h
    cases h with
    | next h => exact .next (Ex_fsub f h)
  | cons a its =>
    refine fun I it => Ex_fsub (fun y bv q => ?_) (h I it)
    rw [List.lookup_cons] at q ⊢
    by_cases z : y = x
    · subst z; rw [beq_self_eq_true] at q ⊢; exact q
    · rw [show (y == x) = false from beq_eq_false_iff_ne.mpr z] at q ⊢; exact f y bv q
theorem Ex_idd {a : Addr} {kv kv' : List (Int × AV)} {ss : List Stmt} {P : AF → FM → LG → Prop} (u : Put l a (.idd kv) (.idd kv') l') (e : kv = kv') (h : Ex C env fm l' ss P) : Ex C env fm l ss P := Ex_conv u (fun _ d => e ▸ d) h
theorem Take.gsub {a : Addr} {x : AO} (t : Take l a x l') : GSub l ((a, x) :: l') := by
  induction t with
  | head => exact GSub.refl _
  | tail _ ih =>
    intro b y g
    cases g with
    | head => exact .tail .head
    | tail g =>
      have z := ih b y g
      cases z with
      | head => exact .head
      | tail z => exact .tail (.tail z)
theorem NdF.sub {a : AV} {q : Nat × Bool} (h : NdF l a q) (s : GSub l l') : NdF l' a q := by
  cases h with
  | plain z a b => exact .plain z (a.sub s) (b.sub s)
  | cls z a b c => exact .cls z (a.sub s) (b.sub s) (c.sub s)
theorem Mks.sub {vs : List AV} {ks : List (Nat × Bool)} (h : Mks l vs ks) (s : GSub l l') : Mks l' vs ks := by
  induction h with
  | nil => exact .nil
  | cons a _ ih => exact .cons (a.sub s) ih
theorem Ex_frontM {a : Addr} {x : AO} {ss : List Stmt} {P : AF → FM → LG → Prop} {nds : List AV} {mks : List (Nat × Bool)} (t : Take l a x l') (M : Mks l nds mks) (h : Mks ((a, x) :: l') nds mks → Ex C env fm ((a, x) :: l') ss P) : Ex C env fm l ss P := Ex_front t (h (M.sub t.gsub))
def AO.noT : AO → Bool
  | .tup _ => false
  | .fz _ => false
  | _ => true
theorem NdF.put {a : Addr} {x y : AO} {v : AV} {q : Nat × Bool} (h : NdF l v q) (u : Put l a x y l') (n : x.noT = true := by rfl) : NdF l' v q := by
  have tp : ∀ {t : Addr} {xs : List AV}, Rd l t (.tup xs) → Rd l' t (.tup xs) := fun r => r.put u (fun q => by subst q; cases n) (fun q => by subst q; cases n)
  cases h with
  | plain z a b => exact .plain z (tp a) (tp b)
  | cls z a b c => exact .cls z (tp a) (tp b) (tp c)
theorem Mks.put {a : Addr} {x y : AO} {vs : List AV} {ks : List (Nat × Bool)} (h : Mks l vs ks) (u : Put l a x y l') (n : x.noT = true := by rfl) : Mks l' vs ks := by
  induction h with
  | nil => exact .nil
  | cons a _ ih => exact .cons (a.put u n) ih
theorem Si_keep {d : Addr} {kv : List (Int × AV)} {key : Int} {b : AV} {P : LG → Prop} (g : Get l d (.idd kv)) (e : vst kv key b = kv) (z : kv.length ≤ 1000) (h : P l) : Si C fm l (.ref d) (.int key) b P := by
  obtain ⟨l', u⟩ := g.toPut (.idd kv)
  have q := u.same
  subst q
  rw [← e] at u
  refine Si_idd (kv := kv) ?_ z h
  have u2 := u
  rw [e] at u2
  rw [e]
  exact u2
theorem dd_eq (mks : List (Nat × Bool)) : mks.foldl addM [] = dd (mks.map fun y => 71 + (y.1 : Int)) := by
  unfold dd addM
  rw [List.foldl_map]
theorem dd_len : ∀ (ns us : List Int), (ns.foldl addU us).length ≤ us.length + ns.length
  | [], us => Nat.le_refl _
  | n :: r, us => Nat.le_trans (dd_len r (addU us n)) (by have := addU_len us n; rw [List.length_cons]; omega)
theorem Get.del {a b : Addr} {x y : AO} (t : Take l a x l') (g : Get l b y) (n : y ≠ x) : Get l' b y := by
  induction t with
  | head => cases g with
    | head => exact absurd rfl n
    | tail g => exact g
  | tail _ ih => cases g with
    | head => exact .head
    | tail g => exact .tail (ih g n)
theorem NdF.del {a : Addr} {x : AO} {v : AV} {q : Nat × Bool} (h : NdF l v q) (t : Take l a x l') (n : x.noT = true := by rfl) : NdF l' v q := by
  have tp : ∀ {b : Addr} {xs : List AV}, Rd l b (.tup xs) → Rd l' b (.tup xs) := fun r => by
    cases r with
    | g r => exact .g (r.del t (fun q => by subst q; cases n))
    | f r => exact .f (r.del t (fun q => by subst q; cases n))
  cases h with
  | plain z a b => exact .plain z (tp a) (tp b)
  | cls z a b c => exact .cls z (tp a) (tp b) (tp c)
theorem Mks.del {a : Addr} {x : AO} {vs : List AV} {ks : List (Nat × Bool)} (h : Mks l vs ks) (t : Take l a x l') (n : x.noT = true := by rfl) : Mks l' vs ks := by
  induction h with
  | nil => exact .nil
  | cons a _ ih => exact .cons (a.del t n) ih
end
end Mine
set_option Elab.async false
set_option linter.all false
set_option pp.deepTerms false
set_option pp.maxSteps 3000
namespace Mine
set_option maxRecDepth 100000
set_option maxHeartbeats 4000000
set_option compiler.extract_closed false
local macro_rules | `(tactic| walk_at "w_ok") => `(tactic| first | assumption | (refine' AttrOk.of ?a ?b ?c ?d; (case a => k_is); (case b => k_is); (case c => k_is); (case d => k_is)))
local macro_rules | `(tactic| walk_at "w_sok") => `(tactic| (refine ⟨?a, ?b, ?c, ?d⟩; (case a => k_is); (case b => k_is); (case c => k_is); (case d => k_is)))
local macro_rules | `(tactic| walk_at "w_get") => `(tactic| first | exact .head | assumption | (refine' .tail ?gt; (case gt => walk_at "w_get")))
local macro_rules | `(tactic| walk_at "w_rd") => `(tactic| first | assumption | (refine' Rd.g ?gt; (case gt => first | exact .head | assumption)) | (refine' Rd.f ?gt; (case gt => first | exact .head | assumption)) | (refine' .tail ?gt; (case gt => walk_at "w_rd")))
local macro_rules | `(tactic| walk_at "w_put") => `(tactic| first | exact .head | assumption | (refine' .tail ?gt; (case gt => walk_at "w_put")))
local macro_rules | `(tactic| walk_at "w_fld") => `(tactic| first | assumption | (refine' Fld.tail ?gt; (case gt => walk_at "w_fld")))
local macro_rules | `(tactic| walk_at "w_fldL") => `(tactic| first | assumption | (refine' Fld.mk ?g1 ?g2 ?e; (case g1 => walk_at "w_rd"); (case g2 => walk_at "w_rd"); (case e => exact rfl)))
local macro_rules | `(tactic| walk_at "w_look") => `(tactic| first | exact rfl | assumption | exact alook_same _ _ _)
local macro_rules | `(tactic| walk_at "w_bind") => `(tactic| first | exact BindsTo.of_eq rfl | (intro _; walk_at "w_bind"))
local macro_rules | `(tactic| walk_at "w_fn") => `(tactic| ((case ho => k_is); (case hcd => k_is); (case hb => ((intro s'); walk_at "w_bind")); (case hl => rfl); (case E => intro _ _; rfl); (case E2 => intro _ _; rfl); (case co => rfl); (case ge => rfl); (case ki => rfl); (case ce => decide); (case k => omega)))
local macro_rules | `(tactic| walk_at "w_def") => `(tactic| ((with_reducible rename Good _ _ => kG); refine Cl_code fun m s vs hs d => ?_; refine' code_fn kG rfl ?d ?u ?k ?ho ?hcd ?hb ?hl ?b ?E ?E2 ?co ?ge ?ki ?ce hs d; (case d => exact Nat.succ_le_succ kG.dp); (case u => exact Nat.le_trans (Nat.add_le_add_right kG.un 3) (by omega)); walk_at "w_fn"; clear hs d kG; intro g' L' G))
local macro_rules | `(tactic| walk_at "w_defR") => `(tactic| ((with_reducible rename Good _ _ => kG); refine Cl_code fun m s vs hs d => ?_; refine' code_fnR kG ?zz rfl ?d ?u ?k ?ho ?hcd ?hb ?hl ?b ?E ?E2 ?co ?ge ?ki ?ce hs d; (case zz => assumption); (case d => exact Nat.succ_le_succ kG.dp); (case u => exact Nat.le_trans (Nat.add_le_add_right kG.un 3) (by omega)); walk_at "w_fn"; clear hs d kG))
local macro_rules | `(tactic| walk_at "w_defD") => `(tactic| (refine Cl_drop ?_; walk_at "w_def"))
local macro_rules | `(tactic| walk_at "w_take") => `(tactic| first | exact .head | (refine' .tail ?gt; (case gt => walk_at "w_take")))
local macro_rules | `(tactic| walk_at "w_ls") => `(tactic| first | assumption | (refine' Ls.l ?gt; (case gt => first | exact .head | assumption)) | (refine' Ls.r ?gt; (case gt => first | exact .head | assumption)) | (refine' .tail ?gt; (case gt => walk_at "w_ls")))
local macro_rules | `(tactic| walk_at "up") => `(tactic| first | assumption | (refine' .tail ?gt; (case gt => walk_at "up")))
local macro_rules | `(tactic| walk_at "w_fs") => `(tactic| first | exact .nil | (refine' .cons ?e ?f; (case e => exact rfl); (case f => walk_at "w_fs")))
local macro_rules | `(tactic| walk_at "w_front") => `(tactic| (refine' Cl_front ?gt ?_; (case gt => walk_at "w_take")))
local macro_rules | `(tactic| walk_at "w_end") => `(tactic| ((case u => walk_at "w_put"); (case s => walk_at "w_sl"); (case e => kernel_rfl)))
local macro_rules | `(tactic| walk_at "w_fnC") => `(tactic| ((case ho => k_is); (case hcd => k_is); (case hb => ((intro s'); walk_at "w_bind")); (case hl => exact rfl); (case nd => decide); (case e1 => intro _ _; exact rfl); (case e2 => intro _ _; exact rfl); (case E => intro _ _; rfl); (case E2 => intro _ _; rfl); (case co => rfl); (case ge => rfl); (case ki => rfl); (case k => omega)))
local macro_rules | `(tactic| walk_at "w_defC") => `(tactic| ((case d => exact Nat.succ_le_succ (by assumption)); (case u => exact Nat.le_trans (Nat.add_le_add_right (by assumption) 3) (by omega)); walk_at "w_fnC"))
local macro_rules | `(tactic| walk_at "w_declF") => `(tactic| ((case f1 => walk_at "w_fldL"); (case f2 => walk_at "w_fldL"); (case f3 => walk_at "w_fldL"); (case f4 => walk_at "w_fldL"); (case f5 => walk_at "w_fldL"); (case f6 => walk_at "w_fldL"); (case f7 => walk_at "w_fldL"); (case f8 => walk_at "w_fldL"); (case g1 => walk_at "w_get"); (case g2 => walk_at "w_get"); (case g3 => walk_at "w_get"); (case u1 => walk_at "w_put"); (case u2 => walk_at "w_put"); (case u3 => walk_at "w_put"); (case u4 => walk_at "w_put"); (case u5 => intro _; walk_at "w_put"); (case u6 => intro _; walk_at "w_put"); (case u7 => intro _; walk_at "w_put"); (case x0 => exact rfl); (case x1 => exact rfl); (case x2 => exact rfl); (case x3 => exact rfl); (case x4 => exact rfl); (case x5 => exact rfl)))
local macro_rules | `(tactic| walk_at "w_spl") => `(tactic| first | exact .nil | (refine' .cons ?gt; (case gt => walk_at "w_spl")))
local macro_rules | `(tactic| walk_at "w_ff") => `(tactic| (refine' FldF.of ?g1 ?g2 ?e; (case g1 => walk_at "w_get"); (case g2 => walk_at "w_get"); (case e => exact rfl)))
local macro_rules | `(tactic| walk_at "w_gf") => `(tactic| (refine' Get.frz ?g1; (case g1 => walk_at "w_get")))
local macro_rules | `(tactic| walk_at "w_gl") => `(tactic| (refine' Get.frzL ?g1; (case g1 => walk_at "w_get")))
local macro_rules | `(tactic| walk_at "w_te") => `(tactic| (refine' ⟨?a1, ?a2, ?a3, ?a4, ?a5, ?a6, ?a7, ?a8⟩; (case a1 => walk_at "w_ff"); (case a2 => walk_at "w_ff"); (case a3 => walk_at "w_ff"); (case a4 => walk_at "w_ff"); (case a5 => walk_at "w_ff"); (case a6 => walk_at "w_ff"); (case a7 => walk_at "w_ff"); (case a8 => walk_at "w_ff")))
local macro_rules | `(tactic| walk_at "w_new") => `(tactic| ((with_reducible rename Good _ _ => kG); (refine' Cl_make kG ?hm ?hi ?hf ?hh; (case hm => k_is); (case hi => k_is); (case hf => k_is)); intro x dx m s vs A hA hs d; subst hA; refine' code_fn kG rfl ?d ?u ?k ?ho ?hcd ?hb ?hl ?b ?E ?E2 ?co ?ge ?ki ?ce hs d; (case d => exact Nat.succ_le_succ (Nat.succ_le_succ kG.dp)); (case u => exact Nat.le_trans (Nat.add_le_add_right (Nat.add_le_add_right kG.un 1) 3) (by omega)); walk_at "w_fn"; clear hs d kG; intro g' L' G))
local macro_rules | `(tactic| walk_at "w_sl") => `(tactic| first | exact List.Sublist.refl _ | (refine' List.Sublist.cons₂ _ ?gt; (case gt => walk_at "w_sl")) | (refine' List.Sublist.cons _ ?gt; (case gt => walk_at "w_sl")))
local macro_rules | `(tactic| walk_at "w_le") => `(tactic| first | assumption | exact Nat.le_of_ble_eq_true rfl)
local macro_rules | `(tactic| walk_at "w_made") => `(tactic| ((case u => walk_at "w_put"); (case s => walk_at "w_sl"); (case e => kernel_rfl); (case z => walk_at "w_le")))
local macro_rules | `(tactic| walk_at "wEv") => `(tactic| first
  | refine Ev_name rfl ?_
  | refine Ev_attr ?_
  | (refine' ev_ns ?gt ?_; (case gt => walk_at "w_get"))
  | (refine' Ev_cell rfl ?gt ?_; (case gt => walk_at "w_get"))
  | (refine' Ev_free rfl ?gt ?_; (case gt => walk_at "w_get"))
  | refine Ev_none ?_
  | refine Ev_str ?_
  | refine Ev_int ?_
  | refine Ev_bool ?_
  | (refine' Ev_glob ?G ?e ?_; (case G => assumption); (case e => k_is))
  | (refine' Ev_meth (name := "append") (id := "list.append") ?G ?_; (case G => assumption))
  | (refine' Ev_meth (name := "extend") (id := "list.extend") ?G ?_; (case G => assumption))
  | (refine' Ev_meth (name := "get") (id := "dict.get") ?G ?_; (case G => assumption))
  | (refine' Ev_meth (name := "setdefault") (id := "dict.setdefault") ?G ?_; (case G => assumption))
  | (refine' Ev_call ?G ?_; (case G => assumption))
  | (refine' Ev_call0 ?G ?_; (case G => assumption))
  | (refine' Ev_built (x := "str") (v := .type "str") ?G ?e rfl ?hn ?_; (case G => assumption); (case e => k_is); (case hn => decide))
  | refine Ev_bin ?_
  | (refine Ev_list ?_)
  | (refine Ev_tup ?_)
  | (refine Ev_ifexp ?_)
  | refine Ev_lcU rfl ?_
  | refine Ev_lcT rfl ?_
  | refine Ev_cmp ?_
  | (refine' Ev_built (x := "list") (v := .type "list") ?G ?e rfl ?hn ?_; (case G => assumption); (case e => k_is); (case hn => decide))
  | (refine' Ev_built (x := "len") (v := .builtin "len") ?G ?e rfl ?hn ?_; (case G => assumption); (case e => k_is); (case hn => decide))
  | (refine' Ev_built (x := "range") (v := .type "range") ?G ?e rfl ?hn ?_; (case G => assumption); (case e => k_is); (case hn => decide))
  | refine Ev_slcU ?_
  | refine Ev_item ?_
  | refine Ev_neg ?_
  | refine Ev_notB ?_
  | refine Ev_or2 ?_
  | refine Ev_and2 ?_)
local macro_rules | `(tactic| walk_at "wEx") => `(tactic| first
  | refine Ex_asg ?_
  | refine Ex_asgI ?_
  | refine Ex_asgA ?_
  | refine Ex_if ?_
  | refine Ex_while ?_
  | refine Ex_ret ?_
  | refine Ex_nil ?_
  | refine Ex_augA ?_
  | refine Ex_exprV ?_
  | refine Ex_for (own_nop rfl) ?_
  | refine Ex_for (by assumption) ?_
  | refine Ex_lcU rfl ?_
  | refine Ex_lcT rfl ?_
  | refine Ex_asgT ?_
  | refine Ex_augN rfl ?_
  | refine Ex_augI ?_
  | refine Ex_raise (by assumption) (by assumption) ?_
  | refine Ex_asgC rfl ?_
  | (refine' Ex_augC rfl ?gt ?_; (case gt => walk_at "w_get"))
  | (refine' Ex_asgN ?_ ?hw ?hx; (case hw => exact rfl); (case hx => decide)))
local macro_rules | `(tactic| walk_at "wAt") => `(tactic| first
  | (refine' At_fld ?G ?f ?ok ?_ ?hb; (case G => assumption); (case f => walk_at "w_fld"); (case ok => walk_at "w_ok"); (case hb => rfl))
  | (refine' At_inst ?G ?g1 ?g2 ?e ?ok ?_ ?hb; (case G => assumption); (case g1 => walk_at "w_rd"); (case g2 => walk_at "w_rd"); (case e => walk_at "w_look"); (case ok => walk_at "w_ok"); (case hb => rfl))
  | (refine' At_bld ?G ?g1 ?g2 ?e ?ok ?_ ?hb; (case G => assumption); (case g1 => walk_at "w_get"); (case g2 => walk_at "w_get"); (case e => exact rfl); (case ok => walk_at "w_ok"); (case hb => rfl)))
local macro_rules | `(tactic| walk_at "wEvL") => `(tactic| first
  | (refine EvL_nil ?_)
  | (refine EvL_cons ?_))
local macro_rules | `(tactic| walk_at "wCl") => `(tactic| first
  | (refine' Cl_strI ?z ?_; (case z => assumption))
  | (refine' Cl_extend ?g ?u ?z ?_; (case g => walk_at "w_ls"); (case u => walk_at "w_put"); (case z => walk_at "w_le"))
  | (refine' Cl_len ?g ?z rfl ?_; (case g => walk_at "w_ls"); (case z => walk_at "w_le"))
  | (refine' Cl_append ?u ?_ ?z; (case u => walk_at "w_put"); (case z => walk_at "w_le"))
  | (refine' Cl_dgetS ?gt ?e ?_; (case gt => walk_at "w_rd"); (case e => first | assumption | exact rfl))
  | (refine' Cl_dgetN ?gt ?e ?_; (case gt => walk_at "w_rd"); (case e => first | assumption | exact rfl))
  | (refine' Cl_setdef ?u ?e ?z ?_; (case u => walk_at "w_put"); (case e => first | assumption | exact rfl); (case z => walk_at "w_le"))
  | (refine' Cl_setdefi ?u ?e ?z ?_; (case u => walk_at "w_put"); (case e => first | assumption | exact rfl); (case z => walk_at "w_le"))
  | (refine' Cl_listT ?gt ?z ?_; (case gt => walk_at "w_ls"); (case z => walk_at "w_le"); intro x))
local macro_rules | `(tactic| walk_at "wTr") => `(tactic| first
  | refine Tr_of (Tr_cmp ?_)
  | refine Tr_of (TrA_and ?_)
  | refine Tr_of (TrA_not ?_)
  | refine Tr_of (TrA_or ?_)
  | refine Tr_of (Tr_cmp ?_)
  | refine Tr_val ?_)
local macro_rules | `(tactic| walk_at "wTrA") => `(tactic| first
  | refine TrA_and ?_
  | refine TrA_or ?_
  | refine TrA_and0 ?_
  | refine TrA_or0 ?_)
local macro_rules | `(tactic| walk_at "wCp") => `(tactic| first
  | refine Cp_nes (c := true) (by first | assumption | decide +kernel) ?_
  | refine Cp_nes (c := false) (by first | assumption | decide +kernel) ?_
  | (refine' Cp_inT ?G ?e ?ec ?ed ?hi ?hb ?_; (case G => assumption); (case e => k_is); (case ec => exact rfl); (case ed => exact rfl); (case hi => repeat constructor); (case hb => exact rfl))
  | (refine' Cp_notinT ?G ?e ?ec ?ed ?hi ?hb ?_; (case G => assumption); (case e => k_is); (case ec => exact rfl); (case ed => exact rfl); (case hi => repeat constructor); (case hb => exact rfl))
  | refine Cp_eqi (by assumption) ?_
  | refine Cp_eqi (c := true) (by first | decide | exact rfl) ?_
  | refine Cp_eqi (c := false) (by first | decide | exact rfl) ?_
  | (with_reducible refine Cp_eqst ?_)
  | refine Cp_eqsf (by first | assumption | decide +kernel) ?_
  | refine Cp_eqns ?_
  | refine Cp_eqb (c := true) (by decide) ?_
  | refine Cp_eqb (c := false) (by decide) ?_
  | refine Cp_gti (c := false) (by first | decide | exact rfl) ?_
  | (refine' Cp_neI (xs := []) (ys := []) ?G ?hk ?g1 ?g2 rfl ?_; (case G => assumption); (case hk => omega); (case g1 => walk_at "w_ls"); (case g2 => walk_at "w_ls"))
  | (refine' Cp_inI (xs := []) ?g rfl ?_; (case g => walk_at "w_ls"))
  | (refine' Cp_inI ?g ?e ?_; (case g => walk_at "w_ls"); (case e => assumption))
  | (refine' Cp_notinI ?g ?e ?_; (case g => walk_at "w_ls"); (case e => assumption))
  | (refine' Cp_lti ?e ?_; (case e => assumption))
  | (refine' Cp_notinD ?g ?e ?_; (case g => walk_at "w_rd"); (case e => assumption))
  | refine Cp_isnn ?_
  | refine Cp_isrn ?_
  | refine Cp_notnn ?_
  | refine Cp_notrn ?_)
local macro_rules | `(tactic| walk_at "wIfP") => `(tactic| first
  | refine IfP.t ?_
  | refine IfP.f ?_)
local macro_rules | `(tactic| walk_at "wNxP") => `(tactic| first
  | refine NxP.next ?_
  | refine NxP.ret ?_
  | refine NxP.brk ?_
  | refine NxP.cont ?_)
local macro_rules | `(tactic| walk_at "wSa") => `(tactic| first
  | (refine' Sa_bld ?G ?g1 ?u ?ok ?_ ?hz; (case G => assumption); (case g1 => walk_at "w_get"); (case u => walk_at "w_put"); (case ok => walk_at "w_sok"); (case hz => exact rfl))
  | (refine' Sa_inst ?G ?g1 ?u ?e ?ok ?_; (case G => assumption); (case g1 => walk_at "w_get"); (case u => walk_at "w_put"); (case e => walk_at "w_look"); (case ok => walk_at "w_sok")))
local macro_rules | `(tactic| walk_at "wBo") => `(tactic| first
  | refine Bo_subi rfl ?_
  | (refine' Bo_addsV ?_ ?z; (case z => walk_at "w_le"))
  | (refine' Bo_adds ?_ ?z; (case z => walk_at "w_le"))
  | refine Bo_addi rfl ?_
  | (refine' Bo_addL ?g ?g2 ?z ?_; (case g => walk_at "w_ls"); (case g2 => walk_at "w_ls"); (case z => walk_at "w_le"); intro x))
local macro_rules | `(tactic| walk_at "wPutC") => `(tactic| first
  | (refine' .z ?u ?_; (case u => walk_at "w_put"))
  | (refine' .s ?u ?_; (case u => walk_at "w_put")))
local macro_rules | `(tactic| walk_at "wIo") => `(tactic| first
  | (refine' Io_addL ?g ?u ?z ?_; (case g => walk_at "w_ls"); (case u => walk_at "w_put"); (case z => walk_at "w_le"))
  | refine Io_addi rfl ?_)
local macro_rules | `(tactic| walk_at "wSi") => `(tactic| first
  | (refine' Si_sd ?u ?z ?_; (case u => walk_at "w_put"); (case z => walk_at "w_le"))
  | (refine' Si_idd ?u ?z ?_; (case u => walk_at "w_put"); (case z => walk_at "w_le")))
local macro_rules | `(tactic| walk_at "wGi") => `(tactic| first
  | (refine' Gi_idd ?g ?e ?_; (case g => walk_at "w_rd"); (case e => first | assumption | exact rfl))
  | (refine' Gi_sd ?g ?e ?_; (case g => walk_at "w_rd"); (case e => first | assumption | exact rfl)))
local macro_rules | `(tactic| walk_at "wPutF") => `(tactic| first
  | (refine' PutF.mk ?u ?_; (case u => walk_at "w_put")))
local macro_rules | `(tactic| walk_at "wSc") => `(tactic| first
  | (refine' Sc.rl ?gt ?z ?_; (case gt => walk_at "w_get"); (case z => walk_at "w_le"))
  | (refine' Sc.lst ?u ?z ?_; (case u => intro _; walk_at "w_put"); (case z => walk_at "w_le"); intro lo))
local macro_rules | `(tactic| walk_at "wCo") => `(tactic| first
  | (with_reducible refine Co.nil ?_)
  | (with_reducible refine Co.one ?_; intro I oI Cn oC D oD)
  | (with_reducible refine Co.test ?_; intro I oI Cn oC D oD)
  | (refine Co.nil ?_)
  | (refine Co.one ?_; intro I oI Cn oC D oD)
  | (refine Co.test ?_; intro I oI Cn oC D oD))
local macro_rules | `(tactic| walk_at "wCeP") => `(tactic| first
  | (refine' CeP.mk ?t1 ?t2 ?t3 ⟨?sr, ?_⟩; (case t1 => walk_at "w_take"); (case t2 => walk_at "w_take"); (case t3 => walk_at "w_take"); (case sr => first | trivial | walk_at "w_get")))
local macro_rules | `(tactic| walk_at "wSq") => `(tactic| first
  | (refine' Sq.rl ?gt ?_; (case gt => walk_at "w_get"))
  | (refine' Sq.lst ?u ?_; (case u => intro _; walk_at "w_put"); intro lo)
  | (refine' Sq.tup ?u ?_; (case u => intro _; walk_at "w_put"); intro lo))
local macro_rules | `(tactic| walk_at "wFo") => `(tactic| first
  | (with_reducible refine Fo.nil ?_)
  | (refine Fo.cons ?_; intro I it))
local macro_rules | `(tactic| walk_at "wFoP") => `(tactic| first
  | (refine' FoP.next ?t1 ⟨?sr, ?_⟩; (case t1 => walk_at "w_take"); (case sr => first | trivial | walk_at "w_get"))
  | (refine' FoP.cont ?t1 ⟨?sr, ?_⟩; (case t1 => walk_at "w_take"); (case sr => first | trivial | walk_at "w_get"))
  | refine FoP.ret ?_
  | refine FoP.brk ?_)
local macro_rules | `(tactic| walk_at "wSu") => `(tactic| first
  | (refine' Su_tup (i := 0) ?g ?hn ?ee ?z ?_; (case g => walk_at "w_rd"); (case hn => exact rfl); (case ee => exact rfl); (case z => walk_at "w_le"))
  | (refine' Su_tup (i := 1) ?g ?hn ?ee ?z ?_; (case g => walk_at "w_rd"); (case hn => exact rfl); (case ee => exact rfl); (case z => walk_at "w_le"))
  | (refine' Su_tup (i := 2) ?g ?hn ?ee ?z ?_; (case g => walk_at "w_rd"); (case hn => exact rfl); (case ee => exact rfl); (case z => walk_at "w_le"))
  | (refine' Su_tup (i := 3) ?g ?hn ?ee ?z ?_; (case g => walk_at "w_rd"); (case hn => exact rfl); (case ee => exact rfl); (case z => walk_at "w_le"))
  | (refine' Su_lst (i := 0) ?g ?hn ?ee ?z ?_; (case g => walk_at "w_ls"); (case hn => exact rfl); (case ee => exact rfl); (case z => walk_at "w_le"))
  | (refine' Su_lst (i := 1) ?g ?hn ?ee ?z ?_; (case g => walk_at "w_ls"); (case hn => exact rfl); (case ee => exact rfl); (case z => walk_at "w_le"))
  | (refine' Su_lst (i := 2) ?g ?hn ?ee ?z ?_; (case g => walk_at "w_ls"); (case hn => exact rfl); (case ee => exact rfl); (case z => walk_at "w_le"))
  | (refine' Su_lst (i := 3) ?g ?hn ?ee ?z ?_; (case g => walk_at "w_ls"); (case hn => exact rfl); (case ee => exact rfl); (case z => walk_at "w_le"))
  | (refine' Su_idd ?g ?e ?_; (case g => walk_at "w_rd"); (case e => first | assumption | exact rfl))
  | (refine' Su_sd ?g ?e ?_; (case g => walk_at "w_rd"); (case e => first | assumption | exact rfl)))
local macro_rules | `(tactic| walk_at "wTg") => `(tactic| first
  | refine Tg_name ?_
  | refine Tg_cell rfl ?_
  | refine Tg_attr ?_)
local macro_rules | `(tactic| walk_at "w1") => `(tactic| first
  | ((with_reducible show Ev _ _ _ _ _ _); walk_at "wEv")
  | ((with_reducible show Ex _ _ _ _ _ _); walk_at "wEx")
  | ((with_reducible show At' _ _ _ _ _ _); walk_at "wAt")
  | ((with_reducible show EvL _ _ _ _ _ _); walk_at "wEvL")
  | ((with_reducible show Cl _ _ _ _ _ _); walk_at "wCl")
  | ((with_reducible show Tr _ _ _ _ _ _); walk_at "wTr")
  | ((with_reducible show TrA _ _ _ _ _ _); walk_at "wTrA")
  | ((with_reducible show Cp _ _ _ _ _ _ _); walk_at "wCp")
  | ((with_reducible show IfP _ _ _); walk_at "wIfP")
  | ((with_reducible show NxP _ _ _ _ _); walk_at "wNxP")
  | ((with_reducible show Sa _ _ _ _ _ _ _); walk_at "wSa")
  | ((with_reducible show Bo _ _ _ _ _ _ _); walk_at "wBo")
  | ((with_reducible show Io _ _ _ _ _ _ _); walk_at "wIo")
  | ((with_reducible show Si _ _ _ _ _ _ _); walk_at "wSi")
  | ((with_reducible show PutF _ _ _ _ _); walk_at "wPutF")
  | ((with_reducible show Gi _ _ _ _ _ _); walk_at "wGi")
  | ((with_reducible show Sc _ _ _ _ _ _ _ _ _ _ _); walk_at "wSc")
  | ((with_reducible show Co _ _ _ _ _ _ _ _ _ _ _ _ _); walk_at "wCo")
  | ((with_reducible show Su _ _ _ _ _ _ _ _ _); walk_at "wSu")
  | ((with_reducible show Tg _ _ _ _ _ _ _); walk_at "wTg")
  | (with_reducible refine TgL_cons ?_)
  | (with_reducible refine TgL_nil ?_)
  | (refine' ⟨_, _, rfl, ?g, ?n, ?_⟩; (case g => walk_at "w_rd"); (case n => exact rfl))
  | ((with_reducible show CeP _ _ _ _ _ _ _ _ _); walk_at "wCeP")
  | ((with_reducible show Sq _ _ _ _ _ _ _ _); walk_at "wSq")
  | ((with_reducible show Fo _ _ _ _ _ _ _ _ _); walk_at "wFo")
  | ((with_reducible show FoP _ _ _ _ _ _ _); walk_at "wFoP")
  | ((with_reducible show PutC _ _ _ _); walk_at "wPutC")
  | (refine' ⟨_, rfl, ?kk, ?_⟩; (case kk => (with_reducible show _ ≤ _); walk_at "w_le"))
  | (refine' ⟨_, rfl, ?kk, ?_⟩; (case kk => first | exact .b | exact .t | (refine' .k ?kk; k_is)))
  | (refine ⟨Nat.le_of_ble_eq_true rfl, ?_⟩; intro x)
  | (refine' ⟨MtB_append ?gt, ?_⟩; (case gt => walk_at "w_get"))
  | (refine' ⟨MtB_extend ?gt, ?_⟩; (case gt => walk_at "w_get"))
  | (refine' ⟨MtB_get ?gt, ?_⟩; (case gt => walk_at "w_rd"))
  | (refine' ⟨MtB_setdef ?gt, ?_⟩; (case gt => walk_at "w_get"))
  | (refine' ⟨MtB_setdefi ?gt, ?_⟩; (case gt => walk_at "w_get"))
  | (with_reducible intro D)
  | refine WP.next ?_
  | refine WP.cont ?_
  | refine WP.brk ?_
  | refine WP.ret ?_
  | (with_reducible refine ⟨_, rfl, ?_⟩))
section
abbrev entV (v1 v2 v3 v4 v5 v6 v7 v8 v9 v10 v11 v12 v13 v14 v15 v16 v17 : AV) : List (Str × AV) := [("kind", v1), ("name", v2), ("key", v3), ("subtype", v4), ("data", v5), ("line", v6), ("number", v7), ("unique", v8), ("home", v9), ("part", v10), ("region", v11), ("full", v12), ("is_ready", v13), ("is_complete", v14), ("is_constant", v15), ("is_implicit", v16), ("is_overridden", v17)]
abbrev subV (v1 v2 : AV) : List (Str × AV) := [("type", v1), ("constraint", v2)]
variable {fm : FM} {l : LG} {C : Cx} {k : Nat} {P : AV → LG → Prop}
theorem w_sub (G : Good C k) (hk : k ≤ 800) {a b : AV} (h : ∀ x dx, P (.ref x) ((x, .inst 322 dx) :: (dx, .attrs (subV a b)) :: l)) : Cl C fm l (.ref 322) [a, b] P := by
  walk_at "w_new"
  repeat walk_at "w1"
  refine' ⟨rfl, Made.mk ?u ?e ?z ?s (h _ _)⟩
  walk_at "w_made"
theorem w_ent (G : Good C k) (hk : k ≤ 800) {v1 v2 v3 v4 v5 v6 : AV} (h : ∀ x dx, P (.ref x) ((x, .inst 70 dx) :: (dx, .attrs (entV v1 v2 v3 v4 v5 v6 (.int 0) (.str "") .none (.str "") .none .none (.bool false) (.bool false) (.bool false) (.bool false) (.bool false))) :: l)) : Cl C fm l (.ref 70) [v1, v2, v3, v4, v5, v6] P := by
  walk_at "w_new"
  repeat walk_at "w1"
  refine' ⟨rfl, Made.mk ?u ?e ?z ?s (h _ _)⟩
  walk_at "w_made"
end
section
abbrev typV (v1 v2 v3 v4 v5 v6 v7 v8 v9 v10 v11 v12 v13 v14 v15 v16 v17 v18 v19 v20 v21 v22 v23 v24 : AV) : List (Str × AV) := [("kind", v1), ("name", v2), ("number", v3), ("parent", v4), ("low", v5), ("high", v6), ("literals", v7), ("modulus", v8), ("small", v9), ("index", v10), ("component", v11), ("is_constrained", v12), ("discriminants", v13), ("components", v14), ("variant", v15), ("designated", v16), ("is_tagged", v17), ("wide", v18), ("is_limited", v19), ("is_private", v20), ("is_abstract", v21), ("is_constant", v22), ("is_late", v23), ("operations", v24)]
abbrev regV (v1 v2 v3 v4 v5 v6 v7 v8 v9 v10 v11 v12 v13 v14 v15 : AV) : List (Str × AV) := [("kind", v1), ("owner", v2), ("parent", v3), ("root", v4), ("made", v5), ("number", v6), ("level", v7), ("part", v8), ("names", v9), ("order", v10), ("uses", v11), ("use_types", v12), ("counts", v13), ("type_homes", v14), ("generic", v15)]
abbrev scoV (v1 v2 v3 v4 v5 v6 v7 v8 v9 v10 v11 v12 v13 : AV) : List (Str × AV) := [("place", v1), ("limits", v2), ("choose", v3), ("types", v4), ("typed", v5), ("static", v6), ("builders", v7), ("ways", v8), ("declarations", v9), ("statements", v10), ("line", v11), ("count", v12), ("under_way", v13)]
variable {fm : FM} {l rest : LG} {C : Cx} {k : Nat} {P : AV → LG → Prop}
theorem w_typ (G : Good C k) (hk : k ≤ 800) {a b : AV} (h : ∀ x dx a7 a9 a10 a13 a14 a24, P (.ref x) ((x, .inst 301 dx) :: (dx, .attrs (typV a b (.int 0) .none .none .none (.ref a7) (.int 0) (.ref a9) (.ref a10) .none (.bool true) (.ref a13) (.ref a14) .none .none (.bool false) .none (.bool false) (.bool false) (.bool false) (.bool false) (.bool false) (.ref a24))) :: l)) : Cl C fm l (.ref 301) [a, b] P := by
  walk_at "w_new"
  repeat walk_at "w1"
  refine Ev_dict0 (b := true) (by assumption) fun x => ?_
  repeat walk_at "w1"
  rename_i a7 a9 a10 a13 a14
  refine' ⟨rfl, Made.mk ?u ?e ?z ?s (h _ _ a7 a9 a10 a13 a14 x)⟩
  walk_at "w_made"
theorem w_reg0 (G : Good C k) (hk : k ≤ 790) (h : ∀ r rd nd ol ul utl cd td, P (.ref r) ((td, .idd []) :: (cd, .sd []) :: (utl, .lst []) :: (ul, .lst []) :: (ol, .lst []) :: (nd, .sd []) :: (r, .inst 127 rd) :: (rd, .attrs (regV (.str "root") .none .none (.ref r) (.int 1) (.int 1) (.int 0) (.str "body") (.ref nd) (.ref ol) (.ref ul) (.ref utl) (.ref cd) (.ref td) .none)) :: l)) : Cl C fm l (.ref 127) [.str "root", .none, .none] P := by
  walk_at "w_new"
  repeat walk_at "w1"
  refine Ev_dict0 (b := true) (by assumption) fun nd => ?_
  repeat walk_at "w1"
  refine Ev_dict0 (b := true) (by assumption) fun cd => ?_
  repeat walk_at "w1"
  refine Ev_dict0 (b := false) (by assumption) fun td => ?_
  repeat walk_at "w1"
  rename_i ol ul utl
  refine' ⟨rfl, Made.mk ?u ?e ?z ?s (h _ _ nd ol ul utl cd td)⟩
  walk_at "w_made"
end
section
variable {fm : FM} {l rest : LG} {C : Cx} {k : Nat} {P : AV → LG → Prop}
/-- the region of a place within the root region r: what it is made of -/
abbrev newReg (kind : Str) (owner par : AV) (r : Addr) (num lev : Int) (part : Str) (R Rd nd ol ul utl cd td : Addr) (l : LG) : LG :=
  (td, .idd []) :: (cd, .sd []) :: (utl, .lst []) :: (ul, .lst []) :: (ol, .lst []) :: (nd, .sd []) :: (R, .inst 127 Rd) :: (Rd, .attrs (regV (.str kind) owner par (.ref r) (.int 0) (.int num) (.int lev) (.str part) (.ref nd) (.ref ol) (.ref ul) (.ref utl) (.ref cd) (.ref td) .none)) :: l
theorem w_reg_package (G : Good C k) (hk : k ≤ 790) {owner : AV} {p r rd : Addr} {al al' : List (Str × AV)} {M lv : Int} (r1 : Get rest r (.inst 127 rd)) (he : aset "made" (.int (M + 1)) al = al') (m1 : alook "made" al = some (.int M))
    (f1 : Fld ((rd, .attrs al) :: rest) p 127 "root" (.ref r)) (f2 : Fld ((rd, .attrs al') :: rest) p 127 "level" (.int lv))
    (h : ∀ R Rd nd ol ul utl cd td, P (.ref R) (newReg "package" owner (.ref p) r (M + 1) (lv + 0) "visible" R Rd nd ol ul utl cd td ((rd, .attrs al') :: rest))) : Cl C fm ((rd, .attrs al) :: rest) (.ref 127) [.str "package", owner, .ref p] P := by
  subst he
  have m2 := alook_same "made" (.int (M + 1)) al
  walk_at "w_new"
  repeat walk_at "w1"
  refine Ev_dict0 (b := true) (by assumption) fun nd => ?_
  repeat walk_at "w1"
  refine Ev_dict0 (b := true) (by assumption) fun cd => ?_
  repeat walk_at "w1"
  refine Ev_dict0 (b := false) (by assumption) fun td => ?_
  repeat walk_at "w1"
  rename_i ol ul utl
  refine' ⟨rfl, Made.mk ?u ?e ?z ?s (h _ _ nd ol ul utl cd td)⟩
  walk_at "w_made"
theorem w_reg_sub (G : Good C k) (hk : k ≤ 790) {owner : AV} {p r rd : Addr} {al al' : List (Str × AV)} {M lv : Int} (r1 : Get rest r (.inst 127 rd)) (he : aset "made" (.int (M + 1)) al = al') (m1 : alook "made" al = some (.int M))
    (f1 : Fld ((rd, .attrs al) :: rest) p 127 "root" (.ref r)) (f2 : Fld ((rd, .attrs al') :: rest) p 127 "level" (.int lv))
    (h : ∀ R Rd nd ol ul utl cd td, P (.ref R) (newReg "sub" owner (.ref p) r (M + 1) (lv + 1) "body" R Rd nd ol ul utl cd td ((rd, .attrs al') :: rest))) : Cl C fm ((rd, .attrs al) :: rest) (.ref 127) [.str "sub", owner, .ref p] P := by
  subst he
  have m2 := alook_same "made" (.int (M + 1)) al
  walk_at "w_new"
  repeat walk_at "w1"
  refine Ev_dict0 (b := true) (by assumption) fun nd => ?_
  repeat walk_at "w1"
  refine Ev_dict0 (b := true) (by assumption) fun cd => ?_
  repeat walk_at "w1"
  refine Ev_dict0 (b := false) (by assumption) fun td => ?_
  repeat walk_at "w1"
  rename_i ol ul utl
  refine' ⟨rfl, Made.mk ?u ?e ?z ?s (h _ _ nd ol ul utl cd td)⟩
  walk_at "w_made"
theorem w_reg_block (G : Good C k) (hk : k ≤ 790) {owner : AV} {p r rd : Addr} {al al' : List (Str × AV)} {M lv : Int} (r1 : Get rest r (.inst 127 rd)) (he : aset "made" (.int (M + 1)) al = al') (m1 : alook "made" al = some (.int M))
    (f1 : Fld ((rd, .attrs al) :: rest) p 127 "root" (.ref r)) (f2 : Fld ((rd, .attrs al') :: rest) p 127 "level" (.int lv))
    (h : ∀ R Rd nd ol ul utl cd td, P (.ref R) (newReg "block" owner (.ref p) r (M + 1) (lv + 0) "body" R Rd nd ol ul utl cd td ((rd, .attrs al') :: rest))) : Cl C fm ((rd, .attrs al) :: rest) (.ref 127) [.str "block", owner, .ref p] P := by
  subst he
  have m2 := alook_same "made" (.int (M + 1)) al
  walk_at "w_new"
  repeat walk_at "w1"
  refine Ev_dict0 (b := true) (by assumption) fun nd => ?_
  repeat walk_at "w1"
  refine Ev_dict0 (b := true) (by assumption) fun cd => ?_
  repeat walk_at "w1"
  refine Ev_dict0 (b := false) (by assumption) fun td => ?_
  repeat walk_at "w1"
  rename_i ol ul utl
  refine' ⟨rfl, Made.mk ?u ?e ?z ?s (h _ _ nd ol ul utl cd td)⟩
  walk_at "w_made"
theorem w_open_root (G : Good C k) (hk : k ≤ 780) (h : ∀ r rd nd ol ul utl cd td, P (.ref r) ((td, .idd []) :: (cd, .sd []) :: (utl, .lst []) :: (ul, .lst []) :: (ol, .lst []) :: (nd, .sd []) :: (r, .inst 127 rd) :: (rd, .attrs (regV (.str "root") .none .none (.ref r) (.int 1) (.int 1) (.int 0) (.str "body") (.ref nd) (.ref ol) (.ref ul) (.ref utl) (.ref cd) (.ref td) .none)) :: l)) : Cl C fm l (.ref 138) [.str "root", .none, .none] P := by
  walk_at "w_def"
  repeat walk_at "w1"
  refine w_reg0 (by assumption) (by omega) fun r rd nd ol ul utl cd td => ?_
  repeat walk_at "w1"
  exact h _ _ _ _ _ _ _ _
theorem w_open_sub (G : Good C k) (hk : k ≤ 780) {p r rd : Addr} {al al' : List (Str × AV)} {M lv : Int} (r1 : Get rest r (.inst 127 rd)) (he : aset "made" (.int (M + 1)) al = al') (m1 : alook "made" al = some (.int M))
    (f1 : Fld ((rd, .attrs al) :: rest) p 127 "root" (.ref r)) (f2 : Fld ((rd, .attrs al') :: rest) p 127 "level" (.int lv))
    (h : ∀ R Rd nd ol ul utl cd td, P (.ref R) (newReg "sub" .none (.ref p) r (M + 1) (lv + 1) "body" R Rd nd ol ul utl cd td ((rd, .attrs al') :: rest))) : Cl C fm ((rd, .attrs al) :: rest) (.ref 138) [.str "sub", .none, .ref p] P := by
  walk_at "w_def"
  repeat walk_at "w1"
  refine w_reg_sub (by assumption) (by omega) r1 he m1 f1 f2 fun R Rd nd ol ul utl cd td => ?_
  repeat walk_at "w1"
  exact h _ _ _ _ _ _ _ _
theorem w_open_block (G : Good C k) (hk : k ≤ 780) {p r rd : Addr} {al al' : List (Str × AV)} {M lv : Int} (r1 : Get rest r (.inst 127 rd)) (he : aset "made" (.int (M + 1)) al = al') (m1 : alook "made" al = some (.int M))
    (f1 : Fld ((rd, .attrs al) :: rest) p 127 "root" (.ref r)) (f2 : Fld ((rd, .attrs al') :: rest) p 127 "level" (.int lv))
    (h : ∀ R Rd nd ol ul utl cd td, P (.ref R) (newReg "block" .none (.ref p) r (M + 1) (lv + 0) "body" R Rd nd ol ul utl cd td ((rd, .attrs al') :: rest))) : Cl C fm ((rd, .attrs al) :: rest) (.ref 138) [.str "block", .none, .ref p] P := by
  walk_at "w_def"
  repeat walk_at "w1"
  refine w_reg_block (by assumption) (by omega) r1 he m1 f1 f2 fun R Rd nd ol ul utl cd td => ?_
  repeat walk_at "w1"
  exact h _ _ _ _ _ _ _ _
theorem w_open_package (G : Good C k) (hk : k ≤ 780) {x xd p r rd : Addr} {ex al al' : List (Str × AV)} {M lv : Int} {rg : AV} (x1 : Get rest x (.inst 70 xd)) (x2 : alook "region" ex = some rg) (r1 : Get rest r (.inst 127 rd)) (he : aset "made" (.int (M + 1)) al = al') (m1 : alook "made" al = some (.int M))
    (f1 : Fld ((rd, .attrs al) :: (xd, .attrs ex) :: rest) p 127 "root" (.ref r)) (f2 : Fld ((rd, .attrs al') :: (xd, .attrs ex) :: rest) p 127 "level" (.int lv))
    (h : ∀ R Rd nd ol ul utl cd td, P (.ref R) (newReg "package" (.ref x) (.ref p) r (M + 1) (lv + 0) "visible" R Rd nd ol ul utl cd td ((rd, .attrs al') :: (xd, .attrs (aset "region" (.ref R) ex)) :: rest))) : Cl C fm ((rd, .attrs al) :: (xd, .attrs ex) :: rest) (.ref 138) [.str "package", .ref x, .ref p] P := by
  walk_at "w_def"
  repeat walk_at "w1"
  refine w_reg_package (by assumption) (by omega) (.tail r1) he m1 f1 f2 fun R Rd nd ol ul utl cd td => ?_
  repeat walk_at "w1"
  exact h _ _ _ _ _ _ _ _
end
section
variable {fm : FM} {l l' l'' rest : LG} {C : Cx} {k : Nat} {P : AV → LG → Prop}
theorem w_int (G : Good C k) (hk : k ≤ 790) {a b c : AV} (h : ∀ x dx a7 a9 a10 a13 a14 a24, P (.ref x) ((x, .inst 301 dx) :: (dx, .attrs (typV (.str "int") a (.int 0) .none b c (.ref a7) (.int 0) (.ref a9) (.ref a10) .none (.bool true) (.ref a13) (.ref a14) .none .none (.bool false) .none (.bool false) (.bool false) (.bool false) (.bool false) (.bool false) (.ref a24))) :: l)) : Cl C fm l (.ref 333) [a, b, c] P := by
  walk_at "w_defD"
  repeat walk_at "w1"
  refine w_typ (by assumption) (by omega) fun x dx a7 a9 a10 a13 a14 a24 => ?_
  repeat walk_at "w1"
  refine' Drp.re ?u ?e (.mk ?s (h _ _ a7 a9 a10 a13 a14 a24))
  walk_at "w_end"
theorem w_rec (G : Good C k) (hk : k ≤ 790) {a : AV} {d c : Addr} (g1 : Get l d (.lst [])) (g2 : Get l c (.lst [])) (h : ∀ x dx a7 a9 a10 a13 a14 a24, P (.ref x) ((x, .inst 301 dx) :: (dx, .attrs (typV (.str "record") a (.int 0) .none .none .none (.ref a7) (.int 0) (.ref a9) (.ref a10) .none (.bool true) (.ref a13) (.ref a14) .none .none (.bool false) .none (.bool false) (.bool false) (.bool false) (.bool false) (.bool false) (.ref a24))) :: l)) : Cl C fm l (.ref 340) [a, .ref d, .ref c, .none] P := by
  walk_at "w_defD"
  repeat walk_at "w1"
  refine w_typ (by assumption) (by omega) fun x dx a7 a9 a10 a13 a14 a24 => ?_
  repeat walk_at "w1"
  refine' Cp_eqI (xs := []) (ys := []) (by assumption) (by omega) ?g1 ?g2 rfl ?_
  case g1 => walk_at "w_ls"
  case g2 => walk_at "w_ls"
  repeat walk_at "w1"
  rename_i p q r
  refine' Drp.re ?u ?e (.mk ?s (h x dx a7 a9 a10 p q a24))
  walk_at "w_end"
theorem w_numbered (G : Good C k) (hk : k ≤ 790) {t d : Addr} {v c : AV} {al al' : List (Str × AV)} (g : Get l t (.inst 301 d)) (u : Put l d (.attrs al) (.attrs al') l') (he : aset "number" v al = al') (e : alook "number" al = some c) (h : P (.ref t) l') : Cl C fm l (.ref 347) [.ref t, v] P := by
  subst he
  walk_at "w_def"
  repeat walk_at "w1"
  exact h
theorem w_whole (G : Good C k) (hk : k ≤ 790) {t : AV} (h : ∀ x dx, P (.ref x) ((x, .inst 322 dx) :: (dx, .attrs (subV t .none)) :: l)) : Cl C fm l (.ref 361) [t] P := by
  walk_at "w_def"
  repeat walk_at "w1"
  refine w_sub (by assumption) (by omega) fun x dx => ?_
  repeat walk_at "w1"
  exact h _ _
end
section
variable {fm : FM} {l l' l'' rest : LG} {C : Cx} {k : Nat} {P : AV → LG → Prop}
theorem w_frame0 (G : Good C k) (hk : k ≤ 760) {r : Addr} (f1 : Fld l r 127 "kind" (.str "root")) (h : P (.ref r) l) : Cl C fm l (.ref 152) [.ref r] P := by
  walk_at "w_def"
  repeat walk_at "w1"
  refine Wh_turn rfl ?_
  repeat walk_at "w1"
  exact h
theorem w_frame1 (G : Good C k) (hk : k ≤ 760) {R r : Addr} (f1 : Fld l R 127 "kind" (.str "package")) (f2 : Fld l R 127 "parent" (.ref r)) (f3 : Fld l r 127 "kind" (.str "root")) (h : P (.ref r) l) : Cl C fm l (.ref 152) [.ref R] P := by
  walk_at "w_def"
  repeat walk_at "w1"
  refine Wh_turn rfl ?_
  repeat walk_at "w1"
  refine Wh_turn rfl ?_
  repeat walk_at "w1"
  exact h
theorem w_unique (G : Good C k) (hk : k ≤ 760) {x : Str} {n : Int} (z : n.natAbs.log2 < 1920) (z1 : x.length + ("#" : Str).length ≤ 1000) (z2 : (x ++ ("#" : Str)).length + (toString n : Str).length ≤ 1000) (h : P (.str (x ++ "#" ++ toString n)) l) : Cl C fm l (.ref 109) [.str x, .int n] P := by
  walk_at "w_def"
  repeat walk_at "w1"
  exact h
end
section
variable {fm : FM} {l l1 l2 l3 l4 l5 l6 : LG} {C : Cx} {k : Nat} {P : AV → LG → Prop}
theorem w_frame (G : Good C k) (hk : k ≤ 760) {R r : Addr} (f : FrOf l R r) (h : P (.ref r) l) : Cl C fm l (.ref 152) [.ref R] P := by
  cases f with
  | root a => exact w_frame0 G hk a h
  | pkg a b c => exact w_frame1 G hk a b c h
theorem w_gu0 (G : Good C k) (hk : k ≤ 750) {R r x xd cd : Addr} {kd nm : Str} {ex : List (Str × AV)} {kc : List (Str × AV)} {u0 : AV} (fr : FrOf l R r) (fk : Fld l x 70 "kind" (.str kd)) (hkd : (kd == "exception") = false)
    (fc : Fld l r 127 "counts" (.ref cd)) (fn : Fld l x 70 "name" (.str nm)) (gx : Get l x (.inst 70 xd)) (e0 : alook "unique" ex = some u0) (ec : vat kc nm = none) (zc : kc.length ≤ 1000)
    (u1 : Put l cd (.sd kc) (.sd (vst kc nm (.int (0 + 1)))) l1) (u2 : Put l1 xd (.attrs ex) (.attrs (aset "unique" (.str nm) ex)) l2) (h : P .none l2) : Cl C fm l (.ref 159) [.ref R, .ref x] P := by
  have fn1 := fn.put u1
  have gx1 := gx.put u1 (by intro q; cases q)
  have gc := u1.get
  walk_at "w_def"
  repeat walk_at "w1"
  refine w_frame (by assumption) (by omega) fr ?_
  repeat walk_at "w1"
  exact h
theorem w_gu1 (G : Good C k) (hk : k ≤ 750) {R r x xd cd : Addr} {kd nm : Str} {c : Int} {ex : List (Str × AV)} {kc : List (Str × AV)} {u0 : AV} (fr : FrOf l R r) (fk : Fld l x 70 "kind" (.str kd)) (hkd : (kd == "exception") = false)
    (fc : Fld l r 127 "counts" (.ref cd)) (fn : Fld l x 70 "name" (.str nm)) (gx : Get l x (.inst 70 xd)) (e0 : alook "unique" ex = some u0) (ec : vat kc nm = some (.int c)) (hc : (c == 0) = false) (zc : kc.length ≤ 1000)
    (z : c.natAbs.log2 < 1920) (z1 : nm.length + ("#" : Str).length ≤ 1000) (z2 : (nm ++ ("#" : Str)).length + (toString c : Str).length ≤ 1000)
    (u1 : Put l cd (.sd kc) (.sd (vst kc nm (.int (c + 1)))) l1) (u2 : Put l1 xd (.attrs ex) (.attrs (aset "unique" (.str (nm ++ "#" ++ toString c)) ex)) l2) (h : P .none l2) : Cl C fm l (.ref 159) [.ref R, .ref x] P := by
  have fn1 := fn.put u1
  have gx1 := gx.put u1 (by intro q; cases q)
  have gc := u1.get
  walk_at "w_def"
  repeat walk_at "w1"
  refine w_frame (by assumption) (by omega) fr ?_
  repeat walk_at "w1"
  refine w_unique (by assumption) (by omega) z z1 z2 ?_
  repeat walk_at "w1"
  exact h
theorem w_settle (G : Good C k) (hk : k ≤ 750) {R x nd : Addr} {nm : Str} {kn : List (Str × AV)} (f1 : Fld l R 127 "names" (.ref nd)) (f2 : Fld l x 70 "name" (.str nm)) (gn : Get l nd (.sd kn)) (en : vat kn nm = none) (h : P .none l) : Cl C fm l (.ref 164) [.ref R, .ref x] P := by
  refine Cl_drop ?_
  refine Cl_code fun m s vs hs d => ?_
  refine' code_fnC2 [("region", .ref R)] (fun L' => (L' + 1, .cell (.ref x)) :: l) G rfl ?d ?u ?k ?ho ?hcd ?hb ?hl ?nd ?e1 ?e2 ?b ?E ?E2 ?co ?ge ?ki hs d
  case d => exact Nat.succ_le_succ G.dp
  case u => exact Nat.le_trans (Nat.add_le_add_right G.un 3) (by omega)
  walk_at "w_fnC"
  clear hs d G
  intro g' L' G
  repeat walk_at "w1"
  exact .mk (by walk_at "w_sl") h
end
section
variable {fm : FM} {l l1 l2 l3 l4 : LG} {l5 l6 : Addr → LG} {C : Cx} {k : Nat} {P : AV → LG → Prop}
/-- the unique name of what is declared -/
inductive Uq (kc : List (Str × AV)) (nm : Str) : Int → Str → Prop
  | z : vat kc nm = none → Uq kc nm 0 nm
  | s {c : Int} : vat kc nm = some (.int c) → (c == 0) = false → c.natAbs.log2 < 1920 → nm.length + ("#" : Str).length ≤ 1000 → (nm ++ ("#" : Str)).length + (toString c : Str).length ≤ 1000 → Uq kc nm c (nm ++ "#" ++ toString c)
theorem w_gu (G : Good C k) (hk : k ≤ 750) {R r x xd cd : Addr} {kd nm uq : Str} {c : Int} {ex : List (Str × AV)} {kc : List (Str × AV)} {u0 : AV} (fr : FrOf l R r) (fk : Fld l x 70 "kind" (.str kd)) (hkd : (kd == "exception") = false)
    (fc : Fld l r 127 "counts" (.ref cd)) (fn : Fld l x 70 "name" (.str nm)) (gx : Get l x (.inst 70 xd)) (e0 : alook "unique" ex = some u0) (ec : Uq kc nm c uq) (zc : kc.length ≤ 1000)
    (u1 : Put l cd (.sd kc) (.sd (vst kc nm (.int (c + 1)))) l1) (u2 : Put l1 xd (.attrs ex) (.attrs (aset "unique" (.str uq) ex)) l2) (h : P .none l2) : Cl C fm l (.ref 159) [.ref R, .ref x] P := by
  cases ec with
  | z a => exact w_gu0 G hk fr fk hkd fc fn gx e0 a zc u1 u2 h
  | s a b d e f => exact w_gu1 G hk fr fk hkd fc fn gx e0 a b zc d e f u1 u2 h
theorem w_declare (G : Good C k) (hk : k ≤ 740) {R r x xd rd cd nd ol : Addr} {nm kd pt uq : Str} {M c : Int} {al ex kc kn : List (Str × AV)} {os : List AV} {v1 v2 v3 v4 : AV}
    (hdot : (Builtin.Str.occurrences nm "." 0 nm.length 1).isEmpty = !false) (hkd : (kd == "exception") = false) (fn : Fld l x 70 "name" (.str nm)) (fk : Fld l x 70 "kind" (.str kd))
    (fN : Fld l R 127 "names" (.ref nd)) (fr : FrOf l R r) (fR : Fld l R 127 "root" (.ref r)) (fP : Fld l R 127 "part" (.str pt)) (fC : Fld l r 127 "counts" (.ref cd)) (fO : Fld l R 127 "order" (.ref ol))
    (gx : Get l x (.inst 70 xd)) (gr : Get l r (.inst 127 rd)) (e1 : alook "made" al = some (.int M)) (x1 : alook "number" ex = some v1) (x2 : alook "home" ex = some v2) (x3 : alook "part" ex = some v3) (x4 : alook "unique" ex = some v4)
    (gn : Get l nd (.sd kn)) (en : vat kn nm = none) (ec : Uq kc nm c uq) (zn : kn.length ≤ 1000) (zc : kc.length ≤ 1000) (zo : os.length ≤ 1000)
    (u1 : Put l rd (.attrs al) (.attrs (aset "made" (.int (M + 1)) al)) l1)
    (u2 : Put l1 xd (.attrs ex) (.attrs (aset "part" (.str pt) (aset "home" (.ref R) (aset "number" (.int (M + 1)) ex)))) l2)
    (u3 : Put l2 cd (.sd kc) (.sd (vst kc nm (.int (c + 1)))) l3)
    (u4 : Put l3 xd (.attrs (aset "part" (.str pt) (aset "home" (.ref R) (aset "number" (.int (M + 1)) ex)))) (.attrs (aset "unique" (.str uq) (aset "part" (.str pt) (aset "home" (.ref R) (aset "number" (.int (M + 1)) ex))))) l4)
    (u5 : ∀ lx, Put l4 nd (.sd kn) (.sd (vst kn nm (.ref lx))) (l5 lx)) (u6 : ∀ lx, Put (l5 lx) ol (.lst os) (.lst (os ++ [.ref x])) (l6 lx))
    (h : ∀ lx, P .none ((lx, .lst [.ref x]) :: l6 lx)) : Cl C fm l (.ref 171) [.ref R, .ref x] P := by
  obtain ⟨la, ua, u2⟩ := u2.mid (.attrs (aset "number" (.int (M + 1)) ex))
  obtain ⟨lb, ub, uc⟩ := u2.mid (.attrs (aset "home" (.ref R) (aset "number" (.int (M + 1)) ex)))
  have y2 : alook "home" (aset "number" (.int (M + 1)) ex) = some v2 := by rw [alook_other _ (by decide +kernel)]; exact x2
  have y3 : alook "part" (aset "home" (.ref R) (aset "number" (.int (M + 1)) ex)) = some v3 := by rw [alook_other _ (by decide +kernel), alook_other _ (by decide +kernel)]; exact x3
  have y4 : alook "unique" (aset "part" (.str pt) (aset "home" (.ref R) (aset "number" (.int (M + 1)) ex))) = some v4 := by rw [alook_other _ (by decide +kernel), alook_other _ (by decide +kernel), alook_other _ (by decide +kernel)]; exact x4
  have m1 := alook_same "made" (.int (M + 1)) al
  have ga := u1.get
  have fR1 := fR.putA u1
  have g1 : Get l1 rd _ := u1.got
  have gr1 := gr.put u1 (by intro q; cases q)
  have gx1 := gx.put u1 (by intro q; cases q)
  have fM : Fld l1 r 127 "made" (.int (M + 1)) := ⟨rd, _, .g gr1, .g g1, m1⟩
  have gxa := gx1.put ua (by intro q; cases q)
  have gxb := gxa.put ub (by intro q; cases q)
  have gxc := gxb.put uc (by intro q; cases q)
  have fPb := ((fP.putA u1).putA ua).putA ub
  have fr2 := (((fr.putA u1).putA ua).putA ub).putA uc
  have fk2 := (((fk.putA u1).putA ua).putA ub).putA uc
  have fn2 := (((fn.putA u1).putA ua).putA ub).putA uc
  have fC2 := (((fC.putA u1).putA ua).putA ub).putA uc
  have fN4 := (((((fN.putA u1).putA ua).putA ub).putA uc).put u3).putA u4
  have fn4 := (fn2.put u3).putA u4
  have fO4 := (((((fO.putA u1).putA ua).putA ub).putA uc).put u3).putA u4
  have gn4 : Get l4 nd (.sd kn) := (u5 0).get
  refine Cl_drop ?_
  walk_at "w_def"
  repeat walk_at "w1"
  refine Cp_insub hdot ?_
  repeat walk_at "w1"
  refine w_settle (by assumption) (by omega) fN fn gn en ?_
  repeat walk_at "w1"
  refine w_gu (by assumption) (by omega) fr2 fk2 hkd fC2 fn2 gxc y4 ec zc u3 u4 ?_
  repeat walk_at "w1"
  rename_i lx
  have u5' := u5 lx
  have u6' := u6 lx
  have fO5 := fO4.put u5'
  have go := u6'.get
  refine Cl_setdef (.tail u5') en zn ?_
  repeat walk_at "w1"
  exact .mk (List.Sublist.refl _) (h lx)
theorem w_ready (G : Good C k) (hk : k ≤ 740) {x xd : Addr} {ex : List (Str × AV)} {v : AV} (gx : Get l x (.inst 70 xd)) (e : alook "is_ready" ex = some v) (u : Put l xd (.attrs ex) (.attrs (aset "is_ready" (.bool true) ex)) l1) (h : P .none l1) : Cl C fm l (.ref 178) [.ref x] P := by
  walk_at "w_def"
  repeat walk_at "w1"
  exact h
theorem w_note (G : Good C k) (hk : k ≤ 740) {R r td : Addr} {n : Int} {pt : Str} {kt : List (Int × AV)} (fR : Fld l R 127 "root" (.ref r)) (fT : Fld l r 127 "type_homes" (.ref td)) (fP : Fld l R 127 "part" (.str pt)) (e : vat kt n = none) (z : kt.length ≤ 1000)
    (u : ∀ t, Put l td (.idd kt) (.idd (vst kt n (.ref t))) (l5 t)) (h : ∀ t, P .none ((t, .tup [.ref R, .str pt]) :: l5 t)) : Cl C fm l (.ref 192) [.ref R, .int n] P := by
  have gt := (u 0).get
  walk_at "w_def"
  repeat walk_at "w1"
  rename_i t
  have u' := u t
  refine Cl_setdefi (.tail u') e z ?_
  repeat walk_at "w1"
  exact h t
end
section
variable {fm : FM} {l l1 l2 l3 l4 : LG} {l5 l6 l7 : Addr → LG} {C : Cx} {k : Nat} {P : AV → LG → Prop}
theorem w_declready (G : Good C k) (hk : k ≤ 730) {R r x xd rd cd nd ol : Addr} {nm kd pt uq : Str} {M c : Int} {al ex kc kn : List (Str × AV)} {os : List AV} {v1 v2 v3 v4 v5 : AV}
    (hdot : (Builtin.Str.occurrences nm "." 0 nm.length 1).isEmpty = !false) (hkd : (kd == "exception") = false) (fn : Fld l x 70 "name" (.str nm)) (fk : Fld l x 70 "kind" (.str kd))
    (fN : Fld l R 127 "names" (.ref nd)) (fr : FrOf l R r) (fR : Fld l R 127 "root" (.ref r)) (fP : Fld l R 127 "part" (.str pt)) (fC : Fld l r 127 "counts" (.ref cd)) (fO : Fld l R 127 "order" (.ref ol))
    (gx : Get l x (.inst 70 xd)) (gr : Get l r (.inst 127 rd)) (e1 : alook "made" al = some (.int M)) (x1 : alook "number" ex = some v1) (x2 : alook "home" ex = some v2) (x3 : alook "part" ex = some v3) (x4 : alook "unique" ex = some v4)
    (gn : Get l nd (.sd kn)) (en : vat kn nm = none) (ec : Uq kc nm c uq) (zn : kn.length ≤ 1000) (zc : kc.length ≤ 1000) (zo : os.length ≤ 1000)
    (u1 : Put l rd (.attrs al) (.attrs (aset "made" (.int (M + 1)) al)) l1)
    (u2 : Put l1 xd (.attrs ex) (.attrs (aset "part" (.str pt) (aset "home" (.ref R) (aset "number" (.int (M + 1)) ex)))) l2)
    (u3 : Put l2 cd (.sd kc) (.sd (vst kc nm (.int (c + 1)))) l3)
    (u4 : Put l3 xd (.attrs (aset "part" (.str pt) (aset "home" (.ref R) (aset "number" (.int (M + 1)) ex)))) (.attrs (aset "unique" (.str uq) (aset "part" (.str pt) (aset "home" (.ref R) (aset "number" (.int (M + 1)) ex))))) l4)
    (u5 : ∀ lx, Put l4 nd (.sd kn) (.sd (vst kn nm (.ref lx))) (l5 lx)) (u6 : ∀ lx, Put (l5 lx) ol (.lst os) (.lst (os ++ [.ref x])) (l6 lx))
    (x5 : alook "is_ready" ex = some v5) (u7 : ∀ lx, Put (l6 lx) xd (.attrs (aset "unique" (.str uq) (aset "part" (.str pt) (aset "home" (.ref R) (aset "number" (.int (M + 1)) ex))))) (.attrs (aset "is_ready" (.bool true) (aset "unique" (.str uq) (aset "part" (.str pt) (aset "home" (.ref R) (aset "number" (.int (M + 1)) ex)))))) (l7 lx))
    (h : ∀ lx, P .none ((lx, .lst [.ref x]) :: l7 lx)) : Cl C fm l (.ref 185) [.ref R, .ref x] P := by
  have y5 : alook "is_ready" (aset "unique" (.str uq) (aset "part" (.str pt) (aset "home" (.ref R) (aset "number" (.int (M + 1)) ex)))) = some v5 := by rw [alook_other _ (by decide +kernel), alook_other _ (by decide +kernel), alook_other _ (by decide +kernel), alook_other _ (by decide +kernel)]; exact x5
  walk_at "w_def"
  repeat walk_at "w1"
  refine w_declare (by assumption) (by omega) hdot hkd fn fk fN fr fR fP fC fO gx gr e1 x1 x2 x3 x4 gn en ec zn zc zo u1 u2 u3 u4 u5 u6 fun lx => ?_
  repeat walk_at "w1"
  have gx6 : Get ((lx, .lst [.ref x]) :: l6 lx) x (.inst 70 xd) := .tail ((((((((gx.put u1 (by intro q; cases q)).put u2 (by intro q; cases q)).put u3 (by intro q; cases q)).put u4 (by intro q; cases q)).put (u5 lx) (by intro q; cases q)).put (u6 lx) (by intro q; cases q))))
  refine w_ready (by assumption) (by omega) gx6 y5 (.tail (u7 lx)) ?_
  repeat walk_at "w1"
  exact h lx
end
section
variable {fm : FM} {l l' rest : LG} {C : Cx} {k : Nat} {P : AV → LG → Prop}
abbrev rootV (r nd ol ul utl cd td : Addr) (M : Int) : List (Str × AV) := regV (.str "root") .none .none (.ref r) (.int M) (.int 1) (.int 0) (.str "body") (.ref nd) (.ref ol) (.ref ul) (.ref utl) (.ref cd) (.ref td) .none
theorem w_pkg_int (G : Good C k) (hk : k ≤ 700) {r rd nd ol ul utl cd td : Addr} {M ct cs : Int} {i : Int} {key uqt uqs : Str} {kc kn : List (Str × AV)} {os : List AV} {kt : List (Int × AV)}
    (r1 : Get rest r (.inst 127 rd)) (hi0 : 0 ≤ i) (hi : i < 3) (hkey : Txt.item "pqr" i = key) (hdot : (Builtin.Str.occurrences key "." 0 key.length 1).isEmpty = !false)
    (en : vat kn key = none) (ec : vat kc key = none) (zn : kn.length ≤ 1000) (zc : kc.length ≤ 1000) (zo : os.length ≤ 1000) (zt : kt.length ≤ 1000)
    (eh : vat kt (71 + i) = none) (et : Uq (vst kc key (.int (0 + 1))) "t" ct uqt) (es : Uq (vst (vst kc key (.int (0 + 1))) "t" (.int (ct + 1))) "s" cs uqs) (zc1 : (vst kc key (.int (0 + 1))).length ≤ 1000) (zc2 : (vst (vst kc key (.int (0 + 1))) "t" (.int (ct + 1))).length ≤ 1000)
    (h : ∀ D pre, PkgF pre false D → D.nR = M + 1 + 1 → D.num = 71 + i → P (.ref D.t) ((rd, .attrs (rootV r nd ol ul utl cd td (M + 1 + 1 + 1 + 1))) :: (cd, .sd (vst (vst (vst kc key (.int (0 + 1))) "t" (.int (ct + 1))) "s" (.int (cs + 1)))) :: (nd, .sd (vst kn key (.ref D.lx))) :: (ol, .lst (os ++ [.ref D.x])) :: (td, .idd (vst kt (71 + i) (.ref D.tt))) :: (pre ++ rest))) :
    Cl C fm ((rd, .attrs (rootV r nd ol ul utl cd td M)) :: (cd, .sd kc) :: (nd, .sd kn) :: (ol, .lst os) :: (td, .idd kt) :: rest) (.ref 496) [.ref r, .int i, .bool false] P := by
  refine Cl_hold ?_
  walk_at "w_def"
  repeat walk_at "w1"
  refine Su_str rfl hi0 hi (by decide) hkey ?_
  repeat walk_at "w1"
  refine w_ent (by assumption) (by omega) fun x xd => ?_
  repeat walk_at "w1"
  refine' w_declready (R := r) (r := r) (x := x) (xd := xd) (rd := rd) (nm := key) (kd := "package") (pt := "body") (M := M) (c := 0) (uq := key) (cd := cd) (nd := nd) (ol := ol) (by assumption) (by omega) hdot (by decide +kernel) ?f1 ?f2 ?f3 (.root ?f4) ?f5 ?f6 ?f7 ?f8 ?g1 ?g2 ?x0 ?x1 ?x2 ?x3 ?x4 ?g3 en (.z ec) zn zc zo ?u1 ?u2 ?u3 ?u4 ?u5 ?u6 ?x5 ?u7 ?_
  walk_at "w_declF"
  intro lx
  repeat walk_at "w1"
  refine' Cl_re (a := xd) (al' := entV (.str "package") (.str key) .none .none .none (.int 1) (.int (M + 1)) (.str key) (.ref r) (.str "body") .none .none (.bool true) (.bool false) (.bool false) (.bool false) (.bool false)) ?u ?e (Cl_re (a := rd) (al' := rootV r nd ol ul utl cd td (M + 1)) ?u' ?e' (Cl_front (a := xd) ?t1 (Cl_front (a := rd) ?t2 (w_open_package (al' := rootV r nd ol ul utl cd td (M + 1 + 1)) (by assumption) (by omega) ?g1 ?x0 ?g2 ?he ?x1 ?f1 ?f2 fun R Rd nd' ol' ul' utl' cd' td' => ?_))))
  case u => walk_at "w_put"
  case e => kernel_rfl
  case u' => walk_at "w_put"
  case e' => kernel_rfl
  case t1 => walk_at "w_take"
  case t2 => walk_at "w_take"
  case g1 => walk_at "w_get"
  case g2 => walk_at "w_get"
  case x0 => exact rfl
  case he => kernel_rfl
  case x1 => exact rfl
  case f1 => walk_at "w_fldL"
  case f2 => walk_at "w_fldL"
  repeat walk_at "w1"
  refine w_int (by assumption) (by omega) fun t d a7 a9 a10 a13 a14 a24 => ?_
  repeat walk_at "w1"
  refine' w_numbered (t := t) (d := d) (by assumption) (by omega) ?g1 ?u ?e ?x0 ?_
  case g1 => walk_at "w_get"
  case u => walk_at "w_put"
  case e => exact rfl
  case x0 => exact rfl
  repeat walk_at "w1"
  refine w_whole (by assumption) (by omega) fun s1 sd1 => ?_
  repeat walk_at "w1"
  refine w_ent (by assumption) (by omega) fun e1 ed1 => ?_
  repeat walk_at "w1"
  refine' Cl_re (a := ed1) (al' := entV (.str "type") (.str "t") .none (.ref s1) .none (.int 2) (.int 0) (.str "") .none (.str "") .none .none (.bool false) (.bool true) (.bool false) (.bool false) (.bool false)) ?u ?e (w_declready (R := R) (r := r) (x := e1) (xd := ed1) (rd := rd) (nm := "t") (kd := "type") (pt := "visible") (M := M + 1 + 1) (cd := cd) (nd := nd') (ol := ol') (by assumption) (by omega) (by decide +kernel) (by decide +kernel) ?f1 ?f2 ?f3 (.pkg ?f4 ?f9 ?f10) ?f5 ?f6 ?f7 ?f8 ?g1 ?g2 ?x0 ?x1 ?x2 ?x3 ?x4 ?g3 ?x6 et ?z1 zc1 ?z2 ?u1 ?u2 ?u3 ?u4 ?u5 ?u6 ?x5 ?u7 ?_)
  case u => walk_at "w_put"
  case e => kernel_rfl
  case f9 => walk_at "w_fldL"
  case f10 => walk_at "w_fldL"
  walk_at "w_declF"
  case x6 => exact rfl
  case z1 => walk_at "w_le"
  case z2 => walk_at "w_le"
  intro le1
  repeat walk_at "w1"
  refine w_whole (by assumption) (by omega) fun s2 sd2 => ?_
  repeat walk_at "w1"
  refine w_ent (by assumption) (by omega) fun e2 ed2 => ?_
  repeat walk_at "w1"
  refine' Cl_re (a := ed2) (al' := entV (.str "type") (.str "s") .none (.ref s2) .none (.int 2) (.int 0) (.str "") .none (.str "") .none .none (.bool false) (.bool true) (.bool false) (.bool false) (.bool false)) ?u ?e (w_declready (R := R) (r := r) (x := e2) (xd := ed2) (rd := rd) (nm := "s") (kd := "type") (pt := "visible") (M := M + 1 + 1 + 1) (cd := cd) (nd := nd') (ol := ol') (by assumption) (by omega) (by decide +kernel) (by decide +kernel) ?f1 ?f2 ?f3 (.pkg ?f4 ?f9 ?f10) ?f5 ?f6 ?f7 ?f8 ?g1 ?g2 ?x0 ?x1 ?x2 ?x3 ?x4 ?g3 ?x6 es ?z1 zc2 ?z2 ?u1 ?u2 ?u3 ?u4 ?u5 ?u6 ?x5 ?u7 ?_)
  case u => walk_at "w_put"
  case e => kernel_rfl
  case f9 => walk_at "w_fldL"
  case f10 => walk_at "w_fldL"
  walk_at "w_declF"
  case x6 => exact rfl
  case z1 => walk_at "w_le"
  case z2 => walk_at "w_le"
  intro le2
  repeat walk_at "w1"
  refine' w_note (R := R) (r := r) (td := td) (pt := "visible") (kt := kt) (by assumption) (by omega) ?f1 ?f2 ?f3 eh zt ?u ?_
  case f1 => walk_at "w_fldL"
  case f2 => walk_at "w_fldL"
  case f3 => walk_at "w_fldL"
  case u => intro _; walk_at "w_put"
  intro tt
  repeat walk_at "w1"
  refine' Hld.front (a := td) ?t1 (.front (a := ol) ?t2 (.front (a := nd) ?t3 (.front (a := cd) ?t4 (.front (a := rd) ?t5 (.re (a := rd) (al' := rootV r nd ol ul utl cd td (M + 1 + 1 + 1 + 1)) ?u1 ?e1 ?_)))))
  case t1 => walk_at "w_take"
  case t2 => walk_at "w_take"
  case t3 => walk_at "w_take"
  case t4 => walk_at "w_take"
  case t5 => walk_at "w_take"
  case u1 => walk_at "w_put"
  case e1 => kernel_rfl
  refine' Hld.re (a := ed1) (al' := (entV (.str "type") (.str "t") .none (.ref s1) .none (.int 2) (.int (M + 1 + 1 + 1)) (.str uqt) (.ref R) (.str "visible") .none .none (.bool true) (.bool true) (.bool false) (.bool false) (.bool false))) ?u1 ?e1 (.re (a := ed2) (al' := (entV (.str "type") (.str "s") .none (.ref s2) .none (.int 2) (.int (M + 1 + 1 + 1 + 1)) (.str uqs) (.ref R) (.str "visible") .none .none (.bool true) (.bool true) (.bool false) (.bool false) (.bool false))) ?u2 ?e2 ?_)
  case u1 => walk_at "w_put"
  case e1 => kernel_rfl
  case u2 => walk_at "w_put"
  case e2 => kernel_rfl
  refine' Hld.re (a := xd) (al' := entV (.str "package") (.str key) .none .none .none (.int 1) (.int (M + 1)) (.str key) (.ref r) (.str "body") (.ref R) .none (.bool true) (.bool false) (.bool false) (.bool false) (.bool false)) ?u1 ?e1 (.re (a := d) (al' := typV (.str "int") (.str "t") (.int (71 + i)) .none (.int (-8)) (.int 7) (.ref a7) (.int 0) (.ref a9) (.ref a10) .none (.bool true) (.ref a13) (.ref a14) .none .none (.bool false) .none (.bool false) (.bool false) (.bool false) (.bool false) (.bool false) (.ref a24)) ?u2 ?e2 ?_)
  case u1 => walk_at "w_put"
  case e1 => kernel_rfl
  case u2 => walk_at "w_put"
  case e2 => kernel_rfl
  refine' Hld.rl (a := lx) ?u1 fun o => .rl (a := le1) ?u2 fun o1 => .rl (a := le2) ?u3 fun o2 => .fz5 (rest := rest) ?s ?_
  case u1 => intro _; walk_at "w_put"
  case u2 => intro _; walk_at "w_put"
  case u3 => intro _; walk_at "w_put"
  case s => walk_at "w_spl"
  refine' Hld.mk (.mk (List.Sublist.refl _) (h ⟨x, R, nd', le1, le2, e1, e2, s1, s2, t, t, lx, tt, o, o1, o2, M + 1 + 1, 71 + i⟩ _ ⟨?b1, ?b2, ?b3, ?b4, ?b5, ?b6, ?b7, ?b8, ?b9, ?c1, ?c2, ?c3, ?c4, ?c5, ?c6, ?c7, ?c8, ?c10, ?c9, fun q => by cases q⟩ rfl rfl))
  case b1 => walk_at "w_gl"
  case b2 => walk_at "w_ff"
  case b3 => walk_at "w_ff"
  case b4 => walk_at "w_ff"
  case b5 => walk_at "w_ff"
  case b6 => walk_at "w_ff"
  case b7 => walk_at "w_ff"
  case b8 => walk_at "w_ff"
  case b9 => walk_at "w_gf"
  case c1 => walk_at "w_gl"
  case c2 => walk_at "w_gl"
  case c3 => walk_at "w_te"
  case c4 => walk_at "w_te"
  case c5 => walk_at "w_ff"
  case c6 => walk_at "w_ff"
  case c7 => walk_at "w_ff"
  case c8 => walk_at "w_ff"
  case c10 => walk_at "w_ff"
  case c9 => walk_at "w_gf"
end
section
variable {fm : FM} {l l' rest : LG} {C : Cx} {k : Nat} {P : AV → LG → Prop}
theorem w_pkg_rec (G : Good C k) (hk : k ≤ 700) {r rd nd ol ul utl cd td : Addr} {M ct cs : Int} {i : Int} {key uqt uqs : Str} {kc kn : List (Str × AV)} {os : List AV} {kt : List (Int × AV)}
    (r1 : Get rest r (.inst 127 rd)) (hi0 : 0 ≤ i) (hi : i < 3) (hkey : Txt.item "pqr" i = key) (hdot : (Builtin.Str.occurrences key "." 0 key.length 1).isEmpty = !false)
    (en : vat kn key = none) (ec : vat kc key = none) (zn : kn.length ≤ 1000) (zc : kc.length ≤ 1000) (zo : os.length ≤ 1000) (zt : kt.length ≤ 1000)
    (eh : vat kt (71 + i) = none) (et : Uq (vst kc key (.int (0 + 1))) "t" ct uqt) (es : Uq (vst (vst kc key (.int (0 + 1))) "t" (.int (ct + 1))) "s" cs uqs) (zc1 : (vst kc key (.int (0 + 1))).length ≤ 1000) (zc2 : (vst (vst kc key (.int (0 + 1))) "t" (.int (ct + 1))).length ≤ 1000)
    (h : ∀ D pre, PkgF pre true D → D.nR = M + 1 + 1 → D.num = 71 + i → P (.ref D.t) ((rd, .attrs (rootV r nd ol ul utl cd td (M + 1 + 1 + 1 + 1))) :: (cd, .sd (vst (vst (vst kc key (.int (0 + 1))) "t" (.int (ct + 1))) "s" (.int (cs + 1)))) :: (nd, .sd (vst kn key (.ref D.lx))) :: (ol, .lst (os ++ [.ref D.x])) :: (td, .idd (vst kt (71 + i) (.ref D.tt))) :: (pre ++ rest))) :
    Cl C fm ((rd, .attrs (rootV r nd ol ul utl cd td M)) :: (cd, .sd kc) :: (nd, .sd kn) :: (ol, .lst os) :: (td, .idd kt) :: rest) (.ref 496) [.ref r, .int i, .bool true] P := by
  refine Cl_hold ?_
  walk_at "w_def"
  repeat walk_at "w1"
  refine Su_str rfl hi0 hi (by decide) hkey ?_
  repeat walk_at "w1"
  refine w_ent (by assumption) (by omega) fun x xd => ?_
  repeat walk_at "w1"
  refine' w_declready (R := r) (r := r) (x := x) (xd := xd) (rd := rd) (nm := key) (kd := "package") (pt := "body") (M := M) (c := 0) (uq := key) (cd := cd) (nd := nd) (ol := ol) (by assumption) (by omega) hdot (by decide +kernel) ?f1 ?f2 ?f3 (.root ?f4) ?f5 ?f6 ?f7 ?f8 ?g1 ?g2 ?x0 ?x1 ?x2 ?x3 ?x4 ?g3 en (.z ec) zn zc zo ?u1 ?u2 ?u3 ?u4 ?u5 ?u6 ?x5 ?u7 ?_
  walk_at "w_declF"
  intro lx
  repeat walk_at "w1"
  refine' Cl_re (a := xd) (al' := entV (.str "package") (.str key) .none .none .none (.int 1) (.int (M + 1)) (.str key) (.ref r) (.str "body") .none .none (.bool true) (.bool false) (.bool false) (.bool false) (.bool false)) ?u ?e (Cl_re (a := rd) (al' := rootV r nd ol ul utl cd td (M + 1)) ?u' ?e' (Cl_front (a := xd) ?t1 (Cl_front (a := rd) ?t2 (w_open_package (al' := rootV r nd ol ul utl cd td (M + 1 + 1)) (by assumption) (by omega) ?g1 ?x0 ?g2 ?he ?x1 ?f1 ?f2 fun R Rd nd' ol' ul' utl' cd' td' => ?_))))
  case u => walk_at "w_put"
  case e => kernel_rfl
  case u' => walk_at "w_put"
  case e' => kernel_rfl
  case t1 => walk_at "w_take"
  case t2 => walk_at "w_take"
  case g1 => walk_at "w_get"
  case g2 => walk_at "w_get"
  case x0 => exact rfl
  case he => kernel_rfl
  case x1 => exact rfl
  case f1 => walk_at "w_fldL"
  case f2 => walk_at "w_fldL"
  repeat walk_at "w1"
  rename_i p1 p2
  refine w_rec (by assumption) (by omega) (by walk_at "w_get") (by walk_at "w_get") fun t d a7 a9 a10 a13 a14 a24 => ?_
  repeat walk_at "w1"
  refine' w_numbered (t := t) (d := d) (by assumption) (by omega) ?g1 ?u ?e ?x0 ?_
  case g1 => walk_at "w_get"
  case u => walk_at "w_put"
  case e => exact rfl
  case x0 => exact rfl
  repeat walk_at "w1"
  refine w_typ (by assumption) (by omega) fun c cdx b7 b9 b10 b13 b14 b24 => ?_
  repeat walk_at "w1"
  refine' w_numbered (t := c) (d := cdx) (by assumption) (by omega) ?g1 ?u ?e ?x0 ?_
  case g1 => walk_at "w_get"
  case u => walk_at "w_put"
  case e => exact rfl
  case x0 => exact rfl
  repeat walk_at "w1"
  refine w_whole (by assumption) (by omega) fun s1 sd1 => ?_
  repeat walk_at "w1"
  refine w_ent (by assumption) (by omega) fun e1 ed1 => ?_
  repeat walk_at "w1"
  refine' Cl_re (a := ed1) (al' := entV (.str "type") (.str "t") .none (.ref s1) .none (.int 2) (.int 0) (.str "") .none (.str "") .none .none (.bool false) (.bool true) (.bool false) (.bool false) (.bool false)) ?u ?e (w_declready (R := R) (r := r) (x := e1) (xd := ed1) (rd := rd) (nm := "t") (kd := "type") (pt := "visible") (M := M + 1 + 1) (cd := cd) (nd := nd') (ol := ol') (by assumption) (by omega) (by decide +kernel) (by decide +kernel) ?f1 ?f2 ?f3 (.pkg ?f4 ?f9 ?f10) ?f5 ?f6 ?f7 ?f8 ?g1 ?g2 ?x0 ?x1 ?x2 ?x3 ?x4 ?g3 ?x6 et ?z1 zc1 ?z2 ?u1 ?u2 ?u3 ?u4 ?u5 ?u6 ?x5 ?u7 ?_)
  case u => walk_at "w_put"
  case e => kernel_rfl
  case f9 => walk_at "w_fldL"
  case f10 => walk_at "w_fldL"
  walk_at "w_declF"
  case x6 => exact rfl
  case z1 => walk_at "w_le"
  case z2 => walk_at "w_le"
  intro le1
  repeat walk_at "w1"
  refine w_whole (by assumption) (by omega) fun s2 sd2 => ?_
  repeat walk_at "w1"
  refine w_ent (by assumption) (by omega) fun e2 ed2 => ?_
  repeat walk_at "w1"
  refine' Cl_re (a := ed2) (al' := entV (.str "type") (.str "s") .none (.ref s2) .none (.int 2) (.int 0) (.str "") .none (.str "") .none .none (.bool false) (.bool true) (.bool false) (.bool false) (.bool false)) ?u ?e (w_declready (R := R) (r := r) (x := e2) (xd := ed2) (rd := rd) (nm := "s") (kd := "type") (pt := "visible") (M := M + 1 + 1 + 1) (cd := cd) (nd := nd') (ol := ol') (by assumption) (by omega) (by decide +kernel) (by decide +kernel) ?f1 ?f2 ?f3 (.pkg ?f4 ?f9 ?f10) ?f5 ?f6 ?f7 ?f8 ?g1 ?g2 ?x0 ?x1 ?x2 ?x3 ?x4 ?g3 ?x6 es ?z1 zc2 ?z2 ?u1 ?u2 ?u3 ?u4 ?u5 ?u6 ?x5 ?u7 ?_)
  case u => walk_at "w_put"
  case e => kernel_rfl
  case f9 => walk_at "w_fldL"
  case f10 => walk_at "w_fldL"
  walk_at "w_declF"
  case x6 => exact rfl
  case z1 => walk_at "w_le"
  case z2 => walk_at "w_le"
  intro le2
  repeat walk_at "w1"
  refine' w_note (R := R) (r := r) (td := td) (pt := "visible") (kt := kt) (by assumption) (by omega) ?f1 ?f2 ?f3 eh zt ?u ?_
  case f1 => walk_at "w_fldL"
  case f2 => walk_at "w_fldL"
  case f3 => walk_at "w_fldL"
  case u => intro _; walk_at "w_put"
  intro tt
  repeat walk_at "w1"
  refine' Hld.front (a := td) ?t1 (.front (a := ol) ?t2 (.front (a := nd) ?t3 (.front (a := cd) ?t4 (.front (a := rd) ?t5 (.re (a := rd) (al' := rootV r nd ol ul utl cd td (M + 1 + 1 + 1 + 1)) ?u1 ?e1 ?_)))))
  case t1 => walk_at "w_take"
  case t2 => walk_at "w_take"
  case t3 => walk_at "w_take"
  case t4 => walk_at "w_take"
  case t5 => walk_at "w_take"
  case u1 => walk_at "w_put"
  case e1 => kernel_rfl
  refine' Hld.re (a := ed1) (al' := (entV (.str "type") (.str "t") .none (.ref s1) .none (.int 2) (.int (M + 1 + 1 + 1)) (.str uqt) (.ref R) (.str "visible") .none .none (.bool true) (.bool true) (.bool false) (.bool false) (.bool false))) ?u1 ?e1 (.re (a := ed2) (al' := (entV (.str "type") (.str "s") .none (.ref s2) .none (.int 2) (.int (M + 1 + 1 + 1 + 1)) (.str uqs) (.ref R) (.str "visible") .none .none (.bool true) (.bool true) (.bool false) (.bool false) (.bool false))) ?u2 ?e2 ?_)
  case u1 => walk_at "w_put"
  case e1 => kernel_rfl
  case u2 => walk_at "w_put"
  case e2 => kernel_rfl
  refine' Hld.re (a := xd) (al' := entV (.str "package") (.str key) .none .none .none (.int 1) (.int (M + 1)) (.str key) (.ref r) (.str "body") (.ref R) .none (.bool true) (.bool false) (.bool false) (.bool false) (.bool false)) ?u1 ?e1 (.re (a := d) (al' := typV (.str "record") (.str "t") (.int (71 + i)) .none .none .none (.ref a7) (.int 0) (.ref a9) (.ref a10) .none (.bool true) (.ref a13) (.ref a14) .none .none (.bool true) (.ref c) (.bool false) (.bool false) (.bool false) (.bool false) (.bool false) (.ref a24)) ?u2 ?e2 (.re (a := cdx) (al' := typV (.str "class") (.str "t'class") (.int (81 + i)) (.ref t) .none .none (.ref b7) (.int 0) (.ref b9) (.ref b10) .none (.bool true) (.ref b13) (.ref b14) .none .none (.bool true) .none (.bool false) (.bool false) (.bool false) (.bool false) (.bool false) (.ref b24)) ?u3 ?e3 ?_))
  case u1 => walk_at "w_put"
  case e1 => kernel_rfl
  case u2 => walk_at "w_put"
  case e2 => kernel_rfl
  case u3 => walk_at "w_put"
  case e3 => kernel_rfl
  refine' Hld.rl (a := lx) ?u1 fun o => .rl (a := le1) ?u2 fun o1 => .rl (a := le2) ?u3 fun o2 => .fz5 (rest := rest) ?s ?_
  case u1 => intro _; walk_at "w_put"
  case u2 => intro _; walk_at "w_put"
  case u3 => intro _; walk_at "w_put"
  case s => walk_at "w_spl"
  refine' Hld.mk (.mk (List.Sublist.refl _) (h ⟨x, R, nd', le1, le2, e1, e2, s1, s2, t, c, lx, tt, o, o1, o2, M + 1 + 1, 71 + i⟩ _ ⟨?b1, ?b2, ?b3, ?b4, ?b5, ?b6, ?b7, ?b8, ?b9, ?c1, ?c2, ?c3, ?c4, ?c5, ?c6, ?c7, ?c8, ?c10, ?c9, fun _ => ⟨?d1, ?d2⟩⟩ rfl rfl))
  case b1 => walk_at "w_gl"
  case b2 => walk_at "w_ff"
  case b3 => walk_at "w_ff"
  case b4 => walk_at "w_ff"
  case b5 => walk_at "w_ff"
  case b6 => walk_at "w_ff"
  case b7 => walk_at "w_ff"
  case b8 => walk_at "w_ff"
  case b9 => walk_at "w_gf"
  case c1 => walk_at "w_gl"
  case c2 => walk_at "w_gl"
  case c3 => walk_at "w_te"
  case c4 => walk_at "w_te"
  case c5 => walk_at "w_ff"
  case c6 => walk_at "w_ff"
  case c7 => walk_at "w_ff"
  case c8 => walk_at "w_ff"
  case c10 => walk_at "w_ff"
  case c9 => walk_at "w_gf"
  case d1 => walk_at "w_ff"
  case d2 => walk_at "w_ff"
end
section
variable {fm : FM} {l l' : LG} {C : Cx} {k : Nat} {P : AV → LG → Prop}
theorem w_enc (G : Good C k) (hk : k ≤ 880) {p r R : Addr} {n : Int} {c : List (Int × List Int)} {kn : List (Str × AV)} {kt : List (Int × AV)} (H : Ch l r p c) (RT : RtF l r kn kt) (fn : Fld l R 127 "number" (.int n)) (h1 : ∀ q ∈ c, (q.1 == n) = false) (h2 : (1 == n) = false) (h : P (.bool false) l) : Cl C fm l (.ref 145) [.ref R, .ref p] P := by
  walk_at "w_def"
  repeat walk_at "w1"
  refine Wh_drop (fm' := [("here", .ref p), ("outer", .ref R)]) (by walk_at "w_fs") (List.Sublist.refl _) ?_
  induction H with
  | root =>
    obtain ⟨a, b, _⟩ := RT
    refine Wh_turn rfl ?_
    repeat walk_at "w1"
    refine Wh_turn rfl ?_
    repeat walk_at "w1"
    exact h
  | up a _ ih =>
    have e := h1 _ (.head _)
    obtain ⟨a, b, _⟩ := a
    refine Wh_turn rfl ?_
    repeat walk_at "w1"
    exact Wh_drop (by walk_at "w_fs") (List.Sublist.refl _) (ih fun q hq => h1 q (.tail _ hq))
theorem w_hid0 (G : Good C k) (hk : k ≤ 880) {e ax : Addr} {l₁ : Obj → LG} (u : ∀ lo, Put l ax (.lst []) (.obj lo) (l₁ lo)) (b : ∀ lo, Put (l₁ lo) ax (.obj lo) (.lst []) l) (h : P (.bool false) l) : Cl C fm l (.ref 206) [.ref e, .ref ax] P := by
  walk_at "w_def"
  repeat walk_at "w1"
  refine .lst u fun lo => Fo.nil (.mk (b lo) ?_)
  repeat walk_at "w1"
  exact h
theorem w_isop (G : Good C k) (hk : k ≤ 880) {x : Str} (hx : (Txt.slice x none (some 1) == Str.ofString "\"") = false) (hz : x.length ≤ 1000) (h : P (.bool false) l) : Cl C fm l (.ref 95) [.str x] P := by
  walk_at "w_def"
  repeat walk_at "w1"
  exact h
theorem w_ops (G : Good C k) (hk : k ≤ 870) {r : Addr} {x : Str} {u : Int} {v : AV} {kn : List (Str × AV)} {kt : List (Int × AV)} (RT : RtF l r kn kt) (hx : (Txt.slice x none (some 1) == Str.ofString "\"") = false) (hz : x.length ≤ 1000) (hu : vat kt u = some v) (h : ∀ y, P (.ref y) ((y, .lst []) :: l)) : Cl C fm l (.ref 228) [.ref r, .int u, .str x] P := by
  obtain ⟨_, _, _, _, _, _, _, _, a, b⟩ := RT
  refine Cl_drop (Cl_code fun m s vs hs d => ?_)
  refine' code_fnC2 [("name", .str x), ("root", .ref r)] (fun L' => (L' + 2, .cell0) :: (L' + 1, .cell (.int u)) :: l) G rfl ?d ?u ?k ?ho ?hcd ?hb ?hl ?nd ?e1 ?e2 ?b ?E ?E2 ?co ?ge ?ki hs d
  case d => exact Nat.succ_le_succ G.dp
  case u => exact Nat.le_trans (Nat.add_le_add_right G.un 3) (by omega)
  walk_at "w_fnC"
  clear hs d G
  intro g' L' G
  repeat walk_at "w1"
  refine w_isop (by assumption) (by omega) hx hz ?_
  repeat walk_at "w1"
  exact .mk (by walk_at "w_sl") (h _)
end
section
variable {fm : FM} {l l' : LG} {C : Cx} {k : Nat} {P : AV → LG → Prop}
theorem w_off (G : Good C k) (hk : k ≤ 860) {p r : Addr} {x : Str} {c : List (Int × List Int)} {kn : List (Str × AV)} {kt : List (Int × AV)} (H : Ch l r p c) (RT : RtF l r kn kt) (hx : (Txt.slice x none (some 1) == Str.ofString "\"") = false) (hz : x.length ≤ 1000) (hu : ∀ q ∈ c, ∀ u ∈ q.2, ∃ v, vat kt u = some v) (h : ∀ y, P (.ref y) ((y, .lst []) :: l)) : Cl C fm l (.ref 238) [.ref p, .str x] P := by
  refine Cl_drop (Cl_code fun m s vs hs d => ?_)
  refine' code_fnC2 [("name", .str x), ("place", .ref p)] (fun L' => (L' + 2, .cell0) :: (L' + 1, .cell0) :: l) G rfl ?d ?u ?k ?ho ?hcd ?hb ?hl ?nd ?e1 ?e2 ?b ?E ?E2 ?co ?ge ?ki hs d
  case d => exact Nat.succ_le_succ G.dp
  case u => exact Nat.le_trans (Nat.add_le_add_right G.un 3) (by omega)
  walk_at "w_fnC"
  clear hs d G
  intro g' L' G
  repeat walk_at "w1"
  rename_i fo
  obtain ⟨p0, e⟩ : ∃ p0, p = p0 := ⟨p, rfl⟩
  refine Wh_drop (fm' := [("here", .ref p), ("found", .ref fo), ("name", .str x), ("place", .ref p0)]) (by cases e; walk_at "w_fs") (List.Sublist.refl _) ?_
  have f0 : Fld l p0 127 "root" (.ref r) := e ▸ H.rt RT
  clear e
  have RT' := RT
  induction H with
  | root =>
    obtain ⟨_, a, _, _, _, ⟨_, _, b, c⟩, ⟨_, _, d, e⟩, _⟩ := RT
    refine Wh_turn rfl ?_
    repeat walk_at "w1"
    refine Wh_turn rfl ?_
    repeat walk_at "w1"
    exact .mk (by walk_at "w_sl") (h _)
  | up a _ ih =>
    have e := hu _ (.head _)
    obtain ⟨_, a, _, _, _, ⟨_, _, b, c⟩, ⟨_, _, d, f⟩⟩ := a
    refine Wh_turn rfl ?_
    repeat walk_at "w1"
    refine Fo_keep (by walk_at "w_get") (fun fm' fs => .next (Ex_fsub fs ?_)) (fun a ha I it => ?_)
    · repeat walk_at "w1"
      exact Wh_drop (by walk_at "w_fs") (by walk_at "w_sl") (ih fun q hq => hu q (.tail _ hq))
    · obtain ⟨u, hu, rfl⟩ := List.mem_map.mp ha
      obtain ⟨v, hv⟩ := e u hu
      refine Ex_drop ?_
      repeat walk_at "w1"
      refine w_ops (by assumption) (by omega) (by walk_at "up") hx hz hv fun y => ?_
      repeat walk_at "w1"
      exact .mk (FSub.refl _) (by walk_at "w_sl") (.n (by walk_at "w_fs"))
end
section
variable {fm : FM} {l l' : LG} {C : Cx} {k : Nat} {P : AV → LG → Prop}
theorem w_imm (G : Good C k) (hk : k ≤ 860) {p r : Addr} {x : Str} {c : List (Int × List Int)} {kn : List (Str × AV)} {kt : List (Int × AV)} {tg : Bool} {D : PkgD} (H : Ch l r p c) (RT : RtF l r kn kt) (Q : PkgF l tg D) (hv : vat kn x = some (.ref D.lx)) (h : ∀ T f a, P (.ref T) ((T, .tup [.ref f, .ref a]) :: (a, .lst [.ref D.x]) :: (f, .lst [.ref D.x]) :: l)) : Cl C fm l (.ref 211) [.ref p, .str x] P := by
  have q1 := Q.lx
  have q2 := Q.over.fld
  have q3 := Q.ready.fld
  clear Q
  refine Cl_drop (Cl_code fun m s vs hs d => ?_)
  refine' code_fnC2 [("name", .str x), ("place", .ref p)] (fun L' => (L' + 1, .cell0) :: l) G rfl ?d ?u ?k ?ho ?hcd ?hb ?hl ?nd ?e1 ?e2 ?b ?E ?E2 ?co ?ge ?ki hs d
  case d => exact Nat.succ_le_succ G.dp
  case u => exact Nat.le_trans (Nat.add_le_add_right G.un 3) (by omega)
  walk_at "w_fnC"
  clear hs d G
  intro g' L' G
  repeat walk_at "w1"
  rename_i fo ar
  refine Wh_drop (fm' := [("here", .ref p), ("found", .ref fo), ("name", .str x)]) (by walk_at "w_fs") (List.Sublist.refl _) ?_
  induction H with
  | root =>
    obtain ⟨_, a, _, _, ⟨_, b, c⟩, _⟩ := RT
    refine Wh_turn rfl ?_
    repeat walk_at "w1"
    refine' w_hid0 (by assumption) (by omega) ?uu ?bb ?_
    case uu => intro _; walk_at "w_put"
    case bb => intro _; walk_at "w_put"
    repeat walk_at "w1"
    refine Wh_turn rfl ?_
    repeat walk_at "w1"
    exact .mk (by walk_at "w_sl") (h _ _ _)
  | up a _ ih =>
    obtain ⟨_, a, _, _, ⟨_, b, c⟩, _⟩ := a
    refine Wh_turn rfl ?_
    repeat walk_at "w1"
    exact Wh_drop (by walk_at "w_fs") (by walk_at "w_sl") ih
theorem w_look (G : Good C k) (hk : k ≤ 850) {p r : Addr} {x : Str} {c : List (Int × List Int)} {kn : List (Str × AV)} {kt : List (Int × AV)} {tg : Bool} {D : PkgD} (H : Ch l r p c) (RT : RtF l r kn kt) (Q : PkgF l tg D) (hx : (Txt.slice x none (some 1) == Str.ofString "\"") = false) (hz : x.length ≤ 1000) (hu : ∀ q ∈ c, ∀ u ∈ q.2, ∃ v, vat kt u = some v) (hv : vat kn x = some (.ref D.lx)) (h : ∀ y, P (.ref y) ((y, .lst [.ref D.x]) :: l)) : Cl C fm l (.ref 243) [.ref p, .str x] P := by
  refine Cl_drop (Cl_code fun m s vs hs d => ?_)
  refine' code_fnC2 [("name", .str x), ("place", .ref p)] (fun L' => (L' + 1, .cell0) :: l) G rfl ?d ?u ?k ?ho ?hcd ?hb ?hl ?nd ?e1 ?e2 ?b ?E ?E2 ?co ?ge ?ki hs d
  case d => exact Nat.succ_le_succ G.dp
  case u => exact Nat.le_trans (Nat.add_le_add_right G.un 3) (by omega)
  walk_at "w_fnC"
  clear hs d G
  intro g' L' G
  repeat walk_at "w1"
  refine w_imm (by assumption) (by omega) (by walk_at "up") (by walk_at "up") (by walk_at "up") hv fun T f a => ?_
  repeat walk_at "w1"
  refine w_off (by assumption) (by omega) (by walk_at "up") (by walk_at "up") hx hz hu fun y => ?_
  repeat walk_at "w1"
  exact .mk (by walk_at "w_sl") (h _)
end
section
variable {fm : FM} {l l' : LG} {C : Cx} {k : Nat} {P : AV → LG → Prop}
theorem w_isoff (G : Good C k) (hk : k ≤ 870) {e R : Addr} (f1 : Fld l e 70 "part" (.str "visible")) (f2 : Fld l e 70 "is_ready" (.bool true)) (f3 : Fld l e 70 "is_overridden" (.bool false)) (h : P (.bool true) l) : Cl C fm l (.ref 223) [.ref R, .ref e] P := by
  walk_at "w_def"
  repeat walk_at "w1"
  exact h
theorem w_sel (G : Good C k) (hk : k ≤ 850) {p r s e t lt : Addr} {o : Obj} {x : Str} {c : List (Int × List Int)} {kn : List (Str × AV)} {kt : List (Int × AV)} {tg : Bool} {D : PkgD} (H : Ch l r p c) (RT : RtF l r kn kt) (Q : PkgF l tg D) (hx : vat ([("t", .ref D.le1), ("s", .ref D.le2)] : List (Str × AV)) x = some (.ref lt)) (gl : Get l lt (.rl o [.ref e])) (TE : TypE l e s t) (h1 : ∀ q ∈ c, (q.1 == D.nR) = false) (h2 : (1 == D.nR) = false) (h : ∀ y, P (.ref y) ((y, .lst [.ref e]) :: l)) : Cl C fm l (.ref 248) [.ref D.x, .str x, .ref p] P := by
  have q1 := Q.kind.fld
  have q2 := Q.reg.fld
  have q3 := Q.data.fld
  have q4 := Q.nR.fld
  have q5 := Q.names.fld
  have q6 := Q.nd
  have t1 := TE.part.fld
  have t2 := TE.ready.fld
  have t3 := TE.over.fld
  refine Cl_drop (Cl_code fun m s vs hs d => ?_)
  refine' code_fnC2 [("place", .ref p), ("name", .str x)] (fun L' => (L' + 2, .cell0) :: (L' + 1, .cell (.ref D.x)) :: l) G rfl ?d ?u ?k ?ho ?hcd ?hb ?hl ?nd ?e1 ?e2 ?b ?E ?E2 ?co ?ge ?ki hs d
  case d => exact Nat.succ_le_succ G.dp
  case u => exact Nat.le_trans (Nat.add_le_add_right G.un 3) (by omega)
  walk_at "w_fnC"
  clear hs d G
  intro g' L' G
  repeat walk_at "w1"
  refine w_enc (by assumption) (by omega) (by walk_at "up") (by walk_at "up") (by walk_at "up") h1 h2 ?_
  repeat walk_at "w1"
  refine w_isoff (by assumption) (by omega) (by walk_at "w_fld") (by walk_at "w_fld") (by walk_at "w_fld") ?_
  repeat walk_at "w1"
  exact .mk (by walk_at "w_sl") (h _)
theorem w_named0 (G : Good C k) (hk : k ≤ 840) {sc p r t1 : Addr} {key : Str} {c : List (Int × List Int)} {kn : List (Str × AV)} {kt : List (Int × AV)} {tg : Bool} {D : PkgD} (H : Ch l r p c) (RT : RtF l r kn kt) (Q : PkgF l tg D) (hop : (Txt.slice key none (some 1) == Str.ofString "\"") = false) (hz : key.length ≤ 1000) (hu : ∀ q ∈ c, ∀ u ∈ q.2, ∃ v, vat kt u = some v) (hv : vat kn key = some (.ref D.lx))
    (S : Fld l sc 455 "place" (.ref p)) (N2 : Rd l t1 (.tup [.str "name", .str key])) (h : ∀ y, P (.ref y) ((y, .lst [.ref D.x]) :: l)) : Cl C fm l (.ref 382) [.ref sc, .ref t1] P := by
  walk_at "w_def"
  repeat walk_at "w1"
  refine w_look (by assumption) (by omega) H RT Q hop hz hu hv fun y => ?_
  repeat walk_at "w1"
  exact h _
theorem w_named (G : Good C k) (hk : k ≤ 830) {sc p r s e t lt tn t1 : Addr} {o : Obj} {key x : Str} {c : List (Int × List Int)} {kn : List (Str × AV)} {kt : List (Int × AV)} {tg : Bool} {D : PkgD} (H : Ch l r p c) (RT : RtF l r kn kt) (Q : PkgF l tg D) (hop : (Txt.slice key none (some 1) == Str.ofString "\"") = false) (hz : key.length ≤ 1000) (hu : ∀ q ∈ c, ∀ u ∈ q.2, ∃ v, vat kt u = some v) (hv : vat kn key = some (.ref D.lx))
    (hx : vat ([("t", .ref D.le1), ("s", .ref D.le2)] : List (Str × AV)) x = some (.ref lt)) (gl : Get l lt (.rl o [.ref e])) (TE : TypE l e s t) (h1 : ∀ q ∈ c, (q.1 == D.nR) = false) (h2 : (1 == D.nR) = false)
    (S : Fld l sc 455 "place" (.ref p)) (N1 : Rd l tn (.tup [.str "select", .ref t1, .str x])) (N2 : Rd l t1 (.tup [.str "name", .str key])) (h : ∀ y, P (.ref y) ((y, .lst [.ref e]) :: l)) : Cl C fm l (.ref 382) [.ref sc, .ref tn] P := by
  refine Cl_drop ?_
  walk_at "w_def"
  repeat walk_at "w1"
  refine w_named0 (by assumption) (by omega) (by walk_at "up") (by walk_at "up") (by walk_at "up") hop hz hu hv (by walk_at "up") (by walk_at "up") fun y => ?_
  repeat walk_at "w1"
  refine w_sel (by assumption) (by omega) (by walk_at "up") (by walk_at "up") (by walk_at "up") hx (by walk_at "up") (by walk_at "up") h1 h2 fun z => ?_
  repeat walk_at "w1"
  exact .mk (by walk_at "w_sl") (h _)
end
section
variable {fm : FM} {l l' : LG} {C : Cx} {k : Nat} {P : AV → LG → Prop}
/-- what is read of a type that is neither private, nor a class, nor not told yet -/
structure KdF (l : LG) (t : Addr) (kd : Str) : Prop where
  kind : Fld l t 301 "kind" (.str kd)
  priv : Fld l t 301 "is_private" (.bool false)
  k1 : (kd == Str.ofString "private") = false
  k2 : (kd == Str.ofString "class") = false
  k3 : (kd == Str.ofString "incomplete") = false
theorem KdF.tail {t : Addr} {kd : Str} {p : Addr × AO} (h : KdF l t kd) : KdF (p :: l) t kd := ⟨h.1.tail, h.2.tail, h.3, h.4, h.5⟩
theorem PkgF.kd {tg : Bool} {D : PkgD} (h : PkgF l tg D) : KdF l D.t (if tg then "record" else "int") := ⟨h.tk.fld, h.tp.fld, by cases tg <;> decide +kernel, by cases tg <;> decide +kernel, by cases tg <;> decide +kernel⟩
theorem w_settled (G : Good C k) (hk : k ≤ 880) {s : Addr} (f : Fld l s 322 "constraint" .none) (h : P (.bool true) l) : Cl C fm l (.ref 410) [.ref s] P := by
  walk_at "w_def"
  repeat walk_at "w1"
  exact h
theorem w_seen (G : Good C k) (hk : k ≤ 870) {sc : AV} {s t : Addr} {kd : Str} (f : Fld l s 322 "type" (.ref t)) (K : KdF l t kd) (h : P (.ref s) l) : Cl C fm l (.ref 417) [sc, .ref s] P := by
  obtain ⟨a, b, c, d, e⟩ := K
  walk_at "w_def"
  repeat walk_at "w1"
  exact h
theorem w_view (G : Good C k) (hk : k ≤ 880) {p e s t : Addr} (TE : TypE l e s t) (h : P (.ref s) l) : Cl C fm l (.ref 277) [.ref e, .ref p] P := by
  have q1 := TE.full.fld
  have q2 := TE.sub.fld
  walk_at "w_def"
  repeat walk_at "w1"
  exact h
theorem w_here (G : Good C k) (hk : k ≤ 860) {sc p e s t : Addr} {kd : Str} (S : Fld l sc 455 "place" (.ref p)) (TE : TypE l e s t) (K : KdF l t kd) (h : P (.ref s) l) : Cl C fm l (.ref 424) [.ref sc, .ref e] P := by
  have q1 := TE.ty.fld
  have q2 := TE.con.fld
  walk_at "w_def"
  repeat walk_at "w1"
  refine w_view (by assumption) (by omega) TE ?_
  repeat walk_at "w1"
  refine w_seen (by assumption) (by omega) q1 K ?_
  repeat walk_at "w1"
  refine w_settled (by assumption) (by omega) q2 ?_
  repeat walk_at "w1"
  exact h
variable {sc p r s e t lt tn t1 : Addr} {o : Obj} {key x kd : Str} {c : List (Int × List Int)} {kn : List (Str × AV)} {kt : List (Int × AV)} {tg : Bool} {D : PkgD}
theorem w_tent (G : Good C k) (hk : k ≤ 820) (H : Ch l r p c) (RT : RtF l r kn kt) (Q : PkgF l tg D) (hop : (Txt.slice key none (some 1) == Str.ofString "\"") = false) (hz : key.length ≤ 1000) (hu : ∀ q ∈ c, ∀ u ∈ q.2, ∃ v, vat kt u = some v) (hv : vat kn key = some (.ref D.lx))
    (hx : vat ([("t", .ref D.le1), ("s", .ref D.le2)] : List (Str × AV)) x = some (.ref lt)) (gl : Get l lt (.rl o [.ref e])) (TE : TypE l e s t) (h1 : ∀ q ∈ c, (q.1 == D.nR) = false) (h2 : (1 == D.nR) = false)
    (S : Fld l sc 455 "place" (.ref p)) (N1 : Rd l tn (.tup [.str "select", .ref t1, .str x])) (N2 : Rd l t1 (.tup [.str "name", .str key])) (h : P (.ref e) l) : Cl C fm l (.ref 403) [.ref sc, .ref tn] P := by
  have q1 := TE.kind.fld
  refine Cl_drop ?_
  walk_at "w_def"
  repeat walk_at "w1"
  refine w_named (by assumption) (by omega) H RT Q hop hz hu hv hx gl TE h1 h2 S N1 N2 fun y => ?_
  repeat walk_at "w1"
  exact .mk (by walk_at "w_sl") h
theorem w_tsel (G : Good C k) (hk : k ≤ 810) (H : Ch l r p c) (RT : RtF l r kn kt) (Q : PkgF l tg D) (hop : (Txt.slice key none (some 1) == Str.ofString "\"") = false) (hz : key.length ≤ 1000) (hu : ∀ q ∈ c, ∀ u ∈ q.2, ∃ v, vat kt u = some v) (hv : vat kn key = some (.ref D.lx))
    (hx : vat ([("t", .ref D.le1), ("s", .ref D.le2)] : List (Str × AV)) x = some (.ref lt)) (gl : Get l lt (.rl o [.ref e])) (TE : TypE l e s D.t) (h1 : ∀ q ∈ c, (q.1 == D.nR) = false) (h2 : (1 == D.nR) = false)
    (S : Fld l sc 455 "place" (.ref p)) (N1 : Rd l tn (.tup [.str "select", .ref t1, .str x])) (N2 : Rd l t1 (.tup [.str "name", .str key])) (h : P (.ref s) l) : Cl C fm l (.ref 431) [.ref sc, .ref tn] P := by
  have K := Q.kd
  walk_at "w_def"
  repeat walk_at "w1"
  refine w_tent (by assumption) (by omega) H RT Q hop hz hu hv hx gl TE h1 h2 S N1 N2 ?_
  repeat walk_at "w1"
  refine w_here (by assumption) (by omega) S TE K ?_
  repeat walk_at "w1"
  exact h
theorem w_tcls {tt l0 : Addr} (G : Good C k) (hk : k ≤ 780) (H : Ch l r p c) (RT : RtF l r kn kt) (Q : PkgF l true D) (hop : (Txt.slice key none (some 1) == Str.ofString "\"") = false) (hz : key.length ≤ 1000) (hu : ∀ q ∈ c, ∀ u ∈ q.2, ∃ v, vat kt u = some v) (hv : vat kn key = some (.ref D.lx))
    (hx : vat ([("t", .ref D.le1), ("s", .ref D.le2)] : List (Str × AV)) x = some (.ref lt)) (gl : Get l lt (.rl o [.ref e])) (TE : TypE l e s D.t) (h1 : ∀ q ∈ c, (q.1 == D.nR) = false) (h2 : (1 == D.nR) = false)
    (S : Fld l sc 455 "place" (.ref p)) (N0 : Rd l tt (.tup [.str "tick", .ref tn, .str "class", .ref l0])) (N1 : Rd l tn (.tup [.str "select", .ref t1, .str x])) (N2 : Rd l t1 (.tup [.str "name", .str key])) (h : ∀ y dy, P (.ref y) ((y, .inst 322 dy) :: (dy, .attrs (subV (.ref D.w) .none)) :: l)) : Cl C fm l (.ref 431) [.ref sc, .ref tt] P := by
  obtain ⟨k1, _, k2, k3, k4⟩ := Q.kd
  have q1 := TE.ty.fld
  have q2 : Fld l D.t 301 "wide" (.ref D.w) := Q.wide.fld
  walk_at "w_def"
  repeat walk_at "w1"
  refine w_tsel (by assumption) (by omega) H RT Q hop hz hu hv hx gl TE h1 h2 S N1 N2 ?_
  repeat walk_at "w1"
  refine w_whole (by assumption) (by omega) fun y dy => ?_
  repeat walk_at "w1"
  exact h _ _
end
section
variable {fm : FM} {l l' : LG} {C : Cx} {k : Nat} {P : AV → LG → Prop}
theorem w_adduse (G : Good C k) (hk : k ≤ 870) {p utl : Addr} {us : List Int} {n : Int} (f : Fld l p 127 "use_types" (.ref utl)) (u : Put l utl (.lst (us.map .int)) (.lst ((addU us n).map .int)) l') (z : us.length ≤ 100) (h : P .none l') : Cl C fm l (.ref 199) [.ref p, .int n] P := by
  have g := u.get
  cases e : us.any (fun x => x == n) with
  | true =>
    have a : addU us n = us := by unfold addU; rw [e]; rfl
    rw [a] at u
    rw [u.same] at h
    walk_at "w_def"
    repeat walk_at "w1"
    exact h
  | false =>
    have a : (addU us n).map AV.int = us.map .int ++ [.int n] := by unfold addU; rw [e]; simp
    rw [a] at u
    have z' : (us.map AV.int).length ≤ 1000 := by rw [List.length_map]; omega
    walk_at "w_def"
    repeat walk_at "w1"
    exact h
theorem w_ft (G : Good C k) (hk : k ≤ 880) {p r : Addr} {c : List (Int × List Int)} {kn : List (Str × AV)} {kt : List (Int × AV)} (H : Ch l r p c) (RT : RtF l r kn kt) (h : ∀ y, P (.ref y) ((y, .lst []) :: l)) : Cl C fm l (.ref 253) [.ref p] P := by
  cases H with
  | root =>
    have a := RT.par
    walk_at "w_def"
    repeat walk_at "w1"
    exact h _
  | up a b =>
    have e := b.gen RT
    have d := a.par
    walk_at "w_def"
    repeat walk_at "w1"
    exact h _
theorem w_fh (G : Good C k) (hk : k ≤ 870) {p r : Addr} {c : List (Int × List Int)} {kn : List (Str × AV)} {kt : List (Int × AV)} (H : Ch l r p c) (RT : RtF l r kn kt) (h : ∀ y, P (.ref y) ((y, .lst []) :: l)) : Cl C fm l (.ref 258) [.ref p] P := by
  refine Cl_drop ?_
  walk_at "w_def"
  repeat walk_at "w1"
  refine w_ft (by assumption) (by omega) H RT fun y => ?_
  repeat walk_at "w1"
  exact .mk (by walk_at "w_sl") (h _)
theorem w_sees (G : Good C k) (hk : k ≤ 860) {p r R tt : Addr} {n nR : Int} {c : List (Int × List Int)} {kn : List (Str × AV)} {kt : List (Int × AV)} (H : Ch l r p c) (RT : RtF l r kn kt) (fn : Fld l R 127 "number" (.int nR)) (h1 : ∀ q ∈ c, (q.1 == nR) = false) (h2 : (1 == nR) = false) (ht : vat kt n = some (.ref tt)) (gt : Rd l tt (.tup [.ref R, .str "visible"])) (h : P (.bool (c.any fun q => q.2.any fun x => x == n)) l) : Cl C fm l (.ref 270) [.ref p, .int n] P := by
  have f0 := H.rt RT
  have ⟨td, f1, f2⟩ := RT.homes
  refine Cl_drop (Cl_code fun m s vs hs d => ?_)
  refine' code_fnC2 [("place", .ref p)] (fun L' => (L' + 2, .cell0) :: (L' + 1, .cell (.int n)) :: l) G rfl ?d ?u ?k ?ho ?hcd ?hb ?hl ?nd ?e1 ?e2 ?b ?E ?E2 ?co ?ge ?ki hs d
  case d => exact Nat.succ_le_succ G.dp
  case u => exact Nat.le_trans (Nat.add_le_add_right G.un 3) (by omega)
  walk_at "w_fnC"
  clear hs d G
  intro g' L' G
  repeat walk_at "w1"
  refine w_enc (by assumption) (by omega) (by walk_at "up") (by walk_at "up") (by walk_at "up") h1 h2 ?_
  repeat walk_at "w1"
  refine Wh_drop (fm' := [("here", .ref p), ("part", .str "visible")]) (by walk_at "w_fs") (List.Sublist.refl _) ?_
  clear f0
  have RT' := RT
  induction H with
  | root =>
    obtain ⟨_, a, _, _, _, ⟨_, _, b, c⟩, ⟨_, _, d, e⟩, _⟩ := RT
    refine Wh_turn rfl ?_
    repeat walk_at "w1"
    refine w_fh (by assumption) (by omega) .root (by walk_at "up") fun y => ?_
    repeat walk_at "w1"
    refine Wh_turn rfl ?_
    repeat walk_at "w1"
    exact .mk (by walk_at "w_sl") h
  | @up _ _ num us _ a H' ih =>
    have HH := Ch.up a H'
    obtain ⟨_, f, _, _, _, ⟨_, _, b, c⟩, ⟨_, _, d, e⟩⟩ := a
    cases eu : us.any (fun x => x == n) with
    | true =>
      rw [List.any_cons, eu, Bool.true_or] at h
      refine Wh_turn rfl ?_
      repeat walk_at "w1"
      exact .mk (by walk_at "w_sl") h
    | false =>
      rw [List.any_cons, eu, Bool.false_or] at h
      refine Wh_turn rfl ?_
      repeat walk_at "w1"
      refine w_fh (by assumption) (by omega) (by walk_at "up") (by walk_at "up") fun y => ?_
      repeat walk_at "w1"
      exact Wh_drop (by walk_at "w_fs") (by walk_at "w_sl") (ih (fun q hq => h1 q (.tail _ hq)) h)
end
section
variable {fm : FM} {l l' : LG} {C : Cx} {k : Nat} {P : AV → LG → Prop}
theorem w_refuse (G : Good C k) (hk : k ≤ 800) (hZ : Rz C fm) {sc : Addr} {n : Int} {tx : Str} (S : Fld l sc 455 "line" (.int n)) (hz : tx.length ≤ 100) : Cl C fm l (.ref 396) [.ref sc, .str tx] P := by
  walk_at "w_defR"
  intro g' L' G Z X O
  repeat walk_at "w1"
  refine w_exc (by assumption) (by omega) hz fun e t d tt => ?_
  exact .mk .head (.tail .head) rfl rfl
variable {sc p r s e t lt tn t1 : Addr} {o : Obj} {key x kd : Str} {c : List (Int × List Int)} {kn : List (Str × AV)} {kt : List (Int × AV)} {D : PkgD}
theorem w_tbad {tt l0 : Addr} {n : Int} (G : Good C k) (hk : k ≤ 780) (hZ : Rz C fm) (H : Ch l r p c) (RT : RtF l r kn kt) (Q : PkgF l false D) (hop : (Txt.slice key none (some 1) == Str.ofString "\"") = false) (hz : key.length ≤ 1000) (hu : ∀ q ∈ c, ∀ u ∈ q.2, ∃ v, vat kt u = some v) (hv : vat kn key = some (.ref D.lx))
    (hx : vat ([("t", .ref D.le1), ("s", .ref D.le2)] : List (Str × AV)) x = some (.ref lt)) (gl : Get l lt (.rl o [.ref e])) (TE : TypE l e s D.t) (h1 : ∀ q ∈ c, (q.1 == D.nR) = false) (h2 : (1 == D.nR) = false)
    (S : Fld l sc 455 "place" (.ref p)) (S2 : Fld l sc 455 "line" (.int n)) (N0 : Rd l tt (.tup [.str "tick", .ref tn, .str "class", .ref l0])) (N1 : Rd l tn (.tup [.str "select", .ref t1, .str x])) (N2 : Rd l t1 (.tup [.str "name", .str key])) : Cl C fm l (.ref 431) [.ref sc, .ref tt] P := by
  obtain ⟨k1, _, k2, k3, k4⟩ := Q.kd
  have q1 := TE.ty.fld
  have q2 : Fld l D.t 301 "wide" .none := Q.wide.fld
  walk_at "w_defR"
  intro g' L' G Z X O
  repeat walk_at "w1"
  refine w_tsel (by assumption) (by omega) H RT Q hop hz hu hv hx gl TE h1 h2 S N1 N2 ?_
  repeat walk_at "w1"
  exact w_refuse (by assumption) (by omega) (Z _) S2 (by decide)
end
section
variable {fm : FM} {l l' : LG} {C : Cx} {k : Nat} {P : AV → LG → Prop}
theorem fmod_in {x m : Int} (h : 0 < m) : 0 ≤ x.fmod m ∧ x.fmod m < m := ⟨Int.fmod_nonneg_of_pos _ h, Int.fmod_lt_of_pos _ h⟩
theorem w_tip (G : Good C k) (hk : k ≤ 870) {fd cz : Addr} {j many : Int} {cs : List Int} (h0 : 0 ≤ j) (hm : 1 ≤ many) (gc : Get l cz (.lst (cs.map .int))) (z : cs.length ≤ 20) (u : Put l fd (.sd [("cells", .ref cz), ("spot", .int j)]) (.sd [("cells", .ref cz), ("spot", .int (j + 1))]) l') (h : ∀ v, 0 ≤ v → v < many → P (.int v) l') : Cl C fm l (.ref 489) [.ref fd, .int many] P := by
  have g := u.get
  have g' := u.got
  have gc' : Ls l' cz (cs.map .int) := .l (gc.put u (fun q => by cases q))
  have hm' : many ≠ 0 := by omega
  have hl : ((cs.map AV.int).length : Int) = (cs.length : Int) := by rw [List.length_map]
  have hz' : (cs.map AV.int).length ≤ 1000 := by rw [List.length_map]; omega
  by_cases e : j < (cs.length : Int)
  · have e1 : decide (j < (((cs.map AV.int).length : Nat) : Int)) = true := by rw [hl]; exact decide_eq_true e
    obtain ⟨i, rfl⟩ : ∃ i : Nat, j = (i : Int) := ⟨j.toNat, by omega⟩
    have hi : i < cs.length := by omega
    have ei : (cs.map AV.int)[i]? = some (.int cs[i]) := by rw [List.getElem?_map, List.getElem?_eq_getElem hi]; rfl
    walk_at "w_def"
    repeat walk_at "w1"
    refine Su_lst gc' rfl ei hz' ?_
    repeat walk_at "w1"
    refine Bo_modi hm' rfl ?_
    repeat walk_at "w1"
    exact h _ (fmod_in (by omega)).1 (fmod_in (by omega)).2
  · have e1 : decide (j < (((cs.map AV.int).length : Nat) : Int)) = false := by rw [hl]; exact decide_eq_false e
    by_cases e5 : j < 5
    · have e2 : decide (j < 5) = true := decide_eq_true e5
      walk_at "w_def"
      repeat walk_at "w1"
      refine' Cl_lenK (n := 5) (by assumption) ?k1 ?k2 ?k3 ?k4 ?k5 ?_
      case k1 => k_is
      case k2 => exact rfl
      case k3 => exact rfl
      case k4 => exact Nat.le_of_ble_eq_true rfl
      case k5 => exact rfl
      repeat walk_at "w1"
      refine' Su_kft (by assumption) ?k1 ?k2 ?k3 ?k6 ?k4 h0 ?k5 fun x => ?_
      case k1 => k_is
      case k2 => exact rfl
      case k3 => exact rfl
      case k6 => exact rfl
      case k4 => exact Nat.le_of_ble_eq_true rfl
      case k5 => exact e5
      repeat walk_at "w1"
      refine Bo_modi hm' rfl ?_
      repeat walk_at "w1"
      exact h _ (fmod_in (by omega)).1 (fmod_in (by omega)).2
    · have e2 : decide (j < 5) = false := decide_eq_false e5
      walk_at "w_def"
      repeat walk_at "w1"
      refine' Cl_lenK (n := 5) (by assumption) ?k1 ?k2 ?k3 ?k4 ?k5 ?_
      case k1 => k_is
      case k2 => exact rfl
      case k3 => exact rfl
      case k4 => exact Nat.le_of_ble_eq_true rfl
      case k5 => exact rfl
      repeat walk_at "w1"
      refine Bo_modi hm' rfl ?_
      repeat walk_at "w1"
      exact h _ (fmod_in (by omega)).1 (fmod_in (by omega)).2
end
section
variable {fm : FM} {l l' : LG} {C : Cx} {k : Nat} {P : AV → LG → Prop} {sc p q r utl tn l0 : Addr} {num nb : Int} {c : List (Int × List Int)} {us : List Int} {kn : List (Str × AV)} {kt : List (Int × AV)} {pks : List (Bool × PkgD)} {nds : List AV} {mks : List (Nat × Bool)} {o : Obj}
theorem w_dutG (G : Good C k) (hk : k ≤ 760) (PS : PlS l p q r num utl) (H : Ch l r q c) (RT : RtF l r kn kt) (PO : ∀ i b D, pks[i]? = some (b, D) → PkI l kn kt nb i b D) (hn : nb ≤ num) (hc : ∀ x ∈ c, nb ≤ x.1) (hu : ∀ u ∈ us, ∃ v, vat kt u = some v) (hu2 : ∀ x ∈ c, ∀ u ∈ x.2, ∃ v, vat kt u = some v)
    (S : Fld l sc 455 "place" (.ref p)) (T1 : Rd l tn (.tup [.str "usetype", .int 3, .ref l0])) (T2 : Get l l0 (.rl o nds)) (M : Mks l nds mks) (good : ∀ y ∈ mks, ∃ b D, pks[y.1]? = some (b, D) ∧ (y.2 = true → b = true)) (z : us.length + mks.length ≤ 50)
    (h : ∀ x, P (.ref x) ((x, .lst []) :: (utl, .lst ((mks.foldl addM us).map .int)) :: l)) : Cl C fm ((utl, .lst (us.map .int)) :: l) (.ref 438) [.ref sc, .ref tn] P := by
  obtain ⟨all, e⟩ : ∃ all, all = nds := ⟨_, rfl⟩
  rw [← e] at T2
  walk_at "w_def"
  repeat walk_at "w1"
  refine Fo_items e (Fo_fsub (fm' := [("scope", .ref sc)]) (by walk_at "w_fs") ?_)
  clear e T1
  induction M generalizing us with
  | nil =>
    refine Fo.nil (.next ?_)
    repeat walk_at "w1"
    exact h _
  | @cons v kk vs ks nd M ih =>
    obtain ⟨b, D, hb, hcl⟩ := good _ (.head _)
    have PI := PO _ _ _ hb
    refine Fo.cons fun I it => ?_
    refine Ex_drop (Ex_fsub (fm' := [("node", v), ("scope", .ref sc)]) (by walk_at "w_fs") (Ex_frz (a := utl) (fun _ => .tail .head) fun ou => ?_))
    have HH : Ch ((I, .obj it) :: (utl, .rl ou (us.map .int)) :: l) r p ((num, us) :: c) := .up (PS.tail.tail.pl (.tail .head)) H.tail.tail
    have hu' : ∀ x ∈ ((num, us) :: c), ∀ u ∈ x.2, ∃ v, vat kt u = some v := fun x hx => by
      rcases List.mem_cons.mp hx with rfl | hx
      · exact hu
      · exact hu2 x hx
    have off := PI.off (c := (num, us) :: c) fun x hx => by
      rcases List.mem_cons.mp hx with rfl | hx
      · exact hn
      · exact hc x hx
    have nx : Fo _ _ _ _ _ _ vs [("scope", .ref sc)] ((utl, .lst ((addM us kk).map .int)) :: l) := ih (us := addM us kk) (fun u hm => by
      rcases addU_mem hm with hm | rfl
      · exact hu u hm
      · exact ⟨_, PI.kt⟩) (fun y hy => good y (.tail _ hy)) (by have := addU_len us (71 + (kk.1 : Int)); rw [List.length_cons] at z; unfold addM; omega) h
    have ufd := PS.ut.tail (p := (utl, .lst (us.map .int))) |>.tail (p := (I, .obj it))
    rw [List.length_cons] at z
    cases nd with
    | @plain nn t1 i x zx N1 N2 =>
      obtain ⟨lt, o1, e, s, hx, gl, TE⟩ := PI.Q.ent zx
      obtain ⟨k1, _, k2, k3, k4⟩ := PI.Q.kd
      have q1 := TE.ty.fld
      have q2 : Fld l D.t 301 "number" (.int (71 + (i : Int))) := PI.num ▸ PI.Q.tn.fld
      repeat walk_at "w1"
      refine w_tsel (by assumption) (by omega) HH RT.tail.tail PI.Q.tail.tail (pk_op _) (pk_len _) hu' PI.kn hx gl.tail.tail TE.tail.tail off PI.one S.tail.tail N1.tail.tail N2.tail.tail ?_
      repeat walk_at "w1"
      refine Cl_thaw (.tail .head) ?_
      refine w_adduse (by assumption) (by omega) ufd (.tail .head) (by omega) ?_
      repeat walk_at "w1"
      exact .mk (FSub.refl _) (List.Sublist.refl _) (.next .head ⟨.tail T2, Fo_fsub (by walk_at "w_fs") nx⟩)
    | @cls tt nn t1 l1 i x zx N0 N1 N2 =>
      cases hcl rfl
      obtain ⟨lt, o1, e, s, hx, gl, TE⟩ := PI.Q.ent zx
      have q1 := (PI.Q.wk rfl).1.fld
      have q3 := (PI.Q.wk rfl).2.fld
      have q2 : Fld l D.t 301 "number" (.int (71 + (i : Int))) := PI.num ▸ PI.Q.tn.fld
      repeat walk_at "w1"
      refine w_tcls (by assumption) (by omega) HH RT.tail.tail PI.Q.tail.tail (pk_op _) (pk_len _) hu' PI.kn hx gl.tail.tail TE.tail.tail off PI.one S.tail.tail N0.tail.tail N1.tail.tail N2.tail.tail fun y dy => ?_
      repeat walk_at "w1"
      refine Cl_thaw (.tail (.tail (.tail .head))) ?_
      refine w_adduse (by assumption) (by omega) ufd.tail.tail (.tail (.tail (.tail .head))) (by omega) ?_
      repeat walk_at "w1"
      exact .mk (FSub.refl _) (by walk_at "w_sl") (.next .head ⟨.tail T2, Fo_fsub (by walk_at "w_fs") nx⟩)
end
section
variable {fm : FM} {l l' : LG} {C : Cx} {k : Nat} {P : AV → LG → Prop} {sc p q r utl tn l0 : Addr} {num nb : Int} {c : List (Int × List Int)} {us : List Int} {kn : List (Str × AV)} {kt : List (Int × AV)} {pks : List (Bool × PkgD)} {nds : List AV} {mks : List (Nat × Bool)} {o : Obj}
theorem w_dutB {n : Int} (G : Good C k) (hk : k ≤ 760) (hZ : Rz C fm) (PS : PlS l p q r num utl) (H : Ch l r q c) (RT : RtF l r kn kt) (PO : ∀ i b D, pks[i]? = some (b, D) → PkI l kn kt nb i b D) (hn : nb ≤ num) (hc : ∀ x ∈ c, nb ≤ x.1) (hu : ∀ u ∈ us, ∃ v, vat kt u = some v) (hu2 : ∀ x ∈ c, ∀ u ∈ x.2, ∃ v, vat kt u = some v)
    (S : Fld l sc 455 "place" (.ref p)) (S2 : Fld l sc 455 "line" (.int n)) (T1 : Rd l tn (.tup [.str "usetype", .int 3, .ref l0])) (T2 : Get l l0 (.rl o nds)) (M : Mks l nds mks) (al : ∀ y ∈ mks, ∃ b D, pks[y.1]? = some (b, D)) (bad : ∃ y ∈ mks, y.2 = true ∧ ∃ D, pks[y.1]? = some (false, D)) (z : us.length + mks.length ≤ 50) : Cl C fm ((utl, .lst (us.map .int)) :: l) (.ref 438) [.ref sc, .ref tn] P := by
  obtain ⟨all, e⟩ : ∃ all, all = nds := ⟨_, rfl⟩
  rw [← e] at T2
  walk_at "w_defR"
  intro g' L' G Z X O
  repeat walk_at "w1"
  refine Fo_items e (Fo_fsub (fm' := [("scope", .ref sc)]) (by walk_at "w_fs") ?_)
  clear e T1
  induction M generalizing us with
  | nil => obtain ⟨_, hy, _⟩ := bad; cases hy
  | @cons v kk vs ks nd M ih =>
    obtain ⟨b, D, hb⟩ := al _ (.head _)
    have PI := PO _ _ _ hb
    refine Fo.cons fun I it => ?_
    refine Ex_drop (Ex_fsub (fm' := [("node", v), ("scope", .ref sc)]) (by walk_at "w_fs") (Ex_frz (a := utl) (fun _ => .tail .head) fun ou => ?_))
    have HH : Ch ((I, .obj it) :: (utl, .rl ou (us.map .int)) :: l) r p ((num, us) :: c) := .up (PS.tail.tail.pl (.tail .head)) H.tail.tail
    have hu' : ∀ x ∈ ((num, us) :: c), ∀ u ∈ x.2, ∃ v, vat kt u = some v := fun x hx => by
      rcases List.mem_cons.mp hx with rfl | hx
      · exact hu
      · exact hu2 x hx
    have off := PI.off (c := (num, us) :: c) fun x hx => by
      rcases List.mem_cons.mp hx with rfl | hx
      · exact hn
      · exact hc x hx
    have nx : (kk.2 = true → b = true) → Fo _ _ _ _ _ _ vs [("scope", .ref sc)] ((utl, .lst ((addM us kk).map .int)) :: l) := fun hg => ih (us := addM us kk) (fun u hm => by
      rcases addU_mem hm with hm | rfl
      · exact hu u hm
      · exact ⟨_, PI.kt⟩) (fun y hy => al y (.tail _ hy)) (by
      obtain ⟨y, hy, hy2, D', hD⟩ := bad
      rcases List.mem_cons.mp hy with rfl | hy
      · rw [hb] at hD; cases hD; cases hg hy2
      · exact ⟨y, hy, hy2, D', hD⟩) (by have := addU_len us (71 + (kk.1 : Int)); rw [List.length_cons] at z; unfold addM; omega)
    have ufd := PS.ut.tail (p := (utl, .lst (us.map .int))) |>.tail (p := (I, .obj it))
    rw [List.length_cons] at z
    cases nd with
    | @plain nn t1 i x zx N1 N2 =>
      obtain ⟨lt, o1, e, s, hx, gl, TE⟩ := PI.Q.ent zx
      obtain ⟨k1, _, k2, k3, k4⟩ := PI.Q.kd
      have q1 := TE.ty.fld
      have q2 : Fld l D.t 301 "number" (.int (71 + (i : Int))) := PI.num ▸ PI.Q.tn.fld
      repeat walk_at "w1"
      refine w_tsel (by assumption) (by omega) HH RT.tail.tail PI.Q.tail.tail (pk_op _) (pk_len _) hu' PI.kn hx gl.tail.tail TE.tail.tail off PI.one S.tail.tail N1.tail.tail N2.tail.tail ?_
      repeat walk_at "w1"
      refine Cl_thaw (.tail .head) ?_
      refine w_adduse (by assumption) (by omega) ufd (.tail .head) (by omega) ?_
      repeat walk_at "w1"
      exact .mk (FSub.refl _) (List.Sublist.refl _) (.next .head ⟨.tail T2, Fo_fsub (by walk_at "w_fs") (nx fun q => by cases q)⟩)
    | @cls tt nn t1 l1 i x zx N0 N1 N2 =>
      cases b with
      | false =>
        obtain ⟨lt, o1, e, s, hx, gl, TE⟩ := PI.Q.ent zx
        repeat walk_at "w1"
        exact w_tbad (by assumption) (by omega) (Z _) HH RT.tail.tail PI.Q.tail.tail (pk_op _) (pk_len _) hu' PI.kn hx gl.tail.tail TE.tail.tail off PI.one S.tail.tail S2.tail.tail N0.tail.tail N1.tail.tail N2.tail.tail
      | true =>
        obtain ⟨lt, o1, e, s, hx, gl, TE⟩ := PI.Q.ent zx
        have q1 := (PI.Q.wk rfl).1.fld
        have q3 := (PI.Q.wk rfl).2.fld
        have q2 : Fld l D.t 301 "number" (.int (71 + (i : Int))) := PI.num ▸ PI.Q.tn.fld
        repeat walk_at "w1"
        refine w_tcls (by assumption) (by omega) HH RT.tail.tail PI.Q.tail.tail (pk_op _) (pk_len _) hu' PI.kn hx gl.tail.tail TE.tail.tail off PI.one S.tail.tail N0.tail.tail N1.tail.tail N2.tail.tail fun y dy => ?_
        repeat walk_at "w1"
        refine Cl_thaw (.tail (.tail (.tail .head))) ?_
        refine w_adduse (by assumption) (by omega) ufd.tail.tail (.tail (.tail (.tail .head))) (by omega) ?_
        repeat walk_at "w1"
        exact .mk (FSub.refl _) (by walk_at "w_sl") (.next .head ⟨.tail T2, Fo_fsub (by walk_at "w_fs") (nx fun _ => rfl)⟩)
end
section
variable {fm : FM} {l l' : LG} {C : Cx} {k : Nat} {P : AV → LG → Prop}
theorem w_scope (G : Good C k) (hk : k ≤ 800) {a b c d : AV} (h : ∀ x dx a7 a8 a9 a10, P (.ref x) ((x, .inst 455 dx) :: (dx, .attrs (scoV a b c d .none .none (.ref a7) (.ref a8) (.ref a9) (.ref a10) (.int 1) (.int 100) (.int 0))) :: l)) : Cl C fm l (.ref 455) [a, b, c, d] P := by
  walk_at "w_new"
  repeat walk_at "w1"
  refine Ev_dict0 (b := true) (by assumption) fun d1 => ?_
  repeat walk_at "w1"
  refine Ev_dict0 (b := true) (by assumption) fun d2 => ?_
  repeat walk_at "w1"
  refine Ev_dict0 (b := true) (by assumption) fun d3 => ?_
  repeat walk_at "w1"
  refine Ev_dict0 (b := true) (by assumption) fun d4 => ?_
  repeat walk_at "w1"
  refine' ⟨rfl, Made.mk ?u ?e ?z ?s (h _ _ d1 d2 d3 d4)⟩
  walk_at "w_made"
end
local macro_rules | `(tactic| walk_at "wEx") => `(tactic| first
  | (refine' Ex_asgM ?_ ?hw ?hx; (case hw => exact rfl); (case hx => exact rfl))
  | refine Ex_forR (own_nop rfl) ?_)
local macro_rules | `(tactic| walk_at "wEv") => `(tactic| first
  | refine Ev_name (by assumption) ?_
  | (refine' Ev_built (x := "sorted") (v := .builtin "sorted") ?G ?e rfl ?hn ?_; (case G => assumption); (case e => k_is); (case hn => decide)))
local macro_rules | `(tactic| walk_at "wSi") => `(tactic| (refine' Si_keep ?g ?e ?z ?_; (case g => walk_at "w_get"); (case e => assumption); (case z => walk_at "w_le")))
local macro_rules | `(tactic| walk_at "w_take") => `(tactic| (refine' Take.app ?gt; (case gt => walk_at "w_take")))
local macro_rules | `(tactic| walk_at "w_fsg") => `(tactic| first | exact .nil | (refine' .cons ?e ?f; (case e => first | exact rfl | assumption | exact FSub.get (by assumption) rfl); (case f => walk_at "w_fsg")))
section
variable {p : LP} {k : Nat} {P : AF → FM → LG → Prop} {r : List Stmt}
theorem law_turns (G : Good p.C k) (hk : k ≤ 600) {fd cz ty nl nu : Addr} {oty : Obj} {cs : List Int} {pks : List (Bool × PkgD)} {fm0 : FM} (F : LG → Prop) (hF : ∀ q l, F l → F (q :: l))
    (gc : ∀ l, F l → Get l cz (.lst (cs.map .int))) (hz : cs.length ≤ 20) (gt : ∀ l, F l → Get l ty (.rl oty (pks.map fun x => .ref x.2.t))) (hp : 1 ≤ pks.length ∧ pks.length ≤ 3) (gf : ∀ l, F l → Get l (p.L + 1) (.cell (.ref fd)))
    (tag : ∀ l, F l → ∀ (i : Nat) (b : Bool) (D : PkgD), pks[i]? = some (b, D) → Fld l D.t 301 "is_tagged" (.bool b))
    (t0 : fm0.lookup (Str.ofString "types") = some (.ref ty)) (t1 : fm0.lookup (Str.ofString "nodes") = some (.ref nl)) (t2 : fm0.lookup (Str.ofString "numbers") = some (.ref nu))
    (n1 : fm0.lookup (Str.ofString "is_let") = none) (n2 : fm0.lookup (Str.ofString "way") = none) (n3 : fm0.lookup (Str.ofString "at") = none) (n4 : fm0.lookup (Str.ofString "mark") = none) (n5 : fm0.lookup (Str.ofString "turn") = none)
    (fin : ∀ nds mks lb j l fm, F l → Mks l nds mks → LetOk pks mks lb → nds.length ≤ 50 → mks.length ≤ 50 → 0 ≤ j → FSub fm0 fm → fm.lookup (Str.ofString "is_let") = some (.bool lb) → Ex p.C p.C.env fm ((nl, .lst nds) :: (nu, .lst ((mks.map fun y => 71 + (y.1 : Int)).map .int)) :: (fd, .sd [("cells", .ref cz), ("spot", .int j)]) :: l) r P) :
    ∀ (its : List AV) {nds : List AV} {mks : List (Nat × Bool)} {lb : Bool} {j : Int} {l : LG} {fm : FM}, F l → Mks l nds mks → LetOk pks mks lb → nds.length + its.length ≤ 50 → mks.length = nds.length → 0 ≤ j → FSub fm0 fm → fm.lookup (Str.ofString "is_let") = some (.bool lb) →
      FoN p.C p.C.env "turn" turnB (NxP (fun fm l => Ex p.C p.C.env fm l r P) P) its fm ((nl, .lst nds) :: (nu, .lst ((mks.map fun y => 71 + (y.1 : Int)).map .int)) :: (fd, .sd [("cells", .ref cz), ("spot", .int j)]) :: l)
  | [], nds, mks, lb, j, l, fm, f, M, lo, z, zm, hj, fs, fl => .next (fin nds mks lb j l fm f M lo (by simpa using z) (by rw [zm]; simpa using z) hj fs fl)
  | a :: its, nds, mks, lb, j, l, fm, f, M, lo, z, zm, hj, fs, fl => fun I it => by
    have c1 := gf l f
    have c2 := gc l f
    have c3 := gt l f
    have zt : (pks.map fun x => AV.ref x.2.t).length ≤ 1000 := by rw [List.length_map]; omega
    obtain ⟨fm', e⟩ : ∃ fm', fm' = (Str.ofString "turn", a) :: fm := ⟨_, rfl⟩
    have fs' : FSub fm0 fm' := e ▸ fs.skip n5
    have s0 := fs'.get t0
    have s1 := fs'.get t1
    have s2 := fs'.get t2
    have s3 : fm'.lookup (Str.ofString "is_let") = some (.bool lb) := by rw [e]; exact fl
    rw [show ("turn" : Str) = Str.ofString "turn" from rfl, ← e]
    clear e fl fs
    refine Ex_drop ?_
    refine' Ex_asgM (names := [Str.ofString "way", Str.ofString "at"]) ?_ ?hw ?hx
    case hw => exact rfl
    case hx => exact rfl
    repeat walk_at "w1"
    refine' w_tip (cs := cs) (j := j) (by assumption) (by omega) hj (by decide) ?gc hz ?u fun v v0 v1 => ?_
    case gc => walk_at "w_get"
    case u => walk_at "w_put"
    repeat walk_at "w1"
    refine' w_tip (cs := cs) (j := j + 1) (by assumption) (by omega) (by omega) ?hm ?gc hz ?u fun a a0 a1 => ?_
    case hm => rw [List.length_map]; omega
    case gc => walk_at "w_get"
    case u => walk_at "w_put"
    rw [List.length_map] at a1
    obtain ⟨i, rfl⟩ : ∃ i : Nat, a = (i : Int) := ⟨a.toNat, by omega⟩
    have hi : i < pks.length := by omega
    rcases ey : pks[i] with ⟨tg, D⟩
    have ey' : pks[i]? = some (tg, D) := by rw [List.getElem?_eq_getElem hi, ey]
    obtain ⟨x, ex, hx⟩ := ts_item (v := v.fmod 2) (fmod_in (by decide)).1 (fmod_in (by decide)).2
    refine EvL_nil ⟨Nat.le_of_ble_eq_true rfl, fun tx => ⟨_, _, rfl, .g .head, rfl, ?_⟩⟩
    refine Ex_fsub (fm' := (Str.ofString "way", .int v) :: (Str.ofString "at", .int i) :: fm') (FSub.refl _) ?_
    repeat walk_at "w1"
    refine Su_str rfl a0 (show (i : Int) < ((3 : Nat) : Int) from by omega) (by decide) (pk_item a0 (by omega) rfl) ?_
    repeat walk_at "w1"
    refine Bo_modi (by decide) rfl ?_
    refine Su_str rfl (fmod_in (by decide)).1 (fmod_in (by decide)).2 (by decide) ex ?_
    repeat walk_at "w1"
    have e1 : ∀ c : Bool, ((mks ++ [(i, c)]).map fun (y : Nat × Bool) => 71 + (y.1 : Int)).map AV.int = (mks.map fun y => 71 + (y.1 : Int)).map AV.int ++ [.int (71 + (i : Int))] := fun c => by simp
    have ei : (pks.map fun x => AV.ref x.2.t)[i]? = some (.ref D.t) := by rw [List.getElem?_map, ey']; rfl
    have q0 := tag l f i tg D ey'
    have zn : nds.length ≤ 1000 := by omega
    have zm' : ((mks.map fun y => 71 + (y.1 : Int)).map AV.int).length ≤ 1000 := by rw [List.length_map, List.length_map]; omega
    rw [List.length_cons] at z
    have zs : ∀ v : AV, (nds ++ [v]).length + its.length ≤ 50 := fun v => by rw [List.length_append, List.length_singleton]; omega
    have zz : ∀ (v : AV) (y : Nat × Bool), (mks ++ [y]).length = (nds ++ [v]).length := fun v y => by rw [List.length_append, List.length_append, zm]; rfl
    cases hc : decide (v > 1) with
    | true =>
      have hc2 : decide (v < 2) = false := decide_eq_false (by have := of_decide_eq_true hc; omega)
      refine Cp_gti hc ?_
      repeat walk_at "w1"
      cases lb with
      | false =>
        repeat walk_at "w1"
        refine' DrX.front (a := fd) ?q1 (.front (a := nu) ?q2 (.front (a := nl) ?q3 (.front (a := I) ?q4 (.mk (FSub.refl _) (List.Sublist.refl _) (.next .head ⟨trivial, ?_⟩)))))
        case q1 => walk_at "w_take"
        case q2 => walk_at "w_take"
        case q3 => walk_at "w_take"
        case q4 => walk_at "w_take"
        rw [← e1 true]
        exact law_turns G hk F hF gc hz gt hp gf tag t0 t1 t2 n1 n2 n3 n4 n5 fin its (by repeat (first | exact f | refine hF _ _ ?_)) (Mks.snoc (by walk_at "up") (.cls hx (by walk_at "w_rd") (by walk_at "w_rd") (by walk_at "w_rd"))) (lo.snoc (c := true) ey') (zs _) (zz _ _) (by omega) ((((fs'.skip n3).skip n2).skip n4).skip n1) rfl
      | true =>
        repeat walk_at "w1"
        refine Su_lst (i := i) (by walk_at "w_ls") rfl ei zt ?_
        repeat walk_at "w1"
        refine' DrX.front (a := fd) ?q1 (.front (a := nu) ?q2 (.front (a := nl) ?q3 (.front (a := I) ?q4 (.mk (FSub.refl _) (List.Sublist.refl _) (.next .head ⟨trivial, ?_⟩)))))
        case q1 => walk_at "w_take"
        case q2 => walk_at "w_take"
        case q3 => walk_at "w_take"
        case q4 => walk_at "w_take"
        rw [← e1 true]
        exact law_turns G hk F hF gc hz gt hp gf tag t0 t1 t2 n1 n2 n3 n4 n5 fin its (by repeat (first | exact f | refine hF _ _ ?_)) (Mks.snoc (by walk_at "up") (.cls hx (by walk_at "w_rd") (by walk_at "w_rd") (by walk_at "w_rd"))) (lo.snoc (c := true) ey') (zs _) (zz _ _) (by omega) ((((fs'.skip n3).skip n2).skip n4).skip n1) rfl
    | false =>
      have hc2 : decide (v < 2) = true := decide_eq_true (by have := of_decide_eq_false hc; omega)
      refine Cp_gti hc ?_
      repeat walk_at "w1"
      cases lb with
      | false =>
        repeat walk_at "w1"
        refine' DrX.front (a := fd) ?q1 (.front (a := nu) ?q2 (.front (a := nl) ?q3 (.front (a := I) ?q4 (.mk (FSub.refl _) (List.Sublist.refl _) (.next .head ⟨trivial, ?_⟩)))))
        case q1 => walk_at "w_take"
        case q2 => walk_at "w_take"
        case q3 => walk_at "w_take"
        case q4 => walk_at "w_take"
        rw [← e1 false]
        exact law_turns G hk F hF gc hz gt hp gf tag t0 t1 t2 n1 n2 n3 n4 n5 fin its (by repeat (first | exact f | refine hF _ _ ?_)) (Mks.snoc (by walk_at "up") (.plain hx (by walk_at "w_rd") (by walk_at "w_rd"))) (lo.snoc (c := false) ey') (zs _) (zz _ _) (by omega) ((((fs'.skip n3).skip n2).skip n4).skip n1) rfl
      | true =>
        repeat walk_at "w1"
        refine' DrX.front (a := fd) ?q1 (.front (a := nu) ?q2 (.front (a := nl) ?q3 (.front (a := I) ?q4 (.mk (FSub.refl _) (List.Sublist.refl _) (.next .head ⟨trivial, ?_⟩)))))
        case q1 => walk_at "w_take"
        case q2 => walk_at "w_take"
        case q3 => walk_at "w_take"
        case q4 => walk_at "w_take"
        rw [← e1 false]
        exact law_turns G hk F hF gc hz gt hp gf tag t0 t1 t2 n1 n2 n3 n4 n5 fin its (by repeat (first | exact f | refine hF _ _ ?_)) (Mks.snoc (by walk_at "up") (.plain hx (by walk_at "w_rd") (by walk_at "w_rd"))) (lo.snoc (c := false) ey') (zs _) (zz _ _) (by omega) ((((fs'.skip n3).skip n2).skip n4).skip n1) rfl
end
section
variable {p : LP} {k : Nat} {P : AF → FM → LG → Prop}
theorem law_place (G : Good p.C k) (hk : k ≤ 600) {fd cz ty sc sd ud lp pl q r utl I : Addr} {it oty : Obj} {cs : List Int} {pks : List (Bool × PkgD)} {kn : List (Str × AV)} {kt : List (Int × AV)} {kv : List (Int × AV)} {nb num j : Int} {c : List (Int × List Int)} {l : LG} {o i sp a b d : AV} {a7 a8 a9 a10 : Addr} {X : FM → LG → Prop}
    (gf : Get l (p.L + 1) (.cell (.ref fd))) (gc : Get l cz (.lst (cs.map .int))) (hz : cs.length ≤ 20) (gt : Get l ty (.rl oty (pks.map fun x => .ref x.2.t))) (hp : 1 ≤ pks.length ∧ pks.length ≤ 3)
    (PO : ∀ (i : Nat) (b : Bool) (D : PkgD), pks[i]? = some (b, D) → PkI l kn kt nb i b D) (RT : RtF l r kn kt) (PS : PlS l pl q r num utl) (H : Ch l r q c) (hn : nb ≤ num) (hc : ∀ x ∈ c, nb ≤ x.1) (hu2 : ∀ x ∈ c, ∀ u ∈ x.2, ∃ v, vat kt u = some v)
    (S : Get l sc (.inst 455 sd)) (ek : vat kv num = some (.ref lp)) (nk : (kv.map (·.1)).Nodup) (zk : kv.length ≤ 1000) (hj : 0 ≤ j)
    (hP : ∀ fm l, P (.ret (.bool true)) fm l)
    (h : ∀ (nums : List Int) (j : Int), 0 ≤ j → nums.length ≤ 50 → X [("types", .ref ty), ("scope", .ref sc), ("used", .ref ud), ("outer", o), ("inner", i)] ((fd, .sd [("cells", .ref cz), ("spot", .int j)]) :: (sd, .attrs (scoV (.ref pl) a b d .none .none (.ref a7) (.ref a8) (.ref a9) (.ref a10) (.int 1) (.int 100) (.int 0))) :: (ud, .idd kv) :: (utl, .lst ((dd nums).map .int)) :: (lp, .lst (nums.map .int)) :: l)) :
    Ex p.C p.C.env [("place", .ref pl), ("types", .ref ty), ("scope", .ref sc), ("used", .ref ud), ("outer", o), ("inner", i)] ((I, .obj it) :: (fd, .sd [("cells", .ref cz), ("spot", .int j)]) :: (sd, .attrs (scoV sp a b d .none .none (.ref a7) (.ref a8) (.ref a9) (.ref a10) (.int 1) (.int 100) (.int 0))) :: (ud, .idd kv) :: (utl, .lst []) :: (lp, .lst []) :: l) placeB (FoP X P I it) := by
  refine Ex_drop ?_
  refine' Ex_asgM (names := [Str.ofString "nodes", Str.ofString "numbers", Str.ofString "is_let"]) ?_ ?hw ?hx
  case hw => exact rfl
  case hx => exact rfl
  repeat walk_at "w1"
  rename_i nl nu T
  refine' w_tip (cs := cs) (j := j) (by assumption) (by omega) hj (by decide) ?gc hz ?u fun v v0 v1 => ?_
  case gc => walk_at "w_get"
  case u => walk_at "w_put"
  obtain ⟨n, rfl⟩ : ∃ n : Nat, v = (n : Int) := ⟨v.toNat, by omega⟩
  refine Bo_addi (z := ((n + 1 : Nat) : Int)) (by omega) ?_
  repeat walk_at "w1"
  refine Cl_range fun rg => ⟨rg, n + 1, rfl, .head, by omega, ?_⟩
  refine FoN_fsub (fm' := (Str.ofString "is_let", .bool true) :: [("nodes", .ref nl), ("numbers", .ref nu), ("place", .ref pl), ("types", .ref ty), ("scope", .ref sc), ("used", .ref ud), ("outer", o), ("inner", i)]) (by walk_at "w_fs") ?_
  refine' FoN_front (a := fd) ?q1 (FoN_front (a := nu) ?q2 (FoN_front (a := nl) ?q3 ?_))
  case q1 => walk_at "w_take"
  case q2 => walk_at "w_take"
  case q3 => walk_at "w_take"
  refine law_turns (nds := []) (mks := []) (lb := true) (j := j + 1) (pks := pks) (ty := ty) (oty := oty) (cs := cs) G hk (fun x => ∃ new, x = new ++ ((rg, .rng ((n + 1 : Nat) : Int)) :: (T, .tup [.ref nl, .ref nu, .bool true]) :: (I, .obj it) :: (sd, .attrs (scoV sp a b d .none .none (.ref a7) (.ref a8) (.ref a9) (.ref a10) (.int 1) (.int 100) (.int 0))) :: (ud, .idd kv) :: (utl, .lst []) :: (lp, .lst []) :: l))
    (fun q x ⟨n', e⟩ => ⟨q :: n', by rw [e]; rfl⟩) (fun x ⟨n', e⟩ => e ▸ GSub.appR _ _ (by walk_at "w_get")) hz (fun x ⟨n', e⟩ => e ▸ GSub.appR _ _ (by walk_at "w_get")) hp (fun x ⟨n', e⟩ => e ▸ GSub.appR _ _ (by walk_at "w_get"))
    (fun x ⟨n', e⟩ i b D hb => e ▸ Fld.sub ((PO i b D hb).Q.tag.fld) (GSub.trans (GSub.refl _).tail.tail.tail.tail.tail.tail.tail GSub.appR)) rfl rfl rfl rfl rfl rfl rfl rfl (fun nds mks lb j' l' fm ⟨new, e⟩ M lo z1 z2 hj' fs fl => ?_) (upto (n + 1)) ⟨[], rfl⟩ .nil .nil (by rw [upto_len]; show 0 + (n + 1) ≤ 50; omega) rfl (by omega) ((FSub.refl _).skip rfl) rfl
  subst e
  refine Ex_fsub (fm' := [("place", .ref pl), ("types", .ref ty), ("scope", .ref sc), ("used", .ref ud), ("outer", o), ("inner", i), ("nodes", .ref nl), ("numbers", .ref nu), ("is_let", .bool lb)]) (by walk_at "w_fsg") ?_
  clear fs fl
  have M0 := M.tail (e := (fd, .sd [("cells", .ref cz), ("spot", .int j')])) |>.tail (e := (nu, .lst ((mks.map fun y => 71 + (y.1 : Int)).map .int))) |>.tail (e := (nl, .lst nds))
  refine' Ex_frontM (a := lp) ?q1 M0 fun M1 => ?_
  case q1 => walk_at "w_take"
  refine' Ex_frontM (a := utl) ?q1 M1 fun M2 => ?_
  case q1 => walk_at "w_take"
  refine' Ex_frontM (a := ud) ?q1 M2 fun M3 => ?_
  case q1 => walk_at "w_take"
  refine' Ex_frontM (a := sd) ?q1 M3 fun M4 => ?_
  case q1 => walk_at "w_take"
  refine' Ex_frontM (a := I) ?q1 M4 fun M5 => ?_
  case q1 => walk_at "w_take"
  clear M M0 M1 M2 M3 M4
  have sl : l.Sublist (new ++ ((rg, AO.rng ((n + 1 : Nat) : Int)) :: (T, AO.tup [.ref nl, .ref nu, .bool true]) :: l)) := ((List.Sublist.refl l).cons _).cons _ |>.trans (List.sublist_append_right _ _)
  have gs : GSub l (new ++ ((rg, AO.rng ((n + 1 : Nat) : Int)) :: (T, AO.tup [.ref nl, .ref nu, .bool true]) :: l)) := (GSub.refl l).tail.tail.trans GSub.appR
  replace RT := RT.sub gs
  replace PS := PS.sub gs
  replace H := H.sub gs
  replace PO := fun i b D hb => (PO i b D hb).sub gs
  replace S := gs _ _ S
  clear gf gc gt
  generalize new ++ ((rg, AO.rng ((n + 1 : Nat) : Int)) :: (T, AO.tup [.ref nl, .ref nu, .bool true]) :: l) = l2 at *
  clear gs
  have ev := vst_same nk ek
  have f1 := PS.num
  have f2 := PS.ut
  refine Ex_frz (a := nl) (fun _ => by walk_at "w_put") fun on => ?_
  have M6 := M5.put (a := nl) (y := .rl on nds) (by walk_at "w_put")
  repeat walk_at "w1"
  refine Ex_re (a := sd) (scoV (.ref pl) a b d .none .none (.ref a7) (.ref a8) (.ref a9) (.ref a10) (.int 1) (.int 100) (.int 0)) (by walk_at "w_put") (by kernel_rfl) ?_
  have M7 := M6.put (a := sd) (y := .attrs (scoV (.ref pl) a b d .none .none (.ref a7) (.ref a8) (.ref a9) (.ref a10) (.int 1) (.int 100) (.int 0))) (by walk_at "w_put")
  clear M5 M6
  refine' Ex_try (b := lb) (lb = false) G rfl rfl rfl ?ex ?hy ?hret ?_
  case ex => k_is
  case hy => exact rfl
  case hret => intro hb _ _; rw [hb]; exact .mk (FSub.refl _) (List.Sublist.refl _) (.ret (hP _ _))
  have G' : Good (p.C.tryC [("place", .ref pl), ("types", .ref ty), ("scope", .ref sc), ("used", .ref ud), ("outer", o), ("inner", i), ("nodes", .ref nl), ("numbers", .ref nu), ("is_let", .bool lb)] (lb = false)) k := G.tryC
  walk_at "w1"
  walk_at "w1"
  walk_at "w1"
  walk_at "w1"
  repeat walk_at "w1"
  rename_i tn
  refine' Cl_front (a := utl) ?q1 ?_
  case q1 => walk_at "w_take"
  have zl : ([] : List Int).length + mks.length ≤ 50 := by simpa using z2
  cases lb with
  | false =>
    refine' w_dutB (us := []) (p := pl) (q := q) (r := r) (c := c) (num := num) (pks := pks) (nb := nb) (kn := kn) (kt := kt) (nds := nds) (mks := mks) (o := on) (l0 := nl) (n := 1) G' (by omega) (Rz_try rfl) ?PS ?H ?RT ?PO hn hc (fun _ h => (nomatch h)) hu2 ?S ?S2 ?T1 ?T2 ?M lo.al (lo.f rfl) zl
    case PS => walk_at "up"
    case H => walk_at "up"
    case RT => walk_at "up"
    case PO => intro i b D hb; have := PO i b D hb; walk_at "up"
    case S => walk_at "w_fldL"
    case S2 => walk_at "w_fldL"
    case T1 => walk_at "w_rd"
    case T2 => walk_at "w_get"
    case M => exact (M7.del (a := utl) (by walk_at "w_take")).tail
  | true =>
    refine' w_dutG (us := []) (p := pl) (q := q) (r := r) (c := c) (num := num) (pks := pks) (nb := nb) (kn := kn) (kt := kt) (nds := nds) (mks := mks) (o := on) (l0 := nl) G' (by omega) ?PS ?H ?RT ?PO hn hc (fun _ h => (nomatch h)) hu2 ?S ?T1 ?T2 ?M (lo.t rfl) zl fun x => ?_
    case PS => walk_at "up"
    case H => walk_at "up"
    case RT => walk_at "up"
    case PO => intro i b D hb; have := PO i b D hb; walk_at "up"
    case S => walk_at "w_fldL"
    case T1 => walk_at "w_rd"
    case T2 => walk_at "w_get"
    case M => exact (M7.del (a := utl) (by walk_at "w_take")).tail
    clear M7 PS H RT PO S
    repeat walk_at "w1"
    refine' Cp_eqI (xs := []) (ys := []) G' (by omega) ?g1 ?g2 rfl ?_
    case g1 => walk_at "w_ls"
    case g2 => walk_at "w_ls"
    walk_at "w1"
    clear G'
    repeat walk_at "w1"
    have zq : ([] : List AV).length + ((mks.map fun y => 71 + (y.1 : Int)).map AV.int).length ≤ 1000 := by rw [List.length_map, List.length_map]; show 0 + _ ≤ _; omega
    have zd : (mks.foldl addM []).length ≤ 50 := by rw [dd_eq]; exact Nat.le_trans (dd_len _ []) (by rw [List.length_map]; show 0 + _ ≤ _; omega)
    refine' Io_addL ?g1 ?u1 zq ?_
    case g1 => walk_at "w_ls"
    case u1 => walk_at "w_put"
    repeat walk_at "w1"
    refine' Cl_sortedL (ns := mks.foldl addM []) ?g1 (Nat.lt_of_le_of_lt zd (by decide)) fun x1 ms1 p1 s1 => ?_
    case g1 => walk_at "w_ls"
    repeat walk_at "w1"
    refine Ev_dcI ?_ (by assumption)
    repeat walk_at "w1"
    refine' ⟨lp, mks.map fun y => 71 + (y.1 : Int), rfl, ?g1, ?z1, fun D => ?_⟩
    case g1 => walk_at "w_ls"
    case z1 => rw [List.length_map]; omega
    repeat walk_at "w1"
    have zd2 : ((dd (mks.map fun y => 71 + (y.1 : Int))).map fun n => (n, AV.int 1)).length < 64 := by rw [List.length_map, ← dd_eq]; exact Nat.lt_of_le_of_lt zd (by decide)
    refine Cl_sortedD (.g .head) zd2 fun x2 ms2 p2 s2 => ?_
    have em : ms1 = ms2 := by
      refine lks_uniq (p1.trans ?_) s1 s2
      rw [dd_eq]
      refine List.Perm.trans ?_ p2.symm
      rw [List.map_map]
      exact List.Perm.of_eq (List.map_id' _).symm
    refine' Cp_neI (xs := ms1) (ys := ms2) (c := true) G (by omega) ?g1 ?g2 (decide_eq_true em) ?_
    case g1 => walk_at "w_ls"
    case g2 => walk_at "w_ls"
    repeat walk_at "w1"
    rw [dd_eq]
    refine' DrX.front (a := lp) ?q1 (.front (a := utl) ?q2 (.front (a := ud) ?q3 (.front (a := sd) ?q4 (.front (a := fd) ?q5 (.front (a := I) ?q6 ?_)))))
    case q1 => walk_at "w_take"
    case q2 => walk_at "w_take"
    case q3 => walk_at "w_take"
    case q4 => walk_at "w_take"
    case q5 => walk_at "w_take"
    case q6 => walk_at "w_take"
    refine' DrX.mk (fm' := [("types", .ref ty), ("scope", .ref sc), ("used", .ref ud), ("outer", o), ("inner", i)]) ?fs ?sl (.next .head (h (mks.map fun y => 71 + (y.1 : Int)) _ hj' (by rw [List.length_map]; exact z2)))
    case fs => walk_at "w_fs"
    case sl => repeat (first | exact sl | refine List.Sublist.cons₂ _ ?_ | refine List.Sublist.cons _ ?_)
end
theorem dd_any (ns : List Int) (n : Int) : ((dd ns).any fun x => x == n) = ns.any fun x => x == n := by
  have key : ∀ (ns us : List Int), ((ns.foldl addU us).any fun x => x == n) = ((us.any fun x => x == n) || ns.any fun x => x == n) := by
    intro ns
    induction ns with
    | nil => intro us; simp
    | cons u r ih =>
      intro us
      rw [List.foldl_cons, ih, List.any_cons]
      unfold addU
      split
      · rename_i h
        rw [List.any_eq_true] at h
        obtain ⟨x, hx, e⟩ := h
        have : x = u := eq_of_beq e
        subst this
        cases q : (x == n) with
        | false => simp
        | true =>
          have : (us.any fun x => x == n) = true := List.any_eq_true.mpr ⟨x, hx, q⟩
          rw [this]; simp
      · rw [List.any_append]; simp [Bool.or_assoc]
  exact (key ns []).trans (Bool.false_or _)
section
variable {p : LP} {k : Nat} {P : AF → FM → LG → Prop}
theorem law_seen (G : Good p.C k) (hk : k ≤ 600) {ty ud r o i uO uI lo li : Addr} {oty : Obj} {tc : AO} {pks : List (Bool × PkgD)} {kn : List (Str × AV)} {kt : List (Int × AV)} {kv : List (Int × AV)} {nb nO nI : Int} {uo ui : List Int} {l : LG}
    (gr : Get l (p.L + 2) (.cell (.ref r))) (gt : Get l ty (.rl oty (pks.map fun x => .ref x.2.t)))
    (PO : ∀ (i : Nat) (b : Bool) (D : PkgD), pks[i]? = some (b, D) → PkI l kn kt nb i b D) (RT : RtF l r kn kt) (So : PlS l o r r nO uO) (Si : PlS l i o r nI uI) (hn : nb ≤ nO) (hn2 : nb ≤ nI)
    (eo : vat kv nO = some (.ref lo)) (ei : vat kv nI = some (.ref li)) (zo : uo.length ≤ 100) (zi : ui.length ≤ 100) (htc : tc = .cell0 ∨ ∃ b, tc = .cell b)
    (hP : ∀ fm l, P (.ret (.bool true)) fm l) :
    Ex p.C p.C.env [("types", .ref ty), ("used", .ref ud), ("outer", .ref o), ("inner", .ref i)] ((p.L + 3, tc) :: (ud, .idd kv) :: (uO, .lst ((dd uo).map .int)) :: (uI, .lst ((dd ui).map .int)) :: (lo, .lst (uo.map .int)) :: (li, .lst (ui.map .int)) :: l) (lawB.drop 8) P := by
  refine Ex_frz (a := uO) (fun _ => by walk_at "w_put") fun oO => Ex_frz (a := uI) (fun _ => by walk_at "w_put") fun oI => ?_
  refine Ex_for (own_nop rfl) ?_
  refine Ev_name rfl ?_
  refine' Sq.rl ?g ?_
  case g => walk_at "w_get"
  have hps : ∀ x ∈ pks, ∃ i : Nat, PkI l kn kt nb i x.1 x.2 := fun x hx => by
    obtain ⟨i, hi, e⟩ := List.getElem_of_mem hx
    exact ⟨i, PO _ _ _ (by rw [List.getElem?_eq_getElem hi, e])⟩
  clear PO
  obtain ⟨all, ea⟩ : ∃ all, all = (pks.map fun x => AV.ref x.2.t) := ⟨_, rfl⟩
  rw [← ea] at gt ⊢
  refine Fo_items ea ?_
  clear ea
  generalize pks = ps at hps ⊢
  induction ps generalizing tc with
  | nil =>
    refine Fo.nil ?_
    repeat walk_at "w1"
    exact hP _ _
  | cons y r ih =>
    obtain ⟨j, K⟩ := hps _ (.head _)
    obtain ⟨b, D⟩ := y
    refine Fo.tg fun I it => ?_
    refine Tg_cell rfl ?_
    have gt := gt
    have fu := K.Q.tn.fld
    rw [K.num] at fu
    have fo := So.num
    have fi := Si.num
    obtain ⟨bo, hbo⟩ : ∃ b, (uo.any (· == 71 + (j : Int))) = b := ⟨_, rfl⟩
    obtain ⟨bi, hbi⟩ : ∃ b, ((uo ++ ui).any (· == 71 + (j : Int))) = b := ⟨_, rfl⟩
    have body : Ex p.C p.C.env [("types", .ref ty), ("used", .ref ud), ("outer", .ref o), ("inner", .ref i)] ((I, .obj it) :: (p.L + 3, .cell (.ref D.t)) :: (ud, .idd kv) :: (uO, .rl oO ((dd uo).map .int)) :: (uI, .rl oI ((dd ui).map .int)) :: (lo, .lst (uo.map .int)) :: (li, .lst (ui.map .int)) :: l) seenB
        (FoP (fun fm' l' => Get l' ty (.rl oty all) ∧ Fo p.C p.C.env (.Name "t" { line := 450, col := 8, endLine := 450, endCol := 9 }) seenB (fun l' => Get l' ty (.rl oty all)) (NxP (fun fm l => Ex p.C p.C.env fm l (lawB.drop 9) P) P) (r.map fun x => AV.ref x.2.t) fm' l') (NxP (fun fm l => Ex p.C p.C.env fm l (lawB.drop 9) P) P) I it) := by
      refine Ex_drop ?_
      repeat walk_at "w1"
      have zz : (uo.map AV.int).length + (ui.map AV.int).length ≤ 1000 := by rw [List.length_map, List.length_map]; omega
      refine' Bo_addL ?g1 ?g2 zz fun y => ?_
      case g1 => walk_at "w_ls"
      case g2 => walk_at "w_ls"
      rw [← List.map_append]
      refine' Cp_inI (xs := uo ++ ui) ?g1 hbi ?_
      case g1 => walk_at "w_ls"
      walk_at "w1"
      refine ⟨Nat.le_of_ble_eq_true rfl, fun sn => ?_⟩
      refine Ex_if ?_
      refine Tr_of (Tr_cmp ?_)
      refine Ev_lcUT rfl ?_
      repeat walk_at "w1"
      refine ⟨_, _, _, rfl, fun _ => .head, Nat.le_of_ble_eq_true rfl, fun lt => ?_⟩
      have nR : (1 == D.nR) = false := K.one
      have tt := K.Q.tt
      have fn := K.Q.nR.fld
      have tt := Rd.f K.Q.tt
      have h1 : ∀ q ∈ [(nO, dd uo)], (q.1 == D.nR) = false := K.off fun q hq => by rw [List.mem_singleton.mp hq]; exact hn
      have h2 : ∀ q ∈ [(nI, dd ui), (nO, dd uo)], (q.1 == D.nR) = false := K.off fun q hq => by
        rcases List.mem_cons.mp hq with hq | hq
        · rw [hq]; exact hn2
        · rw [List.mem_singleton.mp hq]; exact hn
      have e0 : ([] : List (Int × List Int)).any (fun q => q.2.any fun x => x == 71 + (j : Int)) = false := rfl
      have e1 : [(nO, dd uo)].any (fun q => q.2.any fun x => x == 71 + (j : Int)) = bo := by
        rw [List.any_cons, List.any_nil, Bool.or_false]
        exact (dd_any uo _).trans hbo
      have e2 : [(nI, dd ui), (nO, dd uo)].any (fun q => q.2.any fun x => x == 71 + (j : Int)) = bi := by
        rw [List.any_cons, List.any_cons, List.any_nil, Bool.or_false]
        show ((dd ui).any _ || (dd uo).any _) = _
        rw [dd_any, dd_any, Bool.or_comm, ← List.any_append]
        exact hbi
      refine Co.one fun _ _ _ _ _ _ => ?_
      repeat walk_at "w1"
      refine' w_sees (kn := kn) (R := D.R) (tt := D.tt) (nR := D.nR) (n := 71 + (j : Int)) (c := []) G (by omega) ?H ?RT ?fn (fun _ h => (nomatch h)) nR K.kt ?gt ?_
      case H => exact .root
      case RT => walk_at "up"
      case fn => walk_at "w_fld"
      case gt => walk_at "w_rd"
      rw [e0]
      repeat walk_at "w1"
      refine' w_sees (kn := kn) (R := D.R) (tt := D.tt) (nR := D.nR) (n := 71 + (j : Int)) (c := [(nO, dd uo)]) G (by omega) ?H ?RT ?fn h1 nR K.kt ?gt ?_
      case H =>
        refine' .up (PlS.pl (us := dd uo) (utl := uO) (o := oO) ?a ?c) .root
        case a => walk_at "up"
        case c => walk_at "w_get"
      case RT => walk_at "up"
      case fn => walk_at "w_fld"
      case gt => walk_at "w_rd"
      rw [e1]
      repeat walk_at "w1"
      refine' w_sees (kn := kn) (R := D.R) (tt := D.tt) (nR := D.nR) (n := 71 + (j : Int)) (c := [(nI, dd ui), (nO, dd uo)]) G (by omega) ?H ?RT ?fn h2 nR K.kt ?gt ?_
      case H =>
        refine' .up (PlS.pl (us := dd ui) (utl := uI) (o := oI) ?a ?c) (.up (PlS.pl (us := dd uo) (utl := uO) (o := oO) ?a2 ?c2) .root)
        case a => walk_at "up"
        case c => walk_at "w_get"
        case a2 => walk_at "up"
        case c2 => walk_at "w_get"
      case RT => walk_at "up"
      case fn => walk_at "w_fld"
      case gt => walk_at "w_rd"
      rw [e2]
      repeat walk_at "w1"
      refine' Cp_neB (xs := [false, bo, bi]) (ys := [false, bo, bi]) (c := true) G (by omega) ?g1 ?g2 (decide_eq_true rfl) ?_
      case g1 => walk_at "w_ls"
      case g2 => walk_at "w_ls"
      repeat walk_at "w1"
      refine' DrX.front (a := li) ?q1 (.front (a := lo) ?q2 (.front (a := uI) ?q3 (.front (a := uO) ?q4 (.front (a := ud) ?q5 (.front (a := p.L + 3) ?q6 (.front (a := I) ?q7 ?_))))))
      case q1 => walk_at "w_take"
      case q2 => walk_at "w_take"
      case q3 => walk_at "w_take"
      case q4 => walk_at "w_take"
      case q5 => walk_at "w_take"
      case q6 => walk_at "w_take"
      case q7 => walk_at "w_take"
      refine' DrX.mk (fm' := [("types", .ref ty), ("used", .ref ud), ("outer", .ref o), ("inner", .ref i)]) (l' := (I, .obj it) :: (p.L + 3, .cell (.ref D.t)) :: (ud, .idd kv) :: (uO, .rl oO ((dd uo).map .int)) :: (uI, .rl oI ((dd ui).map .int)) :: (lo, .lst (uo.map .int)) :: (li, .lst (ui.map .int)) :: l) ?fs ?sl (.next .head ⟨?sr, ?_⟩)
      case fs => walk_at "w_fs"
      case sl => walk_at "w_sl"
      case sr => walk_at "w_get"
      exact ih (.inr ⟨_, rfl⟩) fun x hx => hps x (.tail _ hx)
    rcases htc with rfl | ⟨tb, rfl⟩
    · exact .z (by walk_at "w_put") body
    · exact .s (by walk_at "w_put") body
end
section
variable {fm : FM} {l l' : LG} {C : Cx} {env : Env}
theorem Ex_forU {tg : PySem.Expr} {p : Pos} {iter : PySem.Expr} {body r : List Stmt} {P : AF → FM → LG → Prop} (hO : Own C env)
    (h : Ev C env fm l iter fun a l₁ => ∃ ax items, ∃ l₂ : Obj → LG, a = .ref ax ∧ (∀ lo, Put l₁ ax (.tup items) (.obj lo) (l₂ lo)) ∧ ∀ lo, Fo C env tg body (fun l => Get l ax (.obj lo)) (NxP (fun fm l => Ex C env fm l r P) P) items fm (l₂ lo)) (hL : env.locals = C.L := by rfl)
    (hs' : ∀ x, foldedSetIterable iter env x = pure x := by intro _; rfl) : Ex C env fm l (.For tg iter body [] p :: r) P := .mk fun s ⟨m, hs⟩ => by
  refine wpAny_execs_cons (wpAny_mono (Q := C.fp (NxP (fun fm l => Ex C env fm l r P) P) s) (E := C.er s) ?_ (fun f s₂ x => seq_next x) fun _ _ x => x)
  obtain ⟨F₀, _⟩ := hs.fr
  refine For_turns (h₀ := C.h₀) (m := m) (hL ▸ F₀) (wpAny_mono (h.run m s hs) (fun v s₁ ⟨av, l₁, ⟨ax, items, l₂, ea, u, q⟩, d, H₁, e₁⟩ => ?_) fun _ _ x => x) hs' (hO s)
  subst ea
  obtain ⟨n, F, dn, N, nn, back⟩ := H₁.out
  have fh := H₁.fr
  cases d
  obtain ⟨lo, hm, dl, _⟩ := (u (W.listOf #[] 0)).obj dn
  obtain ⟨lo', hm', dl', z⟩ := (u lo).obj dn
  have same : lo' = lo := by have := (N _ hm').1; rw [(N _ hm).1] at this; exact (Option.some.inj this).symm
  have dn₂ := z same
  obtain ⟨vs, k', rfl, da⟩ := id dl
  obtain ⟨⟨F', fh'⟩, en', nd'⟩ := H₁
  refine iter_tupTurns rfl (hL ▸ F') (hL ▸ N) hm rfl rfl fun I hI => ?_
  exact fo_rest (src := fun l => Get l ax (.obj (tupN vs.toArray k'))) (T := "tuple_iterator") (I := I) (s := s₁) (fun l n g d => by obtain ⟨o', ho, eo⟩ := d.get g; cases eo; exact ho) (fun f s₂ hx => hx) e₁ hL da (q _) fh' dn₂ ((u _).adr ▸ nd') (fun hm => by
    rw [(u _).adr, ← dn.adr] at hm
    obtain ⟨p, hp, e⟩ := List.mem_map.mp hm
    exact Nat.ne_of_lt (hI p hp) e)
end
section
variable {p : LP} {k : Nat} {P : AF → FM → LG → Prop}
theorem law_places (G : Good p.C k) (hk : k ≤ 600) {fd cz ty sc sd ud o i uO uI lo li r : Addr} {oty : Obj} {cs : List Int} {pks : List (Bool × PkgD)} {kn : List (Str × AV)} {kt : List (Int × AV)} {kv : List (Int × AV)} {nb nO nI j : Int} {l : LG} {sp a b d : AV} {a7 a8 a9 a10 : Addr}
    (gf : Get l (p.L + 1) (.cell (.ref fd))) (gr : Get l (p.L + 2) (.cell (.ref r))) (gc : Get l cz (.lst (cs.map .int))) (hz : cs.length ≤ 20) (gt : Get l ty (.rl oty (pks.map fun x => .ref x.2.t))) (hp : 1 ≤ pks.length ∧ pks.length ≤ 3)
    (PO : ∀ (i : Nat) (b : Bool) (D : PkgD), pks[i]? = some (b, D) → PkI l kn kt nb i b D) (RT : RtF l r kn kt) (So : PlS l o r r nO uO) (Si : PlS l i o r nI uI) (hn : nb ≤ nO) (hn2 : nb ≤ nI)
    (S : Get l sc (.inst 455 sd)) (eo : vat kv nO = some (.ref lo)) (ei : vat kv nI = some (.ref li)) (nk : (kv.map (·.1)).Nodup) (zk : kv.length ≤ 1000) (hj : 0 ≤ j)
    (hP : ∀ fm l, P (.ret (.bool true)) fm l) :
    Ex p.C p.C.env [("types", .ref ty), ("scope", .ref sc), ("used", .ref ud), ("outer", .ref o), ("inner", .ref i)] ((fd, .sd [("cells", .ref cz), ("spot", .int j)]) :: (sd, .attrs (scoV sp a b d .none .none (.ref a7) (.ref a8) (.ref a9) (.ref a10) (.int 1) (.int 100) (.int 0))) :: (ud, .idd kv) :: (uO, .lst []) :: (lo, .lst []) :: (uI, .lst []) :: (li, .lst []) :: (p.L + 3, .cell0) :: l) (lawB.drop 7) P := by
  refine Ex_forU (own_nop rfl) ?_
  repeat walk_at "w1"
  refine' w_tip (cs := cs) (j := j) (by assumption) (by omega) hj (by decide) ?gc hz ?u fun v v0 v1 => ?_
  case gc => walk_at "w_get"
  case u => walk_at "w_put"
  obtain rfl | rfl : v = 0 ∨ v = 1 := by omega
  · repeat walk_at "w1"
    refine ⟨_, _, _, rfl, fun _ => by walk_at "w_put", fun lt => ?_⟩
    refine Fo.cons fun I it => ?_
    refine' Ex_front (a := lo) ?q1 ?_
    case q1 => walk_at "w_take"
    refine' Ex_front (a := uO) ?q1 ?_
    case q1 => walk_at "w_take"
    refine' Ex_front (a := ud) ?q1 ?_
    case q1 => walk_at "w_take"
    refine' Ex_front (a := sd) ?q1 ?_
    case q1 => walk_at "w_take"
    refine' Ex_front (a := fd) ?q1 ?_
    case q1 => walk_at "w_take"
    refine' Ex_front (a := I) ?q1 ?_
    case q1 => walk_at "w_take"
    refine' law_place (nb := nb) (kn := kn) (kt := kt) (num := nO) (c := []) (q := r) (r := r) (utl := uO) (lp := lo) G hk ?gf ?gc hz ?gt hp ?PO ?RT ?PS .root hn (fun _ h => (nomatch h)) (fun _ h => (nomatch h)) ?S eo nk zk (by omega) ?hP fun nums j' hj' zn => ⟨?sr, ?_⟩
    case gf => walk_at "w_get"
    case gc => walk_at "w_get"
    case gt => walk_at "w_get"
    case PO => intro i b D hb; have := PO i b D hb; walk_at "up"
    case RT => walk_at "up"
    case PS => walk_at "up"
    case S => walk_at "w_get"
    case hP => exact fun _ _ => .ret (hP _ _)
    case sr => walk_at "w_get"
    refine .nil (.next ?_)
    refine Ex_fsub (fm' := [("types", .ref ty), ("used", .ref ud), ("outer", .ref o), ("inner", .ref i)]) (by walk_at "w_fs") ?_
    refine' Ex_front (a := li) ?q1 ?_
    case q1 => walk_at "w_take"
    refine' Ex_front (a := lo) ?q1 ?_
    case q1 => walk_at "w_take"
    refine' Ex_front (a := uI) ?q1 ?_
    case q1 => walk_at "w_take"
    refine' Ex_front (a := uO) ?q1 ?_
    case q1 => walk_at "w_take"
    refine' Ex_front (a := ud) ?q1 ?_
    case q1 => walk_at "w_take"
    refine' Ex_front (a := p.L + 3) ?q1 ?_
    case q1 => walk_at "w_take"
    refine' law_seen (nb := nb) (kn := kn) (kt := kt) (r := r) (nO := nO) (nI := nI) (uo := nums) (ui := []) (oty := oty) (pks := pks) G hk ?gr ?gt ?PO ?RT ?So ?Si hn hn2 eo ei ?zo ?zi (.inl rfl) hP
    case gr => walk_at "w_get"
    case gt => walk_at "w_get"
    case PO => intro i b D hb; have := PO i b D hb; walk_at "up"
    case RT => walk_at "up"
    case So => walk_at "up"
    case Si => walk_at "up"
    case zo => first | exact Nat.zero_le _ | omega
    case zi => first | exact Nat.zero_le _ | omega
  · repeat walk_at "w1"
    refine ⟨_, _, _, rfl, fun _ => by walk_at "w_put", fun lt => ?_⟩
    refine Fo.cons fun I it => ?_
    refine Ex_frz (a := uO) (fun _ => by walk_at "w_put") fun oO => ?_
    refine' Ex_front (a := li) ?q1 ?_
    case q1 => walk_at "w_take"
    refine' Ex_front (a := uI) ?q1 ?_
    case q1 => walk_at "w_take"
    refine' Ex_front (a := ud) ?q1 ?_
    case q1 => walk_at "w_take"
    refine' Ex_front (a := sd) ?q1 ?_
    case q1 => walk_at "w_take"
    refine' Ex_front (a := fd) ?q1 ?_
    case q1 => walk_at "w_take"
    refine' Ex_front (a := I) ?q1 ?_
    case q1 => walk_at "w_take"
    refine' law_place (nb := nb) (kn := kn) (kt := kt) (num := nI) (c := [(nO, [])]) (q := o) (r := r) (utl := uI) (lp := li) G hk ?gf ?gc hz ?gt hp ?PO ?RT ?PS ?H hn2 (fun x h => (List.mem_singleton.mp h) ▸ hn) (fun x h u hu => (by rw [List.mem_singleton.mp h] at hu; cases hu)) ?S ei nk zk (by omega) ?hP fun nums j' hj' zn => ⟨?sr, ?_⟩
    case gf => walk_at "w_get"
    case gc => walk_at "w_get"
    case gt => walk_at "w_get"
    case PO => intro i b D hb; have := PO i b D hb; walk_at "up"
    case RT => walk_at "up"
    case PS => walk_at "up"
    case S => walk_at "w_get"
    case hP => exact fun _ _ => .ret (hP _ _)
    case H =>
      refine' .up (PlS.pl (us := []) (utl := uO) (o := oO) ?a ?c) .root
      case a => walk_at "up"
      case c => walk_at "w_get"
    case sr => walk_at "w_get"
    refine Fo.cons fun I it => ?_
    refine Ex_thaw (a := uO) (by walk_at "w_put") ?_
    refine' Ex_front (a := lo) ?q1 ?_
    case q1 => walk_at "w_take"
    refine' Ex_front (a := uO) ?q1 ?_
    case q1 => walk_at "w_take"
    refine' Ex_front (a := ud) ?q1 ?_
    case q1 => walk_at "w_take"
    refine' Ex_front (a := sd) ?q1 ?_
    case q1 => walk_at "w_take"
    refine' Ex_front (a := fd) ?q1 ?_
    case q1 => walk_at "w_take"
    refine' Ex_front (a := I) ?q1 ?_
    case q1 => walk_at "w_take"
    refine' law_place (nb := nb) (kn := kn) (kt := kt) (num := nO) (c := []) (q := r) (r := r) (utl := uO) (lp := lo) G hk ?gf ?gc hz ?gt hp ?PO ?RT ?PS .root hn (fun _ h => (nomatch h)) (fun _ h => (nomatch h)) ?S eo nk zk (by omega) ?hP fun nums2 j2 hj2 zn2 => ⟨?sr, ?_⟩
    case gf => walk_at "w_get"
    case gc => walk_at "w_get"
    case gt => walk_at "w_get"
    case PO => intro i b D hb; have := PO i b D hb; walk_at "up"
    case RT => walk_at "up"
    case PS => walk_at "up"
    case S => walk_at "w_get"
    case hP => exact fun _ _ => .ret (hP _ _)
    case sr => walk_at "w_get"
    refine .nil (.next ?_)
    refine Ex_fsub (fm' := [("types", .ref ty), ("used", .ref ud), ("outer", .ref o), ("inner", .ref i)]) (by walk_at "w_fs") ?_
    refine' Ex_front (a := li) ?q1 ?_
    case q1 => walk_at "w_take"
    refine' Ex_front (a := lo) ?q1 ?_
    case q1 => walk_at "w_take"
    refine' Ex_front (a := uI) ?q1 ?_
    case q1 => walk_at "w_take"
    refine' Ex_front (a := uO) ?q1 ?_
    case q1 => walk_at "w_take"
    refine' Ex_front (a := ud) ?q1 ?_
    case q1 => walk_at "w_take"
    refine' Ex_front (a := p.L + 3) ?q1 ?_
    case q1 => walk_at "w_take"
    refine' law_seen (nb := nb) (kn := kn) (kt := kt) (r := r) (nO := nO) (nI := nI) (uo := nums2) (ui := nums) (oty := oty) (pks := pks) G hk ?gr ?gt ?PO ?RT ?So ?Si hn hn2 eo ei ?zo ?zi (.inl rfl) hP
    case gr => walk_at "w_get"
    case gt => walk_at "w_get"
    case PO => intro i b D hb; have := PO i b D hb; walk_at "up"
    case RT => walk_at "up"
    case So => walk_at "up"
    case Si => walk_at "up"
    case zo => first | exact Nat.zero_le _ | omega
    case zi => first | exact Nat.zero_le _ | omega
end
section
variable {p : LP} {k : Nat} {P : AF → FM → LG → Prop}
theorem law_places2 (G : Good p.C k) (hk : k ≤ 600) {fd cz ty r rd nd ol ul utl cd td : Addr} {cs : List Int} {pks : List (Bool × PkgD)} {kn : List (Str × AV)} {kt : List (Int × AV)} {M j : Int} {l : LG} (hM : 1 ≤ M)
    (gf : Get l (p.L + 1) (.cell (.ref fd))) (gr : Get l (p.L + 2) (.cell (.ref r))) (gc : Get l cz (.lst (cs.map .int))) (hz : cs.length ≤ 20) (hp : 1 ≤ pks.length ∧ pks.length ≤ 3)
    (PO : ∀ (i : Nat) (b : Bool) (D : PkgD), pks[i]? = some (b, D) → PkI l kn kt (M + 1) i b D) (r1 : Get l r (.inst 127 rd)) (gn : Get l nd (.sd kn)) (gt : Get l td (.idd kt)) (hj : 0 ≤ j)
    (hP : ∀ fm l, P (.ret (.bool true)) fm l) :
    Ex p.C p.C.env [("types", .ref ty)] ((rd, .attrs (rootV r nd ol ul utl cd td M)) :: (ty, .lst (pks.map fun x => .ref x.2.t)) :: (fd, .sd [("cells", .ref cz), ("spot", .int j)]) :: (ul, .lst []) :: (utl, .lst []) :: (p.L + 3, .cell0) :: l) (lawB.drop 3) P := by
  refine Ex_frz (a := ty) (fun _ => by walk_at "w_put") fun oty => ?_
  refine Ex_frz (a := ul) (fun _ => by walk_at "w_put") fun oul => ?_
  refine Ex_frz (a := utl) (fun _ => by walk_at "w_put") fun outl => ?_
  repeat walk_at "w1"
  refine' w_open_sub (r := r) (M := M) (lv := 0) (al := rootV r nd ol ul utl cd td M) (al' := rootV r nd ol ul utl cd td (M + 1)) (by assumption) (by omega) ?g1 (by kernel_rfl) rfl ?f1 ?f2 fun o od nd1 ol1 ul1 ut1 cd1 td1 => ?_
  case g1 => walk_at "w_get"
  case f1 => walk_at "w_fldL"
  case f2 => walk_at "w_fldL"
  repeat walk_at "w1"
  refine' Cl_front (a := rd) ?q1 ?_
  case q1 => walk_at "w_take"
  refine' w_open_block (r := r) (M := M + 1) (lv := 0 + 1) (al := rootV r nd ol ul utl cd td (M + 1)) (al' := rootV r nd ol ul utl cd td (M + 1 + 1)) (by assumption) (by omega) ?g1 (by kernel_rfl) rfl ?f1 ?f2 fun i id nd2 ol2 ul2 ut2 cd2 td2 => ?_
  case g1 => walk_at "w_get"
  case f1 => walk_at "w_fldL"
  case f2 => walk_at "w_fldL"
  repeat walk_at "w1"
  refine w_limits (by assumption) (by omega) fun lm => ?_
  repeat walk_at "w1"
  refine Ev_dict0 (b := true) (by assumption) fun dt => ?_
  repeat walk_at "w1"
  refine w_scope (by assumption) (by omega) fun sc sd a7 a8 a9 a10 => ?_
  repeat walk_at "w1"
  refine Ev_dictI (by assumption) fun ud => ?_
  refine EvP_cons ?_
  repeat walk_at "w1"
  refine EvP_cons ?_
  repeat walk_at "w1"
  refine EvP_cons ?_
  repeat walk_at "w1"
  refine EvP_nil ?_
  rename_i l1 lo li
  refine' DsI.mk (kv := [(1, .ref l1), (M + 1, .ref lo), (M + 1 + 1, .ref li)]) rfl ?nd ?u ?_
  case nd =>
    show [1, M + 1, M + 1 + 1].Nodup
    simp only [List.nodup_cons, List.mem_cons, List.not_mem_nil, or_false, not_or, List.nodup_nil, and_true, not_false_eq_true]
    omega
  case u => walk_at "w_put"
  refine Ex_frz (a := ul1) (fun _ => by walk_at "w_put") fun ou1 => ?_
  refine Ex_frz (a := ul2) (fun _ => by walk_at "w_put") fun ou2 => ?_
  refine' Ex_front (a := p.L + 3) ?q1 ?_
  case q1 => walk_at "w_take"
  refine' Ex_front (a := li) ?q1 ?_
  case q1 => walk_at "w_take"
  refine' Ex_front (a := ut2) ?q1 ?_
  case q1 => walk_at "w_take"
  refine' Ex_front (a := lo) ?q1 ?_
  case q1 => walk_at "w_take"
  refine' Ex_front (a := ut1) ?q1 ?_
  case q1 => walk_at "w_take"
  refine' Ex_front (a := ud) ?q1 ?_
  case q1 => walk_at "w_take"
  refine' Ex_front (a := sd) ?q1 ?_
  case q1 => walk_at "w_take"
  refine' Ex_front (a := fd) ?q1 ?_
  case q1 => walk_at "w_take"
  refine Ex_fsub (fm' := [("types", .ref ty), ("scope", .ref sc), ("used", .ref ud), ("outer", .ref o), ("inner", .ref i)]) (by walk_at "w_fs") ?_
  refine' law_places (nb := M + 1) (nO := M + 1) (nI := M + 1 + 1) (kn := kn) (kt := kt) (r := r) (cs := cs) (pks := pks) (oty := oty) G hk ?gf ?gr ?gc hz ?gt hp ?PO ?RT ?So ?Si (Int.le_refl _) (by omega) ?S ?eo ?ei ?nk ?zk hj hP
  case gf => walk_at "w_get"
  case gr => walk_at "w_get"
  case gc => walk_at "w_get"
  case gt => walk_at "w_get"
  case PO => intro i b D hb; have := PO i b D hb; walk_at "up"
  case RT =>
    refine' ⟨?f1, ?f2, ?f3, ?f4, ⟨nd, ?f5, ?f6⟩, ⟨ul, oul, ?f7, ?f8⟩, ⟨utl, outl, ?f9, ?f10⟩, ⟨td, ?f11, ?f12⟩⟩
    case f1 => walk_at "w_fldL"
    case f2 => walk_at "w_fldL"
    case f3 => walk_at "w_fldL"
    case f4 => walk_at "w_fldL"
    case f5 => walk_at "w_fldL"
    case f6 => walk_at "w_rd"
    case f7 => walk_at "w_fldL"
    case f8 => walk_at "w_get"
    case f9 => walk_at "w_fldL"
    case f10 => walk_at "w_get"
    case f11 => walk_at "w_fldL"
    case f12 => walk_at "w_rd"
  case So =>
    refine' ⟨?f1, ?f2, ?f3, ?f4, ⟨nd1, ?f5, ?f6⟩, ⟨ul1, ou1, ?f7, ?f8⟩, ?f9⟩
    case f1 => walk_at "w_fldL"
    case f2 => walk_at "w_fldL"
    case f3 => walk_at "w_fldL"
    case f4 => walk_at "w_fldL"
    case f5 => walk_at "w_fldL"
    case f6 => walk_at "w_rd"
    case f7 => walk_at "w_fldL"
    case f8 => walk_at "w_get"
    case f9 => walk_at "w_fldL"
  case Si =>
    refine' ⟨?f1, ?f2, ?f3, ?f4, ⟨nd2, ?f5, ?f6⟩, ⟨ul2, ou2, ?f7, ?f8⟩, ?f9⟩
    case f1 => walk_at "w_fldL"
    case f2 => walk_at "w_fldL"
    case f3 => walk_at "w_fldL"
    case f4 => walk_at "w_fldL"
    case f5 => walk_at "w_fldL"
    case f6 => walk_at "w_rd"
    case f7 => walk_at "w_fldL"
    case f8 => walk_at "w_get"
    case f9 => walk_at "w_fldL"
  case S => walk_at "w_get"
  case eo =>
    show vat [((1 : Int), _), (M + 1, _), (M + 1 + 1, _)] (M + 1) = _
    unfold vat
    rw [if_neg (by omega)]
    unfold vat
    rw [if_pos rfl]
  case ei =>
    show vat [((1 : Int), _), (M + 1, _), (M + 1 + 1, _)] (M + 1 + 1) = _
    unfold vat
    rw [if_neg (by omega)]
    unfold vat
    rw [if_neg (by omega)]
    unfold vat
    rw [if_pos rfl]
  case nk =>
    show [1, M + 1, M + 1 + 1].Nodup
    simp only [List.nodup_cons, List.mem_cons, List.not_mem_nil, or_false, not_or, List.nodup_nil, and_true, not_false_eq_true]
    omega
  case zk => exact Nat.le_of_ble_eq_true rfl
end
section
theorem vat_app {K : Type} [DecidableEq K] {kv : List (K × AV)} {k k' : K} {a : AV} : vat (kv ++ [(k', a)]) k = match vat kv k with | some b => some b | none => if k' = k then some a else none := by
  induction kv with
  | nil => rfl
  | cons p r ih =>
    obtain ⟨q, b⟩ := p
    show (if q = k then some b else vat (r ++ [(k', a)]) k) = match (if q = k then some b else vat r k) with | some b => some b | none => if k' = k then some a else none
    by_cases e : q = k
    · rw [if_pos e, if_pos e]
    · rw [if_neg e, if_neg e, ih]
theorem vat_none_any {K : Type} [DecidableEq K] {kv : List (K × AV)} {k : K} (h : vat kv k = none) : (kv.any fun p => decide (p.1 = k)) = false := by
  induction kv with
  | nil => rfl
  | cons p r ih =>
    obtain ⟨q, b⟩ := p
    unfold vat at h
    by_cases e : q = k
    · rw [if_pos e] at h; cases h
    · rw [if_neg e] at h
      rw [List.any_cons, ih h, Bool.or_false]
      exact decide_eq_false e
theorem vst_new {K : Type} [DecidableEq K] {kv : List (K × AV)} {k : K} {a : AV} (h : vat kv k = none) : vst kv k a = kv ++ [(k, a)] := by
  unfold vst
  rw [vat_none_any h]
  rfl
theorem vat_vst_eq {K : Type} [DecidableEq K] {kv : List (K × AV)} {k : K} {a : AV} (h : vat kv k = none) : vat (vst kv k a) k = some a := by
  rw [vst_new h, vat_app, h]
  exact if_pos rfl
theorem vat_vst_ne {K : Type} [DecidableEq K] {kv : List (K × AV)} {k k' : K} {a : AV} (h : vat kv k = none) (n : k ≠ k') : vat (vst kv k a) k' = vat kv k' := by
  rw [vst_new h, vat_app]
  cases e : vat kv k' with
  | some b => rfl
  | none => exact if_neg n
theorem vst_len {K : Type} [DecidableEq K] {kv : List (K × AV)} {k : K} {a : AV} (h : vat kv k = none) : (vst kv k a).length = kv.length + 1 := by
  rw [vst_new h, List.length_append]; rfl
theorem pk_inj {a b : Nat} (ha : a < 3) (hb : b < 3) (n : a ≠ b) : pk a ≠ pk b := by
  match a, b, ha, hb with
  | 0, 0, _, _ => exact absurd rfl n
  | 0, 1, _, _ => decide
  | 0, 2, _, _ => decide
  | 1, 0, _, _ => decide
  | 1, 1, _, _ => exact absurd rfl n
  | 1, 2, _, _ => decide
  | 2, 0, _, _ => decide
  | 2, 1, _, _ => decide
  | 2, 2, _, _ => exact absurd rfl n
  | a + 3, _, h, _ => exact absurd h (by omega)
  | _, b + 3, _, h => exact absurd h (by omega)
/-- what is counted after i packages -/
def kcN : Nat → List (Str × AV)
  | 0 => []
  | i + 1 => vst (vst (vst (kcN i) (pk i) (.int (0 + 1))) "t" (.int ((i : Int) + 1))) "s" (.int ((i : Int) + 1))
structure PInv (x : LG) (i : Nat) (pks : List (Bool × PkgD)) (kn : List (Str × AV)) (kt : List (Int × AV)) (os : List AV) (M : Int) : Prop where
  len : pks.length = i
  PO : ∀ (i' : Nat) (b : Bool) (D : PkgD), pks[i']? = some (b, D) → PkI x kn kt (M + 1) i' b D
  fn : ∀ i', i ≤ i' → i' < 3 → vat kn (pk i') = none
  ft : ∀ i' : Nat, i ≤ i' → vat kt (71 + (i' : Int)) = none
  z1 : kn.length ≤ i
  z2 : kt.length ≤ i
  z3 : os.length ≤ i
  M1 : 1 ≤ M
theorem PInv.zero {x : LG} : PInv x 0 [] [] [] [] 1 := ⟨rfl, fun _ _ _ h => (nomatch h), fun _ _ _ => rfl, fun _ _ => rfl, Nat.le_refl _, Nat.le_refl _, Nat.le_refl _, by decide⟩
theorem PInv.snoc {x pre : LG} {i : Nat} {pks : List (Bool × PkgD)} {kn : List (Str × AV)} {kt : List (Int × AV)} {os : List AV} {M : Int} {b : Bool} {D : PkgD} (h : PInv x i pks kn kt os M) (hi : i < 3) (Q : PkgF pre b D) (e1 : D.nR = M + 1 + 1) (e2 : D.num = 71 + (i : Int)) :
    PInv (pre ++ x) (i + 1) (pks ++ [(b, D)]) (vst kn (pk i) (.ref D.lx)) (vst kt (71 + (i : Int)) (.ref D.tt)) (os ++ [.ref D.x]) (M + 1 + 1 + 1 + 1) := by
  have hM := h.M1
  have hk := h.fn i (Nat.le_refl _) hi
  have ht := h.ft i (Nat.le_refl _)
  refine ⟨by rw [List.length_append, h.len]; rfl, fun i' b' D' e => ?_, fun i' g g3 => ?_, fun i' g => ?_, ?_, ?_, ?_, by omega⟩
  · by_cases q : i' < i
    · rw [List.getElem?_append_left (by rw [h.len]; exact q)] at e
      have K := h.PO i' b' D' e
      refine ⟨K.Q.sub GSub.appR, ?_, ?_, K.num, K.lo, Int.lt_trans K.hi (by omega)⟩
      · rw [vat_vst_ne hk (pk_inj hi (by omega) (by omega))]; exact K.kn
      · rw [vat_vst_ne ht (by omega)]; exact K.kt
    · have hl : i' < (pks ++ [(b, D)]).length := by
        rcases Nat.lt_or_ge i' (pks ++ [(b, D)]).length with z | z
        · exact z
        · rw [List.getElem?_eq_none z] at e; cases e
      rw [List.length_append, h.len] at hl
      have : i' = i := by have : i' < i + 1 := hl; omega
      subst this
      rw [List.getElem?_append_right (by rw [h.len]; exact Nat.le_refl _), h.len, Nat.sub_self] at e
      cases e
      exact ⟨Q.sub GSub.app, vat_vst_eq hk, vat_vst_eq ht, e2, by omega, by omega⟩
  · rw [vat_vst_ne hk (pk_inj hi g3 (by omega))]; exact h.fn i' (by omega) g3
  · rw [vat_vst_ne ht (by omega)]; exact h.ft i' (by omega)
  · rw [vst_len hk]; have := h.z1; omega
  · rw [vst_len ht]; have := h.z2; omega
  · rw [List.length_append]; have := h.z3; show os.length + 1 ≤ _; omega
theorem kc_facts {i : Nat} (hi : i < 3) : vat (kcN i) (pk i) = none ∧ (∃ q, Uq (vst (kcN i) (pk i) (.int (0 + 1))) "t" (i : Int) q) ∧ (∃ q, Uq (vst (vst (kcN i) (pk i) (.int (0 + 1))) "t" (.int ((i : Int) + 1))) "s" (i : Int) q) ∧ (kcN i).length ≤ 1000 ∧ (vst (kcN i) (pk i) (.int (0 + 1))).length ≤ 1000 ∧ (vst (vst (kcN i) (pk i) (.int (0 + 1))) "t" (.int ((i : Int) + 1))).length ≤ 1000 := by
  match i, hi with
  | 0, _ => exact ⟨by kernel_rfl, ⟨_, .z (by kernel_rfl)⟩, ⟨_, .z (by kernel_rfl)⟩, by decide +kernel, by decide +kernel, by decide +kernel⟩
  | 1, _ => exact ⟨by kernel_rfl, ⟨_, .s (c := 1) (by kernel_rfl) (by decide) (by decide +kernel) (by decide +kernel) (by decide +kernel)⟩, ⟨_, .s (c := 1) (by kernel_rfl) (by decide) (by decide +kernel) (by decide +kernel) (by decide +kernel)⟩, by decide +kernel, by decide +kernel, by decide +kernel⟩
  | 2, _ => exact ⟨by kernel_rfl, ⟨_, .s (c := 2) (by kernel_rfl) (by decide) (by decide +kernel) (by decide +kernel) (by decide +kernel)⟩, ⟨_, .s (c := 2) (by kernel_rfl) (by decide) (by decide +kernel) (by decide +kernel) (by decide +kernel)⟩, by decide +kernel, by decide +kernel, by decide +kernel⟩
  | n + 3, h => exact absurd h (by omega)
theorem pk_dot {i : Nat} (hi : i < 3) : (Builtin.Str.occurrences (pk i) "." 0 (pk i).length 1).isEmpty = !false := by
  match i, hi with
  | 0, _ => decide +kernel
  | 1, _ => decide +kernel
  | 2, _ => decide +kernel
  | n + 3, h => exact absurd h (by omega)
end
section
variable {p : LP} {k : Nat} {P : AF → FM → LG → Prop}
noncomputable def pkE : PySem.Expr := match lawB.drop 2 with
  | .Assign _ (.ListComp e _ _ _) _ :: _ => e
  | _ => .Constant .none 0 ⟨0, 0, 0, 0⟩
noncomputable def pkSc : Scope := match lawB.drop 2 with
  | .Assign _ (.ListComp _ _ sc _) _ :: _ => sc
  | _ => lawSc
theorem pk_turn (G : Good p.C k) (hk : k ≤ 600) {fm : FM} {Fin : List AV → LG → Prop} {fd cz r rd nd ol ul utl cd td : Addr} {cs : List Int} {x : LG} {i : Nat} {pks : List (Bool × PkgD)} {kn : List (Str × AV)} {kt : List (Int × AV)} {os its ys : List AV} {M j : Int}
    (I0 : PInv x i pks kn kt os M) (hi : i < 3) (gf : Get x (p.L + 1) (.cell (.ref fd))) (gr : Get x (p.L + 2) (.cell (.ref r))) (gc : Get x cz (.lst (cs.map .int))) (hz : cs.length ≤ 20) (r1 : Get x r (.inst 127 rd)) (hj : 0 ≤ j)
    (next : ∀ (b : Bool) (D : PkgD) (pre : LG) (j' : Int), 0 ≤ j' → PkgF pre b D → D.nR = M + 1 + 1 → D.num = 71 + (i : Int) → Co p.C fm p.C.env none pkE "at" pkSc [("root", p.L + 2), ("flask", p.L + 1)] (fun _ => True) Fin its (ys ++ [.ref D.t]) ((fd, .sd [("cells", .ref cz), ("spot", .int j')]) :: (rd, .attrs (rootV r nd ol ul utl cd td (M + 1 + 1 + 1 + 1))) :: (cd, .sd (kcN (i + 1))) :: (nd, .sd (vst kn (pk i) (.ref D.lx))) :: (ol, .lst (os ++ [.ref D.x])) :: (td, .idd (vst kt (71 + (i : Int)) (.ref D.tt))) :: (ul, .lst []) :: (utl, .lst []) :: (p.L + 3, .cell0) :: (pre ++ x))) :
    Co p.C fm p.C.env none pkE "at" pkSc [("root", p.L + 2), ("flask", p.L + 1)] (fun _ => True) Fin (.int (i : Int) :: its) ys ((fd, .sd [("cells", .ref cz), ("spot", .int j)]) :: (rd, .attrs (rootV r nd ol ul utl cd td (M))) :: (cd, .sd (kcN (i))) :: (nd, .sd (kn)) :: (ol, .lst (os)) :: (td, .idd (kt)) :: (ul, .lst []) :: (utl, .lst []) :: (p.L + 3, .cell0) :: x) := by
  obtain ⟨c1, ⟨qt, c2⟩, ⟨qs, c3⟩, c4, c5, c6⟩ := kc_facts hi
  have hd := pk_dot hi
  have n1 := I0.fn i (Nat.le_refl _) hi
  have n2 := I0.ft i (Nat.le_refl _)
  have z1 : kn.length ≤ 1000 := Nat.le_trans I0.z1 (by omega)
  have z2 : kt.length ≤ 1000 := Nat.le_trans I0.z2 (by omega)
  have z3 : os.length ≤ 1000 := Nat.le_trans I0.z3 (by omega)
  refine Co.one fun I oI Cn oC D oD => ?_
  repeat walk_at "w1"
  refine' w_tip (cs := cs) (j := j) (by assumption) (by omega) hj (by decide) ?gc hz ?u fun v v0 v1 => ?_
  case gc => walk_at "w_get"
  case u => walk_at "w_put"
  have key : Txt.item "pqr" (i : Int) = pk i := pk_item (by omega) (by omega) rfl
  cases hc : decide (v < 2) with
  | true =>
    repeat walk_at "w1"
    refine' Cl_front (a := td) ?q1 ?_
    case q1 => walk_at "w_take"
    refine' Cl_front (a := ol) ?q1 ?_
    case q1 => walk_at "w_take"
    refine' Cl_front (a := nd) ?q1 ?_
    case q1 => walk_at "w_take"
    refine' Cl_front (a := cd) ?q1 ?_
    case q1 => walk_at "w_take"
    refine' Cl_front (a := rd) ?q1 ?_
    case q1 => walk_at "w_take"
    refine Cl_hold ?_
    refine' w_pkg_rec (key := pk i) (kc := kcN i) G (by omega) ?r1 (by omega) (by omega) key hd n1 c1 z1 c4 z3 z2 n2 c2 c3 c5 c6 fun E pre Q e1 e2 => ?_
    case r1 => walk_at "w_get"
    refine' Hld.front (a := p.L + 3) ?q1 (.front (a := utl) ?q2 (.front (a := ul) ?q3 (.front (a := td) ?q4 (.front (a := ol) ?q5 (.front (a := nd) ?q6 (.front (a := cd) ?q7 (.front (a := rd) ?q8 (.front (a := fd) ?q9 (.front (a := D) ?q10 (.front (a := Cn) ?q11 (.front (a := I) ?q12 (.mk (.mk (List.Sublist.refl _) (.mk .head .head .head ⟨trivial, ?_⟩))))))))))))))
    case q1 => walk_at "w_take"
    case q2 => walk_at "w_take"
    case q3 => walk_at "w_take"
    case q4 => walk_at "w_take"
    case q5 => walk_at "w_take"
    case q6 => walk_at "w_take"
    case q7 => walk_at "w_take"
    case q8 => walk_at "w_take"
    case q9 => walk_at "w_take"
    case q10 => walk_at "w_take"
    case q11 => walk_at "w_take"
    case q12 => walk_at "w_take"
    exact next true E pre _ (by omega) Q e1 e2
  | false =>
    repeat walk_at "w1"
    refine' Cl_front (a := td) ?q1 ?_
    case q1 => walk_at "w_take"
    refine' Cl_front (a := ol) ?q1 ?_
    case q1 => walk_at "w_take"
    refine' Cl_front (a := nd) ?q1 ?_
    case q1 => walk_at "w_take"
    refine' Cl_front (a := cd) ?q1 ?_
    case q1 => walk_at "w_take"
    refine' Cl_front (a := rd) ?q1 ?_
    case q1 => walk_at "w_take"
    refine Cl_hold ?_
    refine' w_pkg_int (key := pk i) (kc := kcN i) G (by omega) ?r1 (by omega) (by omega) key hd n1 c1 z1 c4 z3 z2 n2 c2 c3 c5 c6 fun E pre Q e1 e2 => ?_
    case r1 => walk_at "w_get"
    refine' Hld.front (a := p.L + 3) ?q1 (.front (a := utl) ?q2 (.front (a := ul) ?q3 (.front (a := td) ?q4 (.front (a := ol) ?q5 (.front (a := nd) ?q6 (.front (a := cd) ?q7 (.front (a := rd) ?q8 (.front (a := fd) ?q9 (.front (a := D) ?q10 (.front (a := Cn) ?q11 (.front (a := I) ?q12 (.mk (.mk (List.Sublist.refl _) (.mk .head .head .head ⟨trivial, ?_⟩))))))))))))))
    case q1 => walk_at "w_take"
    case q2 => walk_at "w_take"
    case q3 => walk_at "w_take"
    case q4 => walk_at "w_take"
    case q5 => walk_at "w_take"
    case q6 => walk_at "w_take"
    case q7 => walk_at "w_take"
    case q8 => walk_at "w_take"
    case q9 => walk_at "w_take"
    case q10 => walk_at "w_take"
    case q11 => walk_at "w_take"
    case q12 => walk_at "w_take"
    exact next false E pre _ (by omega) Q e1 e2
theorem law_run (G : Good p.C k) (hk : k ≤ 600) {sa : Addr} {ns : List Int} {vs : List Value} (hl : p.h₀.IsList sa vs.toArray) (hi : IntsAre vs ns) (hz : vs.length ≤ 1000)
    (hP : ∀ fm l, P (.ret (.bool true)) fm l) :
    Ex p.C p.C.env [("script", .ref sa)] [(p.L + 3, .cell0), (p.L + 2, .cell0), (p.L + 1, .cell0)] lawB P := by
  refine Ex_asgC rfl ?_
  refine Ev_dictS (by assumption) fun fd => ?_
  refine EvP_cons ?_
  walk_at "w1"
  walk_at "w1"
  refine Ev_slcOld (C := p.C) hl hi hz ?_
  repeat walk_at "w1"
  refine ⟨rfl, ?_⟩
  repeat walk_at "w1"
  refine ⟨by decide, fun cl => ?_⟩
  have zt : ((ns.take (20 : Int).toNat).map AV.int).length ≤ 1000 := by rw [List.length_map, List.length_take]; exact Nat.le_trans (Nat.min_le_left _ _) (Nat.le_of_ble_eq_true rfl)
  refine Sc.lst (fun _ => .head) zt fun lt => ?_
  refine Co_ints (fun n => n.fmod (10 ^ 9)) .head (fun n I oI Cn oC D oD Q q => ?_) ?_
  · repeat walk_at "w1"
    refine Bo_pow (by decide) (by decide) (by decide) (by decide) (by decide) rfl ?_
    exact Bo_modi (by decide) rfl q
  refine .mk .head ?_
  intro cz
  rw [List.nil_append]
  obtain ⟨cs, ecs⟩ : ∃ cs, cs = (ns.take (20 : Int).toNat).map (fun n => n.fmod (10 ^ 9)) := ⟨_, rfl⟩
  have hz : cs.length ≤ 20 := by rw [ecs, List.length_map, List.length_take]; exact Nat.min_le_left _ _
  rw [← ecs]
  refine EvP_cons ?_
  repeat walk_at "w1"
  refine EvP_nil ?_
  refine' DsS.mk (kv := [("cells", .ref cz), ("spot", .int 0)]) rfl ?nd ?u ?_
  case nd => show [Str.ofString "cells", Str.ofString "spot"].Nodup; decide
  case u => walk_at "w_put"
  refine .z (by walk_at "w_put") ?_
  refine Ex_asgC rfl ?_
  repeat walk_at "w1"
  refine w_open_root (by assumption) (by omega) fun r rd nd ol ul utl cd td => ?_
  refine .z (by walk_at "w_put") ?_
  refine Ex_lcU rfl ?_
  repeat walk_at "w1"
  refine' w_tip (cs := cs) (j := 0) (by assumption) (by omega) (Int.le_refl _) (by decide) ?gc hz ?u fun v v0 v1 => ?_
  case gc => walk_at "w_get"
  case u => walk_at "w_put"
  obtain ⟨n, rfl⟩ : ∃ n : Nat, v = (n : Int) := ⟨v.toNat, by omega⟩
  refine Bo_addi (z := ((n + 1 : Nat) : Int)) (by omega) ?_
  repeat walk_at "w1"
  refine Cl_hold (Cl_range fun rg => ?_)
  refine' Hld.front (a := p.L + 3) ?q1 (.front (a := utl) ?q2 (.front (a := ul) ?q3 (.front (a := td) ?q4 (.front (a := ol) ?q5 (.front (a := nd) ?q6 (.front (a := cd) ?q7 (.front (a := rd) ?q8 (.front (a := fd) ?q9 (.mk (.mk (List.Sublist.refl _) (.rng (n := n + 1) ?g0 (by omega) ?_)))))))))))
  case q1 => walk_at "w_take"
  case q2 => walk_at "w_take"
  case q3 => walk_at "w_take"
  case q4 => walk_at "w_take"
  case q5 => walk_at "w_take"
  case q6 => walk_at "w_take"
  case q7 => walk_at "w_take"
  case q8 => walk_at "w_take"
  case q9 => walk_at "w_take"
  case g0 => walk_at "w_get"
  have fin : ∀ {i : Nat} {pks : List (Bool × PkgD)} {kn : List (Str × AV)} {kt : List (Int × AV)} {os : List AV} {M j : Int} {x : LG} (T : Addr), PInv x i pks kn kt os M → 1 ≤ i → i ≤ 3 → 0 ≤ j → Get x (p.L + 1) (.cell (.ref fd)) → Get x (p.L + 2) (.cell (.ref r)) → Get x cz (.lst (cs.map .int)) → Get x r (.inst 127 rd) →
      Ex p.C p.C.env [("types", .ref T), ("script", .ref sa)] ((T, .lst (pks.map fun x => .ref x.2.t)) :: (fd, .sd [("cells", .ref cz), ("spot", .int j)]) :: (rd, .attrs (rootV r nd ol ul utl cd td M)) :: (cd, .sd (kcN i)) :: (nd, .sd kn) :: (ol, .lst os) :: (td, .idd kt) :: (ul, .lst []) :: (utl, .lst []) :: (p.L + 3, .cell0) :: x) (lawB.drop 3) P := fun {i pks kn kt os M j x} T I0 i1 i3 hj gf gr gc r1 => by
    have hlen := I0.len
    have hM := I0.M1
    refine' Ex_front (a := p.L + 3) ?q1 ?_
    case q1 => walk_at "w_take"
    refine' Ex_front (a := utl) ?q1 ?_
    case q1 => walk_at "w_take"
    refine' Ex_front (a := ul) ?q1 ?_
    case q1 => walk_at "w_take"
    refine' Ex_front (a := fd) ?q1 ?_
    case q1 => walk_at "w_take"
    refine' Ex_front (a := T) ?q1 ?_
    case q1 => walk_at "w_take"
    refine' Ex_front (a := rd) ?q1 ?_
    case q1 => walk_at "w_take"
    refine Ex_fsub (fm' := [("types", .ref T)]) (by walk_at "w_fs") ?_
    refine' law_places2 (cs := cs) (pks := pks) (kn := kn) (kt := kt) G hk hM ?gf ?gr ?gc hz (by rw [hlen]; exact ⟨i1, i3⟩) ?PO ?r1 ?gn ?gt hj hP
    case gf => walk_at "w_get"
    case gr => walk_at "w_get"
    case gc => walk_at "w_get"
    case PO => intro i b D hb; have := I0.PO i b D hb; walk_at "up"
    case r1 => walk_at "w_get"
    case gn => walk_at "w_get"
    case gt => walk_at "w_get"
  obtain rfl | rfl | rfl : n = 0 ∨ n = 1 ∨ n = 2 := by omega
  · refine' pk_turn (i := 0) (M := 1) (pks := []) (kn := []) (kt := []) (os := []) G hk (PInv.zero) (by decide) ?gf ?gr ?gc hz ?r1 (show (0 : Int) ≤ 0 + 1 by decide) fun b0 D0 p0 j0 h0 Q0 a0 e0 => ?_
    case gf => exact (by walk_at "w_get")
    case gr => exact (by walk_at "w_get")
    case gc => exact (by walk_at "w_get")
    case r1 => exact (by walk_at "w_get")
    refine' Co.nil fun T => fin T (PInv.snoc (PInv.zero) (by decide) Q0 a0 e0) (by decide) (by decide) h0 ?gf ?gr ?gc ?r1
    case gf => exact (GSub.appR _ _ (by walk_at "w_get"))
    case gr => exact (GSub.appR _ _ (by walk_at "w_get"))
    case gc => exact (GSub.appR _ _ (by walk_at "w_get"))
    case r1 => exact (GSub.appR _ _ (by walk_at "w_get"))
  · refine' pk_turn (i := 0) (M := 1) (pks := []) (kn := []) (kt := []) (os := []) G hk (PInv.zero) (by decide) ?gf ?gr ?gc hz ?r1 (show (0 : Int) ≤ 0 + 1 by decide) fun b0 D0 p0 j0 h0 Q0 a0 e0 => ?_
    case gf => exact (by walk_at "w_get")
    case gr => exact (by walk_at "w_get")
    case gc => exact (by walk_at "w_get")
    case r1 => exact (by walk_at "w_get")
    refine' pk_turn (i := 1)  G hk (PInv.snoc (PInv.zero) (by decide) Q0 a0 e0) (by decide) ?gf ?gr ?gc hz ?r1 h0 fun b1 D1 p1 j1 h1 Q1 a1 e1 => ?_
    case gf => exact (GSub.appR _ _ (by walk_at "w_get"))
    case gr => exact (GSub.appR _ _ (by walk_at "w_get"))
    case gc => exact (GSub.appR _ _ (by walk_at "w_get"))
    case r1 => exact (GSub.appR _ _ (by walk_at "w_get"))
    refine' Co.nil fun T => fin T (PInv.snoc (PInv.snoc (PInv.zero) (by decide) Q0 a0 e0) (by decide) Q1 a1 e1) (by decide) (by decide) h1 ?gf ?gr ?gc ?r1
    case gf => exact (GSub.appR _ _ (GSub.appR _ _ (by walk_at "w_get")))
    case gr => exact (GSub.appR _ _ (GSub.appR _ _ (by walk_at "w_get")))
    case gc => exact (GSub.appR _ _ (GSub.appR _ _ (by walk_at "w_get")))
    case r1 => exact (GSub.appR _ _ (GSub.appR _ _ (by walk_at "w_get")))
  · refine' pk_turn (i := 0) (M := 1) (pks := []) (kn := []) (kt := []) (os := []) G hk (PInv.zero) (by decide) ?gf ?gr ?gc hz ?r1 (show (0 : Int) ≤ 0 + 1 by decide) fun b0 D0 p0 j0 h0 Q0 a0 e0 => ?_
    case gf => exact (by walk_at "w_get")
    case gr => exact (by walk_at "w_get")
    case gc => exact (by walk_at "w_get")
    case r1 => exact (by walk_at "w_get")
    refine' pk_turn (i := 1)  G hk (PInv.snoc (PInv.zero) (by decide) Q0 a0 e0) (by decide) ?gf ?gr ?gc hz ?r1 h0 fun b1 D1 p1 j1 h1 Q1 a1 e1 => ?_
    case gf => exact (GSub.appR _ _ (by walk_at "w_get"))
    case gr => exact (GSub.appR _ _ (by walk_at "w_get"))
    case gc => exact (GSub.appR _ _ (by walk_at "w_get"))
    case r1 => exact (GSub.appR _ _ (by walk_at "w_get"))
    refine' pk_turn (i := 2)  G hk (PInv.snoc (PInv.snoc (PInv.zero) (by decide) Q0 a0 e0) (by decide) Q1 a1 e1) (by decide) ?gf ?gr ?gc hz ?r1 h1 fun b2 D2 p2 j2 h2 Q2 a2 e2 => ?_
    case gf => exact (GSub.appR _ _ (GSub.appR _ _ (by walk_at "w_get")))
    case gr => exact (GSub.appR _ _ (GSub.appR _ _ (by walk_at "w_get")))
    case gc => exact (GSub.appR _ _ (GSub.appR _ _ (by walk_at "w_get")))
    case r1 => exact (GSub.appR _ _ (GSub.appR _ _ (by walk_at "w_get")))
    refine' Co.nil fun T => fin T (PInv.snoc (PInv.snoc (PInv.snoc (PInv.zero) (by decide) Q0 a0 e0) (by decide) Q1 a1 e1) (by decide) Q2 a2 e2) (by decide) (by decide) h2 ?gf ?gr ?gc ?r1
    case gf => exact (GSub.appR _ _ (GSub.appR _ _ (GSub.appR _ _ (by walk_at "w_get"))))
    case gr => exact (GSub.appR _ _ (GSub.appR _ _ (GSub.appR _ _ (by walk_at "w_get"))))
    case gc => exact (GSub.appR _ _ (GSub.appR _ _ (GSub.appR _ _ (by walk_at "w_get"))))
    case r1 => exact (GSub.appR _ _ (GSub.appR _ _ (GSub.appR _ _ (by walk_at "w_get"))))
end
section
theorem nd3 (n : Nat) : [n + 3, n + 2, n + 1].Nodup := by simp
theorem law_end (p : LP) (G : Good p.C 600) {s : Shared} {m : Str → Option Value} {o1 o2 o3 : Obj} {sa : Addr} {vs : List Value} {ns : List Int} (F : Fr p.h₀ p.L s.heap m) (fm : m (Str.ofString "script") = some (.ref sa)) (d3 : ∃ v, o3.data = .cell v) (d2 : ∃ v, o2.data = .cell v) (d1 : ∃ v, o1.data = .cell v)
    (N : News p.h₀ p.L s.heap [(p.L + 1 + 1 + 1, o3), (p.L + 1 + 1, o2), (p.L + 1, o1)]) (hl : p.h₀.IsList sa vs.toArray) (hi : IntsAre vs ns) (hz : vs.length ≤ 1000) {Q : Flow → Shared → Prop} {E : Value → Shared → Prop} (hQ : ∀ m' s', Fr p.h₀ p.L s'.heap m' → Same s s' → Q (.ret (.bool true)) s') :
    wpAny (model Pg p.w) p.C.A (execs lawB p.C.env) Q E s := by
  have H : p.C.H [("script", .ref sa)] [(p.L + 3, .cell0), (p.L + 2, .cell0), (p.L + 1, .cell0)] s := by
    refine ⟨m, ⟨F, fun x av h => ?_⟩, den_en (.cons d3 (.cons d2 (.cons d1 .nil))) N, ?_⟩
    · rw [List.lookup_cons] at h
      split at h
      · rename_i e
        cases h
        have e' := eq_of_beq e
        subst e'
        exact ⟨_, fm, rfl⟩
      · cases h
    · exact nd3 p.L
  have z := (law_run (P := fun af _ _ => af = .ret (.bool true)) G (by omega) hl hi hz fun _ _ => rfl).run s H
  refine wpAny_mono z (fun f s' ⟨af, fm', l', q, df, ⟨m', ⟨F₂, _⟩, _, _⟩, e⟩ => ?_) fun _ _ x => no_er rfl x
  subst q
  obtain ⟨v, rfl, dv⟩ := df
  cases dv
  exact hQ _ _ F₂ e
end
end Mine
set_option Elab.async false
set_option linter.all false
set_option pp.deepTerms false
set_option pp.maxSteps 3000
namespace Mine
set_option maxRecDepth 100000
set_option maxHeartbeats 4000000
set_option compiler.extract_closed false
theorem wp_conv {M M' : Model} {A A' : Around} {α : Type} {t t' : Sem α} {Q : α → Shared → Prop} {E : Value → Shared → Prop} {s : Shared} (h : wpAny M' A' t' Q E s) (e1 : M = M') (e2 : A = A') (e3 : t = t') : wpAny M A t Q E s := by
  subst e1 e2 e3
  exact h
theorem law_end2 {w : World} {h₀ h₁ : Heap} {L dp un : Nat} {gd : Option (List Code)} {a : Addr} {ccd : Value} {s : Shared} {m : Str → Option Value} {o1 o2 o3 : Obj} {sa : Addr} {vs : List Value} {ns : List Int} {mean : ExcName → Option Value} {mg mb : Str → Option Value} {A₀ : Around} {fo : Obj} {fc : Str} (ho : h₀.get? a = some fo) (hcd : h₀.CodeRec ccd fc) (F : Fr h₀ L h₁ m) (N : News h₀ L h₁ [(L + 1 + 1 + 1, o3), (L + 1 + 1, o2), (L + 1, o1)]) (es : s.heap = h₁) (B : Below A₀ h₀ [] h₀) (X : (KF w.params).In h₀) (T : Top view0 (looseW view0 loose0) mean mg mb h₀) (hl : h₀.IsList sa vs.toArray) (hi : IntsAre vs ns) (hdp : dp ≤ 600) (hun : un ≤ 10 * 600) (fm : m (Str.ofString "script") = some (.ref sa)) (d3 : ∃ v, o3.data = .cell v) (d2 : ∃ v, o2.data = .cell v) (d1 : ∃ v, o1.data = .cell v)
    (hz : vs.length ≤ 1000) {Q : Flow → Shared → Prop} {E : Value → Shared → Prop} (hQ : ∀ m' s', Fr h₀ L s'.heap m' → Same s s' → Q (.ret (.bool true)) s') :
    wpAny (model Pg w) (LP.C ⟨w, h₀, L, dp, un, gd, lawSc.more, a, ccd, []⟩).A (execs lawB (LP.C ⟨w, h₀, L, dp, un, gd, lawSc.more, a, ccd, []⟩).env) Q E s := by
  subst es
  exact law_end ⟨w, h₀, L, dp, un, gd, lawSc.more, a, ccd, []⟩ ⟨hdp, hun, ⟨_, B⟩, X, ⟨_, _, _, T⟩⟩ F fm d3 d2 d1 N hl hi hz hQ
set_option maxHeartbeats 0 in
theorem jj : PySem.Challenge.rw_rg0027_01.Holds := by
  refine holds_law said0 fun said => ?_
  refine holds_open (q := view0) (loose := loose0) (Xt := xt0) (XP := XL view0 []) (Yf := Hook.obs (kHook KF asF asF_is)) (Ya := Hook.val (kHook KF asF asF_is)) (YP := Hook.says (kHook KF asF asF_is)) (N := 7178) left0 (Hook.of (kHook KF asF asF_is)) (Hook.keeps (kHook KF asF asF_is)) (fun s e => xl_of s (Bool.and_eq_true_iff.mp e).1) XL.keeps (by rfl) (by rfl) (by rfl) (fun s e => recFacts_of (Bool.and_eq_true_iff.mp e).2) (by rfl) said (by decide +kernel) ⟨rfl, rfl, rfl, rfl, rfl, by decide +kernel⟩ ?hw ?hc
  case hw => w_witness2
  clear said
  k_fill
  intro w s₀ s₁ mg mb G Y fa o pm cd doc dV kV ho hd hcd hD hmg hg args vals as hpre hlay hrd hwl hlo
  have KX := kIn_of Y
  have X := (Ground.X G).1
  refine Ground.open G ?_
  intro T B D TE TW
  try (refine guard_noD D (by decide +kernel) ?_; clear D)
  obtain ⟨_, _, M⟩ := bmod_of_top T
  have TA := at_of_top T
  try (obtain ⟨_, _, he, B0⟩ := based_of_top T rfl hmg ho hd; have he' : cd = _ := he; subst he'; clear he)
  clear hmg
  wrow_args hpre hlay hrd hwl hlo
  first | refine callC_kw (enter_call ?_) | refine enter_call ?_ | refine callC_kw (enter_callW ?_) | refine enter_callW ?_ | w_how
  w_top on
  try refine codeAny_mono ?_ (fun _ _ g => GoodW.toG g)
  have K0 := below_caller (Top.heap T)
  w_call any ho hd hcd hD T F
  clear hd TA
  k_drop
  (rename IntsAre _ _ => hI)
  (rename Below _ _ _ _ => K0)
  (rename Fr _ _ _ _ => F)
  (rename News _ _ _ _ => N0)
  (rename Top _ _ _ _ _ _ => T)
  (rename (KF _).In _ => KX)
  (rename _ = #[] => hg)
  (rename Heap.IsList _ _ _ => hL)
  have hlen := IntsAre.length hI
  (rename Heap.CodeRec _ _ _ => hcd)
  (rename Heap.get? _ _ = some _ => ho)
  refine wp_conv (law_end2 (dp := callerA.depth + 1) (un := callerA.units + 3) (gd := callerA.guards) ho hcd F N0 ?es K0 KX T hL hI ?a1 ?a2 ?a3 ?d3 ?d2 ?d1 ?a4 fun m' s' F' e' => ?a5) ?c1 ?c2 ?c3
  case c1 => kernel_rfl
  case c2 => kernel_rfl
  case c3 => kernel_rfl
  case es => rfl
  case d3 => exact ⟨_, by assumption⟩
  case d2 => exact ⟨_, by assumption⟩
  case d1 => exact ⟨_, by assumption⟩
  case a1 => decide
  case a2 => decide
  case a3 => kernel_rfl
  case a4 =>
    rename ¬(_ < _) => hc
    exact Nat.le_trans (Nat.le_of_eq hlen) (Nat.le_trans (Nat.le_of_not_lt fun h => hc (Int.ofNat_lt.mpr h)) (by decide))
  case a5 => exact goodW_bool F' (e'.1.trans hg) (fun _ => rfl) (by wrow_post) e'.2.2
end Mine
set_option maxRecDepth 100000 in
set_option maxHeartbeats 8000000 in
theorem PySem.Challenge.cw_rg0027_01_holds : PySem.Challenge.rw_rg0027_01.Holds := by
  exact Mine.jj
