import PyProof.Rows.All
import Wide.All
import OpenK.AllK
import Wide.FinOn
import PySem.Challenge.RW_pq0857_01
open PySem PySem.W PyProof.Rows PySem.Calls
set_option Elab.async false
set_option maxRecDepth 100000
set_option maxHeartbeats 4000000
set_option linter.all false
noncomputable section
namespace Mine.Hd
noncomputable abbrev pw : Program := Challenge.pw_pq0857_01
noncomputable def nth : List Stmt → Nat → Stmt
  | x :: _, 0 => x
  | _ :: r, n + 1 => nth r n
  | [], _ => .Pass ⟨0, 0, 0, 0⟩
noncomputable def fA : Stmt → Arguments
  | .FunctionDef _ a _ _ _ _ _ _ _ _ => a
  | _ => ⟨[], [], none, [], [], none, []⟩
noncomputable def fB : Stmt → List Stmt
  | .FunctionDef _ _ b _ _ _ _ _ _ _ => b
  | .ClassDef _ _ _ b _ _ _ _ _ _ _ => b
  | _ => []
noncomputable def fS : Stmt → Scope
  | .FunctionDef _ _ _ _ _ _ s _ _ _ => s
  | _ => ⟨.function, [], false, false, []⟩
noncomputable abbrev S (i : Nat) : Stmt := nth pw.main.body i
noncomputable abbrev M (i j : Nat) : Stmt := nth (fB (S i)) j
noncomputable abbrev bE : List Stmt := behindTheImports pw
noncomputable def env : Env := { scope := (pw.main).scope, locals := mainNs, globals := mainNs, cells := [], code := (.ref 13), frame := some 14 }
noncomputable abbrev frs : List Frame := [topFrame ⟨0, 0, 0, 0⟩]
noncomputable abbrev lf (o : Obj) : BT := .node o .nil .nil
noncomputable abbrev N (o : Params → Obj) (P : Params) (a b : BT) : BT := .node (o P) a b
noncomputable abbrev l (o : Params → Obj) (P : Params) : BT := .node (o P) .nil .nil
noncomputable abbrev kv (P : Params) (n : Str) (t : Nat) (v : Value) : DictEntry := ⟨PyData.keyHash P n, .str n t, v⟩
noncomputable def oa (P : Params) : Obj := ⟨.type "tuple", none, .seq #[] 0, #[]⟩
noncomputable def ob (P : Params) : Obj := ⟨.none, none, .fields #[], #[]⟩
noncomputable def o13a (P : Params) : Obj := ⟨.type "code", none, .fields #[.str "<module>" 182, .str "<module>" 183, .str "/claim/cut.py" 184, .int 1 0, .int 0 0, .int 0 0, .int 0 0, .int 0 0, .ref 11, .bool false, .int 181 0, .ref 12, .none, .none, .none, .none, .int 185 0, .int 1 0, .str "/claim/cut.py" 186], #[]⟩
noncomputable def o14a (P : Params) : Obj := ⟨.type "frame", none, .plain, #[some (.ref 13), some (.ref 3), some (.ref 3), none, some (.str "__main__" 164), none, some (.ref 0)]⟩
noncomputable def hA (P : Params) : Heap := ⟨⟨[boot_o_0 P, boot_o_1 P, boot_o_2 P, boot_o_3 P, boot_o_4 P, boot_o_5 P, boot_o_6 P, boot_o_7 P, boot_o_8 P, boot_o_9 P, boot_o_10 P, oa P, ob P, o13a P, o14a P]⟩, ⟨[], [], [], 0, [], [], false, #[], [], 0, false, false, false, 0, [2000, 10, 10], false, 0, true, [], [], 0, false⟩⟩
noncomputable def sA (w : World) (os : OsState) : Shared := ⟨hA w.params, ⟨[]⟩, ⟨0, 0, 0, 0⟩, 187, os⟩
noncomputable def t0 (P : Params) : BT := (N boot_o_0 P (N boot_o_1 P (N boot_o_3 P (l boot_o_7 P) (l oa P)) (N boot_o_5 P (l boot_o_9 P) (l o13a P))) (N boot_o_2 P (N boot_o_4 P (l boot_o_8 P) (l ob P)) (N boot_o_6 P (l boot_o_10 P) (l o14a P))))
noncomputable def s0 (w : World) (os : OsState) : SharedT := ⟨t0 w.params, 15, ⟨[], [], [], 0, [], [], false, #[], [], 0, false, false, false, 0, [2000, 10, 10], false, 0, true, [], [], 0, false⟩, ⟨[]⟩, ⟨0, 0, 0, 0⟩, 187, os⟩
noncomputable def sts0 : List Stmt := (bE.drop 0).take 4
noncomputable def o2x0 (P : Params) : Obj := ⟨.none, none, .dict #[kv P "type.__subclasses__.Exception.0" 221 (.int 38 0), kv P "type.__subclasses__.Exception.n" 222 (.int 1 0)] 2, #[]⟩
noncomputable def o3x0 (P : Params) : Obj := ⟨.type "dict", none, .dict #[kv P "__name__" 165 (.str "phpcore.faults" 194), kv P "__doc__" 166 .none, kv P "__package__" 167 .none, kv P "__loader__" 168 (.builtin "__main__.__loader__#opaque"), kv P "__spec__" 169 .none, kv P "__annotations__" 170 (.ref 6), kv P "__builtins__" 171 (.ref 4), kv P "__file__" 173 (.str "/claim/cut.py" 172), kv P "__cached__" 174 .none, kv P "_wall" 193 (.ref 21), kv P "PhpFault" 224 (.ref 38), kv P "LeftOut" 240 (.ref 51)] 12, #[]⟩
noncomputable def o12x0 (P : Params) : Obj := ⟨.none, none, .fields #[.int 1 0, .int 0 0, .ref 20, .int 5 0, .int 0 0, .ref 27, .int 10 0, .int 0 0, .ref 47], #[]⟩
noncomputable def o17x0 (P : Params) : Obj := ⟨.type "tuple", none, .seq #[.str "k" 190] 0, #[]⟩
noncomputable def o19x0 (P : Params) : Obj := ⟨.none, none, .func ⟨"_wall", "_wall", fA (S 0), .stmts (fB (S 0)), fS (S 0), 0, [], .none, .none, .none, .none, none, .none, .none, 0⟩, #[]⟩
noncomputable def o20x0 (P : Params) : Obj := ⟨.type "code", none, .fields #[.str "_wall" 187, .str "_wall" 188, .str "/claim/cut.py" 189, .int 1 0, .int 1 0, .int 0 0, .int 0 0, .int 3 0, .ref 15, .bool true, .int 181 0, .ref 16, .none, .ref 17, .ref 18, .ref 19, .int 191 0, .int 1 0, .str "/claim/cut.py" 192], #[]⟩
noncomputable def o21x0 (P : Params) : Obj := ⟨.type "function", none, .func ⟨"_wall", "_wall", fA (S 0), .stmts (fB (S 0)), fS (S 0), 3, [], .none, .none, .none, .str "__main__" 164, none, .ref 20, .none, 0⟩, #[]⟩
noncomputable def o22x0 (P : Params) : Obj := ⟨.type "tuple", none, .seq #[.type "Exception"] 0, #[]⟩
noncomputable def o23x0 (P : Params) : Obj := ⟨.type "builtin_function_or_method", none, .fields #[.builtin "type.__prepare__", .type "type"], #[]⟩
noncomputable def o24x0 (P : Params) : Obj := ⟨.type "dict", none, .dict #[kv P "__module__" 203 (.str "phpcore.faults" 194), kv P "__qualname__" 205 (.str "PhpFault" 204), kv P "__firstlineno__" 207 (.int 5 206), kv P "__init__" 215 (.ref 35), kv P "__static_attributes__" 217 (.ref 36)] 5, #[]⟩
noncomputable def o26x0 (P : Params) : Obj := ⟨.none, none, .fields #[.int 7 0, .int 4 0, .ref 34], #[]⟩
noncomputable def o27x0 (P : Params) : Obj := ⟨.type "code", none, .fields #[.str "PhpFault" 198, .str "PhpFault" 199, .str "/claim/cut.py" 200, .int 5 0, .int 0 0, .int 0 0, .int 0 0, .int 0 0, .ref 25, .bool false, .int 181 0, .ref 26, .none, .none, .none, .none, .int 201 0, .int 5 0, .str "/claim/cut.py" 202], #[]⟩
noncomputable def o28x0 (P : Params) : Obj := ⟨.type "frame", none, .plain, #[some (.ref 27), some (.ref 3), some (.ref 24), none, some (.str "phpcore.faults" 194), none, some (.ref 0)]⟩
noncomputable def o31x0 (P : Params) : Obj := ⟨.type "tuple", none, .seq #[.str "self" 211, .str "why" 212] 0, #[]⟩
noncomputable def o33x0 (P : Params) : Obj := ⟨.none, none, .func ⟨"__init__", "PhpFault.__init__", fA (M 2 0), .stmts (fB (M 2 0)), fS (M 2 0), 0, [], .none, .none, .none, .none, none, .none, .none, 0⟩, #[]⟩
noncomputable def o34x0 (P : Params) : Obj := ⟨.type "code", none, .fields #[.str "__init__" 208, .str "PhpFault.__init__" 209, .str "/claim/cut.py" 210, .int 7 0, .int 2 0, .int 0 0, .int 0 0, .int 3 0, .ref 29, .bool true, .int 181 0, .ref 30, .none, .ref 31, .ref 32, .ref 33, .int 213 0, .int 7 0, .str "/claim/cut.py" 214], #[]⟩
noncomputable def o35x0 (P : Params) : Obj := ⟨.type "function", none, .func ⟨"__init__", "PhpFault.__init__", fA (M 2 0), .stmts (fB (M 2 0)), fS (M 2 0), 3, [], .none, .none, .none, .str "phpcore.faults" 194, none, .ref 34, .none, 0⟩, #[]⟩
noncomputable def o36x0 (P : Params) : Obj := ⟨.type "tuple", none, .seq #[.str "why" 216] 0, #[]⟩
noncomputable def o37x0 (P : Params) : Obj := ⟨.type "dict", none, .dict #[kv P "__module__" 203 (.str "phpcore.faults" 194), kv P "__firstlineno__" 207 (.int 5 206), kv P "__init__" 215 (.ref 35), kv P "__static_attributes__" 217 (.ref 36), kv P "__weakref__" 219 (.ref 39), kv P "__doc__" 220 .none] 3, #[]⟩
noncomputable def o38x0 (P : Params) : Obj := ⟨.type "type", none, .cls ⟨"PhpFault", [.type "Exception"], [.ref 38, .type "Exception", .type "BaseException", .type "object"], 37, "PhpFault", true, [], [.ref 51], false, none, false⟩, #[some (.ref 22), none, some (.str "PhpFault" 196), some (.str "PhpFault" 204), some (.builtin "Exception.__new__"), some (.bool true)]⟩
noncomputable def o39x0 (P : Params) : Obj := ⟨.type "getset_descriptor", none, .fields #[.str "__weakref__" 218, .ref 38, .builtin "ExceptionGroup.__weakref__", .none], #[]⟩
noncomputable def o40x0 (P : Params) : Obj := ⟨.type "super", none, .fields #[.ref 38, .ref 38, .ref 38], #[]⟩
noncomputable def o41x0 (P : Params) : Obj := ⟨.type "builtin_function_or_method", none, .fields #[.builtin "object.__init_subclass__", .ref 38], #[]⟩
noncomputable def o42x0 (P : Params) : Obj := ⟨.type "tuple", none, .seq #[.ref 38] 0, #[]⟩
noncomputable def o44x0 (P : Params) : Obj := ⟨.type "dict", none, .dict #[kv P "__module__" 232 (.str "phpcore.faults" 194), kv P "__qualname__" 234 (.str "LeftOut" 233), kv P "__firstlineno__" 236 (.int 10 235), kv P "__static_attributes__" 237 (.ref 49)] 4, #[]⟩
noncomputable def o47x0 (P : Params) : Obj := ⟨.type "code", none, .fields #[.str "LeftOut" 227, .str "LeftOut" 228, .str "/claim/cut.py" 229, .int 10 0, .int 0 0, .int 0 0, .int 0 0, .int 0 0, .ref 45, .bool false, .int 181 0, .ref 46, .none, .none, .none, .none, .int 230 0, .int 10 0, .str "/claim/cut.py" 231], #[]⟩
noncomputable def o48x0 (P : Params) : Obj := ⟨.type "frame", none, .plain, #[some (.ref 47), some (.ref 3), some (.ref 44), none, some (.str "phpcore.faults" 194), none, some (.ref 0)]⟩
noncomputable def o50x0 (P : Params) : Obj := ⟨.type "dict", none, .dict #[kv P "__module__" 232 (.str "phpcore.faults" 194), kv P "__firstlineno__" 236 (.int 10 235), kv P "__static_attributes__" 237 (.ref 49), kv P "__doc__" 238 .none] 2, #[]⟩
noncomputable def o51x0 (P : Params) : Obj := ⟨.type "type", none, .cls ⟨"LeftOut", [.ref 38], [.ref 51, .ref 38, .type "Exception", .type "BaseException", .type "object"], 50, "LeftOut", true, [], [], false, none, false⟩, #[some (.ref 42), none, some (.str "LeftOut" 225), some (.str "LeftOut" 233), some (.builtin "Exception.__new__"), some (.bool true)]⟩
noncomputable def o52x0 (P : Params) : Obj := ⟨.type "super", none, .fields #[.ref 51, .ref 51, .ref 51], #[]⟩
noncomputable def o53x0 (P : Params) : Obj := ⟨.type "builtin_function_or_method", none, .fields #[.builtin "object.__init_subclass__", .ref 51], #[]⟩
noncomputable def t1 (P : Params) : BT := (N boot_o_0 P (N boot_o_1 P (N o3x0 P (N boot_o_7 P (N oa P (l o31x0 P) (l o47x0 P)) (N o23x0 P (l o39x0 P) .nil)) (N oa P (N o19x0 P (l o35x0 P) (l o51x0 P)) (N o27x0 P (l o23x0 P) .nil))) (N boot_o_5 P (N boot_o_9 P (N o17x0 P (l o33x0 P) (l oa P)) (N oa P (l o41x0 P) .nil)) (N o13a P (N o21x0 P (l o37x0 P) (l o53x0 P)) (N oa P (l oa P) .nil)))) (N o2x0 P (N boot_o_4 P (N boot_o_8 P (N ob P (l oa P) (l o48x0 P)) (N o24x0 P (l o40x0 P) .nil)) (N o12x0 P (N o20x0 P (l o36x0 P) (l o52x0 P)) (N o28x0 P (l o44x0 P) .nil))) (N boot_o_6 P (N boot_o_10 P (N oa P (l o34x0 P) (l o50x0 P)) (N o26x0 P (l o42x0 P) .nil)) (N o14a P (N o22x0 P (l o38x0 P) .nil) (N ob P (l ob P) .nil)))))
noncomputable def s1 (w : World) (os : OsState) : SharedT := ⟨t1 w.params, 54, ⟨[], [], [], 0, [], [], false, #[], [], 0, false, false, false, 0, [2000, 10, 10], false, 0, true, [], [], 0, false⟩, ⟨[]⟩, ⟨0, 0, 0, 0⟩, 241, os⟩
noncomputable def sts1 : List Stmt := (bE.drop 4).take 6
noncomputable def o2x1 (P : Params) : Obj := ⟨.none, none, .dict #[kv P "type.__subclasses__.Exception.0" 221 (.int 38 0), kv P "type.__subclasses__.Exception.n" 222 (.int 2 0), kv P "type.__subclasses__.Exception.1" 290 (.int 83 0)] 3, #[]⟩
noncomputable def o3x1 (P : Params) : Obj := ⟨.type "dict", none, .dict #[kv P "__name__" 165 (.str "phpcore.slots" 313), kv P "__doc__" 166 .none, kv P "__package__" 167 .none, kv P "__loader__" 168 (.builtin "__main__.__loader__#opaque"), kv P "__spec__" 169 .none, kv P "__annotations__" 170 (.ref 6), kv P "__builtins__" 171 (.ref 4), kv P "__file__" 173 (.str "/claim/cut.py" 172), kv P "__cached__" 174 .none, kv P "_wall" 193 (.ref 21), kv P "PhpFault" 224 (.ref 38), kv P "LeftOut" 240 (.ref 51), kv P "Misused" 256 (.ref 63), kv P "Thrown" 293 (.ref 83), kv P "error" 300 (.ref 93), kv P "least" 306 (.ref 100), kv P "greatest" 312 (.ref 107)] 17, #[]⟩
noncomputable def o12x1 (P : Params) : Obj := ⟨.none, none, .fields #[.int 1 0, .int 0 0, .ref 20, .int 5 0, .int 0 0, .ref 27, .int 10 0, .int 0 0, .ref 47, .int 12 0, .int 0 0, .ref 59, .int 14 0, .int 0 0, .ref 71, .int 23 0, .int 0 0, .ref 92, .int 25 0, .int 0 0, .ref 99, .int 27 0, .int 0 0, .ref 106], #[]⟩
noncomputable def o38x1 (P : Params) : Obj := ⟨.type "type", none, .cls ⟨"PhpFault", [.type "Exception"], [.ref 38, .type "Exception", .type "BaseException", .type "object"], 37, "PhpFault", true, [], [.ref 51, .ref 63], false, none, false⟩, #[some (.ref 22), none, some (.str "PhpFault" 196), some (.str "PhpFault" 204), some (.builtin "Exception.__new__"), some (.bool true)]⟩
noncomputable def o56x1 (P : Params) : Obj := ⟨.type "dict", none, .dict #[kv P "__module__" 248 (.str "phpcore.faults" 194), kv P "__qualname__" 250 (.str "Misused" 249), kv P "__firstlineno__" 252 (.int 12 251), kv P "__static_attributes__" 253 (.ref 61)] 4, #[]⟩
noncomputable def o59x1 (P : Params) : Obj := ⟨.type "code", none, .fields #[.str "Misused" 243, .str "Misused" 244, .str "/claim/cut.py" 245, .int 12 0, .int 0 0, .int 0 0, .int 0 0, .int 0 0, .ref 57, .bool false, .int 181 0, .ref 58, .none, .none, .none, .none, .int 246 0, .int 12 0, .str "/claim/cut.py" 247], #[]⟩
noncomputable def o60x1 (P : Params) : Obj := ⟨.type "frame", none, .plain, #[some (.ref 59), some (.ref 3), some (.ref 56), none, some (.str "phpcore.faults" 194), none, some (.ref 0)]⟩
noncomputable def o62x1 (P : Params) : Obj := ⟨.type "dict", none, .dict #[kv P "__module__" 248 (.str "phpcore.faults" 194), kv P "__firstlineno__" 252 (.int 12 251), kv P "__static_attributes__" 253 (.ref 61), kv P "__doc__" 254 .none] 2, #[]⟩
noncomputable def o63x1 (P : Params) : Obj := ⟨.type "type", none, .cls ⟨"Misused", [.ref 38], [.ref 63, .ref 38, .type "Exception", .type "BaseException", .type "object"], 62, "Misused", true, [], [], false, none, false⟩, #[some (.ref 54), none, some (.str "Misused" 241), some (.str "Misused" 249), some (.builtin "Exception.__new__"), some (.bool true)]⟩
noncomputable def o64x1 (P : Params) : Obj := ⟨.type "super", none, .fields #[.ref 63, .ref 63, .ref 63], #[]⟩
noncomputable def o65x1 (P : Params) : Obj := ⟨.type "builtin_function_or_method", none, .fields #[.builtin "object.__init_subclass__", .ref 63], #[]⟩
noncomputable def o68x1 (P : Params) : Obj := ⟨.type "dict", none, .dict #[kv P "__module__" 264 (.str "phpcore.faults" 194), kv P "__qualname__" 266 (.str "Thrown" 265), kv P "__firstlineno__" 268 (.int 14 267), kv P "__init__" 280 (.ref 80), kv P "__static_attributes__" 286 (.ref 81)] 5, #[]⟩
noncomputable def o70x1 (P : Params) : Obj := ⟨.none, none, .fields #[.int 16 0, .int 4 0, .ref 79], #[]⟩
noncomputable def o71x1 (P : Params) : Obj := ⟨.type "code", none, .fields #[.str "Thrown" 259, .str "Thrown" 260, .str "/claim/cut.py" 261, .int 14 0, .int 0 0, .int 0 0, .int 0 0, .int 0 0, .ref 69, .bool false, .int 181 0, .ref 70, .none, .none, .none, .none, .int 262 0, .int 14 0, .str "/claim/cut.py" 263], #[]⟩
noncomputable def o72x1 (P : Params) : Obj := ⟨.type "frame", none, .plain, #[some (.ref 71), some (.ref 3), some (.ref 68), none, some (.str "phpcore.faults" 194), none, some (.ref 0)]⟩
noncomputable def o73x1 (P : Params) : Obj := ⟨.type "tuple", none, .seq #[.int 0 269, .none] 0, #[]⟩
noncomputable def o76x1 (P : Params) : Obj := ⟨.type "tuple", none, .seq #[.str "self" 273, .str "name" 274, .str "text" 275, .str "code" 276, .str "value" 277] 0, #[]⟩
noncomputable def o78x1 (P : Params) : Obj := ⟨.none, none, .func ⟨"__init__", "Thrown.__init__", fA (M 5 0), .stmts (fB (M 5 0)), fS (M 5 0), 0, [], .none, .none, .none, .none, none, .none, .none, 0⟩, #[]⟩
noncomputable def o79x1 (P : Params) : Obj := ⟨.type "code", none, .fields #[.str "__init__" 270, .str "Thrown.__init__" 271, .str "/claim/cut.py" 272, .int 16 0, .int 5 0, .int 0 0, .int 0 0, .int 3 0, .ref 74, .bool true, .int 181 0, .ref 75, .none, .ref 76, .ref 77, .ref 78, .int 278 0, .int 16 0, .str "/claim/cut.py" 279], #[]⟩
noncomputable def o80x1 (P : Params) : Obj := ⟨.type "function", none, .func ⟨"__init__", "Thrown.__init__", fA (M 5 0), .stmts (fB (M 5 0)), fS (M 5 0), 3, [], .ref 73, .none, .none, .str "phpcore.faults" 194, none, .ref 79, .none, 0⟩, #[]⟩
noncomputable def o81x1 (P : Params) : Obj := ⟨.type "tuple", none, .seq #[.str "code" 281, .str "name" 282, .str "previous" 283, .str "text" 284, .str "value" 285] 0, #[]⟩
noncomputable def o82x1 (P : Params) : Obj := ⟨.type "dict", none, .dict #[kv P "__module__" 264 (.str "phpcore.faults" 194), kv P "__firstlineno__" 268 (.int 14 267), kv P "__init__" 280 (.ref 80), kv P "__static_attributes__" 286 (.ref 81), kv P "__weakref__" 288 (.ref 84), kv P "__doc__" 289 .none] 3, #[]⟩
noncomputable def o83x1 (P : Params) : Obj := ⟨.type "type", none, .cls ⟨"Thrown", [.type "Exception"], [.ref 83, .type "Exception", .type "BaseException", .type "object"], 82, "Thrown", true, [], [], false, none, false⟩, #[some (.ref 66), none, some (.str "Thrown" 257), some (.str "Thrown" 265), some (.builtin "Exception.__new__"), some (.bool true)]⟩
noncomputable def o84x1 (P : Params) : Obj := ⟨.type "getset_descriptor", none, .fields #[.str "__weakref__" 287, .ref 83, .builtin "ExceptionGroup.__weakref__", .none], #[]⟩
noncomputable def o85x1 (P : Params) : Obj := ⟨.type "super", none, .fields #[.ref 83, .ref 83, .ref 83], #[]⟩
noncomputable def o86x1 (P : Params) : Obj := ⟨.type "builtin_function_or_method", none, .fields #[.builtin "object.__init_subclass__", .ref 83], #[]⟩
noncomputable def o89x1 (P : Params) : Obj := ⟨.type "tuple", none, .seq #[.str "text" 297] 0, #[]⟩
noncomputable def o91x1 (P : Params) : Obj := ⟨.none, none, .func ⟨"error", "error", fA (S 6), .stmts (fB (S 6)), fS (S 6), 0, [], .none, .none, .none, .none, none, .none, .none, 0⟩, #[]⟩
noncomputable def o92x1 (P : Params) : Obj := ⟨.type "code", none, .fields #[.str "error" 294, .str "error" 295, .str "/claim/cut.py" 296, .int 23 0, .int 1 0, .int 0 0, .int 0 0, .int 3 0, .ref 87, .bool true, .int 181 0, .ref 88, .none, .ref 89, .ref 90, .ref 91, .int 298 0, .int 23 0, .str "/claim/cut.py" 299], #[]⟩
noncomputable def o93x1 (P : Params) : Obj := ⟨.type "function", none, .func ⟨"error", "error", fA (S 6), .stmts (fB (S 6)), fS (S 6), 3, [], .none, .none, .none, .str "phpcore.faults" 194, none, .ref 92, .none, 0⟩, #[]⟩
noncomputable def o98x1 (P : Params) : Obj := ⟨.none, none, .func ⟨"least", "least", fA (S 7), .stmts (fB (S 7)), fS (S 7), 0, [], .none, .none, .none, .none, none, .none, .none, 0⟩, #[]⟩
noncomputable def o99x1 (P : Params) : Obj := ⟨.type "code", none, .fields #[.str "least" 301, .str "least" 302, .str "/claim/cut.py" 303, .int 25 0, .int 0 0, .int 0 0, .int 0 0, .int 3 0, .ref 94, .bool true, .int 181 0, .ref 95, .none, .ref 96, .ref 97, .ref 98, .int 304 0, .int 25 0, .str "/claim/cut.py" 305], #[]⟩
noncomputable def o100x1 (P : Params) : Obj := ⟨.type "function", none, .func ⟨"least", "least", fA (S 7), .stmts (fB (S 7)), fS (S 7), 3, [], .none, .none, .none, .str "phpcore.faults" 194, none, .ref 99, .none, 0⟩, #[]⟩
noncomputable def o105x1 (P : Params) : Obj := ⟨.none, none, .func ⟨"greatest", "greatest", fA (S 8), .stmts (fB (S 8)), fS (S 8), 0, [], .none, .none, .none, .none, none, .none, .none, 0⟩, #[]⟩
noncomputable def o106x1 (P : Params) : Obj := ⟨.type "code", none, .fields #[.str "greatest" 307, .str "greatest" 308, .str "/claim/cut.py" 309, .int 27 0, .int 0 0, .int 0 0, .int 0 0, .int 3 0, .ref 101, .bool true, .int 181 0, .ref 102, .none, .ref 103, .ref 104, .ref 105, .int 310 0, .int 27 0, .str "/claim/cut.py" 311], #[]⟩
noncomputable def o107x1 (P : Params) : Obj := ⟨.type "function", none, .func ⟨"greatest", "greatest", fA (S 8), .stmts (fB (S 8)), fS (S 8), 3, [], .none, .none, .none, .str "phpcore.faults" 194, none, .ref 106, .none, 0⟩, #[]⟩
noncomputable def t2 (P : Params) : BT := (N boot_o_0 P (N boot_o_1 P (N o3x1 P (N boot_o_7 P (N oa P (N o31x0 P (l o63x1 P) (l ob P)) (N o47x0 P (l o79x1 P) .nil)) (N o23x0 P (N o39x0 P (l o71x1 P) (l oa P)) (N o23x0 P (l oa P) .nil))) (N oa P (N o19x0 P (N o35x0 P (l o23x0 P) (l o99x1 P)) (N o51x0 P (l o83x1 P) .nil)) (N o27x0 P (N o23x0 P (l ob P) (l o107x1 P)) (N o59x1 P (l o91x1 P) .nil)))) (N boot_o_5 P (N boot_o_9 P (N o17x0 P (N o33x0 P (l o65x1 P) (l oa P)) (N oa P (l o81x1 P) .nil)) (N oa P (N o41x0 P (l o73x1 P) (l o105x1 P)) (N oa P (l o89x1 P) .nil))) (N o13a P (N o21x0 P (N o37x0 P (l oa P) (l oa P)) (N o53x0 P (l o85x1 P) .nil)) (N oa P (N oa P (l oa P) .nil) (N oa P (l o93x1 P) .nil))))) (N o2x1 P (N boot_o_4 P (N boot_o_8 P (N ob P (N oa P (l o64x1 P) (l oa P)) (N o48x0 P (l o80x1 P) .nil)) (N o24x0 P (N o40x0 P (l o72x1 P) (l oa P)) (N o56x1 P (l ob P) .nil))) (N o12x1 P (N o20x0 P (N o36x0 P (l o68x1 P) (l o100x1 P)) (N o52x0 P (l o84x1 P) .nil)) (N o28x0 P (N o44x0 P (l o76x1 P) .nil) (N o60x1 P (l o92x1 P) .nil)))) (N boot_o_6 P (N boot_o_10 P (N oa P (N o34x0 P (l o22x0 P) (l o98x1 P)) (N o50x0 P (l o82x1 P) .nil)) (N o26x0 P (N o42x0 P (l oa P) (l o106x1 P)) (N ob P (l oa P) .nil))) (N o14a P (N o22x0 P (N o38x1 P (l o70x1 P) (l ob P)) (N o42x0 P (l o86x1 P) .nil)) (N ob P (N ob P (l o78x1 P) .nil) (N o62x1 P (l oa P) .nil))))))
noncomputable def s2 (w : World) (os : OsState) : SharedT := ⟨t2 w.params, 108, ⟨[], [], [], 0, [], [], false, #[], [], 0, false, false, false, 0, [2000, 10, 10], false, 0, true, [], [], 0, false⟩, ⟨[]⟩, ⟨0, 0, 0, 0⟩, 315, os⟩
noncomputable def sts2 : List Stmt := (bE.drop 10).take 2
noncomputable def o3x2 (P : Params) : Obj := ⟨.type "dict", none, .dict #[kv P "__name__" 165 (.str "phpcore.slots" 313), kv P "__doc__" 166 .none, kv P "__package__" 167 .none, kv P "__loader__" 168 (.builtin "__main__.__loader__#opaque"), kv P "__spec__" 169 .none, kv P "__annotations__" 170 (.ref 6), kv P "__builtins__" 171 (.ref 4), kv P "__file__" 173 (.str "/claim/cut.py" 172), kv P "__cached__" 174 .none, kv P "_wall" 193 (.ref 21), kv P "PhpFault" 224 (.ref 38), kv P "LeftOut" 240 (.ref 51), kv P "Misused" 256 (.ref 63), kv P "Thrown" 293 (.ref 83), kv P "error" 300 (.ref 93), kv P "least" 306 (.ref 100), kv P "greatest" 312 (.ref 107), kv P "Ref" 345 (.ref 125), kv P "Absent" 374 (.ref 147)] 19, #[]⟩
noncomputable def o12x2 (P : Params) : Obj := ⟨.none, none, .fields #[.int 1 0, .int 0 0, .ref 20, .int 5 0, .int 0 0, .ref 27, .int 10 0, .int 0 0, .ref 47, .int 12 0, .int 0 0, .ref 59, .int 14 0, .int 0 0, .ref 71, .int 23 0, .int 0 0, .ref 92, .int 25 0, .int 0 0, .ref 99, .int 27 0, .int 0 0, .ref 106, .int 30 0, .int 0 0, .ref 113, .int 36 0, .int 0 0, .ref 135], #[]⟩
noncomputable def o110x2 (P : Params) : Obj := ⟨.type "dict", none, .dict #[kv P "__module__" 322 (.str "phpcore.slots" 313), kv P "__qualname__" 324 (.str "Ref" 323), kv P "__firstlineno__" 326 (.int 30 325), kv P "__init__" 334 (.ref 122), kv P "__static_attributes__" 338 (.ref 123)] 5, #[]⟩
noncomputable def o112x2 (P : Params) : Obj := ⟨.none, none, .fields #[.int 32 0, .int 4 0, .ref 121], #[]⟩
noncomputable def o113x2 (P : Params) : Obj := ⟨.type "code", none, .fields #[.str "Ref" 317, .str "Ref" 318, .str "/claim/cut.py" 319, .int 30 0, .int 0 0, .int 0 0, .int 0 0, .int 0 0, .ref 111, .bool false, .int 181 0, .ref 112, .none, .none, .none, .none, .int 320 0, .int 30 0, .str "/claim/cut.py" 321], #[]⟩
noncomputable def o114x2 (P : Params) : Obj := ⟨.type "frame", none, .plain, #[some (.ref 113), some (.ref 3), some (.ref 110), none, some (.str "phpcore.slots" 313), none, some (.ref 0)]⟩
noncomputable def o115x2 (P : Params) : Obj := ⟨.type "tuple", none, .seq #[.none] 0, #[]⟩
noncomputable def o118x2 (P : Params) : Obj := ⟨.type "tuple", none, .seq #[.str "self" 330, .str "value" 331] 0, #[]⟩
noncomputable def o120x2 (P : Params) : Obj := ⟨.none, none, .func ⟨"__init__", "Ref.__init__", fA (M 10 0), .stmts (fB (M 10 0)), fS (M 10 0), 0, [], .none, .none, .none, .none, none, .none, .none, 0⟩, #[]⟩
noncomputable def o121x2 (P : Params) : Obj := ⟨.type "code", none, .fields #[.str "__init__" 327, .str "Ref.__init__" 328, .str "/claim/cut.py" 329, .int 32 0, .int 2 0, .int 0 0, .int 0 0, .int 3 0, .ref 116, .bool true, .int 181 0, .ref 117, .none, .ref 118, .ref 119, .ref 120, .int 332 0, .int 32 0, .str "/claim/cut.py" 333], #[]⟩
noncomputable def o122x2 (P : Params) : Obj := ⟨.type "function", none, .func ⟨"__init__", "Ref.__init__", fA (M 10 0), .stmts (fB (M 10 0)), fS (M 10 0), 3, [], .ref 115, .none, .none, .str "phpcore.slots" 313, none, .ref 121, .none, 0⟩, #[]⟩
noncomputable def o123x2 (P : Params) : Obj := ⟨.type "tuple", none, .seq #[.str "holders" 335, .str "types" 336, .str "value" 337] 0, #[]⟩
noncomputable def o124x2 (P : Params) : Obj := ⟨.type "dict", none, .dict #[kv P "__module__" 322 (.str "phpcore.slots" 313), kv P "__firstlineno__" 326 (.int 30 325), kv P "__init__" 334 (.ref 122), kv P "__static_attributes__" 338 (.ref 123), kv P "__dict__" 340 (.ref 126), kv P "__weakref__" 342 (.ref 127), kv P "__doc__" 343 .none] 4, #[]⟩
noncomputable def o125x2 (P : Params) : Obj := ⟨.type "type", none, .cls ⟨"Ref", [.type "object"], [.ref 125, .type "object"], 124, "Ref", true, [], [], false, none, false⟩, #[none, none, some (.str "Ref" 315), some (.str "Ref" 323), some (.builtin "object.__new__"), some (.bool true)]⟩
noncomputable def o126x2 (P : Params) : Obj := ⟨.type "getset_descriptor", none, .fields #[.str "__dict__" 339, .ref 125, .builtin "function.__dict__", .builtin "function.__dict__#set"], #[]⟩
noncomputable def o127x2 (P : Params) : Obj := ⟨.type "getset_descriptor", none, .fields #[.str "__weakref__" 341, .ref 125, .builtin "ExceptionGroup.__weakref__", .none], #[]⟩
noncomputable def o128x2 (P : Params) : Obj := ⟨.type "super", none, .fields #[.ref 125, .ref 125, .ref 125], #[]⟩
noncomputable def o129x2 (P : Params) : Obj := ⟨.type "builtin_function_or_method", none, .fields #[.builtin "object.__init_subclass__", .ref 125], #[]⟩
noncomputable def o132x2 (P : Params) : Obj := ⟨.type "dict", none, .dict #[kv P "__module__" 353 (.str "phpcore.slots" 313), kv P "__qualname__" 355 (.str "Absent" 354), kv P "__firstlineno__" 357 (.int 36 356), kv P "__init__" 365 (.ref 144), kv P "__static_attributes__" 367 (.ref 145)] 5, #[]⟩
noncomputable def o134x2 (P : Params) : Obj := ⟨.none, none, .fields #[.int 38 0, .int 4 0, .ref 143], #[]⟩
noncomputable def o135x2 (P : Params) : Obj := ⟨.type "code", none, .fields #[.str "Absent" 348, .str "Absent" 349, .str "/claim/cut.py" 350, .int 36 0, .int 0 0, .int 0 0, .int 0 0, .int 0 0, .ref 133, .bool false, .int 181 0, .ref 134, .none, .none, .none, .none, .int 351 0, .int 36 0, .str "/claim/cut.py" 352], #[]⟩
noncomputable def o136x2 (P : Params) : Obj := ⟨.type "frame", none, .plain, #[some (.ref 135), some (.ref 3), some (.ref 132), none, some (.str "phpcore.slots" 313), none, some (.ref 0)]⟩
noncomputable def o137x2 (P : Params) : Obj := ⟨.type "tuple", none, .seq #[.bool false] 0, #[]⟩
noncomputable def o140x2 (P : Params) : Obj := ⟨.type "tuple", none, .seq #[.str "self" 361, .str "was_unset" 362] 0, #[]⟩
noncomputable def o142x2 (P : Params) : Obj := ⟨.none, none, .func ⟨"__init__", "Absent.__init__", fA (M 11 0), .stmts (fB (M 11 0)), fS (M 11 0), 0, [], .none, .none, .none, .none, none, .none, .none, 0⟩, #[]⟩
noncomputable def o143x2 (P : Params) : Obj := ⟨.type "code", none, .fields #[.str "__init__" 358, .str "Absent.__init__" 359, .str "/claim/cut.py" 360, .int 38 0, .int 2 0, .int 0 0, .int 0 0, .int 3 0, .ref 138, .bool true, .int 181 0, .ref 139, .none, .ref 140, .ref 141, .ref 142, .int 363 0, .int 38 0, .str "/claim/cut.py" 364], #[]⟩
noncomputable def o144x2 (P : Params) : Obj := ⟨.type "function", none, .func ⟨"__init__", "Absent.__init__", fA (M 11 0), .stmts (fB (M 11 0)), fS (M 11 0), 3, [], .ref 137, .none, .none, .str "phpcore.slots" 313, none, .ref 143, .none, 0⟩, #[]⟩
noncomputable def o145x2 (P : Params) : Obj := ⟨.type "tuple", none, .seq #[.str "was_unset" 366] 0, #[]⟩
noncomputable def o146x2 (P : Params) : Obj := ⟨.type "dict", none, .dict #[kv P "__module__" 353 (.str "phpcore.slots" 313), kv P "__firstlineno__" 357 (.int 36 356), kv P "__init__" 365 (.ref 144), kv P "__static_attributes__" 367 (.ref 145), kv P "__dict__" 369 (.ref 148), kv P "__weakref__" 371 (.ref 149), kv P "__doc__" 372 .none] 4, #[]⟩
noncomputable def o147x2 (P : Params) : Obj := ⟨.type "type", none, .cls ⟨"Absent", [.type "object"], [.ref 147, .type "object"], 146, "Absent", true, [], [], false, none, false⟩, #[none, none, some (.str "Absent" 346), some (.str "Absent" 354), some (.builtin "object.__new__"), some (.bool true)]⟩
noncomputable def o148x2 (P : Params) : Obj := ⟨.type "getset_descriptor", none, .fields #[.str "__dict__" 368, .ref 147, .builtin "function.__dict__", .builtin "function.__dict__#set"], #[]⟩
noncomputable def o149x2 (P : Params) : Obj := ⟨.type "getset_descriptor", none, .fields #[.str "__weakref__" 370, .ref 147, .builtin "ExceptionGroup.__weakref__", .none], #[]⟩
noncomputable def o150x2 (P : Params) : Obj := ⟨.type "super", none, .fields #[.ref 147, .ref 147, .ref 147], #[]⟩
noncomputable def o151x2 (P : Params) : Obj := ⟨.type "builtin_function_or_method", none, .fields #[.builtin "object.__init_subclass__", .ref 147], #[]⟩
noncomputable def t3 (P : Params) : BT := (N boot_o_0 P (N boot_o_1 P (N o3x2 P (N boot_o_7 P (N oa P (N o31x0 P (N o63x1 P (l o127x2 P) .nil) (l ob P)) (N o47x0 P (N o79x1 P (l o143x2 P) .nil) (l oa P))) (N o23x0 P (N o39x0 P (N o71x1 P (l o135x2 P) .nil) (l oa P)) (N o23x0 P (N oa P (l o151x2 P) .nil) (l oa P)))) (N oa P (N o19x0 P (N o35x0 P (N o23x0 P (l o23x0 P) .nil) (l o99x1 P)) (N o51x0 P (N o83x1 P (l o147x2 P) .nil) (l o115x2 P))) (N o27x0 P (N o23x0 P (N ob P (l ob P) .nil) (l o107x1 P)) (N o59x1 P (l o91x1 P) (l o123x2 P))))) (N boot_o_5 P (N boot_o_9 P (N o17x0 P (N o33x0 P (N o65x1 P (l o129x2 P) .nil) (l oa P)) (N oa P (N o81x1 P (l o145x2 P) .nil) (l o113x2 P))) (N oa P (N o41x0 P (N o73x1 P (l o137x2 P) .nil) (l o105x1 P)) (N oa P (l o89x1 P) (l o121x2 P)))) (N o13a P (N o21x0 P (N o37x0 P (N oa P (l oa P) .nil) (l oa P)) (N o53x0 P (N o85x1 P (l o149x2 P) .nil) (l ob P))) (N oa P (N oa P (N oa P (l oa P) .nil) (l o23x0 P)) (N oa P (l o93x1 P) (l o125x2 P)))))) (N o2x1 P (N boot_o_4 P (N boot_o_8 P (N ob P (N oa P (N o64x1 P (l o128x2 P) .nil) (l oa P)) (N o48x0 P (N o80x1 P (l o144x2 P) .nil) (l o112x2 P))) (N o24x0 P (N o40x0 P (N o72x1 P (l o136x2 P) .nil) (l oa P)) (N o56x1 P (l ob P) (l o120x2 P)))) (N o12x2 P (N o20x0 P (N o36x0 P (N o68x1 P (l o132x2 P) .nil) (l o100x1 P)) (N o52x0 P (N o84x1 P (l o148x2 P) .nil) (l oa P))) (N o28x0 P (N o44x0 P (N o76x1 P (l o140x2 P) .nil) (l oa P)) (N o60x1 P (l o92x1 P) (l o124x2 P))))) (N boot_o_6 P (N boot_o_10 P (N oa P (N o34x0 P (N o22x0 P (l oa P) .nil) (l o98x1 P)) (N o50x0 P (N o82x1 P (l o146x2 P) .nil) (l o114x2 P))) (N o26x0 P (N o42x0 P (N oa P (l oa P) .nil) (l o106x1 P)) (N ob P (l oa P) (l o122x2 P)))) (N o14a P (N o22x0 P (N o38x1 P (N o70x1 P (l o134x2 P) .nil) (l ob P)) (N o42x0 P (N o86x1 P (l o150x2 P) .nil) (l o118x2 P))) (N ob P (N ob P (N o78x1 P (l o142x2 P) .nil) (l o110x2 P)) (N o62x1 P (l oa P) (l o126x2 P)))))))
noncomputable def s3 (w : World) (os : OsState) : SharedT := ⟨t3 w.params, 152, ⟨[], [], [], 0, [], [], false, #[], [], 0, false, false, false, 0, [2000, 10, 10], false, 0, true, [], [], 0, false⟩, ⟨[]⟩, ⟨0, 0, 0, 0⟩, 375, os⟩
noncomputable def sts3 : List Stmt := (bE.drop 12).take 3
noncomputable def o3x3 (P : Params) : Obj := ⟨.type "dict", none, .dict #[kv P "__name__" 165 (.str "phpcore.table" 418), kv P "__doc__" 166 .none, kv P "__package__" 167 .none, kv P "__loader__" 168 (.builtin "__main__.__loader__#opaque"), kv P "__spec__" 169 .none, kv P "__annotations__" 170 (.ref 6), kv P "__builtins__" 171 (.ref 4), kv P "__file__" 173 (.str "/claim/cut.py" 172), kv P "__cached__" 174 .none, kv P "_wall" 193 (.ref 21), kv P "PhpFault" 224 (.ref 38), kv P "LeftOut" 240 (.ref 51), kv P "Misused" 256 (.ref 63), kv P "Thrown" 293 (.ref 83), kv P "error" 300 (.ref 93), kv P "least" 306 (.ref 100), kv P "greatest" 312 (.ref 107), kv P "Ref" 345 (.ref 125), kv P "Absent" 374 (.ref 147), kv P "Obj" 410 (.ref 168), kv P "deref" 417 (.ref 179)] 21, #[]⟩
noncomputable def o12x3 (P : Params) : Obj := ⟨.none, none, .fields #[.int 1 0, .int 0 0, .ref 20, .int 5 0, .int 0 0, .ref 27, .int 10 0, .int 0 0, .ref 47, .int 12 0, .int 0 0, .ref 59, .int 14 0, .int 0 0, .ref 71, .int 23 0, .int 0 0, .ref 92, .int 25 0, .int 0 0, .ref 99, .int 27 0, .int 0 0, .ref 106, .int 30 0, .int 0 0, .ref 113, .int 36 0, .int 0 0, .ref 135, .int 40 0, .int 0 0, .ref 157, .int 50 0, .int 0 0, .ref 178], #[]⟩
noncomputable def o154x3 (P : Params) : Obj := ⟨.type "dict", none, .dict #[kv P "__module__" 382 (.str "phpcore.slots" 313), kv P "__qualname__" 384 (.str "Obj" 383), kv P "__firstlineno__" 386 (.int 40 385), kv P "__init__" 395 (.ref 165), kv P "__static_attributes__" 403 (.ref 166)] 5, #[]⟩
noncomputable def o156x3 (P : Params) : Obj := ⟨.none, none, .fields #[.int 42 0, .int 4 0, .ref 164], #[]⟩
noncomputable def o157x3 (P : Params) : Obj := ⟨.type "code", none, .fields #[.str "Obj" 377, .str "Obj" 378, .str "/claim/cut.py" 379, .int 40 0, .int 0 0, .int 0 0, .int 0 0, .int 0 0, .ref 155, .bool false, .int 181 0, .ref 156, .none, .none, .none, .none, .int 380 0, .int 40 0, .str "/claim/cut.py" 381], #[]⟩
noncomputable def o158x3 (P : Params) : Obj := ⟨.type "frame", none, .plain, #[some (.ref 157), some (.ref 3), some (.ref 154), none, some (.str "phpcore.slots" 313), none, some (.ref 0)]⟩
noncomputable def o161x3 (P : Params) : Obj := ⟨.type "tuple", none, .seq #[.str "self" 390, .str "cls" 391, .str "handle" 392] 0, #[]⟩
noncomputable def o163x3 (P : Params) : Obj := ⟨.none, none, .func ⟨"__init__", "Obj.__init__", fA (M 12 0), .stmts (fB (M 12 0)), fS (M 12 0), 0, [], .none, .none, .none, .none, none, .none, .none, 0⟩, #[]⟩
noncomputable def o164x3 (P : Params) : Obj := ⟨.type "code", none, .fields #[.str "__init__" 387, .str "Obj.__init__" 388, .str "/claim/cut.py" 389, .int 42 0, .int 3 0, .int 0 0, .int 0 0, .int 3 0, .ref 159, .bool true, .int 181 0, .ref 160, .none, .ref 161, .ref 162, .ref 163, .int 393 0, .int 42 0, .str "/claim/cut.py" 394], #[]⟩
noncomputable def o165x3 (P : Params) : Obj := ⟨.type "function", none, .func ⟨"__init__", "Obj.__init__", fA (M 12 0), .stmts (fB (M 12 0)), fS (M 12 0), 3, [], .none, .none, .none, .str "phpcore.slots" 313, none, .ref 164, .none, 0⟩, #[]⟩
noncomputable def o166x3 (P : Params) : Obj := ⟨.type "tuple", none, .seq #[.str "cls" 396, .str "data" 397, .str "guards" 398, .str "handle" 399, .str "is_busy" 400, .str "is_destructed" 401, .str "props" 402] 0, #[]⟩
noncomputable def o167x3 (P : Params) : Obj := ⟨.type "dict", none, .dict #[kv P "__module__" 382 (.str "phpcore.slots" 313), kv P "__firstlineno__" 386 (.int 40 385), kv P "__init__" 395 (.ref 165), kv P "__static_attributes__" 403 (.ref 166), kv P "__dict__" 405 (.ref 169), kv P "__weakref__" 407 (.ref 170), kv P "__doc__" 408 .none] 4, #[]⟩
noncomputable def o168x3 (P : Params) : Obj := ⟨.type "type", none, .cls ⟨"Obj", [.type "object"], [.ref 168, .type "object"], 167, "Obj", true, [], [], false, none, false⟩, #[none, none, some (.str "Obj" 375), some (.str "Obj" 383), some (.builtin "object.__new__"), some (.bool true)]⟩
noncomputable def o169x3 (P : Params) : Obj := ⟨.type "getset_descriptor", none, .fields #[.str "__dict__" 404, .ref 168, .builtin "function.__dict__", .builtin "function.__dict__#set"], #[]⟩
noncomputable def o170x3 (P : Params) : Obj := ⟨.type "getset_descriptor", none, .fields #[.str "__weakref__" 406, .ref 168, .builtin "ExceptionGroup.__weakref__", .none], #[]⟩
noncomputable def o171x3 (P : Params) : Obj := ⟨.type "super", none, .fields #[.ref 168, .ref 168, .ref 168], #[]⟩
noncomputable def o172x3 (P : Params) : Obj := ⟨.type "builtin_function_or_method", none, .fields #[.builtin "object.__init_subclass__", .ref 168], #[]⟩
noncomputable def o175x3 (P : Params) : Obj := ⟨.type "tuple", none, .seq #[.str "slot" 414] 0, #[]⟩
noncomputable def o177x3 (P : Params) : Obj := ⟨.none, none, .func ⟨"deref", "deref", fA (S 13), .stmts (fB (S 13)), fS (S 13), 0, [], .none, .none, .none, .none, none, .none, .none, 0⟩, #[]⟩
noncomputable def o178x3 (P : Params) : Obj := ⟨.type "code", none, .fields #[.str "deref" 411, .str "deref" 412, .str "/claim/cut.py" 413, .int 50 0, .int 1 0, .int 0 0, .int 0 0, .int 3 0, .ref 173, .bool true, .int 181 0, .ref 174, .none, .ref 175, .ref 176, .ref 177, .int 415 0, .int 50 0, .str "/claim/cut.py" 416], #[]⟩
noncomputable def o179x3 (P : Params) : Obj := ⟨.type "function", none, .func ⟨"deref", "deref", fA (S 13), .stmts (fB (S 13)), fS (S 13), 3, [], .none, .none, .none, .str "phpcore.slots" 313, none, .ref 178, .none, 0⟩, #[]⟩
noncomputable def t4 (P : Params) : BT := (N boot_o_0 P (N boot_o_1 P (N o3x3 P (N boot_o_7 P (N oa P (N o31x0 P (N o63x1 P (l o127x2 P) .nil) (N ob P (l oa P) .nil)) (N o47x0 P (N o79x1 P (l o143x2 P) .nil) (N oa P (l o175x3 P) .nil))) (N o23x0 P (N o39x0 P (N o71x1 P (l o135x2 P) .nil) (N oa P (l o167x3 P) .nil)) (N o23x0 P (N oa P (l o151x2 P) .nil) (l oa P)))) (N oa P (N o19x0 P (N o35x0 P (N o23x0 P (l o23x0 P) .nil) (N o99x1 P (l o163x3 P) .nil)) (N o51x0 P (N o83x1 P (l o147x2 P) .nil) (N o115x2 P (l o179x3 P) .nil))) (N o27x0 P (N o23x0 P (N ob P (l ob P) .nil) (N o107x1 P (l o171x3 P) .nil)) (N o59x1 P (N o91x1 P (l oa P) .nil) (l o123x2 P))))) (N boot_o_5 P (N boot_o_9 P (N o17x0 P (N o33x0 P (N o65x1 P (l o129x2 P) .nil) (N oa P (l o161x3 P) .nil)) (N oa P (N o81x1 P (l o145x2 P) .nil) (N o113x2 P (l o177x3 P) .nil))) (N oa P (N o41x0 P (N o73x1 P (l o137x2 P) .nil) (N o105x1 P (l o169x3 P) .nil)) (N oa P (N o89x1 P (l o23x0 P) .nil) (l o121x2 P)))) (N o13a P (N o21x0 P (N o37x0 P (N oa P (l oa P) .nil) (N oa P (l o165x3 P) .nil)) (N o53x0 P (N o85x1 P (l o149x2 P) .nil) (l ob P))) (N oa P (N oa P (N oa P (l oa P) .nil) (N o23x0 P (l oa P) .nil)) (N oa P (N o93x1 P (l o157x3 P) .nil) (l o125x2 P)))))) (N o2x1 P (N boot_o_4 P (N boot_o_8 P (N ob P (N oa P (N o64x1 P (l o128x2 P) .nil) (N oa P (l ob P) .nil)) (N o48x0 P (N o80x1 P (l o144x2 P) .nil) (N o112x2 P (l oa P) .nil))) (N o24x0 P (N o40x0 P (N o72x1 P (l o136x2 P) .nil) (N oa P (l o168x3 P) .nil)) (N o56x1 P (N ob P (l oa P) .nil) (l o120x2 P)))) (N o12x3 P (N o20x0 P (N o36x0 P (N o68x1 P (l o132x2 P) .nil) (N o100x1 P (l o164x3 P) .nil)) (N o52x0 P (N o84x1 P (l o148x2 P) .nil) (l oa P))) (N o28x0 P (N o44x0 P (N o76x1 P (l o140x2 P) .nil) (N oa P (l o172x3 P) .nil)) (N o60x1 P (N o92x1 P (l o156x3 P) .nil) (l o124x2 P))))) (N boot_o_6 P (N boot_o_10 P (N oa P (N o34x0 P (N o22x0 P (l oa P) .nil) (N o98x1 P (l oa P) .nil)) (N o50x0 P (N o82x1 P (l o146x2 P) .nil) (N o114x2 P (l o178x3 P) .nil))) (N o26x0 P (N o42x0 P (N oa P (l oa P) .nil) (N o106x1 P (l o170x3 P) .nil)) (N ob P (N oa P (l o154x3 P) .nil) (l o122x2 P)))) (N o14a P (N o22x0 P (N o38x1 P (N o70x1 P (l o134x2 P) .nil) (N ob P (l o166x3 P) .nil)) (N o42x0 P (N o86x1 P (l o150x2 P) .nil) (l o118x2 P))) (N ob P (N ob P (N o78x1 P (l o142x2 P) .nil) (N o110x2 P (l ob P) .nil)) (N o62x1 P (N oa P (l o158x3 P) .nil) (l o126x2 P)))))))
noncomputable def s4 (w : World) (os : OsState) : SharedT := ⟨t4 w.params, 180, ⟨[], [], [], 0, [], [], false, #[], [], 0, false, false, false, 0, [2000, 10, 10], false, 0, true, [], [], 0, false⟩, ⟨[]⟩, ⟨0, 0, 0, 0⟩, 420, os⟩
noncomputable def sts4 : List Stmt := (bE.drop 15).take 4
noncomputable def o3x4 (P : Params) : Obj := ⟨.type "dict", none, .dict #[kv P "__name__" 165 (.str "phpcore.table" 418), kv P "__doc__" 166 .none, kv P "__package__" 167 .none, kv P "__loader__" 168 (.builtin "__main__.__loader__#opaque"), kv P "__spec__" 169 .none, kv P "__annotations__" 170 (.ref 6), kv P "__builtins__" 171 (.ref 4), kv P "__file__" 173 (.str "/claim/cut.py" 172), kv P "__cached__" 174 .none, kv P "_wall" 193 (.ref 21), kv P "PhpFault" 224 (.ref 38), kv P "LeftOut" 240 (.ref 51), kv P "Misused" 256 (.ref 63), kv P "Thrown" 293 (.ref 83), kv P "error" 300 (.ref 93), kv P "least" 306 (.ref 100), kv P "greatest" 312 (.ref 107), kv P "Ref" 345 (.ref 125), kv P "Absent" 374 (.ref 147), kv P "Obj" 410 (.ref 168), kv P "deref" 417 (.ref 179), kv P "Arr" 527 (.ref 253), kv P "is_living" 535 (.ref 264), kv P "hash_of" 544 (.ref 271), kv P "link" 553 (.ref 278)] 25, #[]⟩
noncomputable def o12x4 (P : Params) : Obj := ⟨.none, none, .fields #[.int 1 0, .int 0 0, .ref 20, .int 5 0, .int 0 0, .ref 27, .int 10 0, .int 0 0, .ref 47, .int 12 0, .int 0 0, .ref 59, .int 14 0, .int 0 0, .ref 71, .int 23 0, .int 0 0, .ref 92, .int 25 0, .int 0 0, .ref 99, .int 27 0, .int 0 0, .ref 106, .int 30 0, .int 0 0, .ref 113, .int 36 0, .int 0 0, .ref 135, .int 40 0, .int 0 0, .ref 157, .int 50 0, .int 0 0, .ref 178, .int 57 0, .int 0 0, .ref 185, .int 105 0, .int 0 0, .ref 263, .int 107 0, .int 0 0, .ref 270, .int 114 0, .int 0 0, .ref 277], #[]⟩
noncomputable def o182x4 (P : Params) : Obj := ⟨.type "dict", none, .dict #[kv P "__module__" 427 (.str "phpcore.table" 418), kv P "__qualname__" 429 (.str "Arr" 428), kv P "__firstlineno__" 431 (.int 57 430), kv P "__init__" 440 (.ref 194), kv P "find" 449 (.ref 201), kv P "has" 457 (.ref 208), kv P "slot" 466 (.ref 215), kv P "get" 474 (.ref 222), kv P "put" 483 (.ref 229), kv P "append" 492 (.ref 236), kv P "drop" 500 (.ref 243), kv P "key_at" 508 (.ref 250), kv P "__static_attributes__" 520 (.ref 251)] 13, #[]⟩
noncomputable def o184x4 (P : Params) : Obj := ⟨.none, none, .fields #[.int 59 0, .int 4 0, .ref 193, .int 72 0, .int 4 0, .ref 200, .int 80 0, .int 4 0, .ref 207, .int 83 0, .int 4 0, .ref 214, .int 87 0, .int 4 0, .ref 221, .int 90 0, .int 4 0, .ref 228, .int 93 0, .int 4 0, .ref 235, .int 100 0, .int 4 0, .ref 242, .int 103 0, .int 4 0, .ref 249], #[]⟩
noncomputable def o185x4 (P : Params) : Obj := ⟨.type "code", none, .fields #[.str "Arr" 422, .str "Arr" 423, .str "/claim/cut.py" 424, .int 57 0, .int 0 0, .int 0 0, .int 0 0, .int 0 0, .ref 183, .bool false, .int 181 0, .ref 184, .none, .none, .none, .none, .int 425 0, .int 57 0, .str "/claim/cut.py" 426], #[]⟩
noncomputable def o186x4 (P : Params) : Obj := ⟨.type "frame", none, .plain, #[some (.ref 185), some (.ref 3), some (.ref 182), none, some (.str "phpcore.table" 418), none, some (.ref 0)]⟩
noncomputable def o187x4 (P : Params) : Obj := ⟨.type "tuple", none, .seq #[.int 8 432] 0, #[]⟩
noncomputable def o190x4 (P : Params) : Obj := ⟨.type "tuple", none, .seq #[.str "self" 436, .str "size" 437] 0, #[]⟩
noncomputable def o192x4 (P : Params) : Obj := ⟨.none, none, .func ⟨"__init__", "Arr.__init__", fA (M 15 0), .stmts (fB (M 15 0)), fS (M 15 0), 0, [], .none, .none, .none, .none, none, .none, .none, 0⟩, #[]⟩
noncomputable def o193x4 (P : Params) : Obj := ⟨.type "code", none, .fields #[.str "__init__" 433, .str "Arr.__init__" 434, .str "/claim/cut.py" 435, .int 59 0, .int 2 0, .int 0 0, .int 0 0, .int 3 0, .ref 188, .bool true, .int 181 0, .ref 189, .none, .ref 190, .ref 191, .ref 192, .int 438 0, .int 59 0, .str "/claim/cut.py" 439], #[]⟩
noncomputable def o194x4 (P : Params) : Obj := ⟨.type "function", none, .func ⟨"__init__", "Arr.__init__", fA (M 15 0), .stmts (fB (M 15 0)), fS (M 15 0), 3, [], .ref 187, .none, .none, .str "phpcore.table" 418, none, .ref 193, .none, 0⟩, #[]⟩
noncomputable def o197x4 (P : Params) : Obj := ⟨.type "tuple", none, .seq #[.str "self" 444, .str "key" 445, .str "place" 446] 0, #[]⟩
noncomputable def o199x4 (P : Params) : Obj := ⟨.none, none, .func ⟨"find", "Arr.find", fA (M 15 1), .stmts (fB (M 15 1)), fS (M 15 1), 0, [], .none, .none, .none, .none, none, .none, .none, 0⟩, #[]⟩
noncomputable def o200x4 (P : Params) : Obj := ⟨.type "code", none, .fields #[.str "find" 441, .str "Arr.find" 442, .str "/claim/cut.py" 443, .int 72 0, .int 2 0, .int 0 0, .int 0 0, .int 3 0, .ref 195, .bool true, .int 181 0, .ref 196, .none, .ref 197, .ref 198, .ref 199, .int 447 0, .int 72 0, .str "/claim/cut.py" 448], #[]⟩
noncomputable def o201x4 (P : Params) : Obj := ⟨.type "function", none, .func ⟨"find", "Arr.find", fA (M 15 1), .stmts (fB (M 15 1)), fS (M 15 1), 3, [], .none, .none, .none, .str "phpcore.table" 418, none, .ref 200, .none, 0⟩, #[]⟩
noncomputable def o204x4 (P : Params) : Obj := ⟨.type "tuple", none, .seq #[.str "self" 453, .str "key" 454] 0, #[]⟩
noncomputable def o206x4 (P : Params) : Obj := ⟨.none, none, .func ⟨"has", "Arr.has", fA (M 15 2), .stmts (fB (M 15 2)), fS (M 15 2), 0, [], .none, .none, .none, .none, none, .none, .none, 0⟩, #[]⟩
noncomputable def o207x4 (P : Params) : Obj := ⟨.type "code", none, .fields #[.str "has" 450, .str "Arr.has" 451, .str "/claim/cut.py" 452, .int 80 0, .int 2 0, .int 0 0, .int 0 0, .int 3 0, .ref 202, .bool true, .int 181 0, .ref 203, .none, .ref 204, .ref 205, .ref 206, .int 455 0, .int 80 0, .str "/claim/cut.py" 456], #[]⟩
noncomputable def o208x4 (P : Params) : Obj := ⟨.type "function", none, .func ⟨"has", "Arr.has", fA (M 15 2), .stmts (fB (M 15 2)), fS (M 15 2), 3, [], .none, .none, .none, .str "phpcore.table" 418, none, .ref 207, .none, 0⟩, #[]⟩
noncomputable def o211x4 (P : Params) : Obj := ⟨.type "tuple", none, .seq #[.str "self" 461, .str "key" 462, .str "place" 463] 0, #[]⟩
noncomputable def o213x4 (P : Params) : Obj := ⟨.none, none, .func ⟨"slot", "Arr.slot", fA (M 15 3), .stmts (fB (M 15 3)), fS (M 15 3), 0, [], .none, .none, .none, .none, none, .none, .none, 0⟩, #[]⟩
noncomputable def o214x4 (P : Params) : Obj := ⟨.type "code", none, .fields #[.str "slot" 458, .str "Arr.slot" 459, .str "/claim/cut.py" 460, .int 83 0, .int 2 0, .int 0 0, .int 0 0, .int 3 0, .ref 209, .bool true, .int 181 0, .ref 210, .none, .ref 211, .ref 212, .ref 213, .int 464 0, .int 83 0, .str "/claim/cut.py" 465], #[]⟩
noncomputable def o215x4 (P : Params) : Obj := ⟨.type "function", none, .func ⟨"slot", "Arr.slot", fA (M 15 3), .stmts (fB (M 15 3)), fS (M 15 3), 3, [], .none, .none, .none, .str "phpcore.table" 418, none, .ref 214, .none, 0⟩, #[]⟩
noncomputable def o218x4 (P : Params) : Obj := ⟨.type "tuple", none, .seq #[.str "self" 470, .str "key" 471] 0, #[]⟩
noncomputable def o220x4 (P : Params) : Obj := ⟨.none, none, .func ⟨"get", "Arr.get", fA (M 15 4), .stmts (fB (M 15 4)), fS (M 15 4), 0, [], .none, .none, .none, .none, none, .none, .none, 0⟩, #[]⟩
noncomputable def o221x4 (P : Params) : Obj := ⟨.type "code", none, .fields #[.str "get" 467, .str "Arr.get" 468, .str "/claim/cut.py" 469, .int 87 0, .int 2 0, .int 0 0, .int 0 0, .int 3 0, .ref 216, .bool true, .int 181 0, .ref 217, .none, .ref 218, .ref 219, .ref 220, .int 472 0, .int 87 0, .str "/claim/cut.py" 473], #[]⟩
noncomputable def o222x4 (P : Params) : Obj := ⟨.type "function", none, .func ⟨"get", "Arr.get", fA (M 15 4), .stmts (fB (M 15 4)), fS (M 15 4), 3, [], .none, .none, .none, .str "phpcore.table" 418, none, .ref 221, .none, 0⟩, #[]⟩
noncomputable def o225x4 (P : Params) : Obj := ⟨.type "tuple", none, .seq #[.str "self" 478, .str "key" 479, .str "slot" 480] 0, #[]⟩
noncomputable def o227x4 (P : Params) : Obj := ⟨.none, none, .func ⟨"put", "Arr.put", fA (M 15 5), .stmts (fB (M 15 5)), fS (M 15 5), 0, [], .none, .none, .none, .none, none, .none, .none, 0⟩, #[]⟩
noncomputable def o228x4 (P : Params) : Obj := ⟨.type "code", none, .fields #[.str "put" 475, .str "Arr.put" 476, .str "/claim/cut.py" 477, .int 90 0, .int 3 0, .int 0 0, .int 0 0, .int 3 0, .ref 223, .bool true, .int 181 0, .ref 224, .none, .ref 225, .ref 226, .ref 227, .int 481 0, .int 90 0, .str "/claim/cut.py" 482], #[]⟩
noncomputable def o229x4 (P : Params) : Obj := ⟨.type "function", none, .func ⟨"put", "Arr.put", fA (M 15 5), .stmts (fB (M 15 5)), fS (M 15 5), 3, [], .none, .none, .none, .str "phpcore.table" 418, none, .ref 228, .none, 0⟩, #[]⟩
noncomputable def o232x4 (P : Params) : Obj := ⟨.type "tuple", none, .seq #[.str "self" 487, .str "slot" 488, .str "key" 489] 0, #[]⟩
noncomputable def o234x4 (P : Params) : Obj := ⟨.none, none, .func ⟨"append", "Arr.append", fA (M 15 6), .stmts (fB (M 15 6)), fS (M 15 6), 0, [], .none, .none, .none, .none, none, .none, .none, 0⟩, #[]⟩
noncomputable def o235x4 (P : Params) : Obj := ⟨.type "code", none, .fields #[.str "append" 484, .str "Arr.append" 485, .str "/claim/cut.py" 486, .int 93 0, .int 2 0, .int 0 0, .int 0 0, .int 3 0, .ref 230, .bool true, .int 181 0, .ref 231, .none, .ref 232, .ref 233, .ref 234, .int 490 0, .int 93 0, .str "/claim/cut.py" 491], #[]⟩
noncomputable def o236x4 (P : Params) : Obj := ⟨.type "function", none, .func ⟨"append", "Arr.append", fA (M 15 6), .stmts (fB (M 15 6)), fS (M 15 6), 3, [], .none, .none, .none, .str "phpcore.table" 418, none, .ref 235, .none, 0⟩, #[]⟩
noncomputable def o239x4 (P : Params) : Obj := ⟨.type "tuple", none, .seq #[.str "self" 496, .str "key" 497] 0, #[]⟩
noncomputable def o241x4 (P : Params) : Obj := ⟨.none, none, .func ⟨"drop", "Arr.drop", fA (M 15 7), .stmts (fB (M 15 7)), fS (M 15 7), 0, [], .none, .none, .none, .none, none, .none, .none, 0⟩, #[]⟩
noncomputable def o242x4 (P : Params) : Obj := ⟨.type "code", none, .fields #[.str "drop" 493, .str "Arr.drop" 494, .str "/claim/cut.py" 495, .int 100 0, .int 2 0, .int 0 0, .int 0 0, .int 3 0, .ref 237, .bool true, .int 181 0, .ref 238, .none, .ref 239, .ref 240, .ref 241, .int 498 0, .int 100 0, .str "/claim/cut.py" 499], #[]⟩
noncomputable def o243x4 (P : Params) : Obj := ⟨.type "function", none, .func ⟨"drop", "Arr.drop", fA (M 15 7), .stmts (fB (M 15 7)), fS (M 15 7), 3, [], .none, .none, .none, .str "phpcore.table" 418, none, .ref 242, .none, 0⟩, #[]⟩
noncomputable def o246x4 (P : Params) : Obj := ⟨.type "tuple", none, .seq #[.str "self" 504, .str "place" 505] 0, #[]⟩
noncomputable def o248x4 (P : Params) : Obj := ⟨.none, none, .func ⟨"key_at", "Arr.key_at", fA (M 15 8), .stmts (fB (M 15 8)), fS (M 15 8), 0, [], .none, .none, .none, .none, none, .none, .none, 0⟩, #[]⟩
noncomputable def o249x4 (P : Params) : Obj := ⟨.type "code", none, .fields #[.str "key_at" 501, .str "Arr.key_at" 502, .str "/claim/cut.py" 503, .int 103 0, .int 2 0, .int 0 0, .int 0 0, .int 3 0, .ref 244, .bool true, .int 181 0, .ref 245, .none, .ref 246, .ref 247, .ref 248, .int 506 0, .int 103 0, .str "/claim/cut.py" 507], #[]⟩
noncomputable def o250x4 (P : Params) : Obj := ⟨.type "function", none, .func ⟨"key_at", "Arr.key_at", fA (M 15 8), .stmts (fB (M 15 8)), fS (M 15 8), 3, [], .none, .none, .none, .str "phpcore.table" 418, none, .ref 249, .none, 0⟩, #[]⟩
noncomputable def o251x4 (P : Params) : Obj := ⟨.type "tuple", none, .seq #[.str "at" 509, .str "count" 510, .str "heads" 511, .str "is_packed" 512, .str "is_shared" 513, .str "keys" 514, .str "next" 515, .str "nexts" 516, .str "size" 517, .str "vals" 518, .str "walks" 519] 0, #[]⟩
noncomputable def o252x4 (P : Params) : Obj := ⟨.type "dict", none, .dict #[kv P "__module__" 427 (.str "phpcore.table" 418), kv P "__firstlineno__" 431 (.int 57 430), kv P "__init__" 440 (.ref 194), kv P "find" 449 (.ref 201), kv P "has" 457 (.ref 208), kv P "slot" 466 (.ref 215), kv P "get" 474 (.ref 222), kv P "put" 483 (.ref 229), kv P "append" 492 (.ref 236), kv P "drop" 500 (.ref 243), kv P "key_at" 508 (.ref 250), kv P "__static_attributes__" 520 (.ref 251), kv P "__dict__" 522 (.ref 254), kv P "__weakref__" 524 (.ref 255), kv P "__doc__" 525 .none] 4, #[]⟩
noncomputable def o253x4 (P : Params) : Obj := ⟨.type "type", none, .cls ⟨"Arr", [.type "object"], [.ref 253, .type "object"], 252, "Arr", true, [], [], false, none, false⟩, #[none, none, some (.str "Arr" 420), some (.str "Arr" 428), some (.builtin "object.__new__"), some (.bool true)]⟩
noncomputable def o254x4 (P : Params) : Obj := ⟨.type "getset_descriptor", none, .fields #[.str "__dict__" 521, .ref 253, .builtin "function.__dict__", .builtin "function.__dict__#set"], #[]⟩
noncomputable def o255x4 (P : Params) : Obj := ⟨.type "getset_descriptor", none, .fields #[.str "__weakref__" 523, .ref 253, .builtin "ExceptionGroup.__weakref__", .none], #[]⟩
noncomputable def o256x4 (P : Params) : Obj := ⟨.type "super", none, .fields #[.ref 253, .ref 253, .ref 253], #[]⟩
noncomputable def o257x4 (P : Params) : Obj := ⟨.type "builtin_function_or_method", none, .fields #[.builtin "object.__init_subclass__", .ref 253], #[]⟩
noncomputable def o260x4 (P : Params) : Obj := ⟨.type "tuple", none, .seq #[.str "arr" 531, .str "place" 532] 0, #[]⟩
noncomputable def o262x4 (P : Params) : Obj := ⟨.none, none, .func ⟨"is_living", "is_living", fA (S 16), .stmts (fB (S 16)), fS (S 16), 0, [], .none, .none, .none, .none, none, .none, .none, 0⟩, #[]⟩
noncomputable def o263x4 (P : Params) : Obj := ⟨.type "code", none, .fields #[.str "is_living" 528, .str "is_living" 529, .str "/claim/cut.py" 530, .int 105 0, .int 2 0, .int 0 0, .int 0 0, .int 3 0, .ref 258, .bool true, .int 181 0, .ref 259, .none, .ref 260, .ref 261, .ref 262, .int 533 0, .int 105 0, .str "/claim/cut.py" 534], #[]⟩
noncomputable def o264x4 (P : Params) : Obj := ⟨.type "function", none, .func ⟨"is_living", "is_living", fA (S 16), .stmts (fB (S 16)), fS (S 16), 3, [], .none, .none, .none, .str "phpcore.table" 418, none, .ref 263, .none, 0⟩, #[]⟩
noncomputable def o267x4 (P : Params) : Obj := ⟨.type "tuple", none, .seq #[.str "key" 539, .str "found" 540, .str "sign" 541] 0, #[]⟩
noncomputable def o269x4 (P : Params) : Obj := ⟨.none, none, .func ⟨"hash_of", "hash_of", fA (S 17), .stmts (fB (S 17)), fS (S 17), 0, [], .none, .none, .none, .none, none, .none, .none, 0⟩, #[]⟩
noncomputable def o270x4 (P : Params) : Obj := ⟨.type "code", none, .fields #[.str "hash_of" 536, .str "hash_of" 537, .str "/claim/cut.py" 538, .int 107 0, .int 1 0, .int 0 0, .int 0 0, .int 3 0, .ref 265, .bool true, .int 181 0, .ref 266, .none, .ref 267, .ref 268, .ref 269, .int 542 0, .int 107 0, .str "/claim/cut.py" 543], #[]⟩
noncomputable def o271x4 (P : Params) : Obj := ⟨.type "function", none, .func ⟨"hash_of", "hash_of", fA (S 17), .stmts (fB (S 17)), fS (S 17), 3, [], .none, .none, .none, .str "phpcore.table" 418, none, .ref 270, .none, 0⟩, #[]⟩
noncomputable def o274x4 (P : Params) : Obj := ⟨.type "tuple", none, .seq #[.str "arr" 548, .str "place" 549, .str "chain" 550] 0, #[]⟩
noncomputable def o276x4 (P : Params) : Obj := ⟨.none, none, .func ⟨"link", "link", fA (S 18), .stmts (fB (S 18)), fS (S 18), 0, [], .none, .none, .none, .none, none, .none, .none, 0⟩, #[]⟩
noncomputable def o277x4 (P : Params) : Obj := ⟨.type "code", none, .fields #[.str "link" 545, .str "link" 546, .str "/claim/cut.py" 547, .int 114 0, .int 2 0, .int 0 0, .int 0 0, .int 3 0, .ref 272, .bool true, .int 181 0, .ref 273, .none, .ref 274, .ref 275, .ref 276, .int 551 0, .int 114 0, .str "/claim/cut.py" 552], #[]⟩
noncomputable def o278x4 (P : Params) : Obj := ⟨.type "function", none, .func ⟨"link", "link", fA (S 18), .stmts (fB (S 18)), fS (S 18), 3, [], .none, .none, .none, .str "phpcore.table" 418, none, .ref 277, .none, 0⟩, #[]⟩
noncomputable def t5 (P : Params) : BT := (N boot_o_0 P (N boot_o_1 P (N o3x4 P (N boot_o_7 P (N oa P (N o31x0 P (N o63x1 P (N o127x2 P (l o255x4 P) .nil) (l oa P)) (N ob P (l oa P) (l oa P))) (N o47x0 P (N o79x1 P (N o143x2 P (l o271x4 P) .nil) (l o207x4 P)) (N oa P (l o175x3 P) (l o239x4 P)))) (N o23x0 P (N o39x0 P (N o71x1 P (N o135x2 P (l o263x4 P) .nil) (l o199x4 P)) (N oa P (l o167x3 P) (l ob P))) (N o23x0 P (N oa P (l o151x2 P) (l o215x4 P)) (N oa P (l oa P) (l oa P))))) (N oa P (N o19x0 P (N o35x0 P (N o23x0 P (N o23x0 P (l ob P) .nil) (l oa P)) (N o99x1 P (l o163x3 P) (l o227x4 P))) (N o51x0 P (N o83x1 P (N o147x2 P (l oa P) .nil) (l o211x4 P)) (N o115x2 P (l o179x3 P) (l o243x4 P)))) (N o27x0 P (N o23x0 P (N ob P (N ob P (l o267x4 P) .nil) (l ob P)) (N o107x1 P (l o171x3 P) (l o235x4 P))) (N o59x1 P (N o91x1 P (l oa P) (l oa P)) (N o123x2 P (l o187x4 P) (l o251x4 P)))))) (N boot_o_5 P (N boot_o_9 P (N o17x0 P (N o33x0 P (N o65x1 P (N o129x2 P (l o257x4 P) .nil) (l o193x4 P)) (N oa P (l o161x3 P) (l o225x4 P))) (N oa P (N o81x1 P (N o145x2 P (l ob P) .nil) (l oa P)) (N o113x2 P (l o177x3 P) (l o241x4 P)))) (N oa P (N o41x0 P (N o73x1 P (N o137x2 P (l oa P) .nil) (l o201x4 P)) (N o105x1 P (l o169x3 P) (l oa P))) (N oa P (N o89x1 P (l o23x0 P) (l ob P)) (N o121x2 P (l o185x4 P) (l o249x4 P))))) (N o13a P (N o21x0 P (N o37x0 P (N oa P (N oa P (l oa P) .nil) (l o197x4 P)) (N oa P (l o165x3 P) (l o229x4 P))) (N o53x0 P (N o85x1 P (N o149x2 P (l o277x4 P) .nil) (l o213x4 P)) (N ob P (l o23x0 P) (l ob P)))) (N oa P (N oa P (N oa P (N oa P (l o269x4 P) .nil) (l oa P)) (N o23x0 P (l oa P) (l oa P))) (N oa P (N o93x1 P (l o157x3 P) (l o221x4 P)) (N o125x2 P (l ob P) (l o253x4 P))))))) (N o2x1 P (N boot_o_4 P (N boot_o_8 P (N ob P (N oa P (N o64x1 P (N o128x2 P (l o256x4 P) .nil) (l o192x4 P)) (N oa P (l ob P) (l ob P))) (N o48x0 P (N o80x1 P (N o144x2 P (l oa P) .nil) (l o208x4 P)) (N o112x2 P (l oa P) (l oa P)))) (N o24x0 P (N o40x0 P (N o72x1 P (N o136x2 P (l o264x4 P) .nil) (l o200x4 P)) (N oa P (l o168x3 P) (l o232x4 P))) (N o56x1 P (N ob P (l oa P) (l oa P)) (N o120x2 P (l o184x4 P) (l o248x4 P))))) (N o12x4 P (N o20x0 P (N o36x0 P (N o68x1 P (N o132x2 P (l o260x4 P) .nil) (l ob P)) (N o100x1 P (l o164x3 P) (l o228x4 P))) (N o52x0 P (N o84x1 P (N o148x2 P (l o276x4 P) .nil) (l oa P)) (N oa P (l oa P) (l oa P)))) (N o28x0 P (N o44x0 P (N o76x1 P (N o140x2 P (l oa P) .nil) (l o204x4 P)) (N oa P (l o172x3 P) (l o236x4 P))) (N o60x1 P (N o92x1 P (l o156x3 P) (l o220x4 P)) (N o124x2 P (l oa P) (l o252x4 P)))))) (N boot_o_6 P (N boot_o_10 P (N oa P (N o34x0 P (N o22x0 P (N oa P (l oa P) .nil) (l o194x4 P)) (N o98x1 P (l oa P) (l oa P))) (N o50x0 P (N o82x1 P (N o146x2 P (l o274x4 P) .nil) (l ob P)) (N o114x2 P (l o178x3 P) (l o242x4 P)))) (N o26x0 P (N o42x0 P (N oa P (N oa P (l ob P) .nil) (l oa P)) (N o106x1 P (l o170x3 P) (l o234x4 P))) (N ob P (N oa P (l o154x3 P) (l o218x4 P)) (N o122x2 P (l o186x4 P) (l o250x4 P))))) (N o14a P (N o22x0 P (N o38x1 P (N o70x1 P (N o134x2 P (l o262x4 P) .nil) (l oa P)) (N ob P (l o166x3 P) (l oa P))) (N o42x0 P (N o86x1 P (N o150x2 P (l o278x4 P) .nil) (l o214x4 P)) (N o118x2 P (l o182x4 P) (l o246x4 P)))) (N ob P (N ob P (N o78x1 P (N o142x2 P (l o270x4 P) .nil) (l o206x4 P)) (N o110x2 P (l ob P) (l ob P))) (N o62x1 P (N oa P (l o158x3 P) (l o222x4 P)) (N o126x2 P (l o190x4 P) (l o254x4 P))))))))
noncomputable def s5 (w : World) (os : OsState) : SharedT := ⟨t5 w.params, 279, ⟨[], [], [], 0, [], [], false, #[], [], 0, false, false, false, 0, [2000, 10, 10], false, 0, true, [], [], 0, false⟩, ⟨[]⟩, ⟨0, 0, 0, 0⟩, 554, os⟩
noncomputable def sts5 : List Stmt := (bE.drop 19).take 22
noncomputable def o3x5 (P : Params) : Obj := ⟨.type "dict", none, .dict #[kv P "__name__" 165 (.str "phpcore.ints" 686), kv P "__doc__" 166 .none, kv P "__package__" 167 .none, kv P "__loader__" 168 (.builtin "__main__.__loader__#opaque"), kv P "__spec__" 169 .none, kv P "__annotations__" 170 (.ref 6), kv P "__builtins__" 171 (.ref 4), kv P "__file__" 173 (.str "/claim/cut.py" 172), kv P "__cached__" 174 .none, kv P "_wall" 193 (.ref 21), kv P "PhpFault" 224 (.ref 38), kv P "LeftOut" 240 (.ref 51), kv P "Misused" 256 (.ref 63), kv P "Thrown" 293 (.ref 83), kv P "error" 300 (.ref 93), kv P "least" 306 (.ref 100), kv P "greatest" 312 (.ref 107), kv P "Ref" 345 (.ref 125), kv P "Absent" 374 (.ref 147), kv P "Obj" 410 (.ref 168), kv P "deref" 417 (.ref 179), kv P "Arr" 527 (.ref 253), kv P "is_living" 535 (.ref 264), kv P "hash_of" 544 (.ref 271), kv P "link" 553 (.ref 278), kv P "chains" 561 (.ref 285), kv P "many_ahead" 567 (.ref 290), kv P "rehash" 573 (.ref 295), kv P "to_hash" 580 (.ref 302), kv P "takes_packed" 588 (.ref 309), kv P "add_packed" 597 (.ref 316), kv P "add_hashed" 607 (.ref 323), kv P "add" 616 (.ref 330), kv P "marked" 623 (.ref 337), kv P "kind" 632 (.ref 344), kv P "lower" 641 (.ref 351), kv P "is_subclass" 651 (.ref 358), kv P "instance_of" 659 (.ref 365), kv P "to_bool" 669 (.ref 372), kv P "int_text" 676 (.ref 379), kv P "to_text" 685 (.ref 386), kv P "is_digit" 695 (.ref 393), kv P "digits_behind" 703 (.ref 400), kv P "digits_value" 714 (.ref 407)] 44, #[]⟩
noncomputable def o12x5 (P : Params) : Obj := ⟨.none, none, .fields #[.int 1 0, .int 0 0, .ref 20, .int 5 0, .int 0 0, .ref 27, .int 10 0, .int 0 0, .ref 47, .int 12 0, .int 0 0, .ref 59, .int 14 0, .int 0 0, .ref 71, .int 23 0, .int 0 0, .ref 92, .int 25 0, .int 0 0, .ref 99, .int 27 0, .int 0 0, .ref 106, .int 30 0, .int 0 0, .ref 113, .int 36 0, .int 0 0, .ref 135, .int 40 0, .int 0 0, .ref 157, .int 50 0, .int 0 0, .ref 178, .int 57 0, .int 0 0, .ref 185, .int 105 0, .int 0 0, .ref 263, .int 107 0, .int 0 0, .ref 270, .int 114 0, .int 0 0, .ref 277, .int 118 0, .int 0 0, .ref 284, .int 124 0, .int 0 0, .ref 289, .int 126 0, .int 0 0, .ref 294, .int 134 0, .int 0 0, .ref 301, .int 138 0, .int 0 0, .ref 308, .int 144 0, .int 0 0, .ref 315, .int 148 0, .int 0 0, .ref 322, .int 160 0, .int 0 0, .ref 329, .int 172 0, .int 0 0, .ref 336, .int 177 0, .int 0 0, .ref 343, .int 191 0, .int 0 0, .ref 350, .int 196 0, .int 0 0, .ref 357, .int 206 0, .int 0 0, .ref 364, .int 209 0, .int 0 0, .ref 371, .int 220 0, .int 0 0, .ref 378, .int 222 0, .int 0 0, .ref 385, .int 237 0, .int 0 0, .ref 392, .int 239 0, .int 0 0, .ref 399, .int 243 0, .int 0 0, .ref 406], #[]⟩
noncomputable def o281x5 (P : Params) : Obj := ⟨.type "tuple", none, .seq #[.str "arr" 557, .str "place" 558] 0, #[]⟩
noncomputable def o283x5 (P : Params) : Obj := ⟨.none, none, .func ⟨"chains", "chains", fA (S 19), .stmts (fB (S 19)), fS (S 19), 0, [], .none, .none, .none, .none, none, .none, .none, 0⟩, #[]⟩
noncomputable def o284x5 (P : Params) : Obj := ⟨.type "code", none, .fields #[.str "chains" 554, .str "chains" 555, .str "/claim/cut.py" 556, .int 118 0, .int 1 0, .int 0 0, .int 0 0, .int 3 0, .ref 279, .bool true, .int 181 0, .ref 280, .none, .ref 281, .ref 282, .ref 283, .int 559 0, .int 118 0, .str "/claim/cut.py" 560], #[]⟩
noncomputable def o285x5 (P : Params) : Obj := ⟨.type "function", none, .func ⟨"chains", "chains", fA (S 19), .stmts (fB (S 19)), fS (S 19), 3, [], .none, .none, .none, .str "phpcore.table" 418, none, .ref 284, .none, 0⟩, #[]⟩
noncomputable def o288x5 (P : Params) : Obj := ⟨.none, none, .func ⟨"many_ahead", "many_ahead", fA (S 20), .stmts (fB (S 20)), fS (S 20), 0, [], .none, .none, .none, .none, none, .none, .none, 0⟩, #[]⟩
noncomputable def o289x5 (P : Params) : Obj := ⟨.type "code", none, .fields #[.str "many_ahead" 562, .str "many_ahead" 563, .str "/claim/cut.py" 564, .int 124 0, .int 2 0, .int 0 0, .int 0 0, .int 3 0, .ref 286, .bool true, .int 181 0, .ref 287, .none, .none, .none, .ref 288, .int 565 0, .int 124 0, .str "/claim/cut.py" 566], #[]⟩
noncomputable def o290x5 (P : Params) : Obj := ⟨.type "function", none, .func ⟨"many_ahead", "many_ahead", fA (S 20), .stmts (fB (S 20)), fS (S 20), 3, [], .none, .none, .none, .str "phpcore.table" 418, none, .ref 289, .none, 0⟩, #[]⟩
noncomputable def o293x5 (P : Params) : Obj := ⟨.none, none, .func ⟨"rehash", "rehash", fA (S 21), .stmts (fB (S 21)), fS (S 21), 0, [], .none, .none, .none, .none, none, .none, .none, 0⟩, #[]⟩
noncomputable def o294x5 (P : Params) : Obj := ⟨.type "code", none, .fields #[.str "rehash" 568, .str "rehash" 569, .str "/claim/cut.py" 570, .int 126 0, .int 1 0, .int 0 0, .int 0 0, .int 3 0, .ref 291, .bool true, .int 181 0, .ref 292, .none, .none, .none, .ref 293, .int 571 0, .int 126 0, .str "/claim/cut.py" 572], #[]⟩
noncomputable def o295x5 (P : Params) : Obj := ⟨.type "function", none, .func ⟨"rehash", "rehash", fA (S 21), .stmts (fB (S 21)), fS (S 21), 3, [], .none, .none, .none, .str "phpcore.table" 418, none, .ref 294, .none, 0⟩, #[]⟩
noncomputable def o298x5 (P : Params) : Obj := ⟨.type "tuple", none, .seq #[.str "arr" 577] 0, #[]⟩
noncomputable def o300x5 (P : Params) : Obj := ⟨.none, none, .func ⟨"to_hash", "to_hash", fA (S 22), .stmts (fB (S 22)), fS (S 22), 0, [], .none, .none, .none, .none, none, .none, .none, 0⟩, #[]⟩
noncomputable def o301x5 (P : Params) : Obj := ⟨.type "code", none, .fields #[.str "to_hash" 574, .str "to_hash" 575, .str "/claim/cut.py" 576, .int 134 0, .int 1 0, .int 0 0, .int 0 0, .int 3 0, .ref 296, .bool true, .int 181 0, .ref 297, .none, .ref 298, .ref 299, .ref 300, .int 578 0, .int 134 0, .str "/claim/cut.py" 579], #[]⟩
noncomputable def o302x5 (P : Params) : Obj := ⟨.type "function", none, .func ⟨"to_hash", "to_hash", fA (S 22), .stmts (fB (S 22)), fS (S 22), 3, [], .none, .none, .none, .str "phpcore.table" 418, none, .ref 301, .none, 0⟩, #[]⟩
noncomputable def o305x5 (P : Params) : Obj := ⟨.type "tuple", none, .seq #[.str "arr" 584, .str "key" 585] 0, #[]⟩
noncomputable def o307x5 (P : Params) : Obj := ⟨.none, none, .func ⟨"takes_packed", "takes_packed", fA (S 23), .stmts (fB (S 23)), fS (S 23), 0, [], .none, .none, .none, .none, none, .none, .none, 0⟩, #[]⟩
noncomputable def o308x5 (P : Params) : Obj := ⟨.type "code", none, .fields #[.str "takes_packed" 581, .str "takes_packed" 582, .str "/claim/cut.py" 583, .int 138 0, .int 2 0, .int 0 0, .int 0 0, .int 3 0, .ref 303, .bool true, .int 181 0, .ref 304, .none, .ref 305, .ref 306, .ref 307, .int 586 0, .int 138 0, .str "/claim/cut.py" 587], #[]⟩
noncomputable def o309x5 (P : Params) : Obj := ⟨.type "function", none, .func ⟨"takes_packed", "takes_packed", fA (S 23), .stmts (fB (S 23)), fS (S 23), 3, [], .none, .none, .none, .str "phpcore.table" 418, none, .ref 308, .none, 0⟩, #[]⟩
noncomputable def o312x5 (P : Params) : Obj := ⟨.type "tuple", none, .seq #[.str "arr" 592, .str "key" 593, .str "slot" 594] 0, #[]⟩
noncomputable def o314x5 (P : Params) : Obj := ⟨.none, none, .func ⟨"add_packed", "add_packed", fA (S 24), .stmts (fB (S 24)), fS (S 24), 0, [], .none, .none, .none, .none, none, .none, .none, 0⟩, #[]⟩
noncomputable def o315x5 (P : Params) : Obj := ⟨.type "code", none, .fields #[.str "add_packed" 589, .str "add_packed" 590, .str "/claim/cut.py" 591, .int 144 0, .int 3 0, .int 0 0, .int 0 0, .int 3 0, .ref 310, .bool true, .int 181 0, .ref 311, .none, .ref 312, .ref 313, .ref 314, .int 595 0, .int 144 0, .str "/claim/cut.py" 596], #[]⟩
noncomputable def o316x5 (P : Params) : Obj := ⟨.type "function", none, .func ⟨"add_packed", "add_packed", fA (S 24), .stmts (fB (S 24)), fS (S 24), 3, [], .none, .none, .none, .str "phpcore.table" 418, none, .ref 315, .none, 0⟩, #[]⟩
noncomputable def o319x5 (P : Params) : Obj := ⟨.type "tuple", none, .seq #[.str "arr" 601, .str "key" 602, .str "slot" 603, .str "used" 604] 0, #[]⟩
noncomputable def o321x5 (P : Params) : Obj := ⟨.none, none, .func ⟨"add_hashed", "add_hashed", fA (S 25), .stmts (fB (S 25)), fS (S 25), 0, [], .none, .none, .none, .none, none, .none, .none, 0⟩, #[]⟩
noncomputable def o322x5 (P : Params) : Obj := ⟨.type "code", none, .fields #[.str "add_hashed" 598, .str "add_hashed" 599, .str "/claim/cut.py" 600, .int 148 0, .int 3 0, .int 0 0, .int 0 0, .int 3 0, .ref 317, .bool true, .int 181 0, .ref 318, .none, .ref 319, .ref 320, .ref 321, .int 605 0, .int 148 0, .str "/claim/cut.py" 606], #[]⟩
noncomputable def o323x5 (P : Params) : Obj := ⟨.type "function", none, .func ⟨"add_hashed", "add_hashed", fA (S 25), .stmts (fB (S 25)), fS (S 25), 3, [], .none, .none, .none, .str "phpcore.table" 418, none, .ref 322, .none, 0⟩, #[]⟩
noncomputable def o326x5 (P : Params) : Obj := ⟨.type "tuple", none, .seq #[.str "arr" 611, .str "key" 612, .str "slot" 613] 0, #[]⟩
noncomputable def o328x5 (P : Params) : Obj := ⟨.none, none, .func ⟨"add", "add", fA (S 26), .stmts (fB (S 26)), fS (S 26), 0, [], .none, .none, .none, .none, none, .none, .none, 0⟩, #[]⟩
noncomputable def o329x5 (P : Params) : Obj := ⟨.type "code", none, .fields #[.str "add" 608, .str "add" 609, .str "/claim/cut.py" 610, .int 160 0, .int 3 0, .int 0 0, .int 0 0, .int 3 0, .ref 324, .bool true, .int 181 0, .ref 325, .none, .ref 326, .ref 327, .ref 328, .int 614 0, .int 160 0, .str "/claim/cut.py" 615], #[]⟩
noncomputable def o330x5 (P : Params) : Obj := ⟨.type "function", none, .func ⟨"add", "add", fA (S 26), .stmts (fB (S 26)), fS (S 26), 3, [], .none, .none, .none, .str "phpcore.table" 418, none, .ref 329, .none, 0⟩, #[]⟩
noncomputable def o333x5 (P : Params) : Obj := ⟨.type "tuple", none, .seq #[.str "value" 620] 0, #[]⟩
noncomputable def o335x5 (P : Params) : Obj := ⟨.none, none, .func ⟨"marked", "marked", fA (S 27), .stmts (fB (S 27)), fS (S 27), 0, [], .none, .none, .none, .none, none, .none, .none, 0⟩, #[]⟩
noncomputable def o336x5 (P : Params) : Obj := ⟨.type "code", none, .fields #[.str "marked" 617, .str "marked" 618, .str "/claim/cut.py" 619, .int 172 0, .int 1 0, .int 0 0, .int 0 0, .int 3 0, .ref 331, .bool true, .int 181 0, .ref 332, .none, .ref 333, .ref 334, .ref 335, .int 621 0, .int 172 0, .str "/claim/cut.py" 622], #[]⟩
noncomputable def o337x5 (P : Params) : Obj := ⟨.type "function", none, .func ⟨"marked", "marked", fA (S 27), .stmts (fB (S 27)), fS (S 27), 3, [], .none, .none, .none, .str "phpcore.table" 418, none, .ref 336, .none, 0⟩, #[]⟩
noncomputable def o340x5 (P : Params) : Obj := ⟨.type "tuple", none, .seq #[.str "value" 629] 0, #[]⟩
noncomputable def o342x5 (P : Params) : Obj := ⟨.none, none, .func ⟨"kind", "kind", fA (S 29), .stmts (fB (S 29)), fS (S 29), 0, [], .none, .none, .none, .none, none, .none, .none, 0⟩, #[]⟩
noncomputable def o343x5 (P : Params) : Obj := ⟨.type "code", none, .fields #[.str "kind" 626, .str "kind" 627, .str "/claim/cut.py" 628, .int 177 0, .int 1 0, .int 0 0, .int 0 0, .int 3 0, .ref 338, .bool true, .int 181 0, .ref 339, .none, .ref 340, .ref 341, .ref 342, .int 630 0, .int 177 0, .str "/claim/cut.py" 631], #[]⟩
noncomputable def o344x5 (P : Params) : Obj := ⟨.type "function", none, .func ⟨"kind", "kind", fA (S 29), .stmts (fB (S 29)), fS (S 29), 3, [], .none, .none, .none, .str "phpcore.values" 624, none, .ref 343, .none, 0⟩, #[]⟩
noncomputable def o347x5 (P : Params) : Obj := ⟨.type "tuple", none, .seq #[.str "text" 636, .str "made" 637, .str "sign" 638] 0, #[]⟩
noncomputable def o349x5 (P : Params) : Obj := ⟨.none, none, .func ⟨"lower", "lower", fA (S 30), .stmts (fB (S 30)), fS (S 30), 0, [], .none, .none, .none, .none, none, .none, .none, 0⟩, #[]⟩
noncomputable def o350x5 (P : Params) : Obj := ⟨.type "code", none, .fields #[.str "lower" 633, .str "lower" 634, .str "/claim/cut.py" 635, .int 191 0, .int 1 0, .int 0 0, .int 0 0, .int 3 0, .ref 345, .bool true, .int 181 0, .ref 346, .none, .ref 347, .ref 348, .ref 349, .int 639 0, .int 191 0, .str "/claim/cut.py" 640], #[]⟩
noncomputable def o351x5 (P : Params) : Obj := ⟨.type "function", none, .func ⟨"lower", "lower", fA (S 30), .stmts (fB (S 30)), fS (S 30), 3, [], .none, .none, .none, .str "phpcore.values" 624, none, .ref 350, .none, 0⟩, #[]⟩
noncomputable def o354x5 (P : Params) : Obj := ⟨.type "tuple", none, .seq #[.str "klass" 645, .str "lower_name" 646, .str "above" 647, .str "one" 648] 0, #[]⟩
noncomputable def o356x5 (P : Params) : Obj := ⟨.none, none, .func ⟨"is_subclass", "is_subclass", fA (S 31), .stmts (fB (S 31)), fS (S 31), 0, [], .none, .none, .none, .none, none, .none, .none, 0⟩, #[]⟩
noncomputable def o357x5 (P : Params) : Obj := ⟨.type "code", none, .fields #[.str "is_subclass" 642, .str "is_subclass" 643, .str "/claim/cut.py" 644, .int 196 0, .int 2 0, .int 0 0, .int 0 0, .int 3 0, .ref 352, .bool true, .int 181 0, .ref 353, .none, .ref 354, .ref 355, .ref 356, .int 649 0, .int 196 0, .str "/claim/cut.py" 650], #[]⟩
noncomputable def o358x5 (P : Params) : Obj := ⟨.type "function", none, .func ⟨"is_subclass", "is_subclass", fA (S 31), .stmts (fB (S 31)), fS (S 31), 3, [], .none, .none, .none, .str "phpcore.values" 624, none, .ref 357, .none, 0⟩, #[]⟩
noncomputable def o361x5 (P : Params) : Obj := ⟨.type "tuple", none, .seq #[.str "value" 655, .str "lower_name" 656] 0, #[]⟩
noncomputable def o363x5 (P : Params) : Obj := ⟨.none, none, .func ⟨"instance_of", "instance_of", fA (S 32), .stmts (fB (S 32)), fS (S 32), 0, [], .none, .none, .none, .none, none, .none, .none, 0⟩, #[]⟩
noncomputable def o364x5 (P : Params) : Obj := ⟨.type "code", none, .fields #[.str "instance_of" 652, .str "instance_of" 653, .str "/claim/cut.py" 654, .int 206 0, .int 2 0, .int 0 0, .int 0 0, .int 3 0, .ref 359, .bool true, .int 181 0, .ref 360, .none, .ref 361, .ref 362, .ref 363, .int 657 0, .int 206 0, .str "/claim/cut.py" 658], #[]⟩
noncomputable def o365x5 (P : Params) : Obj := ⟨.type "function", none, .func ⟨"instance_of", "instance_of", fA (S 32), .stmts (fB (S 32)), fS (S 32), 3, [], .none, .none, .none, .str "phpcore.values" 624, none, .ref 364, .none, 0⟩, #[]⟩
noncomputable def o368x5 (P : Params) : Obj := ⟨.type "tuple", none, .seq #[.str "value" 665, .str "sort" 666] 0, #[]⟩
noncomputable def o370x5 (P : Params) : Obj := ⟨.none, none, .func ⟨"to_bool", "to_bool", fA (S 34), .stmts (fB (S 34)), fS (S 34), 0, [], .none, .none, .none, .none, none, .none, .none, 0⟩, #[]⟩
noncomputable def o371x5 (P : Params) : Obj := ⟨.type "code", none, .fields #[.str "to_bool" 662, .str "to_bool" 663, .str "/claim/cut.py" 664, .int 209 0, .int 1 0, .int 0 0, .int 0 0, .int 3 0, .ref 366, .bool true, .int 181 0, .ref 367, .none, .ref 368, .ref 369, .ref 370, .int 667 0, .int 209 0, .str "/claim/cut.py" 668], #[]⟩
noncomputable def o372x5 (P : Params) : Obj := ⟨.type "function", none, .func ⟨"to_bool", "to_bool", fA (S 34), .stmts (fB (S 34)), fS (S 34), 3, [], .none, .none, .none, .str "phpcore.convert" 660, none, .ref 371, .none, 0⟩, #[]⟩
noncomputable def o375x5 (P : Params) : Obj := ⟨.type "tuple", none, .seq #[.str "n" 673] 0, #[]⟩
noncomputable def o377x5 (P : Params) : Obj := ⟨.none, none, .func ⟨"int_text", "int_text", fA (S 35), .stmts (fB (S 35)), fS (S 35), 0, [], .none, .none, .none, .none, none, .none, .none, 0⟩, #[]⟩
noncomputable def o378x5 (P : Params) : Obj := ⟨.type "code", none, .fields #[.str "int_text" 670, .str "int_text" 671, .str "/claim/cut.py" 672, .int 220 0, .int 1 0, .int 0 0, .int 0 0, .int 3 0, .ref 373, .bool true, .int 181 0, .ref 374, .none, .ref 375, .ref 376, .ref 377, .int 674 0, .int 220 0, .str "/claim/cut.py" 675], #[]⟩
noncomputable def o379x5 (P : Params) : Obj := ⟨.type "function", none, .func ⟨"int_text", "int_text", fA (S 35), .stmts (fB (S 35)), fS (S 35), 3, [], .none, .none, .none, .str "phpcore.convert" 660, none, .ref 378, .none, 0⟩, #[]⟩
noncomputable def o382x5 (P : Params) : Obj := ⟨.type "tuple", none, .seq #[.str "host" 680, .str "value" 681, .str "sort" 682] 0, #[]⟩
noncomputable def o384x5 (P : Params) : Obj := ⟨.none, none, .func ⟨"to_text", "to_text", fA (S 36), .stmts (fB (S 36)), fS (S 36), 0, [], .none, .none, .none, .none, none, .none, .none, 0⟩, #[]⟩
noncomputable def o385x5 (P : Params) : Obj := ⟨.type "code", none, .fields #[.str "to_text" 677, .str "to_text" 678, .str "/claim/cut.py" 679, .int 222 0, .int 2 0, .int 0 0, .int 0 0, .int 3 0, .ref 380, .bool true, .int 181 0, .ref 381, .none, .ref 382, .ref 383, .ref 384, .int 683 0, .int 222 0, .str "/claim/cut.py" 684], #[]⟩
noncomputable def o386x5 (P : Params) : Obj := ⟨.type "function", none, .func ⟨"to_text", "to_text", fA (S 36), .stmts (fB (S 36)), fS (S 36), 3, [], .none, .none, .none, .str "phpcore.convert" 660, none, .ref 385, .none, 0⟩, #[]⟩
noncomputable def o389x5 (P : Params) : Obj := ⟨.type "tuple", none, .seq #[.str "text" 691, .str "at" 692] 0, #[]⟩
noncomputable def o391x5 (P : Params) : Obj := ⟨.none, none, .func ⟨"is_digit", "is_digit", fA (S 38), .stmts (fB (S 38)), fS (S 38), 0, [], .none, .none, .none, .none, none, .none, .none, 0⟩, #[]⟩
noncomputable def o392x5 (P : Params) : Obj := ⟨.type "code", none, .fields #[.str "is_digit" 688, .str "is_digit" 689, .str "/claim/cut.py" 690, .int 237 0, .int 2 0, .int 0 0, .int 0 0, .int 3 0, .ref 387, .bool true, .int 181 0, .ref 388, .none, .ref 389, .ref 390, .ref 391, .int 693 0, .int 237 0, .str "/claim/cut.py" 694], #[]⟩
noncomputable def o393x5 (P : Params) : Obj := ⟨.type "function", none, .func ⟨"is_digit", "is_digit", fA (S 38), .stmts (fB (S 38)), fS (S 38), 3, [], .none, .none, .none, .str "phpcore.ints" 686, none, .ref 392, .none, 0⟩, #[]⟩
noncomputable def o396x5 (P : Params) : Obj := ⟨.type "tuple", none, .seq #[.str "text" 699, .str "at" 700] 0, #[]⟩
noncomputable def o398x5 (P : Params) : Obj := ⟨.none, none, .func ⟨"digits_behind", "digits_behind", fA (S 39), .stmts (fB (S 39)), fS (S 39), 0, [], .none, .none, .none, .none, none, .none, .none, 0⟩, #[]⟩
noncomputable def o399x5 (P : Params) : Obj := ⟨.type "code", none, .fields #[.str "digits_behind" 696, .str "digits_behind" 697, .str "/claim/cut.py" 698, .int 239 0, .int 2 0, .int 0 0, .int 0 0, .int 3 0, .ref 394, .bool true, .int 181 0, .ref 395, .none, .ref 396, .ref 397, .ref 398, .int 701 0, .int 239 0, .str "/claim/cut.py" 702], #[]⟩
noncomputable def o400x5 (P : Params) : Obj := ⟨.type "function", none, .func ⟨"digits_behind", "digits_behind", fA (S 39), .stmts (fB (S 39)), fS (S 39), 3, [], .none, .none, .none, .str "phpcore.ints" 686, none, .ref 399, .none, 0⟩, #[]⟩
noncomputable def o403x5 (P : Params) : Obj := ⟨.type "tuple", none, .seq #[.str "text" 707, .str "first" 708, .str "behind" 709, .str "value" 710, .str "at" 711] 0, #[]⟩
noncomputable def o405x5 (P : Params) : Obj := ⟨.none, none, .func ⟨"digits_value", "digits_value", fA (S 40), .stmts (fB (S 40)), fS (S 40), 0, [], .none, .none, .none, .none, none, .none, .none, 0⟩, #[]⟩
noncomputable def o406x5 (P : Params) : Obj := ⟨.type "code", none, .fields #[.str "digits_value" 704, .str "digits_value" 705, .str "/claim/cut.py" 706, .int 243 0, .int 3 0, .int 0 0, .int 0 0, .int 3 0, .ref 401, .bool true, .int 181 0, .ref 402, .none, .ref 403, .ref 404, .ref 405, .int 712 0, .int 243 0, .str "/claim/cut.py" 713], #[]⟩
noncomputable def o407x5 (P : Params) : Obj := ⟨.type "function", none, .func ⟨"digits_value", "digits_value", fA (S 40), .stmts (fB (S 40)), fS (S 40), 3, [], .none, .none, .none, .str "phpcore.ints" 686, none, .ref 406, .none, 0⟩, #[]⟩
noncomputable def t6 (P : Params) : BT := (N boot_o_0 P (N boot_o_1 P (N o3x5 P (N boot_o_7 P (N oa P (N o31x0 P (N o63x1 P (N o127x2 P (l o255x4 P) (l oa P)) (N oa P (l o319x5 P) .nil)) (N ob P (N oa P (l ob P) .nil) (N oa P (l o351x5 P) .nil))) (N o47x0 P (N o79x1 P (N o143x2 P (l o271x4 P) (l o399x5 P)) (N o207x4 P (l o335x5 P) .nil)) (N oa P (N o175x3 P (l oa P) .nil) (N o239x4 P (l ob P) .nil)))) (N o23x0 P (N o39x0 P (N o71x1 P (N o135x2 P (l o263x4 P) (l o391x5 P)) (N o199x4 P (l oa P) .nil)) (N oa P (N o167x3 P (l o295x5 P) .nil) (N ob P (l oa P) .nil))) (N o23x0 P (N oa P (N o151x2 P (l oa P) (l o407x5 P)) (N o215x4 P (l o343x5 P) .nil)) (N oa P (N oa P (l ob P) .nil) (N oa P (l o375x5 P) .nil))))) (N oa P (N o19x0 P (N o35x0 P (N o23x0 P (N o23x0 P (l ob P) (l oa P)) (N oa P (l o323x5 P) .nil)) (N o99x1 P (N o163x3 P (l oa P) .nil) (N o227x4 P (l oa P) .nil))) (N o51x0 P (N o83x1 P (N o147x2 P (l oa P) (l o403x5 P)) (N o211x4 P (l ob P) .nil)) (N o115x2 P (N o179x3 P (l o307x5 P) .nil) (N o243x4 P (l o371x5 P) .nil)))) (N o27x0 P (N o23x0 P (N ob P (N ob P (l o267x4 P) (l ob P)) (N ob P (l oa P) .nil)) (N o107x1 P (N o171x3 P (l oa P) .nil) (N o235x4 P (l o363x5 P) .nil))) (N o59x1 P (N o91x1 P (N oa P (l o283x5 P) .nil) (N oa P (l o347x5 P) .nil)) (N o123x2 P (N o187x4 P (l o315x5 P) .nil) (N o251x4 P (l o379x5 P) .nil)))))) (N boot_o_5 P (N boot_o_9 P (N o17x0 P (N o33x0 P (N o65x1 P (N o129x2 P (l o257x4 P) (l o385x5 P)) (N o193x4 P (l o321x5 P) .nil)) (N oa P (N o161x3 P (l o289x5 P) .nil) (N o225x4 P (l ob P) .nil))) (N oa P (N o81x1 P (N o145x2 P (l ob P) (l oa P)) (N oa P (l o337x5 P) .nil)) (N o113x2 P (N o177x3 P (l o305x5 P) .nil) (N o241x4 P (l oa P) .nil)))) (N oa P (N o41x0 P (N o73x1 P (N o137x2 P (l oa P) (l o393x5 P)) (N o201x4 P (l o329x5 P) .nil)) (N o105x1 P (N o169x3 P (l ob P) .nil) (N oa P (l o361x5 P) .nil))) (N oa P (N o89x1 P (N o23x0 P (l o281x5 P) .nil) (N ob P (l oa P) .nil)) (N o121x2 P (N o185x4 P (l oa P) .nil) (N o249x4 P (l o377x5 P) .nil))))) (N o13a P (N o21x0 P (N o37x0 P (N oa P (N oa P (l oa P) (l o389x5 P)) (N o197x4 P (l ob P) .nil)) (N oa P (N o165x3 P (l o293x5 P) .nil) (N o229x4 P (l o357x5 P) .nil))) (N o53x0 P (N o85x1 P (N o149x2 P (l o277x4 P) (l o405x5 P)) (N o213x4 P (l oa P) .nil)) (N ob P (N o23x0 P (l o309x5 P) .nil) (N ob P (l oa P) .nil)))) (N oa P (N oa P (N oa P (N oa P (l o269x4 P) (l oa P)) (N oa P (l o333x5 P) .nil)) (N o23x0 P (N oa P (l o301x5 P) .nil) (N oa P (l o365x5 P) .nil))) (N oa P (N o93x1 P (N o157x3 P (l o285x5 P) .nil) (N o221x4 P (l o349x5 P) .nil)) (N o125x2 P (N ob P (l oa P) .nil) (N o253x4 P (l ob P) .nil))))))) (N o2x1 P (N boot_o_4 P (N boot_o_8 P (N ob P (N oa P (N o64x1 P (N o128x2 P (l o256x4 P) (l o384x5 P)) (N o192x4 P (l oa P) .nil)) (N oa P (N ob P (l o288x5 P) .nil) (N ob P (l oa P) .nil))) (N o48x0 P (N o80x1 P (N o144x2 P (l oa P) (l o400x5 P)) (N o208x4 P (l o336x5 P) .nil)) (N o112x2 P (N oa P (l ob P) .nil) (N oa P (l o368x5 P) .nil)))) (N o24x0 P (N o40x0 P (N o72x1 P (N o136x2 P (l o264x4 P) (l o392x5 P)) (N o200x4 P (l o328x5 P) .nil)) (N oa P (N o168x3 P (l oa P) .nil) (N o232x4 P (l ob P) .nil))) (N o56x1 P (N ob P (N oa P (l ob P) .nil) (N oa P (l o344x5 P) .nil)) (N o120x2 P (N o184x4 P (l o312x5 P) .nil) (N o248x4 P (l oa P) .nil))))) (N o12x5 P (N o20x0 P (N o36x0 P (N o68x1 P (N o132x2 P (l o260x4 P) (l ob P)) (N ob P (l oa P) .nil)) (N o100x1 P (N o164x3 P (l ob P) .nil) (N o228x4 P (l o356x5 P) .nil))) (N o52x0 P (N o84x1 P (N o148x2 P (l o276x4 P) (l oa P)) (N oa P (l o340x5 P) .nil)) (N oa P (N oa P (l o308x5 P) .nil) (N oa P (l o372x5 P) .nil)))) (N o28x0 P (N o44x0 P (N o76x1 P (N o140x2 P (l oa P) (l o396x5 P)) (N o204x4 P (l ob P) .nil)) (N oa P (N o172x3 P (l o300x5 P) .nil) (N o236x4 P (l o364x5 P) .nil))) (N o60x1 P (N o92x1 P (N o156x3 P (l o284x5 P) .nil) (N o220x4 P (l oa P) .nil)) (N o124x2 P (N oa P (l o316x5 P) .nil) (N o252x4 P (l oa P) .nil)))))) (N boot_o_6 P (N boot_o_10 P (N oa P (N o34x0 P (N o22x0 P (N oa P (l oa P) (l o386x5 P)) (N o194x4 P (l o322x5 P) .nil)) (N o98x1 P (N oa P (l o290x5 P) .nil) (N oa P (l o354x5 P) .nil))) (N o50x0 P (N o82x1 P (N o146x2 P (l o274x4 P) (l ob P)) (N ob P (l oa P) .nil)) (N o114x2 P (N o178x3 P (l oa P) .nil) (N o242x4 P (l o370x5 P) .nil)))) (N o26x0 P (N o42x0 P (N oa P (N oa P (l ob P) (l oa P)) (N oa P (l o330x5 P) .nil)) (N o106x1 P (N o170x3 P (l o298x5 P) .nil) (N o234x4 P (l oa P) .nil))) (N ob P (N oa P (N o154x3 P (l oa P) .nil) (N o218x4 P (l ob P) .nil)) (N o122x2 P (N o186x4 P (l o314x5 P) .nil) (N o250x4 P (l o378x5 P) .nil))))) (N o14a P (N o22x0 P (N o38x1 P (N o70x1 P (N o134x2 P (l o262x4 P) (l oa P)) (N oa P (l o326x5 P) .nil)) (N ob P (N o166x3 P (l o294x5 P) .nil) (N oa P (l o358x5 P) .nil))) (N o42x0 P (N o86x1 P (N o150x2 P (l o278x4 P) (l o406x5 P)) (N o214x4 P (l o342x5 P) .nil)) (N o118x2 P (N o182x4 P (l oa P) .nil) (N o246x4 P (l ob P) .nil)))) (N ob P (N ob P (N o78x1 P (N o142x2 P (l o270x4 P) (l o398x5 P)) (N o206x4 P (l oa P) .nil)) (N o110x2 P (N ob P (l o302x5 P) .nil) (N ob P (l oa P) .nil))) (N o62x1 P (N oa P (N o158x3 P (l oa P) .nil) (N o222x4 P (l o350x5 P) .nil)) (N o126x2 P (N o190x4 P (l ob P) .nil) (N o254x4 P (l o382x5 P) .nil))))))))
noncomputable def s6 (w : World) (os : OsState) : SharedT := ⟨t6 w.params, 408, ⟨[], [], [], 0, [], [], false, #[], [], 0, false, false, false, 0, [2000, 10, 10], false, 0, true, [], [], 0, false⟩, ⟨[]⟩, ⟨0, 0, 0, 0⟩, 715, os⟩
noncomputable def sts6 : List Stmt := (bE.drop 41).take 18
noncomputable def o3x6 (P : Params) : Obj := ⟨.type "dict", none, .dict #[kv P "__name__" 165 (.str "phpcore.frames" 866), kv P "__doc__" 166 .none, kv P "__package__" 167 .none, kv P "__loader__" 168 (.builtin "__main__.__loader__#opaque"), kv P "__spec__" 169 .none, kv P "__annotations__" 170 (.ref 6), kv P "__builtins__" 171 (.ref 4), kv P "__file__" 173 (.str "/claim/cut.py" 172), kv P "__cached__" 174 .none, kv P "_wall" 193 (.ref 21), kv P "PhpFault" 224 (.ref 38), kv P "LeftOut" 240 (.ref 51), kv P "Misused" 256 (.ref 63), kv P "Thrown" 293 (.ref 83), kv P "error" 300 (.ref 93), kv P "least" 306 (.ref 100), kv P "greatest" 312 (.ref 107), kv P "Ref" 345 (.ref 125), kv P "Absent" 374 (.ref 147), kv P "Obj" 410 (.ref 168), kv P "deref" 417 (.ref 179), kv P "Arr" 527 (.ref 253), kv P "is_living" 535 (.ref 264), kv P "hash_of" 544 (.ref 271), kv P "link" 553 (.ref 278), kv P "chains" 561 (.ref 285), kv P "many_ahead" 567 (.ref 290), kv P "rehash" 573 (.ref 295), kv P "to_hash" 580 (.ref 302), kv P "takes_packed" 588 (.ref 309), kv P "add_packed" 597 (.ref 316), kv P "add_hashed" 607 (.ref 323), kv P "add" 616 (.ref 330), kv P "marked" 623 (.ref 337), kv P "kind" 632 (.ref 344), kv P "lower" 641 (.ref 351), kv P "is_subclass" 651 (.ref 358), kv P "instance_of" 659 (.ref 365), kv P "to_bool" 669 (.ref 372), kv P "int_text" 676 (.ref 379), kv P "to_text" 685 (.ref 386), kv P "is_digit" 695 (.ref 393), kv P "digits_behind" 703 (.ref 400), kv P "digits_value" 714 (.ref 407), kv P "signed" 723 (.ref 414), kv P "exponent_behind" 732 (.ref 421), kv P "blanks_behind" 740 (.ref 428), kv P "numeric" 753 (.ref 435), kv P "number_of" 761 (.ref 442), kv P "has_text" 771 (.ref 449), kv P "type_text" 780 (.ref 456), kv P "is_callable" 789 (.ref 463), kv P "is_of" 797 (.ref 470), kv P "by_class" 807 (.ref 477), kv P "accepts_name" 818 (.ref 484), kv P "accepts" 830 (.ref 491), kv P "coerced_to" 840 (.ref 498), kv P "coerce" 856 (.ref 505), kv P "native_null" 865 (.ref 512)] 59, #[]⟩
noncomputable def o12x6 (P : Params) : Obj := ⟨.none, none, .fields #[.int 1 0, .int 0 0, .ref 20, .int 5 0, .int 0 0, .ref 27, .int 10 0, .int 0 0, .ref 47, .int 12 0, .int 0 0, .ref 59, .int 14 0, .int 0 0, .ref 71, .int 23 0, .int 0 0, .ref 92, .int 25 0, .int 0 0, .ref 99, .int 27 0, .int 0 0, .ref 106, .int 30 0, .int 0 0, .ref 113, .int 36 0, .int 0 0, .ref 135, .int 40 0, .int 0 0, .ref 157, .int 50 0, .int 0 0, .ref 178, .int 57 0, .int 0 0, .ref 185, .int 105 0, .int 0 0, .ref 263, .int 107 0, .int 0 0, .ref 270, .int 114 0, .int 0 0, .ref 277, .int 118 0, .int 0 0, .ref 284, .int 124 0, .int 0 0, .ref 289, .int 126 0, .int 0 0, .ref 294, .int 134 0, .int 0 0, .ref 301, .int 138 0, .int 0 0, .ref 308, .int 144 0, .int 0 0, .ref 315, .int 148 0, .int 0 0, .ref 322, .int 160 0, .int 0 0, .ref 329, .int 172 0, .int 0 0, .ref 336, .int 177 0, .int 0 0, .ref 343, .int 191 0, .int 0 0, .ref 350, .int 196 0, .int 0 0, .ref 357, .int 206 0, .int 0 0, .ref 364, .int 209 0, .int 0 0, .ref 371, .int 220 0, .int 0 0, .ref 378, .int 222 0, .int 0 0, .ref 385, .int 237 0, .int 0 0, .ref 392, .int 239 0, .int 0 0, .ref 399, .int 243 0, .int 0 0, .ref 406, .int 250 0, .int 0 0, .ref 413, .int 255 0, .int 0 0, .ref 420, .int 264 0, .int 0 0, .ref 427, .int 268 0, .int 0 0, .ref 434, .int 287 0, .int 0 0, .ref 441, .int 293 0, .int 0 0, .ref 448, .int 301 0, .int 0 0, .ref 455, .int 307 0, .int 0 0, .ref 462, .int 312 0, .int 0 0, .ref 469, .int 314 0, .int 0 0, .ref 476, .int 322 0, .int 0 0, .ref 483, .int 338 0, .int 0 0, .ref 490, .int 345 0, .int 0 0, .ref 497, .int 358 0, .int 0 0, .ref 504, .int 371 0, .int 0 0, .ref 511], #[]⟩
noncomputable def o410x6 (P : Params) : Obj := ⟨.type "tuple", none, .seq #[.str "is_minus" 718, .str "value" 719, .str "n" 720] 0, #[]⟩
noncomputable def o412x6 (P : Params) : Obj := ⟨.none, none, .func ⟨"signed", "signed", fA (S 41), .stmts (fB (S 41)), fS (S 41), 0, [], .none, .none, .none, .none, none, .none, .none, 0⟩, #[]⟩
noncomputable def o413x6 (P : Params) : Obj := ⟨.type "code", none, .fields #[.str "signed" 715, .str "signed" 716, .str "/claim/cut.py" 717, .int 250 0, .int 2 0, .int 0 0, .int 0 0, .int 3 0, .ref 408, .bool true, .int 181 0, .ref 409, .none, .ref 410, .ref 411, .ref 412, .int 721 0, .int 250 0, .str "/claim/cut.py" 722], #[]⟩
noncomputable def o414x6 (P : Params) : Obj := ⟨.type "function", none, .func ⟨"signed", "signed", fA (S 41), .stmts (fB (S 41)), fS (S 41), 3, [], .none, .none, .none, .str "phpcore.ints" 686, none, .ref 413, .none, 0⟩, #[]⟩
noncomputable def o417x6 (P : Params) : Obj := ⟨.type "tuple", none, .seq #[.str "text" 727, .str "at" 728, .str "first" 729] 0, #[]⟩
noncomputable def o419x6 (P : Params) : Obj := ⟨.none, none, .func ⟨"exponent_behind", "exponent_behind", fA (S 42), .stmts (fB (S 42)), fS (S 42), 0, [], .none, .none, .none, .none, none, .none, .none, 0⟩, #[]⟩
noncomputable def o420x6 (P : Params) : Obj := ⟨.type "code", none, .fields #[.str "exponent_behind" 724, .str "exponent_behind" 725, .str "/claim/cut.py" 726, .int 255 0, .int 2 0, .int 0 0, .int 0 0, .int 3 0, .ref 415, .bool true, .int 181 0, .ref 416, .none, .ref 417, .ref 418, .ref 419, .int 730 0, .int 255 0, .str "/claim/cut.py" 731], #[]⟩
noncomputable def o421x6 (P : Params) : Obj := ⟨.type "function", none, .func ⟨"exponent_behind", "exponent_behind", fA (S 42), .stmts (fB (S 42)), fS (S 42), 3, [], .none, .none, .none, .str "phpcore.ints" 686, none, .ref 420, .none, 0⟩, #[]⟩
noncomputable def o424x6 (P : Params) : Obj := ⟨.type "tuple", none, .seq #[.str "text" 736, .str "at" 737] 0, #[]⟩
noncomputable def o426x6 (P : Params) : Obj := ⟨.none, none, .func ⟨"blanks_behind", "blanks_behind", fA (S 43), .stmts (fB (S 43)), fS (S 43), 0, [], .none, .none, .none, .none, none, .none, .none, 0⟩, #[]⟩
noncomputable def o427x6 (P : Params) : Obj := ⟨.type "code", none, .fields #[.str "blanks_behind" 733, .str "blanks_behind" 734, .str "/claim/cut.py" 735, .int 264 0, .int 2 0, .int 0 0, .int 0 0, .int 3 0, .ref 422, .bool true, .int 181 0, .ref 423, .none, .ref 424, .ref 425, .ref 426, .int 738 0, .int 264 0, .str "/claim/cut.py" 739], #[]⟩
noncomputable def o428x6 (P : Params) : Obj := ⟨.type "function", none, .func ⟨"blanks_behind", "blanks_behind", fA (S 43), .stmts (fB (S 43)), fS (S 43), 3, [], .none, .none, .none, .str "phpcore.ints" 686, none, .ref 427, .none, 0⟩, #[]⟩
noncomputable def o431x6 (P : Params) : Obj := ⟨.type "tuple", none, .seq #[.str "text" 744, .str "first" 745, .str "is_minus" 746, .str "behind" 747, .str "is_pointed" 748, .str "far" 749, .str "value" 750] 0, #[]⟩
noncomputable def o433x6 (P : Params) : Obj := ⟨.none, none, .func ⟨"numeric", "numeric", fA (S 44), .stmts (fB (S 44)), fS (S 44), 0, [], .none, .none, .none, .none, none, .none, .none, 0⟩, #[]⟩
noncomputable def o434x6 (P : Params) : Obj := ⟨.type "code", none, .fields #[.str "numeric" 741, .str "numeric" 742, .str "/claim/cut.py" 743, .int 268 0, .int 1 0, .int 0 0, .int 0 0, .int 3 0, .ref 429, .bool true, .int 181 0, .ref 430, .none, .ref 431, .ref 432, .ref 433, .int 751 0, .int 268 0, .str "/claim/cut.py" 752], #[]⟩
noncomputable def o435x6 (P : Params) : Obj := ⟨.type "function", none, .func ⟨"numeric", "numeric", fA (S 44), .stmts (fB (S 44)), fS (S 44), 3, [], .none, .none, .none, .str "phpcore.ints" 686, none, .ref 434, .none, 0⟩, #[]⟩
noncomputable def o438x6 (P : Params) : Obj := ⟨.type "tuple", none, .seq #[.str "text" 757, .str "n" 758] 0, #[]⟩
noncomputable def o440x6 (P : Params) : Obj := ⟨.none, none, .func ⟨"number_of", "number_of", fA (S 45), .stmts (fB (S 45)), fS (S 45), 0, [], .none, .none, .none, .none, none, .none, .none, 0⟩, #[]⟩
noncomputable def o441x6 (P : Params) : Obj := ⟨.type "code", none, .fields #[.str "number_of" 754, .str "number_of" 755, .str "/claim/cut.py" 756, .int 287 0, .int 1 0, .int 0 0, .int 0 0, .int 3 0, .ref 436, .bool true, .int 181 0, .ref 437, .none, .ref 438, .ref 439, .ref 440, .int 759 0, .int 287 0, .str "/claim/cut.py" 760], #[]⟩
noncomputable def o442x6 (P : Params) : Obj := ⟨.type "function", none, .func ⟨"number_of", "number_of", fA (S 45), .stmts (fB (S 45)), fS (S 45), 3, [], .none, .none, .none, .str "phpcore.ints" 686, none, .ref 441, .none, 0⟩, #[]⟩
noncomputable def o445x6 (P : Params) : Obj := ⟨.type "tuple", none, .seq #[.str "obj" 767, .str "klass" 768] 0, #[]⟩
noncomputable def o447x6 (P : Params) : Obj := ⟨.none, none, .func ⟨"has_text", "has_text", fA (S 47), .stmts (fB (S 47)), fS (S 47), 0, [], .none, .none, .none, .none, none, .none, .none, 0⟩, #[]⟩
noncomputable def o448x6 (P : Params) : Obj := ⟨.type "code", none, .fields #[.str "has_text" 764, .str "has_text" 765, .str "/claim/cut.py" 766, .int 293 0, .int 1 0, .int 0 0, .int 0 0, .int 3 0, .ref 443, .bool true, .int 181 0, .ref 444, .none, .ref 445, .ref 446, .ref 447, .int 769 0, .int 293 0, .str "/claim/cut.py" 770], #[]⟩
noncomputable def o449x6 (P : Params) : Obj := ⟨.type "function", none, .func ⟨"has_text", "has_text", fA (S 47), .stmts (fB (S 47)), fS (S 47), 3, [], .none, .none, .none, .str "phpcore.likeness" 762, none, .ref 448, .none, 0⟩, #[]⟩
noncomputable def o452x6 (P : Params) : Obj := ⟨.type "tuple", none, .seq #[.str "names" 777] 0, #[]⟩
noncomputable def o454x6 (P : Params) : Obj := ⟨.none, none, .func ⟨"type_text", "type_text", fA (S 49), .stmts (fB (S 49)), fS (S 49), 0, [], .none, .none, .none, .none, none, .none, .none, 0⟩, #[]⟩
noncomputable def o455x6 (P : Params) : Obj := ⟨.type "code", none, .fields #[.str "type_text" 774, .str "type_text" 775, .str "/claim/cut.py" 776, .int 301 0, .int 1 0, .int 0 0, .int 0 0, .int 3 0, .ref 450, .bool true, .int 181 0, .ref 451, .none, .ref 452, .ref 453, .ref 454, .int 778 0, .int 301 0, .str "/claim/cut.py" 779], #[]⟩
noncomputable def o456x6 (P : Params) : Obj := ⟨.type "function", none, .func ⟨"type_text", "type_text", fA (S 49), .stmts (fB (S 49)), fS (S 49), 3, [], .none, .none, .none, .str "phpcore.types" 772, none, .ref 455, .none, 0⟩, #[]⟩
noncomputable def o459x6 (P : Params) : Obj := ⟨.type "tuple", none, .seq #[.str "host" 784, .str "value" 785, .str "sort" 786] 0, #[]⟩
noncomputable def o461x6 (P : Params) : Obj := ⟨.none, none, .func ⟨"is_callable", "is_callable", fA (S 50), .stmts (fB (S 50)), fS (S 50), 0, [], .none, .none, .none, .none, none, .none, .none, 0⟩, #[]⟩
noncomputable def o462x6 (P : Params) : Obj := ⟨.type "code", none, .fields #[.str "is_callable" 781, .str "is_callable" 782, .str "/claim/cut.py" 783, .int 307 0, .int 2 0, .int 0 0, .int 0 0, .int 3 0, .ref 457, .bool true, .int 181 0, .ref 458, .none, .ref 459, .ref 460, .ref 461, .int 787 0, .int 307 0, .str "/claim/cut.py" 788], #[]⟩
noncomputable def o463x6 (P : Params) : Obj := ⟨.type "function", none, .func ⟨"is_callable", "is_callable", fA (S 50), .stmts (fB (S 50)), fS (S 50), 3, [], .none, .none, .none, .str "phpcore.types" 772, none, .ref 462, .none, 0⟩, #[]⟩
noncomputable def o466x6 (P : Params) : Obj := ⟨.type "tuple", none, .seq #[.str "value" 793, .str "klass" 794] 0, #[]⟩
noncomputable def o468x6 (P : Params) : Obj := ⟨.none, none, .func ⟨"is_of", "is_of", fA (S 51), .stmts (fB (S 51)), fS (S 51), 0, [], .none, .none, .none, .none, none, .none, .none, 0⟩, #[]⟩
noncomputable def o469x6 (P : Params) : Obj := ⟨.type "code", none, .fields #[.str "is_of" 790, .str "is_of" 791, .str "/claim/cut.py" 792, .int 312 0, .int 2 0, .int 0 0, .int 0 0, .int 3 0, .ref 464, .bool true, .int 181 0, .ref 465, .none, .ref 466, .ref 467, .ref 468, .int 795 0, .int 312 0, .str "/claim/cut.py" 796], #[]⟩
noncomputable def o470x6 (P : Params) : Obj := ⟨.type "function", none, .func ⟨"is_of", "is_of", fA (S 51), .stmts (fB (S 51)), fS (S 51), 3, [], .none, .none, .none, .str "phpcore.types" 772, none, .ref 469, .none, 0⟩, #[]⟩
noncomputable def o473x6 (P : Params) : Obj := ⟨.type "tuple", none, .seq #[.str "name" 801, .str "value" 802, .str "here" 803, .str "static" 804] 0, #[]⟩
noncomputable def o475x6 (P : Params) : Obj := ⟨.none, none, .func ⟨"by_class", "by_class", fA (S 52), .stmts (fB (S 52)), fS (S 52), 0, [], .none, .none, .none, .none, none, .none, .none, 0⟩, #[]⟩
noncomputable def o476x6 (P : Params) : Obj := ⟨.type "code", none, .fields #[.str "by_class" 798, .str "by_class" 799, .str "/claim/cut.py" 800, .int 314 0, .int 4 0, .int 0 0, .int 0 0, .int 3 0, .ref 471, .bool true, .int 181 0, .ref 472, .none, .ref 473, .ref 474, .ref 475, .int 805 0, .int 314 0, .str "/claim/cut.py" 806], #[]⟩
noncomputable def o477x6 (P : Params) : Obj := ⟨.type "function", none, .func ⟨"by_class", "by_class", fA (S 52), .stmts (fB (S 52)), fS (S 52), 3, [], .none, .none, .none, .str "phpcore.types" 772, none, .ref 476, .none, 0⟩, #[]⟩
noncomputable def o480x6 (P : Params) : Obj := ⟨.type "tuple", none, .seq #[.str "host" 811, .str "name" 812, .str "value" 813, .str "here" 814, .str "static" 815] 0, #[]⟩
noncomputable def o482x6 (P : Params) : Obj := ⟨.none, none, .func ⟨"accepts_name", "accepts_name", fA (S 53), .stmts (fB (S 53)), fS (S 53), 0, [], .none, .none, .none, .none, none, .none, .none, 0⟩, #[]⟩
noncomputable def o483x6 (P : Params) : Obj := ⟨.type "code", none, .fields #[.str "accepts_name" 808, .str "accepts_name" 809, .str "/claim/cut.py" 810, .int 322 0, .int 5 0, .int 0 0, .int 0 0, .int 3 0, .ref 478, .bool true, .int 181 0, .ref 479, .none, .ref 480, .ref 481, .ref 482, .int 816 0, .int 322 0, .str "/claim/cut.py" 817], #[]⟩
noncomputable def o484x6 (P : Params) : Obj := ⟨.type "function", none, .func ⟨"accepts_name", "accepts_name", fA (S 53), .stmts (fB (S 53)), fS (S 53), 3, [], .none, .none, .none, .str "phpcore.types" 772, none, .ref 483, .none, 0⟩, #[]⟩
noncomputable def o487x6 (P : Params) : Obj := ⟨.type "tuple", none, .seq #[.str "host" 822, .str "names" 823, .str "value" 824, .str "here" 825, .str "static" 826, .str "name" 827] 0, #[]⟩
noncomputable def o489x6 (P : Params) : Obj := ⟨.none, none, .func ⟨"accepts", "accepts", fA (S 54), .stmts (fB (S 54)), fS (S 54), 0, [], .none, .none, .none, .none, none, .none, .none, 0⟩, #[]⟩
noncomputable def o490x6 (P : Params) : Obj := ⟨.type "code", none, .fields #[.str "accepts" 819, .str "accepts" 820, .str "/claim/cut.py" 821, .int 338 0, .int 5 0, .int 0 0, .int 0 0, .int 3 0, .ref 485, .bool true, .int 181 0, .ref 486, .none, .ref 487, .ref 488, .ref 489, .int 828 0, .int 338 0, .str "/claim/cut.py" 829], #[]⟩
noncomputable def o491x6 (P : Params) : Obj := ⟨.type "function", none, .func ⟨"accepts", "accepts", fA (S 54), .stmts (fB (S 54)), fS (S 54), 3, [], .none, .none, .none, .str "phpcore.types" 772, none, .ref 490, .none, 0⟩, #[]⟩
noncomputable def o494x6 (P : Params) : Obj := ⟨.type "tuple", none, .seq #[.str "host" 834, .str "name" 835, .str "value" 836, .str "sort" 837] 0, #[]⟩
noncomputable def o496x6 (P : Params) : Obj := ⟨.none, none, .func ⟨"coerced_to", "coerced_to", fA (S 55), .stmts (fB (S 55)), fS (S 55), 0, [], .none, .none, .none, .none, none, .none, .none, 0⟩, #[]⟩
noncomputable def o497x6 (P : Params) : Obj := ⟨.type "code", none, .fields #[.str "coerced_to" 831, .str "coerced_to" 832, .str "/claim/cut.py" 833, .int 345 0, .int 3 0, .int 0 0, .int 0 0, .int 3 0, .ref 492, .bool true, .int 181 0, .ref 493, .none, .ref 494, .ref 495, .ref 496, .int 838 0, .int 345 0, .str "/claim/cut.py" 839], #[]⟩
noncomputable def o498x6 (P : Params) : Obj := ⟨.type "function", none, .func ⟨"coerced_to", "coerced_to", fA (S 55), .stmts (fB (S 55)), fS (S 55), 3, [], .none, .none, .none, .str "phpcore.types" 772, none, .ref 497, .none, 0⟩, #[]⟩
noncomputable def o501x6 (P : Params) : Obj := ⟨.type "tuple", none, .seq #[.str "host" 844, .str "names" 845, .str "value" 846, .str "is_strict" 847, .str "here" 848, .str "static" 849, .str "sort" 850, .str "name" 851, .str "is_ok" 852, .str "made" 853] 0, #[]⟩
noncomputable def o503x6 (P : Params) : Obj := ⟨.none, none, .func ⟨"coerce", "coerce", fA (S 56), .stmts (fB (S 56)), fS (S 56), 0, [], .none, .none, .none, .none, none, .none, .none, 0⟩, #[]⟩
noncomputable def o504x6 (P : Params) : Obj := ⟨.type "code", none, .fields #[.str "coerce" 841, .str "coerce" 842, .str "/claim/cut.py" 843, .int 358 0, .int 6 0, .int 0 0, .int 0 0, .int 3 0, .ref 499, .bool true, .int 181 0, .ref 500, .none, .ref 501, .ref 502, .ref 503, .int 854 0, .int 358 0, .str "/claim/cut.py" 855], #[]⟩
noncomputable def o505x6 (P : Params) : Obj := ⟨.type "function", none, .func ⟨"coerce", "coerce", fA (S 56), .stmts (fB (S 56)), fS (S 56), 3, [], .none, .none, .none, .str "phpcore.types" 772, none, .ref 504, .none, 0⟩, #[]⟩
noncomputable def o508x6 (P : Params) : Obj := ⟨.type "tuple", none, .seq #[.str "host" 860, .str "names" 861, .str "where" 862] 0, #[]⟩
noncomputable def o510x6 (P : Params) : Obj := ⟨.none, none, .func ⟨"native_null", "native_null", fA (S 57), .stmts (fB (S 57)), fS (S 57), 0, [], .none, .none, .none, .none, none, .none, .none, 0⟩, #[]⟩
noncomputable def o511x6 (P : Params) : Obj := ⟨.type "code", none, .fields #[.str "native_null" 857, .str "native_null" 858, .str "/claim/cut.py" 859, .int 371 0, .int 3 0, .int 0 0, .int 0 0, .int 3 0, .ref 506, .bool true, .int 181 0, .ref 507, .none, .ref 508, .ref 509, .ref 510, .int 863 0, .int 371 0, .str "/claim/cut.py" 864], #[]⟩
noncomputable def o512x6 (P : Params) : Obj := ⟨.type "function", none, .func ⟨"native_null", "native_null", fA (S 57), .stmts (fB (S 57)), fS (S 57), 3, [], .none, .none, .none, .str "phpcore.types" 772, none, .ref 511, .none, 0⟩, #[]⟩
noncomputable def t7 (P : Params) : BT := (N boot_o_0 P (N boot_o_1 P (N o3x6 P (N boot_o_7 P (N oa P (N o31x0 P (N o63x1 P (N o127x2 P (N o255x4 P (l o511x6 P) .nil) (l oa P)) (N oa P (l o319x5 P) (l o447x6 P))) (N ob P (N oa P (l ob P) (l oa P)) (N oa P (l o351x5 P) (l ob P)))) (N o47x0 P (N o79x1 P (N o143x2 P (l o271x4 P) (l o399x5 P)) (N o207x4 P (l o335x5 P) (l o463x6 P))) (N oa P (N o175x3 P (l oa P) (l o431x6 P)) (N o239x4 P (l ob P) (l oa P))))) (N o23x0 P (N o39x0 P (N o71x1 P (N o135x2 P (l o263x4 P) (l o391x5 P)) (N o199x4 P (l oa P) (l o455x6 P))) (N oa P (N o167x3 P (l o295x5 P) (l ob P)) (N ob P (l oa P) (l o487x6 P)))) (N o23x0 P (N oa P (N o151x2 P (l oa P) (l o407x5 P)) (N o215x4 P (l o343x5 P) (l oa P))) (N oa P (N oa P (l ob P) (l oa P)) (N oa P (l o375x5 P) (l o503x6 P)))))) (N oa P (N o19x0 P (N o35x0 P (N o23x0 P (N o23x0 P (l ob P) (l oa P)) (N oa P (l o323x5 P) (l ob P))) (N o99x1 P (N o163x3 P (l oa P) (l o419x6 P)) (N o227x4 P (l oa P) (l o483x6 P)))) (N o51x0 P (N o83x1 P (N o147x2 P (l oa P) (l o403x5 P)) (N o211x4 P (l ob P) (l oa P))) (N o115x2 P (N o179x3 P (l o307x5 P) (l o435x6 P)) (N o243x4 P (l o371x5 P) (l oa P))))) (N o27x0 P (N o23x0 P (N ob P (N ob P (l o267x4 P) (l ob P)) (N ob P (l oa P) (l o459x6 P))) (N o107x1 P (N o171x3 P (l oa P) (l o427x6 P)) (N o235x4 P (l o363x5 P) (l o491x6 P)))) (N o59x1 P (N o91x1 P (N oa P (l o283x5 P) (l oa P)) (N oa P (l o347x5 P) (l o475x6 P))) (N o123x2 P (N o187x4 P (l o315x5 P) (l oa P)) (N o251x4 P (l o379x5 P) (l ob P))))))) (N boot_o_5 P (N boot_o_9 P (N o17x0 P (N o33x0 P (N o65x1 P (N o129x2 P (l o257x4 P) (l o385x5 P)) (N o193x4 P (l o321x5 P) (l o449x6 P))) (N oa P (N o161x3 P (l o289x5 P) (l o417x6 P)) (N o225x4 P (l ob P) (l oa P)))) (N oa P (N o81x1 P (N o145x2 P (l ob P) (l oa P)) (N oa P (l o337x5 P) (l ob P))) (N o113x2 P (N o177x3 P (l o305x5 P) (l o433x6 P)) (N o241x4 P (l oa P) (l o497x6 P))))) (N oa P (N o41x0 P (N o73x1 P (N o137x2 P (l oa P) (l o393x5 P)) (N o201x4 P (l o329x5 P) (l oa P))) (N o105x1 P (N o169x3 P (l ob P) (l oa P)) (N oa P (l o361x5 P) (l o489x6 P)))) (N oa P (N o89x1 P (N o23x0 P (l o281x5 P) (l ob P)) (N ob P (l oa P) (l o473x6 P))) (N o121x2 P (N o185x4 P (l oa P) (l o441x6 P)) (N o249x4 P (l o377x5 P) (l o505x6 P)))))) (N o13a P (N o21x0 P (N o37x0 P (N oa P (N oa P (l oa P) (l o389x5 P)) (N o197x4 P (l ob P) (l oa P))) (N oa P (N o165x3 P (l o293x5 P) (l o421x6 P)) (N o229x4 P (l o357x5 P) (l oa P)))) (N o53x0 P (N o85x1 P (N o149x2 P (l o277x4 P) (l o405x5 P)) (N o213x4 P (l oa P) (l o469x6 P))) (N ob P (N o23x0 P (l o309x5 P) (l ob P)) (N ob P (l oa P) (l o501x6 P))))) (N oa P (N oa P (N oa P (N oa P (l o269x4 P) (l oa P)) (N oa P (l o333x5 P) (l o461x6 P))) (N o23x0 P (N oa P (l o301x5 P) (l oa P)) (N oa P (l o365x5 P) (l ob P)))) (N oa P (N o93x1 P (N o157x3 P (l o285x5 P) (l o413x6 P)) (N o221x4 P (l o349x5 P) (l o477x6 P))) (N o125x2 P (N ob P (l oa P) (l o445x6 P)) (N o253x4 P (l ob P) (l oa P)))))))) (N o2x1 P (N boot_o_4 P (N boot_o_8 P (N ob P (N oa P (N o64x1 P (N o128x2 P (N o256x4 P (l o512x6 P) .nil) (l o384x5 P)) (N o192x4 P (l oa P) (l o448x6 P))) (N oa P (N ob P (l o288x5 P) (l ob P)) (N ob P (l oa P) (l o480x6 P)))) (N o48x0 P (N o80x1 P (N o144x2 P (l oa P) (l o400x5 P)) (N o208x4 P (l o336x5 P) (l oa P))) (N o112x2 P (N oa P (l ob P) (l oa P)) (N oa P (l o368x5 P) (l o496x6 P))))) (N o24x0 P (N o40x0 P (N o72x1 P (N o136x2 P (l o264x4 P) (l o392x5 P)) (N o200x4 P (l o328x5 P) (l o456x6 P))) (N oa P (N o168x3 P (l oa P) (l o424x6 P)) (N o232x4 P (l ob P) (l oa P)))) (N o56x1 P (N ob P (N oa P (l ob P) (l oa P)) (N oa P (l o344x5 P) (l ob P))) (N o120x2 P (N o184x4 P (l o312x5 P) (l o440x6 P)) (N o248x4 P (l oa P) (l o504x6 P)))))) (N o12x6 P (N o20x0 P (N o36x0 P (N o68x1 P (N o132x2 P (l o260x4 P) (l ob P)) (N ob P (l oa P) (l o452x6 P))) (N o100x1 P (N o164x3 P (l ob P) (l o420x6 P)) (N o228x4 P (l o356x5 P) (l o484x6 P)))) (N o52x0 P (N o84x1 P (N o148x2 P (l o276x4 P) (l oa P)) (N oa P (l o340x5 P) (l o468x6 P))) (N oa P (N oa P (l o308x5 P) (l oa P)) (N oa P (l o372x5 P) (l ob P))))) (N o28x0 P (N o44x0 P (N o76x1 P (N o140x2 P (l oa P) (l o396x5 P)) (N o204x4 P (l ob P) (l oa P))) (N oa P (N o172x3 P (l o300x5 P) (l o428x6 P)) (N o236x4 P (l o364x5 P) (l oa P)))) (N o60x1 P (N o92x1 P (N o156x3 P (l o284x5 P) (l o412x6 P)) (N o220x4 P (l oa P) (l o476x6 P))) (N o124x2 P (N oa P (l o316x5 P) (l ob P)) (N o252x4 P (l oa P) (l o508x6 P))))))) (N boot_o_6 P (N boot_o_10 P (N oa P (N o34x0 P (N o22x0 P (N oa P (l oa P) (l o386x5 P)) (N o194x4 P (l o322x5 P) (l oa P))) (N o98x1 P (N oa P (l o290x5 P) (l oa P)) (N oa P (l o354x5 P) (l o482x6 P)))) (N o50x0 P (N o82x1 P (N o146x2 P (l o274x4 P) (l ob P)) (N ob P (l oa P) (l o466x6 P))) (N o114x2 P (N o178x3 P (l oa P) (l o434x6 P)) (N o242x4 P (l o370x5 P) (l o498x6 P))))) (N o26x0 P (N o42x0 P (N oa P (N oa P (l ob P) (l oa P)) (N oa P (l o330x5 P) (l ob P))) (N o106x1 P (N o170x3 P (l o298x5 P) (l o426x6 P)) (N o234x4 P (l oa P) (l o490x6 P)))) (N ob P (N oa P (N o154x3 P (l oa P) (l o410x6 P)) (N o218x4 P (l ob P) (l oa P))) (N o122x2 P (N o186x4 P (l o314x5 P) (l o442x6 P)) (N o250x4 P (l o378x5 P) (l oa P)))))) (N o14a P (N o22x0 P (N o38x1 P (N o70x1 P (N o134x2 P (l o262x4 P) (l oa P)) (N oa P (l o326x5 P) (l o454x6 P))) (N ob P (N o166x3 P (l o294x5 P) (l oa P)) (N oa P (l o358x5 P) (l ob P)))) (N o42x0 P (N o86x1 P (N o150x2 P (l o278x4 P) (l o406x5 P)) (N o214x4 P (l o342x5 P) (l o470x6 P))) (N o118x2 P (N o182x4 P (l oa P) (l o438x6 P)) (N o246x4 P (l ob P) (l oa P))))) (N ob P (N ob P (N o78x1 P (N o142x2 P (l o270x4 P) (l o398x5 P)) (N o206x4 P (l oa P) (l o462x6 P))) (N o110x2 P (N ob P (l o302x5 P) (l ob P)) (N ob P (l oa P) (l o494x6 P)))) (N o62x1 P (N oa P (N o158x3 P (l oa P) (l o414x6 P)) (N o222x4 P (l o350x5 P) (l oa P))) (N o126x2 P (N o190x4 P (l ob P) (l oa P)) (N o254x4 P (l o382x5 P) (l o510x6 P)))))))))
noncomputable def s7 (w : World) (os : OsState) : SharedT := ⟨t7 w.params, 513, ⟨[], [], [], 0, [], [], false, #[], [], 0, false, false, false, 0, [2000, 10, 10], false, 0, true, [], [], 0, false⟩, ⟨[]⟩, ⟨0, 0, 0, 0⟩, 868, os⟩
noncomputable def sts7 : List Stmt := (bE.drop 59).take 2
noncomputable def o3x7 (P : Params) : Obj := ⟨.type "dict", none, .dict #[kv P "__name__" 165 (.str "phpcore.host" 905), kv P "__doc__" 166 .none, kv P "__package__" 167 .none, kv P "__loader__" 168 (.builtin "__main__.__loader__#opaque"), kv P "__spec__" 169 .none, kv P "__annotations__" 170 (.ref 6), kv P "__builtins__" 171 (.ref 4), kv P "__file__" 173 (.str "/claim/cut.py" 172), kv P "__cached__" 174 .none, kv P "_wall" 193 (.ref 21), kv P "PhpFault" 224 (.ref 38), kv P "LeftOut" 240 (.ref 51), kv P "Misused" 256 (.ref 63), kv P "Thrown" 293 (.ref 83), kv P "error" 300 (.ref 93), kv P "least" 306 (.ref 100), kv P "greatest" 312 (.ref 107), kv P "Ref" 345 (.ref 125), kv P "Absent" 374 (.ref 147), kv P "Obj" 410 (.ref 168), kv P "deref" 417 (.ref 179), kv P "Arr" 527 (.ref 253), kv P "is_living" 535 (.ref 264), kv P "hash_of" 544 (.ref 271), kv P "link" 553 (.ref 278), kv P "chains" 561 (.ref 285), kv P "many_ahead" 567 (.ref 290), kv P "rehash" 573 (.ref 295), kv P "to_hash" 580 (.ref 302), kv P "takes_packed" 588 (.ref 309), kv P "add_packed" 597 (.ref 316), kv P "add_hashed" 607 (.ref 323), kv P "add" 616 (.ref 330), kv P "marked" 623 (.ref 337), kv P "kind" 632 (.ref 344), kv P "lower" 641 (.ref 351), kv P "is_subclass" 651 (.ref 358), kv P "instance_of" 659 (.ref 365), kv P "to_bool" 669 (.ref 372), kv P "int_text" 676 (.ref 379), kv P "to_text" 685 (.ref 386), kv P "is_digit" 695 (.ref 393), kv P "digits_behind" 703 (.ref 400), kv P "digits_value" 714 (.ref 407), kv P "signed" 723 (.ref 414), kv P "exponent_behind" 732 (.ref 421), kv P "blanks_behind" 740 (.ref 428), kv P "numeric" 753 (.ref 435), kv P "number_of" 761 (.ref 442), kv P "has_text" 771 (.ref 449), kv P "type_text" 780 (.ref 456), kv P "is_callable" 789 (.ref 463), kv P "is_of" 797 (.ref 470), kv P "by_class" 807 (.ref 477), kv P "accepts_name" 818 (.ref 484), kv P "accepts" 830 (.ref 491), kv P "coerced_to" 840 (.ref 498), kv P "coerce" 856 (.ref 505), kv P "native_null" 865 (.ref 512), kv P "Frame" 904 (.ref 530)] 60, #[]⟩
noncomputable def o12x7 (P : Params) : Obj := ⟨.none, none, .fields #[.int 1 0, .int 0 0, .ref 20, .int 5 0, .int 0 0, .ref 27, .int 10 0, .int 0 0, .ref 47, .int 12 0, .int 0 0, .ref 59, .int 14 0, .int 0 0, .ref 71, .int 23 0, .int 0 0, .ref 92, .int 25 0, .int 0 0, .ref 99, .int 27 0, .int 0 0, .ref 106, .int 30 0, .int 0 0, .ref 113, .int 36 0, .int 0 0, .ref 135, .int 40 0, .int 0 0, .ref 157, .int 50 0, .int 0 0, .ref 178, .int 57 0, .int 0 0, .ref 185, .int 105 0, .int 0 0, .ref 263, .int 107 0, .int 0 0, .ref 270, .int 114 0, .int 0 0, .ref 277, .int 118 0, .int 0 0, .ref 284, .int 124 0, .int 0 0, .ref 289, .int 126 0, .int 0 0, .ref 294, .int 134 0, .int 0 0, .ref 301, .int 138 0, .int 0 0, .ref 308, .int 144 0, .int 0 0, .ref 315, .int 148 0, .int 0 0, .ref 322, .int 160 0, .int 0 0, .ref 329, .int 172 0, .int 0 0, .ref 336, .int 177 0, .int 0 0, .ref 343, .int 191 0, .int 0 0, .ref 350, .int 196 0, .int 0 0, .ref 357, .int 206 0, .int 0 0, .ref 364, .int 209 0, .int 0 0, .ref 371, .int 220 0, .int 0 0, .ref 378, .int 222 0, .int 0 0, .ref 385, .int 237 0, .int 0 0, .ref 392, .int 239 0, .int 0 0, .ref 399, .int 243 0, .int 0 0, .ref 406, .int 250 0, .int 0 0, .ref 413, .int 255 0, .int 0 0, .ref 420, .int 264 0, .int 0 0, .ref 427, .int 268 0, .int 0 0, .ref 434, .int 287 0, .int 0 0, .ref 441, .int 293 0, .int 0 0, .ref 448, .int 301 0, .int 0 0, .ref 455, .int 307 0, .int 0 0, .ref 462, .int 312 0, .int 0 0, .ref 469, .int 314 0, .int 0 0, .ref 476, .int 322 0, .int 0 0, .ref 483, .int 338 0, .int 0 0, .ref 490, .int 345 0, .int 0 0, .ref 497, .int 358 0, .int 0 0, .ref 504, .int 371 0, .int 0 0, .ref 511, .int 381 0, .int 0 0, .ref 518], #[]⟩
noncomputable def o515x7 (P : Params) : Obj := ⟨.type "dict", none, .dict #[kv P "__module__" 875 (.str "phpcore.frames" 866), kv P "__qualname__" 877 (.str "Frame" 876), kv P "__firstlineno__" 879 (.int 381 878), kv P "__init__" 890 (.ref 527), kv P "__static_attributes__" 897 (.ref 528)] 5, #[]⟩
noncomputable def o517x7 (P : Params) : Obj := ⟨.none, none, .fields #[.int 383 0, .int 4 0, .ref 526], #[]⟩
noncomputable def o518x7 (P : Params) : Obj := ⟨.type "code", none, .fields #[.str "Frame" 870, .str "Frame" 871, .str "/claim/cut.py" 872, .int 381 0, .int 0 0, .int 0 0, .int 0 0, .int 0 0, .ref 516, .bool false, .int 181 0, .ref 517, .none, .none, .none, .none, .int 873 0, .int 381 0, .str "/claim/cut.py" 874], #[]⟩
noncomputable def o519x7 (P : Params) : Obj := ⟨.type "frame", none, .plain, #[some (.ref 518), some (.ref 3), some (.ref 515), none, some (.str "phpcore.frames" 866), none, some (.ref 0)]⟩
noncomputable def o520x7 (P : Params) : Obj := ⟨.type "tuple", none, .seq #[.none, .none, .none, .none] 0, #[]⟩
noncomputable def o523x7 (P : Params) : Obj := ⟨.type "tuple", none, .seq #[.str "self" 883, .str "func" 884, .str "this" 885, .str "cls" 886, .str "static" 887] 0, #[]⟩
noncomputable def o525x7 (P : Params) : Obj := ⟨.none, none, .func ⟨"__init__", "Frame.__init__", fA (M 59 0), .stmts (fB (M 59 0)), fS (M 59 0), 0, [], .none, .none, .none, .none, none, .none, .none, 0⟩, #[]⟩
noncomputable def o526x7 (P : Params) : Obj := ⟨.type "code", none, .fields #[.str "__init__" 880, .str "Frame.__init__" 881, .str "/claim/cut.py" 882, .int 383 0, .int 5 0, .int 0 0, .int 0 0, .int 3 0, .ref 521, .bool true, .int 181 0, .ref 522, .none, .ref 523, .ref 524, .ref 525, .int 888 0, .int 383 0, .str "/claim/cut.py" 889], #[]⟩
noncomputable def o527x7 (P : Params) : Obj := ⟨.type "function", none, .func ⟨"__init__", "Frame.__init__", fA (M 59 0), .stmts (fB (M 59 0)), fS (M 59 0), 3, [], .ref 520, .none, .none, .str "phpcore.frames" 866, none, .ref 526, .none, 0⟩, #[]⟩
noncomputable def o528x7 (P : Params) : Obj := ⟨.type "tuple", none, .seq #[.str "args" 891, .str "cls" 892, .str "func" 893, .str "static" 894, .str "this" 895, .str "vars" 896] 0, #[]⟩
noncomputable def o529x7 (P : Params) : Obj := ⟨.type "dict", none, .dict #[kv P "__module__" 875 (.str "phpcore.frames" 866), kv P "__firstlineno__" 879 (.int 381 878), kv P "__init__" 890 (.ref 527), kv P "__static_attributes__" 897 (.ref 528), kv P "__dict__" 899 (.ref 531), kv P "__weakref__" 901 (.ref 532), kv P "__doc__" 902 .none] 4, #[]⟩
noncomputable def o530x7 (P : Params) : Obj := ⟨.type "type", none, .cls ⟨"Frame", [.type "object"], [.ref 530, .type "object"], 529, "Frame", true, [], [], false, none, false⟩, #[none, none, some (.str "Frame" 868), some (.str "Frame" 876), some (.builtin "object.__new__"), some (.bool true)]⟩
noncomputable def o531x7 (P : Params) : Obj := ⟨.type "getset_descriptor", none, .fields #[.str "__dict__" 898, .ref 530, .builtin "function.__dict__", .builtin "function.__dict__#set"], #[]⟩
noncomputable def o532x7 (P : Params) : Obj := ⟨.type "getset_descriptor", none, .fields #[.str "__weakref__" 900, .ref 530, .builtin "ExceptionGroup.__weakref__", .none], #[]⟩
noncomputable def o533x7 (P : Params) : Obj := ⟨.type "super", none, .fields #[.ref 530, .ref 530, .ref 530], #[]⟩
noncomputable def o534x7 (P : Params) : Obj := ⟨.type "builtin_function_or_method", none, .fields #[.builtin "object.__init_subclass__", .ref 530], #[]⟩
noncomputable def t8 (P : Params) : BT := (N boot_o_0 P (N boot_o_1 P (N o3x7 P (N boot_o_7 P (N oa P (N o31x0 P (N o63x1 P (N o127x2 P (N o255x4 P (l o511x6 P) .nil) (l oa P)) (N oa P (l o319x5 P) (l o447x6 P))) (N ob P (N oa P (l ob P) (l oa P)) (N oa P (l o351x5 P) (l ob P)))) (N o47x0 P (N o79x1 P (N o143x2 P (N o271x4 P (l o527x7 P) .nil) (l o399x5 P)) (N o207x4 P (l o335x5 P) (l o463x6 P))) (N oa P (N o175x3 P (l oa P) (l o431x6 P)) (N o239x4 P (l ob P) (l oa P))))) (N o23x0 P (N o39x0 P (N o71x1 P (N o135x2 P (N o263x4 P (l o519x7 P) .nil) (l o391x5 P)) (N o199x4 P (l oa P) (l o455x6 P))) (N oa P (N o167x3 P (l o295x5 P) (l ob P)) (N ob P (l oa P) (l o487x6 P)))) (N o23x0 P (N oa P (N o151x2 P (l oa P) (l o407x5 P)) (N o215x4 P (l o343x5 P) (l oa P))) (N oa P (N oa P (l ob P) (l oa P)) (N oa P (l o375x5 P) (l o503x6 P)))))) (N oa P (N o19x0 P (N o35x0 P (N o23x0 P (N o23x0 P (N ob P (l o515x7 P) .nil) (l oa P)) (N oa P (l o323x5 P) (l ob P))) (N o99x1 P (N o163x3 P (l oa P) (l o419x6 P)) (N o227x4 P (l oa P) (l o483x6 P)))) (N o51x0 P (N o83x1 P (N o147x2 P (N oa P (l o531x7 P) .nil) (l o403x5 P)) (N o211x4 P (l ob P) (l oa P))) (N o115x2 P (N o179x3 P (l o307x5 P) (l o435x6 P)) (N o243x4 P (l o371x5 P) (l oa P))))) (N o27x0 P (N o23x0 P (N ob P (N ob P (N o267x4 P (l o523x7 P) .nil) (l ob P)) (N ob P (l oa P) (l o459x6 P))) (N o107x1 P (N o171x3 P (l oa P) (l o427x6 P)) (N o235x4 P (l o363x5 P) (l o491x6 P)))) (N o59x1 P (N o91x1 P (N oa P (l o283x5 P) (l oa P)) (N oa P (l o347x5 P) (l o475x6 P))) (N o123x2 P (N o187x4 P (l o315x5 P) (l oa P)) (N o251x4 P (l o379x5 P) (l ob P))))))) (N boot_o_5 P (N boot_o_9 P (N o17x0 P (N o33x0 P (N o65x1 P (N o129x2 P (N o257x4 P (l oa P) .nil) (l o385x5 P)) (N o193x4 P (l o321x5 P) (l o449x6 P))) (N oa P (N o161x3 P (l o289x5 P) (l o417x6 P)) (N o225x4 P (l ob P) (l oa P)))) (N oa P (N o81x1 P (N o145x2 P (N ob P (l o529x7 P) .nil) (l oa P)) (N oa P (l o337x5 P) (l ob P))) (N o113x2 P (N o177x3 P (l o305x5 P) (l o433x6 P)) (N o241x4 P (l oa P) (l o497x6 P))))) (N oa P (N o41x0 P (N o73x1 P (N o137x2 P (N oa P (l oa P) .nil) (l o393x5 P)) (N o201x4 P (l o329x5 P) (l oa P))) (N o105x1 P (N o169x3 P (l ob P) (l oa P)) (N oa P (l o361x5 P) (l o489x6 P)))) (N oa P (N o89x1 P (N o23x0 P (l o281x5 P) (l ob P)) (N ob P (l oa P) (l o473x6 P))) (N o121x2 P (N o185x4 P (l oa P) (l o441x6 P)) (N o249x4 P (l o377x5 P) (l o505x6 P)))))) (N o13a P (N o21x0 P (N o37x0 P (N oa P (N oa P (N oa P (l o517x7 P) .nil) (l o389x5 P)) (N o197x4 P (l ob P) (l oa P))) (N oa P (N o165x3 P (l o293x5 P) (l o421x6 P)) (N o229x4 P (l o357x5 P) (l oa P)))) (N o53x0 P (N o85x1 P (N o149x2 P (N o277x4 P (l o533x7 P) .nil) (l o405x5 P)) (N o213x4 P (l oa P) (l o469x6 P))) (N ob P (N o23x0 P (l o309x5 P) (l ob P)) (N ob P (l oa P) (l o501x6 P))))) (N oa P (N oa P (N oa P (N oa P (N o269x4 P (l o525x7 P) .nil) (l oa P)) (N oa P (l o333x5 P) (l o461x6 P))) (N o23x0 P (N oa P (l o301x5 P) (l oa P)) (N oa P (l o365x5 P) (l ob P)))) (N oa P (N o93x1 P (N o157x3 P (l o285x5 P) (l o413x6 P)) (N o221x4 P (l o349x5 P) (l o477x6 P))) (N o125x2 P (N ob P (l oa P) (l o445x6 P)) (N o253x4 P (l ob P) (l oa P)))))))) (N o2x1 P (N boot_o_4 P (N boot_o_8 P (N ob P (N oa P (N o64x1 P (N o128x2 P (N o256x4 P (l o512x6 P) .nil) (l o384x5 P)) (N o192x4 P (l oa P) (l o448x6 P))) (N oa P (N ob P (l o288x5 P) (l ob P)) (N ob P (l oa P) (l o480x6 P)))) (N o48x0 P (N o80x1 P (N o144x2 P (N oa P (l o528x7 P) .nil) (l o400x5 P)) (N o208x4 P (l o336x5 P) (l oa P))) (N o112x2 P (N oa P (l ob P) (l oa P)) (N oa P (l o368x5 P) (l o496x6 P))))) (N o24x0 P (N o40x0 P (N o72x1 P (N o136x2 P (N o264x4 P (l o520x7 P) .nil) (l o392x5 P)) (N o200x4 P (l o328x5 P) (l o456x6 P))) (N oa P (N o168x3 P (l oa P) (l o424x6 P)) (N o232x4 P (l ob P) (l oa P)))) (N o56x1 P (N ob P (N oa P (l ob P) (l oa P)) (N oa P (l o344x5 P) (l ob P))) (N o120x2 P (N o184x4 P (l o312x5 P) (l o440x6 P)) (N o248x4 P (l oa P) (l o504x6 P)))))) (N o12x7 P (N o20x0 P (N o36x0 P (N o68x1 P (N o132x2 P (N o260x4 P (l oa P) .nil) (l ob P)) (N ob P (l oa P) (l o452x6 P))) (N o100x1 P (N o164x3 P (l ob P) (l o420x6 P)) (N o228x4 P (l o356x5 P) (l o484x6 P)))) (N o52x0 P (N o84x1 P (N o148x2 P (N o276x4 P (l o532x7 P) .nil) (l oa P)) (N oa P (l o340x5 P) (l o468x6 P))) (N oa P (N oa P (l o308x5 P) (l oa P)) (N oa P (l o372x5 P) (l ob P))))) (N o28x0 P (N o44x0 P (N o76x1 P (N o140x2 P (N oa P (l oa P) .nil) (l o396x5 P)) (N o204x4 P (l ob P) (l oa P))) (N oa P (N o172x3 P (l o300x5 P) (l o428x6 P)) (N o236x4 P (l o364x5 P) (l oa P)))) (N o60x1 P (N o92x1 P (N o156x3 P (l o284x5 P) (l o412x6 P)) (N o220x4 P (l oa P) (l o476x6 P))) (N o124x2 P (N oa P (l o316x5 P) (l ob P)) (N o252x4 P (l oa P) (l o508x6 P))))))) (N boot_o_6 P (N boot_o_10 P (N oa P (N o34x0 P (N o22x0 P (N oa P (N oa P (l o23x0 P) .nil) (l o386x5 P)) (N o194x4 P (l o322x5 P) (l oa P))) (N o98x1 P (N oa P (l o290x5 P) (l oa P)) (N oa P (l o354x5 P) (l o482x6 P)))) (N o50x0 P (N o82x1 P (N o146x2 P (N o274x4 P (l o530x7 P) .nil) (l ob P)) (N ob P (l oa P) (l o466x6 P))) (N o114x2 P (N o178x3 P (l oa P) (l o434x6 P)) (N o242x4 P (l o370x5 P) (l o498x6 P))))) (N o26x0 P (N o42x0 P (N oa P (N oa P (N ob P (l ob P) .nil) (l oa P)) (N oa P (l o330x5 P) (l ob P))) (N o106x1 P (N o170x3 P (l o298x5 P) (l o426x6 P)) (N o234x4 P (l oa P) (l o490x6 P)))) (N ob P (N oa P (N o154x3 P (l oa P) (l o410x6 P)) (N o218x4 P (l ob P) (l oa P))) (N o122x2 P (N o186x4 P (l o314x5 P) (l o442x6 P)) (N o250x4 P (l o378x5 P) (l oa P)))))) (N o14a P (N o22x0 P (N o38x1 P (N o70x1 P (N o134x2 P (N o262x4 P (l o518x7 P) .nil) (l oa P)) (N oa P (l o326x5 P) (l o454x6 P))) (N ob P (N o166x3 P (l o294x5 P) (l oa P)) (N oa P (l o358x5 P) (l ob P)))) (N o42x0 P (N o86x1 P (N o150x2 P (N o278x4 P (l o534x7 P) .nil) (l o406x5 P)) (N o214x4 P (l o342x5 P) (l o470x6 P))) (N o118x2 P (N o182x4 P (l oa P) (l o438x6 P)) (N o246x4 P (l ob P) (l oa P))))) (N ob P (N ob P (N o78x1 P (N o142x2 P (N o270x4 P (l o526x7 P) .nil) (l o398x5 P)) (N o206x4 P (l oa P) (l o462x6 P))) (N o110x2 P (N ob P (l o302x5 P) (l ob P)) (N ob P (l oa P) (l o494x6 P)))) (N o62x1 P (N oa P (N o158x3 P (l oa P) (l o414x6 P)) (N o222x4 P (l o350x5 P) (l oa P))) (N o126x2 P (N o190x4 P (l ob P) (l oa P)) (N o254x4 P (l o382x5 P) (l o510x6 P)))))))))
noncomputable def s8 (w : World) (os : OsState) : SharedT := ⟨t8 w.params, 535, ⟨[], [], [], 0, [], [], false, #[], [], 0, false, false, false, 0, [2000, 10, 10], false, 0, true, [], [], 0, false⟩, ⟨[]⟩, ⟨0, 0, 0, 0⟩, 907, os⟩
noncomputable def sts8 : List Stmt := (bE.drop 61).take 1
noncomputable def o3x8 (P : Params) : Obj := ⟨.type "dict", none, .dict #[kv P "__name__" 165 (.str "phpcore.host" 905), kv P "__doc__" 166 .none, kv P "__package__" 167 .none, kv P "__loader__" 168 (.builtin "__main__.__loader__#opaque"), kv P "__spec__" 169 .none, kv P "__annotations__" 170 (.ref 6), kv P "__builtins__" 171 (.ref 4), kv P "__file__" 173 (.str "/claim/cut.py" 172), kv P "__cached__" 174 .none, kv P "_wall" 193 (.ref 21), kv P "PhpFault" 224 (.ref 38), kv P "LeftOut" 240 (.ref 51), kv P "Misused" 256 (.ref 63), kv P "Thrown" 293 (.ref 83), kv P "error" 300 (.ref 93), kv P "least" 306 (.ref 100), kv P "greatest" 312 (.ref 107), kv P "Ref" 345 (.ref 125), kv P "Absent" 374 (.ref 147), kv P "Obj" 410 (.ref 168), kv P "deref" 417 (.ref 179), kv P "Arr" 527 (.ref 253), kv P "is_living" 535 (.ref 264), kv P "hash_of" 544 (.ref 271), kv P "link" 553 (.ref 278), kv P "chains" 561 (.ref 285), kv P "many_ahead" 567 (.ref 290), kv P "rehash" 573 (.ref 295), kv P "to_hash" 580 (.ref 302), kv P "takes_packed" 588 (.ref 309), kv P "add_packed" 597 (.ref 316), kv P "add_hashed" 607 (.ref 323), kv P "add" 616 (.ref 330), kv P "marked" 623 (.ref 337), kv P "kind" 632 (.ref 344), kv P "lower" 641 (.ref 351), kv P "is_subclass" 651 (.ref 358), kv P "instance_of" 659 (.ref 365), kv P "to_bool" 669 (.ref 372), kv P "int_text" 676 (.ref 379), kv P "to_text" 685 (.ref 386), kv P "is_digit" 695 (.ref 393), kv P "digits_behind" 703 (.ref 400), kv P "digits_value" 714 (.ref 407), kv P "signed" 723 (.ref 414), kv P "exponent_behind" 732 (.ref 421), kv P "blanks_behind" 740 (.ref 428), kv P "numeric" 753 (.ref 435), kv P "number_of" 761 (.ref 442), kv P "has_text" 771 (.ref 449), kv P "type_text" 780 (.ref 456), kv P "is_callable" 789 (.ref 463), kv P "is_of" 797 (.ref 470), kv P "by_class" 807 (.ref 477), kv P "accepts_name" 818 (.ref 484), kv P "accepts" 830 (.ref 491), kv P "coerced_to" 840 (.ref 498), kv P "coerce" 856 (.ref 505), kv P "native_null" 865 (.ref 512), kv P "Frame" 904 (.ref 530), kv P "Host" 1044 (.ref 629)] 61, #[]⟩
noncomputable def o12x8 (P : Params) : Obj := ⟨.none, none, .fields #[.int 1 0, .int 0 0, .ref 20, .int 5 0, .int 0 0, .ref 27, .int 10 0, .int 0 0, .ref 47, .int 12 0, .int 0 0, .ref 59, .int 14 0, .int 0 0, .ref 71, .int 23 0, .int 0 0, .ref 92, .int 25 0, .int 0 0, .ref 99, .int 27 0, .int 0 0, .ref 106, .int 30 0, .int 0 0, .ref 113, .int 36 0, .int 0 0, .ref 135, .int 40 0, .int 0 0, .ref 157, .int 50 0, .int 0 0, .ref 178, .int 57 0, .int 0 0, .ref 185, .int 105 0, .int 0 0, .ref 263, .int 107 0, .int 0 0, .ref 270, .int 114 0, .int 0 0, .ref 277, .int 118 0, .int 0 0, .ref 284, .int 124 0, .int 0 0, .ref 289, .int 126 0, .int 0 0, .ref 294, .int 134 0, .int 0 0, .ref 301, .int 138 0, .int 0 0, .ref 308, .int 144 0, .int 0 0, .ref 315, .int 148 0, .int 0 0, .ref 322, .int 160 0, .int 0 0, .ref 329, .int 172 0, .int 0 0, .ref 336, .int 177 0, .int 0 0, .ref 343, .int 191 0, .int 0 0, .ref 350, .int 196 0, .int 0 0, .ref 357, .int 206 0, .int 0 0, .ref 364, .int 209 0, .int 0 0, .ref 371, .int 220 0, .int 0 0, .ref 378, .int 222 0, .int 0 0, .ref 385, .int 237 0, .int 0 0, .ref 392, .int 239 0, .int 0 0, .ref 399, .int 243 0, .int 0 0, .ref 406, .int 250 0, .int 0 0, .ref 413, .int 255 0, .int 0 0, .ref 420, .int 264 0, .int 0 0, .ref 427, .int 268 0, .int 0 0, .ref 434, .int 287 0, .int 0 0, .ref 441, .int 293 0, .int 0 0, .ref 448, .int 301 0, .int 0 0, .ref 455, .int 307 0, .int 0 0, .ref 462, .int 312 0, .int 0 0, .ref 469, .int 314 0, .int 0 0, .ref 476, .int 322 0, .int 0 0, .ref 483, .int 338 0, .int 0 0, .ref 490, .int 345 0, .int 0 0, .ref 497, .int 358 0, .int 0 0, .ref 504, .int 371 0, .int 0 0, .ref 511, .int 381 0, .int 0 0, .ref 518, .int 391 0, .int 0 0, .ref 540], #[]⟩
noncomputable def o537x8 (P : Params) : Obj := ⟨.type "dict", none, .dict #[kv P "__module__" 914 (.str "phpcore.host" 905), kv P "__qualname__" 916 (.str "Host" 915), kv P "__firstlineno__" 918 (.int 391 917), kv P "__init__" 928 (.ref 549), kv P "tool" 936 (.ref 556), kv P "warn" 945 (.ref 563), kv P "echo" 953 (.ref 570), kv P "spend" 960 (.ref 577), kv P "eval" 968 (.ref 584), kv P "exec" 976 (.ref 591), kv P "call" 985 (.ref 598), kv P "method" 995 (.ref 605), kv P "new_handle" 1002 (.ref 612), kv P "enter" 1009 (.ref 619), kv P "leave" 1016 (.ref 626), kv P "__static_attributes__" 1037 (.ref 627)] 16, #[]⟩
noncomputable def o539x8 (P : Params) : Obj := ⟨.none, none, .fields #[.int 393 0, .int 4 0, .ref 548, .int 415 0, .int 4 0, .ref 555, .int 420 0, .int 4 0, .ref 562, .int 424 0, .int 4 0, .ref 569, .int 427 0, .int 4 0, .ref 576, .int 430 0, .int 4 0, .ref 583, .int 433 0, .int 4 0, .ref 590, .int 436 0, .int 4 0, .ref 597, .int 439 0, .int 4 0, .ref 604, .int 442 0, .int 4 0, .ref 611, .int 445 0, .int 4 0, .ref 618, .int 448 0, .int 4 0, .ref 625], #[]⟩
noncomputable def o540x8 (P : Params) : Obj := ⟨.type "code", none, .fields #[.str "Host" 909, .str "Host" 910, .str "/claim/cut.py" 911, .int 391 0, .int 0 0, .int 0 0, .int 0 0, .int 0 0, .ref 538, .bool false, .int 181 0, .ref 539, .none, .none, .none, .none, .int 912 0, .int 391 0, .str "/claim/cut.py" 913], #[]⟩
noncomputable def o541x8 (P : Params) : Obj := ⟨.type "frame", none, .plain, #[some (.ref 540), some (.ref 3), some (.ref 537), none, some (.str "phpcore.host" 905), none, some (.ref 0)]⟩
noncomputable def o542x8 (P : Params) : Obj := ⟨.type "tuple", none, .seq #[.int 12 919, .none] 0, #[]⟩
noncomputable def o545x8 (P : Params) : Obj := ⟨.type "tuple", none, .seq #[.str "self" 923, .str "limit" 924, .str "fuel" 925] 0, #[]⟩
noncomputable def o547x8 (P : Params) : Obj := ⟨.none, none, .func ⟨"__init__", "Host.__init__", fA (M 61 0), .stmts (fB (M 61 0)), fS (M 61 0), 0, [], .none, .none, .none, .none, none, .none, .none, 0⟩, #[]⟩
noncomputable def o548x8 (P : Params) : Obj := ⟨.type "code", none, .fields #[.str "__init__" 920, .str "Host.__init__" 921, .str "/claim/cut.py" 922, .int 393 0, .int 3 0, .int 0 0, .int 0 0, .int 3 0, .ref 543, .bool true, .int 181 0, .ref 544, .none, .ref 545, .ref 546, .ref 547, .int 926 0, .int 393 0, .str "/claim/cut.py" 927], #[]⟩
noncomputable def o549x8 (P : Params) : Obj := ⟨.type "function", none, .func ⟨"__init__", "Host.__init__", fA (M 61 0), .stmts (fB (M 61 0)), fS (M 61 0), 3, [], .ref 542, .none, .none, .str "phpcore.host" 905, none, .ref 548, .none, 0⟩, #[]⟩
noncomputable def o552x8 (P : Params) : Obj := ⟨.type "tuple", none, .seq #[.str "self" 932, .str "name" 933] 0, #[]⟩
noncomputable def o554x8 (P : Params) : Obj := ⟨.none, none, .func ⟨"tool", "Host.tool", fA (M 61 1), .stmts (fB (M 61 1)), fS (M 61 1), 0, [], .none, .none, .none, .none, none, .none, .none, 0⟩, #[]⟩
noncomputable def o555x8 (P : Params) : Obj := ⟨.type "code", none, .fields #[.str "tool" 929, .str "Host.tool" 930, .str "/claim/cut.py" 931, .int 415 0, .int 2 0, .int 0 0, .int 0 0, .int 3 0, .ref 550, .bool true, .int 181 0, .ref 551, .none, .ref 552, .ref 553, .ref 554, .int 934 0, .int 415 0, .str "/claim/cut.py" 935], #[]⟩
noncomputable def o556x8 (P : Params) : Obj := ⟨.type "function", none, .func ⟨"tool", "Host.tool", fA (M 61 1), .stmts (fB (M 61 1)), fS (M 61 1), 3, [], .none, .none, .none, .str "phpcore.host" 905, none, .ref 555, .none, 0⟩, #[]⟩
noncomputable def o559x8 (P : Params) : Obj := ⟨.type "tuple", none, .seq #[.str "self" 940, .str "level" 941, .str "text" 942] 0, #[]⟩
noncomputable def o561x8 (P : Params) : Obj := ⟨.none, none, .func ⟨"warn", "Host.warn", fA (M 61 2), .stmts (fB (M 61 2)), fS (M 61 2), 0, [], .none, .none, .none, .none, none, .none, .none, 0⟩, #[]⟩
noncomputable def o562x8 (P : Params) : Obj := ⟨.type "code", none, .fields #[.str "warn" 937, .str "Host.warn" 938, .str "/claim/cut.py" 939, .int 420 0, .int 3 0, .int 0 0, .int 0 0, .int 3 0, .ref 557, .bool true, .int 181 0, .ref 558, .none, .ref 559, .ref 560, .ref 561, .int 943 0, .int 420 0, .str "/claim/cut.py" 944], #[]⟩
noncomputable def o563x8 (P : Params) : Obj := ⟨.type "function", none, .func ⟨"warn", "Host.warn", fA (M 61 2), .stmts (fB (M 61 2)), fS (M 61 2), 3, [], .none, .none, .none, .str "phpcore.host" 905, none, .ref 562, .none, 0⟩, #[]⟩
noncomputable def o566x8 (P : Params) : Obj := ⟨.type "tuple", none, .seq #[.str "self" 949, .str "text" 950] 0, #[]⟩
noncomputable def o568x8 (P : Params) : Obj := ⟨.none, none, .func ⟨"echo", "Host.echo", fA (M 61 3), .stmts (fB (M 61 3)), fS (M 61 3), 0, [], .none, .none, .none, .none, none, .none, .none, 0⟩, #[]⟩
noncomputable def o569x8 (P : Params) : Obj := ⟨.type "code", none, .fields #[.str "echo" 946, .str "Host.echo" 947, .str "/claim/cut.py" 948, .int 424 0, .int 2 0, .int 0 0, .int 0 0, .int 3 0, .ref 564, .bool true, .int 181 0, .ref 565, .none, .ref 566, .ref 567, .ref 568, .int 951 0, .int 424 0, .str "/claim/cut.py" 952], #[]⟩
noncomputable def o570x8 (P : Params) : Obj := ⟨.type "function", none, .func ⟨"echo", "Host.echo", fA (M 61 3), .stmts (fB (M 61 3)), fS (M 61 3), 3, [], .none, .none, .none, .str "phpcore.host" 905, none, .ref 569, .none, 0⟩, #[]⟩
noncomputable def o573x8 (P : Params) : Obj := ⟨.type "tuple", none, .seq #[.str "self" 957] 0, #[]⟩
noncomputable def o575x8 (P : Params) : Obj := ⟨.none, none, .func ⟨"spend", "Host.spend", fA (M 61 4), .stmts (fB (M 61 4)), fS (M 61 4), 0, [], .none, .none, .none, .none, none, .none, .none, 0⟩, #[]⟩
noncomputable def o576x8 (P : Params) : Obj := ⟨.type "code", none, .fields #[.str "spend" 954, .str "Host.spend" 955, .str "/claim/cut.py" 956, .int 427 0, .int 1 0, .int 0 0, .int 0 0, .int 3 0, .ref 571, .bool true, .int 181 0, .ref 572, .none, .ref 573, .ref 574, .ref 575, .int 958 0, .int 427 0, .str "/claim/cut.py" 959], #[]⟩
noncomputable def o577x8 (P : Params) : Obj := ⟨.type "function", none, .func ⟨"spend", "Host.spend", fA (M 61 4), .stmts (fB (M 61 4)), fS (M 61 4), 3, [], .none, .none, .none, .str "phpcore.host" 905, none, .ref 576, .none, 0⟩, #[]⟩
noncomputable def o580x8 (P : Params) : Obj := ⟨.type "tuple", none, .seq #[.str "self" 964, .str "node" 965] 0, #[]⟩
noncomputable def o582x8 (P : Params) : Obj := ⟨.none, none, .func ⟨"eval", "Host.eval", fA (M 61 5), .stmts (fB (M 61 5)), fS (M 61 5), 0, [], .none, .none, .none, .none, none, .none, .none, 0⟩, #[]⟩
noncomputable def o583x8 (P : Params) : Obj := ⟨.type "code", none, .fields #[.str "eval" 961, .str "Host.eval" 962, .str "/claim/cut.py" 963, .int 430 0, .int 2 0, .int 0 0, .int 0 0, .int 3 0, .ref 578, .bool true, .int 181 0, .ref 579, .none, .ref 580, .ref 581, .ref 582, .int 966 0, .int 430 0, .str "/claim/cut.py" 967], #[]⟩
noncomputable def o584x8 (P : Params) : Obj := ⟨.type "function", none, .func ⟨"eval", "Host.eval", fA (M 61 5), .stmts (fB (M 61 5)), fS (M 61 5), 3, [], .none, .none, .none, .str "phpcore.host" 905, none, .ref 583, .none, 0⟩, #[]⟩
noncomputable def o587x8 (P : Params) : Obj := ⟨.type "tuple", none, .seq #[.str "self" 972, .str "node" 973] 0, #[]⟩
noncomputable def o589x8 (P : Params) : Obj := ⟨.none, none, .func ⟨"exec", "Host.exec", fA (M 61 6), .stmts (fB (M 61 6)), fS (M 61 6), 0, [], .none, .none, .none, .none, none, .none, .none, 0⟩, #[]⟩
noncomputable def o590x8 (P : Params) : Obj := ⟨.type "code", none, .fields #[.str "exec" 969, .str "Host.exec" 970, .str "/claim/cut.py" 971, .int 433 0, .int 2 0, .int 0 0, .int 0 0, .int 3 0, .ref 585, .bool true, .int 181 0, .ref 586, .none, .ref 587, .ref 588, .ref 589, .int 974 0, .int 433 0, .str "/claim/cut.py" 975], #[]⟩
noncomputable def o591x8 (P : Params) : Obj := ⟨.type "function", none, .func ⟨"exec", "Host.exec", fA (M 61 6), .stmts (fB (M 61 6)), fS (M 61 6), 3, [], .none, .none, .none, .str "phpcore.host" 905, none, .ref 590, .none, 0⟩, #[]⟩
noncomputable def o594x8 (P : Params) : Obj := ⟨.type "tuple", none, .seq #[.str "self" 980, .str "callee" 981, .str "args" 982] 0, #[]⟩
noncomputable def o596x8 (P : Params) : Obj := ⟨.none, none, .func ⟨"call", "Host.call", fA (M 61 7), .stmts (fB (M 61 7)), fS (M 61 7), 0, [], .none, .none, .none, .none, none, .none, .none, 0⟩, #[]⟩
noncomputable def o597x8 (P : Params) : Obj := ⟨.type "code", none, .fields #[.str "call" 977, .str "Host.call" 978, .str "/claim/cut.py" 979, .int 436 0, .int 3 0, .int 0 0, .int 0 0, .int 3 0, .ref 592, .bool true, .int 181 0, .ref 593, .none, .ref 594, .ref 595, .ref 596, .int 983 0, .int 436 0, .str "/claim/cut.py" 984], #[]⟩
noncomputable def o598x8 (P : Params) : Obj := ⟨.type "function", none, .func ⟨"call", "Host.call", fA (M 61 7), .stmts (fB (M 61 7)), fS (M 61 7), 3, [], .none, .none, .none, .str "phpcore.host" 905, none, .ref 597, .none, 0⟩, #[]⟩
noncomputable def o601x8 (P : Params) : Obj := ⟨.type "tuple", none, .seq #[.str "self" 989, .str "obj" 990, .str "name" 991, .str "args" 992] 0, #[]⟩
noncomputable def o603x8 (P : Params) : Obj := ⟨.none, none, .func ⟨"method", "Host.method", fA (M 61 8), .stmts (fB (M 61 8)), fS (M 61 8), 0, [], .none, .none, .none, .none, none, .none, .none, 0⟩, #[]⟩
noncomputable def o604x8 (P : Params) : Obj := ⟨.type "code", none, .fields #[.str "method" 986, .str "Host.method" 987, .str "/claim/cut.py" 988, .int 439 0, .int 4 0, .int 0 0, .int 0 0, .int 3 0, .ref 599, .bool true, .int 181 0, .ref 600, .none, .ref 601, .ref 602, .ref 603, .int 993 0, .int 439 0, .str "/claim/cut.py" 994], #[]⟩
noncomputable def o605x8 (P : Params) : Obj := ⟨.type "function", none, .func ⟨"method", "Host.method", fA (M 61 8), .stmts (fB (M 61 8)), fS (M 61 8), 3, [], .none, .none, .none, .str "phpcore.host" 905, none, .ref 604, .none, 0⟩, #[]⟩
noncomputable def o608x8 (P : Params) : Obj := ⟨.type "tuple", none, .seq #[.str "self" 999] 0, #[]⟩
noncomputable def o610x8 (P : Params) : Obj := ⟨.none, none, .func ⟨"new_handle", "Host.new_handle", fA (M 61 9), .stmts (fB (M 61 9)), fS (M 61 9), 0, [], .none, .none, .none, .none, none, .none, .none, 0⟩, #[]⟩
noncomputable def o611x8 (P : Params) : Obj := ⟨.type "code", none, .fields #[.str "new_handle" 996, .str "Host.new_handle" 997, .str "/claim/cut.py" 998, .int 442 0, .int 1 0, .int 0 0, .int 0 0, .int 3 0, .ref 606, .bool true, .int 181 0, .ref 607, .none, .ref 608, .ref 609, .ref 610, .int 1000 0, .int 442 0, .str "/claim/cut.py" 1001], #[]⟩
noncomputable def o612x8 (P : Params) : Obj := ⟨.type "function", none, .func ⟨"new_handle", "Host.new_handle", fA (M 61 9), .stmts (fB (M 61 9)), fS (M 61 9), 3, [], .none, .none, .none, .str "phpcore.host" 905, none, .ref 611, .none, 0⟩, #[]⟩
noncomputable def o615x8 (P : Params) : Obj := ⟨.type "tuple", none, .seq #[.str "self" 1006] 0, #[]⟩
noncomputable def o617x8 (P : Params) : Obj := ⟨.none, none, .func ⟨"enter", "Host.enter", fA (M 61 10), .stmts (fB (M 61 10)), fS (M 61 10), 0, [], .none, .none, .none, .none, none, .none, .none, 0⟩, #[]⟩
noncomputable def o618x8 (P : Params) : Obj := ⟨.type "code", none, .fields #[.str "enter" 1003, .str "Host.enter" 1004, .str "/claim/cut.py" 1005, .int 445 0, .int 1 0, .int 0 0, .int 0 0, .int 3 0, .ref 613, .bool true, .int 181 0, .ref 614, .none, .ref 615, .ref 616, .ref 617, .int 1007 0, .int 445 0, .str "/claim/cut.py" 1008], #[]⟩
noncomputable def o619x8 (P : Params) : Obj := ⟨.type "function", none, .func ⟨"enter", "Host.enter", fA (M 61 10), .stmts (fB (M 61 10)), fS (M 61 10), 3, [], .none, .none, .none, .str "phpcore.host" 905, none, .ref 618, .none, 0⟩, #[]⟩
noncomputable def o622x8 (P : Params) : Obj := ⟨.type "tuple", none, .seq #[.str "self" 1013] 0, #[]⟩
noncomputable def o624x8 (P : Params) : Obj := ⟨.none, none, .func ⟨"leave", "Host.leave", fA (M 61 11), .stmts (fB (M 61 11)), fS (M 61 11), 0, [], .none, .none, .none, .none, none, .none, .none, 0⟩, #[]⟩
noncomputable def o625x8 (P : Params) : Obj := ⟨.type "code", none, .fields #[.str "leave" 1010, .str "Host.leave" 1011, .str "/claim/cut.py" 1012, .int 448 0, .int 1 0, .int 0 0, .int 0 0, .int 3 0, .ref 620, .bool true, .int 181 0, .ref 621, .none, .ref 622, .ref 623, .ref 624, .int 1014 0, .int 448 0, .str "/claim/cut.py" 1015], #[]⟩
noncomputable def o626x8 (P : Params) : Obj := ⟨.type "function", none, .func ⟨"leave", "Host.leave", fA (M 61 11), .stmts (fB (M 61 11)), fS (M 61 11), 3, [], .none, .none, .none, .str "phpcore.host" 905, none, .ref 625, .none, 0⟩, #[]⟩
noncomputable def o627x8 (P : Params) : Obj := ⟨.type "tuple", none, .seq #[.str "autoload_order" 1017, .str "buffers" 1018, .str "classes" 1019, .str "constants" 1020, .str "depth" 1021, .str "evals" 1022, .str "execs" 1023, .str "frame" 1024, .str "fuel" 1025, .str "functions" 1026, .str "handles" 1027, .str "is_strict" 1028, .str "limit" 1029, .str "made" 1030, .str "notes" 1031, .str "parts" 1032, .str "silent" 1033, .str "spent" 1034, .str "tools" 1035, .str "top" 1036] 0, #[]⟩
noncomputable def o628x8 (P : Params) : Obj := ⟨.type "dict", none, .dict #[kv P "__module__" 914 (.str "phpcore.host" 905), kv P "__firstlineno__" 918 (.int 391 917), kv P "__init__" 928 (.ref 549), kv P "tool" 936 (.ref 556), kv P "warn" 945 (.ref 563), kv P "echo" 953 (.ref 570), kv P "spend" 960 (.ref 577), kv P "eval" 968 (.ref 584), kv P "exec" 976 (.ref 591), kv P "call" 985 (.ref 598), kv P "method" 995 (.ref 605), kv P "new_handle" 1002 (.ref 612), kv P "enter" 1009 (.ref 619), kv P "leave" 1016 (.ref 626), kv P "__static_attributes__" 1037 (.ref 627), kv P "__dict__" 1039 (.ref 630), kv P "__weakref__" 1041 (.ref 631), kv P "__doc__" 1042 .none] 4, #[]⟩
noncomputable def o629x8 (P : Params) : Obj := ⟨.type "type", none, .cls ⟨"Host", [.type "object"], [.ref 629, .type "object"], 628, "Host", true, [], [], false, none, false⟩, #[none, none, some (.str "Host" 907), some (.str "Host" 915), some (.builtin "object.__new__"), some (.bool true)]⟩
noncomputable def o630x8 (P : Params) : Obj := ⟨.type "getset_descriptor", none, .fields #[.str "__dict__" 1038, .ref 629, .builtin "function.__dict__", .builtin "function.__dict__#set"], #[]⟩
noncomputable def o631x8 (P : Params) : Obj := ⟨.type "getset_descriptor", none, .fields #[.str "__weakref__" 1040, .ref 629, .builtin "ExceptionGroup.__weakref__", .none], #[]⟩
noncomputable def o632x8 (P : Params) : Obj := ⟨.type "super", none, .fields #[.ref 629, .ref 629, .ref 629], #[]⟩
noncomputable def o633x8 (P : Params) : Obj := ⟨.type "builtin_function_or_method", none, .fields #[.builtin "object.__init_subclass__", .ref 629], #[]⟩
noncomputable def t9 (P : Params) : BT := (N boot_o_0 P (N boot_o_1 P (N o3x8 P (N boot_o_7 P (N oa P (N o31x0 P (N o63x1 P (N o127x2 P (N o255x4 P (l o511x6 P) .nil) (l oa P)) (N oa P (N o319x5 P (l o575x8 P) .nil) (l o447x6 P))) (N ob P (N oa P (N ob P (l oa P) .nil) (l oa P)) (N oa P (N o351x5 P (l ob P) .nil) (l ob P)))) (N o47x0 P (N o79x1 P (N o143x2 P (N o271x4 P (l o527x7 P) .nil) (l o399x5 P)) (N o207x4 P (N o335x5 P (l o591x8 P) .nil) (l o463x6 P))) (N oa P (N o175x3 P (N oa P (l o559x8 P) .nil) (l o431x6 P)) (N o239x4 P (N ob P (l oa P) .nil) (l oa P))))) (N o23x0 P (N o39x0 P (N o71x1 P (N o135x2 P (N o263x4 P (l o519x7 P) .nil) (l o391x5 P)) (N o199x4 P (N oa P (l o583x8 P) .nil) (l o455x6 P))) (N oa P (N o167x3 P (N o295x5 P (l ob P) .nil) (l ob P)) (N ob P (N oa P (l o615x8 P) .nil) (l o487x6 P)))) (N o23x0 P (N oa P (N o151x2 P (N oa P (l oa P) .nil) (l o407x5 P)) (N o215x4 P (N o343x5 P (l oa P) .nil) (l oa P))) (N oa P (N oa P (N ob P (l oa P) .nil) (l oa P)) (N oa P (N o375x5 P (l o631x8 P) .nil) (l o503x6 P)))))) (N oa P (N o19x0 P (N o35x0 P (N o23x0 P (N o23x0 P (N ob P (l o515x7 P) .nil) (l oa P)) (N oa P (N o323x5 P (l ob P) .nil) (l ob P))) (N o99x1 P (N o163x3 P (N oa P (l o547x8 P) .nil) (l o419x6 P)) (N o227x4 P (N oa P (l o611x8 P) .nil) (l o483x6 P)))) (N o51x0 P (N o83x1 P (N o147x2 P (N oa P (l o531x7 P) .nil) (l o403x5 P)) (N o211x4 P (N ob P (l oa P) .nil) (l oa P))) (N o115x2 P (N o179x3 P (N o307x5 P (l o563x8 P) .nil) (l o435x6 P)) (N o243x4 P (N o371x5 P (l o627x8 P) .nil) (l oa P))))) (N o27x0 P (N o23x0 P (N ob P (N ob P (N o267x4 P (l o523x7 P) .nil) (l ob P)) (N ob P (N oa P (l o587x8 P) .nil) (l o459x6 P))) (N o107x1 P (N o171x3 P (N oa P (l o555x8 P) .nil) (l o427x6 P)) (N o235x4 P (N o363x5 P (l o619x8 P) .nil) (l o491x6 P)))) (N o59x1 P (N o91x1 P (N oa P (N o283x5 P (l o539x8 P) .nil) (l oa P)) (N oa P (N o347x5 P (l o603x8 P) .nil) (l o475x6 P))) (N o123x2 P (N o187x4 P (N o315x5 P (l oa P) .nil) (l oa P)) (N o251x4 P (l o379x5 P) (l ob P))))))) (N boot_o_5 P (N boot_o_9 P (N o17x0 P (N o33x0 P (N o65x1 P (N o129x2 P (N o257x4 P (l oa P) .nil) (l o385x5 P)) (N o193x4 P (N o321x5 P (l o577x8 P) .nil) (l o449x6 P))) (N oa P (N o161x3 P (N o289x5 P (l o545x8 P) .nil) (l o417x6 P)) (N o225x4 P (N ob P (l oa P) .nil) (l oa P)))) (N oa P (N o81x1 P (N o145x2 P (N ob P (l o529x7 P) .nil) (l oa P)) (N oa P (N o337x5 P (l ob P) .nil) (l ob P))) (N o113x2 P (N o177x3 P (N o305x5 P (l o561x8 P) .nil) (l o433x6 P)) (N o241x4 P (N oa P (l o625x8 P) .nil) (l o497x6 P))))) (N oa P (N o41x0 P (N o73x1 P (N o137x2 P (N oa P (l oa P) .nil) (l o393x5 P)) (N o201x4 P (N o329x5 P (l oa P) .nil) (l oa P))) (N o105x1 P (N o169x3 P (N ob P (l oa P) .nil) (l oa P)) (N oa P (N o361x5 P (l o617x8 P) .nil) (l o489x6 P)))) (N oa P (N o89x1 P (N o23x0 P (N o281x5 P (l o537x8 P) .nil) (l ob P)) (N ob P (N oa P (l o601x8 P) .nil) (l o473x6 P))) (N o121x2 P (N o185x4 P (N oa P (l o569x8 P) .nil) (l o441x6 P)) (N o249x4 P (N o377x5 P (l o633x8 P) .nil) (l o505x6 P)))))) (N o13a P (N o21x0 P (N o37x0 P (N oa P (N oa P (N oa P (l o517x7 P) .nil) (l o389x5 P)) (N o197x4 P (N ob P (l oa P) .nil) (l oa P))) (N oa P (N o165x3 P (N o293x5 P (l o549x8 P) .nil) (l o421x6 P)) (N o229x4 P (N o357x5 P (l oa P) .nil) (l oa P)))) (N o53x0 P (N o85x1 P (N o149x2 P (N o277x4 P (l o533x7 P) .nil) (l o405x5 P)) (N o213x4 P (N oa P (l o597x8 P) .nil) (l o469x6 P))) (N ob P (N o23x0 P (N o309x5 P (l ob P) .nil) (l ob P)) (N ob P (N oa P (l o629x8 P) .nil) (l o501x6 P))))) (N oa P (N oa P (N oa P (N oa P (N o269x4 P (l o525x7 P) .nil) (l oa P)) (N oa P (N o333x5 P (l o589x8 P) .nil) (l o461x6 P))) (N o23x0 P (N oa P (N o301x5 P (l oa P) .nil) (l oa P)) (N oa P (N o365x5 P (l ob P) .nil) (l ob P)))) (N oa P (N o93x1 P (N o157x3 P (N o285x5 P (l o541x8 P) .nil) (l o413x6 P)) (N o221x4 P (N o349x5 P (l o605x8 P) .nil) (l o477x6 P))) (N o125x2 P (N ob P (N oa P (l o573x8 P) .nil) (l o445x6 P)) (N o253x4 P (l ob P) (l oa P)))))))) (N o2x1 P (N boot_o_4 P (N boot_o_8 P (N ob P (N oa P (N o64x1 P (N o128x2 P (N o256x4 P (l o512x6 P) .nil) (l o384x5 P)) (N o192x4 P (N oa P (l o576x8 P) .nil) (l o448x6 P))) (N oa P (N ob P (N o288x5 P (l ob P) .nil) (l ob P)) (N ob P (N oa P (l o608x8 P) .nil) (l o480x6 P)))) (N o48x0 P (N o80x1 P (N o144x2 P (N oa P (l o528x7 P) .nil) (l o400x5 P)) (N o208x4 P (N o336x5 P (l oa P) .nil) (l oa P))) (N o112x2 P (N oa P (N ob P (l oa P) .nil) (l oa P)) (N oa P (N o368x5 P (l o624x8 P) .nil) (l o496x6 P))))) (N o24x0 P (N o40x0 P (N o72x1 P (N o136x2 P (N o264x4 P (l o520x7 P) .nil) (l o392x5 P)) (N o200x4 P (N o328x5 P (l o584x8 P) .nil) (l o456x6 P))) (N oa P (N o168x3 P (N oa P (l o552x8 P) .nil) (l o424x6 P)) (N o232x4 P (N ob P (l oa P) .nil) (l oa P)))) (N o56x1 P (N ob P (N oa P (N ob P (l o23x0 P) .nil) (l oa P)) (N oa P (N o344x5 P (l ob P) .nil) (l ob P))) (N o120x2 P (N o184x4 P (N o312x5 P (l o568x8 P) .nil) (l o440x6 P)) (N o248x4 P (N oa P (l o632x8 P) .nil) (l o504x6 P)))))) (N o12x8 P (N o20x0 P (N o36x0 P (N o68x1 P (N o132x2 P (N o260x4 P (l oa P) .nil) (l ob P)) (N ob P (N oa P (l o580x8 P) .nil) (l o452x6 P))) (N o100x1 P (N o164x3 P (N ob P (l o548x8 P) .nil) (l o420x6 P)) (N o228x4 P (N o356x5 P (l o612x8 P) .nil) (l o484x6 P)))) (N o52x0 P (N o84x1 P (N o148x2 P (N o276x4 P (l o532x7 P) .nil) (l oa P)) (N oa P (N o340x5 P (l o596x8 P) .nil) (l o468x6 P))) (N oa P (N oa P (N o308x5 P (l oa P) .nil) (l oa P)) (N oa P (N o372x5 P (l o628x8 P) .nil) (l ob P))))) (N o28x0 P (N o44x0 P (N o76x1 P (N o140x2 P (N oa P (l oa P) .nil) (l o396x5 P)) (N o204x4 P (N ob P (l oa P) .nil) (l oa P))) (N oa P (N o172x3 P (N o300x5 P (l o556x8 P) .nil) (l o428x6 P)) (N o236x4 P (N o364x5 P (l oa P) .nil) (l oa P)))) (N o60x1 P (N o92x1 P (N o156x3 P (N o284x5 P (l o540x8 P) .nil) (l o412x6 P)) (N o220x4 P (N oa P (l o604x8 P) .nil) (l o476x6 P))) (N o124x2 P (N oa P (N o316x5 P (l ob P) .nil) (l ob P)) (N o252x4 P (l oa P) (l o508x6 P))))))) (N boot_o_6 P (N boot_o_10 P (N oa P (N o34x0 P (N o22x0 P (N oa P (N oa P (l o23x0 P) .nil) (l o386x5 P)) (N o194x4 P (N o322x5 P (l oa P) .nil) (l oa P))) (N o98x1 P (N oa P (N o290x5 P (l oa P) .nil) (l oa P)) (N oa P (N o354x5 P (l o610x8 P) .nil) (l o482x6 P)))) (N o50x0 P (N o82x1 P (N o146x2 P (N o274x4 P (l o530x7 P) .nil) (l ob P)) (N ob P (N oa P (l o594x8 P) .nil) (l o466x6 P))) (N o114x2 P (N o178x3 P (N oa P (l o562x8 P) .nil) (l o434x6 P)) (N o242x4 P (N o370x5 P (l o626x8 P) .nil) (l o498x6 P))))) (N o26x0 P (N o42x0 P (N oa P (N oa P (N ob P (l ob P) .nil) (l oa P)) (N oa P (N o330x5 P (l ob P) .nil) (l ob P))) (N o106x1 P (N o170x3 P (N o298x5 P (l o554x8 P) .nil) (l o426x6 P)) (N o234x4 P (N oa P (l o618x8 P) .nil) (l o490x6 P)))) (N ob P (N oa P (N o154x3 P (N oa P (l oa P) .nil) (l o410x6 P)) (N o218x4 P (N ob P (l oa P) .nil) (l oa P))) (N o122x2 P (N o186x4 P (N o314x5 P (l o570x8 P) .nil) (l o442x6 P)) (N o250x4 P (l o378x5 P) (l oa P)))))) (N o14a P (N o22x0 P (N o38x1 P (N o70x1 P (N o134x2 P (N o262x4 P (l o518x7 P) .nil) (l oa P)) (N oa P (N o326x5 P (l o582x8 P) .nil) (l o454x6 P))) (N ob P (N o166x3 P (N o294x5 P (l oa P) .nil) (l oa P)) (N oa P (N o358x5 P (l ob P) .nil) (l ob P)))) (N o42x0 P (N o86x1 P (N o150x2 P (N o278x4 P (l o534x7 P) .nil) (l o406x5 P)) (N o214x4 P (N o342x5 P (l o598x8 P) .nil) (l o470x6 P))) (N o118x2 P (N o182x4 P (N oa P (l o566x8 P) .nil) (l o438x6 P)) (N o246x4 P (N ob P (l o630x8 P) .nil) (l oa P))))) (N ob P (N ob P (N o78x1 P (N o142x2 P (N o270x4 P (l o526x7 P) .nil) (l o398x5 P)) (N o206x4 P (N oa P (l o590x8 P) .nil) (l o462x6 P))) (N o110x2 P (N ob P (N o302x5 P (l ob P) .nil) (l ob P)) (N ob P (N oa P (l o622x8 P) .nil) (l o494x6 P)))) (N o62x1 P (N oa P (N o158x3 P (N oa P (l o542x8 P) .nil) (l o414x6 P)) (N o222x4 P (N o350x5 P (l oa P) .nil) (l oa P))) (N o126x2 P (N o190x4 P (N ob P (l oa P) .nil) (l oa P)) (N o254x4 P (l o382x5 P) (l o510x6 P)))))))))
noncomputable def s9 (w : World) (os : OsState) : SharedT := ⟨t9 w.params, 634, ⟨[], [], [], 0, [], [], false, #[], [], 0, false, false, false, 0, [2000, 10, 10], false, 0, true, [], [], 0, false⟩, ⟨[]⟩, ⟨0, 0, 0, 0⟩, 1045, os⟩
noncomputable def sts9 : List Stmt := (bE.drop 62).take 15
noncomputable def o3x9 (P : Params) : Obj := ⟨.type "dict", none, .dict #[kv P "__name__" 165 (.str "law_pq0857_01" 1094), kv P "__doc__" 166 .none, kv P "__package__" 167 .none, kv P "__loader__" 168 (.builtin "__main__.__loader__#opaque"), kv P "__spec__" 169 .none, kv P "__annotations__" 170 (.ref 6), kv P "__builtins__" 171 (.ref 4), kv P "__file__" 173 (.str "/claim/cut.py" 172), kv P "__cached__" 174 .none, kv P "_wall" 193 (.ref 21), kv P "PhpFault" 224 (.ref 38), kv P "LeftOut" 240 (.ref 51), kv P "Misused" 256 (.ref 63), kv P "Thrown" 293 (.ref 83), kv P "error" 300 (.ref 93), kv P "least" 306 (.ref 100), kv P "greatest" 312 (.ref 107), kv P "Ref" 345 (.ref 125), kv P "Absent" 374 (.ref 147), kv P "Obj" 410 (.ref 168), kv P "deref" 417 (.ref 179), kv P "Arr" 527 (.ref 253), kv P "is_living" 535 (.ref 264), kv P "hash_of" 544 (.ref 271), kv P "link" 553 (.ref 278), kv P "chains" 561 (.ref 285), kv P "many_ahead" 567 (.ref 290), kv P "rehash" 573 (.ref 295), kv P "to_hash" 580 (.ref 302), kv P "takes_packed" 588 (.ref 309), kv P "add_packed" 597 (.ref 316), kv P "add_hashed" 607 (.ref 323), kv P "add" 616 (.ref 330), kv P "marked" 623 (.ref 337), kv P "kind" 632 (.ref 344), kv P "lower" 641 (.ref 351), kv P "is_subclass" 651 (.ref 358), kv P "instance_of" 659 (.ref 365), kv P "to_bool" 669 (.ref 372), kv P "int_text" 676 (.ref 379), kv P "to_text" 685 (.ref 386), kv P "is_digit" 695 (.ref 393), kv P "digits_behind" 703 (.ref 400), kv P "digits_value" 714 (.ref 407), kv P "signed" 723 (.ref 414), kv P "exponent_behind" 732 (.ref 421), kv P "blanks_behind" 740 (.ref 428), kv P "numeric" 753 (.ref 435), kv P "number_of" 761 (.ref 442), kv P "has_text" 771 (.ref 449), kv P "type_text" 780 (.ref 456), kv P "is_callable" 789 (.ref 463), kv P "is_of" 797 (.ref 470), kv P "by_class" 807 (.ref 477), kv P "accepts_name" 818 (.ref 484), kv P "accepts" 830 (.ref 491), kv P "coerced_to" 840 (.ref 498), kv P "coerce" 856 (.ref 505), kv P "native_null" 865 (.ref 512), kv P "Frame" 904 (.ref 530), kv P "Host" 1044 (.ref 629), kv P "Klass" 1093 (.ref 650), kv P "_law_names" 1101 (.ref 659), kv P "_law_text" 1107 (.ref 664), kv P "_law_behind" 1116 (.ref 671), kv P "_law_number" 1122 (.ref 676), kv P "_law_shown" 1130 (.ref 683), kv P "_law_calls" 1138 (.ref 690), kv P "_law_kind" 1145 (.ref 697), kv P "_law_line" 1153 (.ref 704), kv P "_law_is_below" 1159 (.ref 709), kv P "_law_takes" 1165 (.ref 714), kv P "_law_accepted" 1171 (.ref 719), kv P "_law_is_shown" 1177 (.ref 724)] 74, #[]⟩
noncomputable def o12x9 (P : Params) : Obj := ⟨.none, none, .fields #[.int 1 0, .int 0 0, .ref 20, .int 5 0, .int 0 0, .ref 27, .int 10 0, .int 0 0, .ref 47, .int 12 0, .int 0 0, .ref 59, .int 14 0, .int 0 0, .ref 71, .int 23 0, .int 0 0, .ref 92, .int 25 0, .int 0 0, .ref 99, .int 27 0, .int 0 0, .ref 106, .int 30 0, .int 0 0, .ref 113, .int 36 0, .int 0 0, .ref 135, .int 40 0, .int 0 0, .ref 157, .int 50 0, .int 0 0, .ref 178, .int 57 0, .int 0 0, .ref 185, .int 105 0, .int 0 0, .ref 263, .int 107 0, .int 0 0, .ref 270, .int 114 0, .int 0 0, .ref 277, .int 118 0, .int 0 0, .ref 284, .int 124 0, .int 0 0, .ref 289, .int 126 0, .int 0 0, .ref 294, .int 134 0, .int 0 0, .ref 301, .int 138 0, .int 0 0, .ref 308, .int 144 0, .int 0 0, .ref 315, .int 148 0, .int 0 0, .ref 322, .int 160 0, .int 0 0, .ref 329, .int 172 0, .int 0 0, .ref 336, .int 177 0, .int 0 0, .ref 343, .int 191 0, .int 0 0, .ref 350, .int 196 0, .int 0 0, .ref 357, .int 206 0, .int 0 0, .ref 364, .int 209 0, .int 0 0, .ref 371, .int 220 0, .int 0 0, .ref 378, .int 222 0, .int 0 0, .ref 385, .int 237 0, .int 0 0, .ref 392, .int 239 0, .int 0 0, .ref 399, .int 243 0, .int 0 0, .ref 406, .int 250 0, .int 0 0, .ref 413, .int 255 0, .int 0 0, .ref 420, .int 264 0, .int 0 0, .ref 427, .int 268 0, .int 0 0, .ref 434, .int 287 0, .int 0 0, .ref 441, .int 293 0, .int 0 0, .ref 448, .int 301 0, .int 0 0, .ref 455, .int 307 0, .int 0 0, .ref 462, .int 312 0, .int 0 0, .ref 469, .int 314 0, .int 0 0, .ref 476, .int 322 0, .int 0 0, .ref 483, .int 338 0, .int 0 0, .ref 490, .int 345 0, .int 0 0, .ref 497, .int 358 0, .int 0 0, .ref 504, .int 371 0, .int 0 0, .ref 511, .int 381 0, .int 0 0, .ref 518, .int 391 0, .int 0 0, .ref 540, .int 451 0, .int 0 0, .ref 639, .int 473 0, .int 0 0, .ref 658, .int 476 0, .int 0 0, .ref 663, .int 479 0, .int 0 0, .ref 670, .int 483 0, .int 0 0, .ref 675, .int 503 0, .int 0 0, .ref 682, .int 505 0, .int 0 0, .ref 689, .int 507 0, .int 0 0, .ref 696, .int 511 0, .int 0 0, .ref 703, .int 516 0, .int 0 0, .ref 708, .int 518 0, .int 0 0, .ref 713, .int 539 0, .int 0 0, .ref 718, .int 543 0, .int 0 0, .ref 723], #[]⟩
noncomputable def o636x9 (P : Params) : Obj := ⟨.type "dict", none, .dict #[kv P "__module__" 1054 (.str "phpcore.klass" 1045), kv P "__qualname__" 1056 (.str "Klass" 1055), kv P "__firstlineno__" 1058 (.int 451 1057), kv P "__init__" 1067 (.ref 647), kv P "__static_attributes__" 1086 (.ref 648)] 5, #[]⟩
noncomputable def o638x9 (P : Params) : Obj := ⟨.none, none, .fields #[.int 453 0, .int 4 0, .ref 646], #[]⟩
noncomputable def o639x9 (P : Params) : Obj := ⟨.type "code", none, .fields #[.str "Klass" 1049, .str "Klass" 1050, .str "/claim/cut.py" 1051, .int 451 0, .int 0 0, .int 0 0, .int 0 0, .int 0 0, .ref 637, .bool false, .int 181 0, .ref 638, .none, .none, .none, .none, .int 1052 0, .int 451 0, .str "/claim/cut.py" 1053], #[]⟩
noncomputable def o640x9 (P : Params) : Obj := ⟨.type "frame", none, .plain, #[some (.ref 639), some (.ref 3), some (.ref 636), none, some (.str "phpcore.klass" 1045), none, some (.ref 0)]⟩
noncomputable def o643x9 (P : Params) : Obj := ⟨.type "tuple", none, .seq #[.str "self" 1062, .str "name" 1063, .str "sort" 1064] 0, #[]⟩
noncomputable def o645x9 (P : Params) : Obj := ⟨.none, none, .func ⟨"__init__", "Klass.__init__", fA (M 63 0), .stmts (fB (M 63 0)), fS (M 63 0), 0, [], .none, .none, .none, .none, none, .none, .none, 0⟩, #[]⟩
noncomputable def o646x9 (P : Params) : Obj := ⟨.type "code", none, .fields #[.str "__init__" 1059, .str "Klass.__init__" 1060, .str "/claim/cut.py" 1061, .int 453 0, .int 3 0, .int 0 0, .int 0 0, .int 3 0, .ref 641, .bool true, .int 181 0, .ref 642, .none, .ref 643, .ref 644, .ref 645, .int 1065 0, .int 453 0, .str "/claim/cut.py" 1066], #[]⟩
noncomputable def o647x9 (P : Params) : Obj := ⟨.type "function", none, .func ⟨"__init__", "Klass.__init__", fA (M 63 0), .stmts (fB (M 63 0)), fS (M 63 0), 3, [], .none, .none, .none, .str "phpcore.klass" 1045, none, .ref 646, .none, 0⟩, #[]⟩
noncomputable def o648x9 (P : Params) : Obj := ⟨.type "tuple", none, .seq #[.str "backing" 1068, .str "cases" 1069, .str "cloner" 1070, .str "consts" 1071, .str "flags" 1072, .str "interfaces" 1073, .str "is_linked" 1074, .str "key" 1075, .str "maker" 1076, .str "methods" 1077, .str "name" 1078, .str "order" 1079, .str "parent" 1080, .str "props" 1081, .str "sort" 1082, .str "static_slots" 1083, .str "statics" 1084, .str "uses" 1085] 0, #[]⟩
noncomputable def o649x9 (P : Params) : Obj := ⟨.type "dict", none, .dict #[kv P "__module__" 1054 (.str "phpcore.klass" 1045), kv P "__firstlineno__" 1058 (.int 451 1057), kv P "__init__" 1067 (.ref 647), kv P "__static_attributes__" 1086 (.ref 648), kv P "__dict__" 1088 (.ref 651), kv P "__weakref__" 1090 (.ref 652), kv P "__doc__" 1091 .none] 4, #[]⟩
noncomputable def o650x9 (P : Params) : Obj := ⟨.type "type", none, .cls ⟨"Klass", [.type "object"], [.ref 650, .type "object"], 649, "Klass", true, [], [], false, none, false⟩, #[none, none, some (.str "Klass" 1047), some (.str "Klass" 1055), some (.builtin "object.__new__"), some (.bool true)]⟩
noncomputable def o651x9 (P : Params) : Obj := ⟨.type "getset_descriptor", none, .fields #[.str "__dict__" 1087, .ref 650, .builtin "function.__dict__", .builtin "function.__dict__#set"], #[]⟩
noncomputable def o652x9 (P : Params) : Obj := ⟨.type "getset_descriptor", none, .fields #[.str "__weakref__" 1089, .ref 650, .builtin "ExceptionGroup.__weakref__", .none], #[]⟩
noncomputable def o653x9 (P : Params) : Obj := ⟨.type "super", none, .fields #[.ref 650, .ref 650, .ref 650], #[]⟩
noncomputable def o654x9 (P : Params) : Obj := ⟨.type "builtin_function_or_method", none, .fields #[.builtin "object.__init_subclass__", .ref 650], #[]⟩
noncomputable def o657x9 (P : Params) : Obj := ⟨.none, none, .func ⟨"_law_names", "_law_names", fA (S 65), .stmts (fB (S 65)), fS (S 65), 0, [], .none, .none, .none, .none, none, .none, .none, 0⟩, #[]⟩
noncomputable def o658x9 (P : Params) : Obj := ⟨.type "code", none, .fields #[.str "_law_names" 1096, .str "_law_names" 1097, .str "/claim/cut.py" 1098, .int 473 0, .int 1 0, .int 0 0, .int 0 0, .int 3 0, .ref 655, .bool true, .int 181 0, .ref 656, .none, .none, .none, .ref 657, .int 1099 0, .int 473 0, .str "/claim/cut.py" 1100], #[]⟩
noncomputable def o659x9 (P : Params) : Obj := ⟨.type "function", none, .func ⟨"_law_names", "_law_names", fA (S 65), .stmts (fB (S 65)), fS (S 65), 3, [], .none, .none, .none, .str "law_pq0857_01" 1094, none, .ref 658, .none, 0⟩, #[]⟩
noncomputable def o662x9 (P : Params) : Obj := ⟨.none, none, .func ⟨"_law_text", "_law_text", fA (S 66), .stmts (fB (S 66)), fS (S 66), 0, [], .none, .none, .none, .none, none, .none, .none, 0⟩, #[]⟩
noncomputable def o663x9 (P : Params) : Obj := ⟨.type "code", none, .fields #[.str "_law_text" 1102, .str "_law_text" 1103, .str "/claim/cut.py" 1104, .int 476 0, .int 1 0, .int 0 0, .int 0 0, .int 3 0, .ref 660, .bool true, .int 181 0, .ref 661, .none, .none, .none, .ref 662, .int 1105 0, .int 476 0, .str "/claim/cut.py" 1106], #[]⟩
noncomputable def o664x9 (P : Params) : Obj := ⟨.type "function", none, .func ⟨"_law_text", "_law_text", fA (S 66), .stmts (fB (S 66)), fS (S 66), 3, [], .none, .none, .none, .str "law_pq0857_01" 1094, none, .ref 663, .none, 0⟩, #[]⟩
noncomputable def o667x9 (P : Params) : Obj := ⟨.type "tuple", none, .seq #[.str "text" 1111, .str "at" 1112, .str "signs" 1113] 0, #[]⟩
noncomputable def o669x9 (P : Params) : Obj := ⟨.none, none, .func ⟨"_law_behind", "_law_behind", fA (S 67), .stmts (fB (S 67)), fS (S 67), 0, [], .none, .none, .none, .none, none, .none, .none, 0⟩, #[]⟩
noncomputable def o670x9 (P : Params) : Obj := ⟨.type "code", none, .fields #[.str "_law_behind" 1108, .str "_law_behind" 1109, .str "/claim/cut.py" 1110, .int 479 0, .int 3 0, .int 0 0, .int 0 0, .int 3 0, .ref 665, .bool true, .int 181 0, .ref 666, .none, .ref 667, .ref 668, .ref 669, .int 1114 0, .int 479 0, .str "/claim/cut.py" 1115], #[]⟩
noncomputable def o671x9 (P : Params) : Obj := ⟨.type "function", none, .func ⟨"_law_behind", "_law_behind", fA (S 67), .stmts (fB (S 67)), fS (S 67), 3, [], .none, .none, .none, .str "law_pq0857_01" 1094, none, .ref 670, .none, 0⟩, #[]⟩
noncomputable def o674x9 (P : Params) : Obj := ⟨.none, none, .func ⟨"_law_number", "_law_number", fA (S 68), .stmts (fB (S 68)), fS (S 68), 0, [], .none, .none, .none, .none, none, .none, .none, 0⟩, #[]⟩
noncomputable def o675x9 (P : Params) : Obj := ⟨.type "code", none, .fields #[.str "_law_number" 1117, .str "_law_number" 1118, .str "/claim/cut.py" 1119, .int 483 0, .int 1 0, .int 0 0, .int 0 0, .int 3 0, .ref 672, .bool true, .int 181 0, .ref 673, .none, .none, .none, .ref 674, .int 1120 0, .int 483 0, .str "/claim/cut.py" 1121], #[]⟩
noncomputable def o676x9 (P : Params) : Obj := ⟨.type "function", none, .func ⟨"_law_number", "_law_number", fA (S 68), .stmts (fB (S 68)), fS (S 68), 3, [], .none, .none, .none, .str "law_pq0857_01" 1094, none, .ref 675, .none, 0⟩, #[]⟩
noncomputable def o679x9 (P : Params) : Obj := ⟨.type "tuple", none, .seq #[.str "host" 1126, .str "value" 1127] 0, #[]⟩
noncomputable def o681x9 (P : Params) : Obj := ⟨.none, none, .func ⟨"_law_shown", "_law_shown", fA (S 69), .stmts (fB (S 69)), fS (S 69), 0, [], .none, .none, .none, .none, none, .none, .none, 0⟩, #[]⟩
noncomputable def o682x9 (P : Params) : Obj := ⟨.type "code", none, .fields #[.str "_law_shown" 1123, .str "_law_shown" 1124, .str "/claim/cut.py" 1125, .int 503 0, .int 2 0, .int 0 0, .int 0 0, .int 3 0, .ref 677, .bool true, .int 181 0, .ref 678, .none, .ref 679, .ref 680, .ref 681, .int 1128 0, .int 503 0, .str "/claim/cut.py" 1129], #[]⟩
noncomputable def o683x9 (P : Params) : Obj := ⟨.type "function", none, .func ⟨"_law_shown", "_law_shown", fA (S 69), .stmts (fB (S 69)), fS (S 69), 3, [], .none, .none, .none, .str "law_pq0857_01" 1094, none, .ref 682, .none, 0⟩, #[]⟩
noncomputable def o686x9 (P : Params) : Obj := ⟨.type "tuple", none, .seq #[.str "host" 1134, .str "value" 1135] 0, #[]⟩
noncomputable def o688x9 (P : Params) : Obj := ⟨.none, none, .func ⟨"_law_calls", "_law_calls", fA (S 70), .stmts (fB (S 70)), fS (S 70), 0, [], .none, .none, .none, .none, none, .none, .none, 0⟩, #[]⟩
noncomputable def o689x9 (P : Params) : Obj := ⟨.type "code", none, .fields #[.str "_law_calls" 1131, .str "_law_calls" 1132, .str "/claim/cut.py" 1133, .int 505 0, .int 2 0, .int 0 0, .int 0 0, .int 3 0, .ref 684, .bool true, .int 181 0, .ref 685, .none, .ref 686, .ref 687, .ref 688, .int 1136 0, .int 505 0, .str "/claim/cut.py" 1137], #[]⟩
noncomputable def o690x9 (P : Params) : Obj := ⟨.type "function", none, .func ⟨"_law_calls", "_law_calls", fA (S 70), .stmts (fB (S 70)), fS (S 70), 3, [], .none, .none, .none, .str "law_pq0857_01" 1094, none, .ref 689, .none, 0⟩, #[]⟩
noncomputable def o693x9 (P : Params) : Obj := ⟨.type "tuple", none, .seq #[.str "value" 1142] 0, #[]⟩
noncomputable def o695x9 (P : Params) : Obj := ⟨.none, none, .func ⟨"_law_kind", "_law_kind", fA (S 71), .stmts (fB (S 71)), fS (S 71), 0, [], .none, .none, .none, .none, none, .none, .none, 0⟩, #[]⟩
noncomputable def o696x9 (P : Params) : Obj := ⟨.type "code", none, .fields #[.str "_law_kind" 1139, .str "_law_kind" 1140, .str "/claim/cut.py" 1141, .int 507 0, .int 1 0, .int 0 0, .int 0 0, .int 3 0, .ref 691, .bool true, .int 181 0, .ref 692, .none, .ref 693, .ref 694, .ref 695, .int 1143 0, .int 507 0, .str "/claim/cut.py" 1144], #[]⟩
noncomputable def o697x9 (P : Params) : Obj := ⟨.type "function", none, .func ⟨"_law_kind", "_law_kind", fA (S 71), .stmts (fB (S 71)), fS (S 71), 3, [], .none, .none, .none, .str "law_pq0857_01" 1094, none, .ref 696, .none, 0⟩, #[]⟩
noncomputable def o700x9 (P : Params) : Obj := ⟨.type "tuple", none, .seq #[.str "value" 1149, .str "found" 1150] 0, #[]⟩
noncomputable def o702x9 (P : Params) : Obj := ⟨.none, none, .func ⟨"_law_line", "_law_line", fA (S 72), .stmts (fB (S 72)), fS (S 72), 0, [], .none, .none, .none, .none, none, .none, .none, 0⟩, #[]⟩
noncomputable def o703x9 (P : Params) : Obj := ⟨.type "code", none, .fields #[.str "_law_line" 1146, .str "_law_line" 1147, .str "/claim/cut.py" 1148, .int 511 0, .int 1 0, .int 0 0, .int 0 0, .int 3 0, .ref 698, .bool true, .int 181 0, .ref 699, .none, .ref 700, .ref 701, .ref 702, .int 1151 0, .int 511 0, .str "/claim/cut.py" 1152], #[]⟩
noncomputable def o704x9 (P : Params) : Obj := ⟨.type "function", none, .func ⟨"_law_line", "_law_line", fA (S 72), .stmts (fB (S 72)), fS (S 72), 3, [], .none, .none, .none, .str "law_pq0857_01" 1094, none, .ref 703, .none, 0⟩, #[]⟩
noncomputable def o707x9 (P : Params) : Obj := ⟨.none, none, .func ⟨"_law_is_below", "_law_is_below", fA (S 73), .stmts (fB (S 73)), fS (S 73), 0, [], .none, .none, .none, .none, none, .none, .none, 0⟩, #[]⟩
noncomputable def o708x9 (P : Params) : Obj := ⟨.type "code", none, .fields #[.str "_law_is_below" 1154, .str "_law_is_below" 1155, .str "/claim/cut.py" 1156, .int 516 0, .int 2 0, .int 0 0, .int 0 0, .int 3 0, .ref 705, .bool true, .int 181 0, .ref 706, .none, .none, .none, .ref 707, .int 1157 0, .int 516 0, .str "/claim/cut.py" 1158], #[]⟩
noncomputable def o709x9 (P : Params) : Obj := ⟨.type "function", none, .func ⟨"_law_is_below", "_law_is_below", fA (S 73), .stmts (fB (S 73)), fS (S 73), 3, [], .none, .none, .none, .str "law_pq0857_01" 1094, none, .ref 708, .none, 0⟩, #[]⟩
noncomputable def o712x9 (P : Params) : Obj := ⟨.none, none, .func ⟨"_law_takes", "_law_takes", fA (S 74), .stmts (fB (S 74)), fS (S 74), 0, [], .none, .none, .none, .none, none, .none, .none, 0⟩, #[]⟩
noncomputable def o713x9 (P : Params) : Obj := ⟨.type "code", none, .fields #[.str "_law_takes" 1160, .str "_law_takes" 1161, .str "/claim/cut.py" 1162, .int 518 0, .int 5 0, .int 0 0, .int 0 0, .int 3 0, .ref 710, .bool true, .int 181 0, .ref 711, .none, .none, .none, .ref 712, .int 1163 0, .int 518 0, .str "/claim/cut.py" 1164], #[]⟩
noncomputable def o714x9 (P : Params) : Obj := ⟨.type "function", none, .func ⟨"_law_takes", "_law_takes", fA (S 74), .stmts (fB (S 74)), fS (S 74), 3, [], .none, .none, .none, .str "law_pq0857_01" 1094, none, .ref 713, .none, 0⟩, #[]⟩
noncomputable def o717x9 (P : Params) : Obj := ⟨.none, none, .func ⟨"_law_accepted", "_law_accepted", fA (S 75), .stmts (fB (S 75)), fS (S 75), 0, [], .none, .none, .none, .none, none, .none, .none, 0⟩, #[]⟩
noncomputable def o718x9 (P : Params) : Obj := ⟨.type "code", none, .fields #[.str "_law_accepted" 1166, .str "_law_accepted" 1167, .str "/claim/cut.py" 1168, .int 539 0, .int 5 0, .int 0 0, .int 0 0, .int 3 0, .ref 715, .bool true, .int 181 0, .ref 716, .none, .none, .none, .ref 717, .int 1169 0, .int 539 0, .str "/claim/cut.py" 1170], #[]⟩
noncomputable def o719x9 (P : Params) : Obj := ⟨.type "function", none, .func ⟨"_law_accepted", "_law_accepted", fA (S 75), .stmts (fB (S 75)), fS (S 75), 3, [], .none, .none, .none, .str "law_pq0857_01" 1094, none, .ref 718, .none, 0⟩, #[]⟩
noncomputable def o722x9 (P : Params) : Obj := ⟨.none, none, .func ⟨"_law_is_shown", "_law_is_shown", fA (S 76), .stmts (fB (S 76)), fS (S 76), 0, [], .none, .none, .none, .none, none, .none, .none, 0⟩, #[]⟩
noncomputable def o723x9 (P : Params) : Obj := ⟨.type "code", none, .fields #[.str "_law_is_shown" 1172, .str "_law_is_shown" 1173, .str "/claim/cut.py" 1174, .int 543 0, .int 1 0, .int 0 0, .int 0 0, .int 3 0, .ref 720, .bool true, .int 181 0, .ref 721, .none, .none, .none, .ref 722, .int 1175 0, .int 543 0, .str "/claim/cut.py" 1176], #[]⟩
noncomputable def o724x9 (P : Params) : Obj := ⟨.type "function", none, .func ⟨"_law_is_shown", "_law_is_shown", fA (S 76), .stmts (fB (S 76)), fS (S 76), 3, [], .none, .none, .none, .str "law_pq0857_01" 1094, none, .ref 723, .none, 0⟩, #[]⟩
noncomputable def t10 (P : Params) : BT := (N boot_o_0 P (N boot_o_1 P (N o3x9 P (N boot_o_7 P (N oa P (N o31x0 P (N o63x1 P (N o127x2 P (N o255x4 P (l o511x6 P) .nil) (N oa P (l o639x9 P) .nil)) (N oa P (N o319x5 P (l o575x8 P) .nil) (N o447x6 P (l o703x9 P) .nil))) (N ob P (N oa P (N ob P (l oa P) .nil) (N oa P (l o671x9 P) .nil)) (N oa P (N o351x5 P (l ob P) .nil) (l ob P)))) (N o47x0 P (N o79x1 P (N o143x2 P (N o271x4 P (l o527x7 P) .nil) (N o399x5 P (l oa P) .nil)) (N o207x4 P (N o335x5 P (l o591x8 P) .nil) (N o463x6 P (l o719x9 P) .nil))) (N oa P (N o175x3 P (N oa P (l o559x8 P) .nil) (N o431x6 P (l oa P) .nil)) (N o239x4 P (N ob P (l oa P) .nil) (l oa P))))) (N o23x0 P (N o39x0 P (N o71x1 P (N o135x2 P (N o263x4 P (l o519x7 P) .nil) (N o391x5 P (l o647x9 P) .nil)) (N o199x4 P (N oa P (l o583x8 P) .nil) (N o455x6 P (l ob P) .nil))) (N oa P (N o167x3 P (N o295x5 P (l ob P) .nil) (N ob P (l o679x9 P) .nil)) (N ob P (N oa P (l o615x8 P) .nil) (l o487x6 P)))) (N o23x0 P (N oa P (N o151x2 P (N oa P (l oa P) .nil) (N o407x5 P (l o663x9 P) .nil)) (N o215x4 P (N o343x5 P (l oa P) .nil) (l oa P))) (N oa P (N oa P (N ob P (l oa P) .nil) (N oa P (l o695x9 P) .nil)) (N oa P (N o375x5 P (l o631x8 P) .nil) (l o503x6 P)))))) (N oa P (N o19x0 P (N o35x0 P (N o23x0 P (N o23x0 P (N ob P (l o515x7 P) .nil) (N oa P (l o643x9 P) .nil)) (N oa P (N o323x5 P (l ob P) .nil) (N ob P (l o707x9 P) .nil))) (N o99x1 P (N o163x3 P (N oa P (l o547x8 P) .nil) (N o419x6 P (l o675x9 P) .nil)) (N o227x4 P (N oa P (l o611x8 P) .nil) (l o483x6 P)))) (N o51x0 P (N o83x1 P (N o147x2 P (N oa P (l o531x7 P) .nil) (N o403x5 P (l o659x9 P) .nil)) (N o211x4 P (N ob P (l oa P) .nil) (N oa P (l o723x9 P) .nil))) (N o115x2 P (N o179x3 P (N o307x5 P (l o563x8 P) .nil) (N o435x6 P (l oa P) .nil)) (N o243x4 P (N o371x5 P (l o627x8 P) .nil) (l oa P))))) (N o27x0 P (N o23x0 P (N ob P (N ob P (N o267x4 P (l o523x7 P) .nil) (N ob P (l o651x9 P) .nil)) (N ob P (N oa P (l o587x8 P) .nil) (N o459x6 P (l oa P) .nil))) (N o107x1 P (N o171x3 P (N oa P (l o555x8 P) .nil) (N o427x6 P (l o683x9 P) .nil)) (N o235x4 P (N o363x5 P (l o619x8 P) .nil) (l o491x6 P)))) (N o59x1 P (N o91x1 P (N oa P (N o283x5 P (l o539x8 P) .nil) (N oa P (l o667x9 P) .nil)) (N oa P (N o347x5 P (l o603x8 P) .nil) (l o475x6 P))) (N o123x2 P (N o187x4 P (N o315x5 P (l oa P) .nil) (N oa P (l ob P) .nil)) (N o251x4 P (N o379x5 P (l o23x0 P) .nil) (l ob P))))))) (N boot_o_5 P (N boot_o_9 P (N o17x0 P (N o33x0 P (N o65x1 P (N o129x2 P (N o257x4 P (l oa P) .nil) (N o385x5 P (l oa P) .nil)) (N o193x4 P (N o321x5 P (l o577x8 P) .nil) (N o449x6 P (l oa P) .nil))) (N oa P (N o161x3 P (N o289x5 P (l o545x8 P) .nil) (N o417x6 P (l ob P) .nil)) (N o225x4 P (N ob P (l oa P) .nil) (l oa P)))) (N oa P (N o81x1 P (N o145x2 P (N ob P (l o529x7 P) .nil) (N oa P (l o657x9 P) .nil)) (N oa P (N o337x5 P (l ob P) .nil) (N ob P (l ob P) .nil))) (N o113x2 P (N o177x3 P (N o305x5 P (l o561x8 P) .nil) (N o433x6 P (l o689x9 P) .nil)) (N o241x4 P (N oa P (l o625x8 P) .nil) (l o497x6 P))))) (N oa P (N o41x0 P (N o73x1 P (N o137x2 P (N oa P (l oa P) .nil) (N o393x5 P (l o649x9 P) .nil)) (N o201x4 P (N o329x5 P (l oa P) .nil) (N oa P (l o713x9 P) .nil))) (N o105x1 P (N o169x3 P (N ob P (l oa P) .nil) (N oa P (l o681x9 P) .nil)) (N oa P (N o361x5 P (l o617x8 P) .nil) (l o489x6 P)))) (N oa P (N o89x1 P (N o23x0 P (N o281x5 P (l o537x8 P) .nil) (N ob P (l oa P) .nil)) (N ob P (N oa P (l o601x8 P) .nil) (l o473x6 P))) (N o121x2 P (N o185x4 P (N oa P (l o569x8 P) .nil) (N o441x6 P (l o697x9 P) .nil)) (N o249x4 P (N o377x5 P (l o633x8 P) .nil) (l o505x6 P)))))) (N o13a P (N o21x0 P (N o37x0 P (N oa P (N oa P (N oa P (l o517x7 P) .nil) (N o389x5 P (l o645x9 P) .nil)) (N o197x4 P (N ob P (l oa P) .nil) (N oa P (l o709x9 P) .nil))) (N oa P (N o165x3 P (N o293x5 P (l o549x8 P) .nil) (N o421x6 P (l oa P) .nil)) (N o229x4 P (N o357x5 P (l oa P) .nil) (l oa P)))) (N o53x0 P (N o85x1 P (N o149x2 P (N o277x4 P (l o533x7 P) .nil) (N o405x5 P (l ob P) .nil)) (N o213x4 P (N oa P (l o597x8 P) .nil) (l o469x6 P))) (N ob P (N o23x0 P (N o309x5 P (l ob P) .nil) (N ob P (l o693x9 P) .nil)) (N ob P (N oa P (l o629x8 P) .nil) (l o501x6 P))))) (N oa P (N oa P (N oa P (N oa P (N o269x4 P (l o525x7 P) .nil) (N oa P (l o653x9 P) .nil)) (N oa P (N o333x5 P (l o589x8 P) .nil) (N o461x6 P (l o717x9 P) .nil))) (N o23x0 P (N oa P (N o301x5 P (l oa P) .nil) (N oa P (l ob P) .nil)) (N oa P (N o365x5 P (l ob P) .nil) (l ob P)))) (N oa P (N o93x1 P (N o157x3 P (N o285x5 P (l o541x8 P) .nil) (N o413x6 P (l o669x9 P) .nil)) (N o221x4 P (N o349x5 P (l o605x8 P) .nil) (l o477x6 P))) (N o125x2 P (N ob P (N oa P (l o573x8 P) .nil) (N o445x6 P (l oa P) .nil)) (N o253x4 P (N ob P (l oa P) .nil) (l oa P)))))))) (N o2x1 P (N boot_o_4 P (N boot_o_8 P (N ob P (N oa P (N o64x1 P (N o128x2 P (N o256x4 P (l o512x6 P) .nil) (N o384x5 P (l o640x9 P) .nil)) (N o192x4 P (N oa P (l o576x8 P) .nil) (N o448x6 P (l o704x9 P) .nil))) (N oa P (N ob P (N o288x5 P (l ob P) .nil) (N ob P (l oa P) .nil)) (N ob P (N oa P (l o608x8 P) .nil) (l o480x6 P)))) (N o48x0 P (N o80x1 P (N o144x2 P (N oa P (l o528x7 P) .nil) (N o400x5 P (l ob P) .nil)) (N o208x4 P (N o336x5 P (l oa P) .nil) (N oa P (l oa P) .nil))) (N o112x2 P (N oa P (N ob P (l oa P) .nil) (N oa P (l o688x9 P) .nil)) (N oa P (N o368x5 P (l o624x8 P) .nil) (l o496x6 P))))) (N o24x0 P (N o40x0 P (N o72x1 P (N o136x2 P (N o264x4 P (l o520x7 P) .nil) (N o392x5 P (l o648x9 P) .nil)) (N o200x4 P (N o328x5 P (l o584x8 P) .nil) (N o456x6 P (l o712x9 P) .nil))) (N oa P (N o168x3 P (N oa P (l o552x8 P) .nil) (N o424x6 P (l oa P) .nil)) (N o232x4 P (N ob P (l oa P) .nil) (l oa P)))) (N o56x1 P (N ob P (N oa P (N ob P (l o23x0 P) .nil) (N oa P (l o664x9 P) .nil)) (N oa P (N o344x5 P (l ob P) .nil) (l ob P))) (N o120x2 P (N o184x4 P (N o312x5 P (l o568x8 P) .nil) (N o440x6 P (l o696x9 P) .nil)) (N o248x4 P (N oa P (l o632x8 P) .nil) (l o504x6 P)))))) (N o12x9 P (N o20x0 P (N o36x0 P (N o68x1 P (N o132x2 P (N o260x4 P (l oa P) .nil) (N ob P (l oa P) .nil)) (N ob P (N oa P (l o580x8 P) .nil) (N o452x6 P (l o708x9 P) .nil))) (N o100x1 P (N o164x3 P (N ob P (l o548x8 P) .nil) (N o420x6 P (l o676x9 P) .nil)) (N o228x4 P (N o356x5 P (l o612x8 P) .nil) (l o484x6 P)))) (N o52x0 P (N o84x1 P (N o148x2 P (N o276x4 P (l o532x7 P) .nil) (N oa P (l oa P) .nil)) (N oa P (N o340x5 P (l o596x8 P) .nil) (N o468x6 P (l o724x9 P) .nil))) (N oa P (N oa P (N o308x5 P (l oa P) .nil) (N oa P (l ob P) .nil)) (N oa P (N o372x5 P (l o628x8 P) .nil) (l ob P))))) (N o28x0 P (N o44x0 P (N o76x1 P (N o140x2 P (N oa P (l oa P) .nil) (N o396x5 P (l o652x9 P) .nil)) (N o204x4 P (N ob P (l oa P) .nil) (N oa P (l ob P) .nil))) (N oa P (N o172x3 P (N o300x5 P (l o556x8 P) .nil) (N o428x6 P (l oa P) .nil)) (N o236x4 P (N o364x5 P (l oa P) .nil) (l oa P)))) (N o60x1 P (N o92x1 P (N o156x3 P (N o284x5 P (l o540x8 P) .nil) (N o412x6 P (l oa P) .nil)) (N o220x4 P (N oa P (l o604x8 P) .nil) (l o476x6 P))) (N o124x2 P (N oa P (N o316x5 P (l ob P) .nil) (N ob P (l o700x9 P) .nil)) (N o252x4 P (N oa P (l o636x9 P) .nil) (l o508x6 P))))))) (N boot_o_6 P (N boot_o_10 P (N oa P (N o34x0 P (N o22x0 P (N oa P (N oa P (l o23x0 P) .nil) (N o386x5 P (l ob P) .nil)) (N o194x4 P (N o322x5 P (l oa P) .nil) (N oa P (l ob P) .nil))) (N o98x1 P (N oa P (N o290x5 P (l oa P) .nil) (N oa P (l o674x9 P) .nil)) (N oa P (N o354x5 P (l o610x8 P) .nil) (l o482x6 P)))) (N o50x0 P (N o82x1 P (N o146x2 P (N o274x4 P (l o530x7 P) .nil) (N ob P (l o658x9 P) .nil)) (N ob P (N oa P (l o594x8 P) .nil) (N o466x6 P (l o722x9 P) .nil))) (N o114x2 P (N o178x3 P (N oa P (l o562x8 P) .nil) (N o434x6 P (l o690x9 P) .nil)) (N o242x4 P (N o370x5 P (l o626x8 P) .nil) (l o498x6 P))))) (N o26x0 P (N o42x0 P (N oa P (N oa P (N ob P (l ob P) .nil) (N oa P (l o650x9 P) .nil)) (N oa P (N o330x5 P (l ob P) .nil) (N ob P (l o714x9 P) .nil))) (N o106x1 P (N o170x3 P (N o298x5 P (l o554x8 P) .nil) (N o426x6 P (l o682x9 P) .nil)) (N o234x4 P (N oa P (l o618x8 P) .nil) (l o490x6 P)))) (N ob P (N oa P (N o154x3 P (N oa P (l oa P) .nil) (N o410x6 P (l ob P) .nil)) (N o218x4 P (N ob P (l oa P) .nil) (l oa P))) (N o122x2 P (N o186x4 P (N o314x5 P (l o570x8 P) .nil) (N o442x6 P (l oa P) .nil)) (N o250x4 P (N o378x5 P (l oa P) .nil) (l oa P)))))) (N o14a P (N o22x0 P (N o38x1 P (N o70x1 P (N o134x2 P (N o262x4 P (l o518x7 P) .nil) (N oa P (l o646x9 P) .nil)) (N oa P (N o326x5 P (l o582x8 P) .nil) (N o454x6 P (l oa P) .nil))) (N ob P (N o166x3 P (N o294x5 P (l oa P) .nil) (N oa P (l ob P) .nil)) (N oa P (N o358x5 P (l ob P) .nil) (l ob P)))) (N o42x0 P (N o86x1 P (N o150x2 P (N o278x4 P (l o534x7 P) .nil) (N o406x5 P (l o662x9 P) .nil)) (N o214x4 P (N o342x5 P (l o598x8 P) .nil) (l o470x6 P))) (N o118x2 P (N o182x4 P (N oa P (l o566x8 P) .nil) (N o438x6 P (l oa P) .nil)) (N o246x4 P (N ob P (l o630x8 P) .nil) (l oa P))))) (N ob P (N ob P (N o78x1 P (N o142x2 P (N o270x4 P (l o526x7 P) .nil) (N o398x5 P (l o654x9 P) .nil)) (N o206x4 P (N oa P (l o590x8 P) .nil) (N o462x6 P (l o718x9 P) .nil))) (N o110x2 P (N ob P (N o302x5 P (l ob P) .nil) (N ob P (l o686x9 P) .nil)) (N ob P (N oa P (l o622x8 P) .nil) (l o494x6 P)))) (N o62x1 P (N oa P (N o158x3 P (N oa P (l o542x8 P) .nil) (N o414x6 P (l o670x9 P) .nil)) (N o222x4 P (N o350x5 P (l oa P) .nil) (l oa P))) (N o126x2 P (N o190x4 P (N ob P (l oa P) .nil) (N oa P (l o702x9 P) .nil)) (N o254x4 P (N o382x5 P (l o638x9 P) .nil) (l o510x6 P)))))))))
noncomputable def s10 (w : World) (os : OsState) : SharedT := ⟨t10 w.params, 725, ⟨[], [], [], 0, [], [], false, #[], [], 0, false, false, false, 0, [2000, 10, 10], false, 0, true, [], [], 0, false⟩, ⟨[]⟩, ⟨0, 0, 0, 0⟩, 1178, os⟩
noncomputable def sts10 : List Stmt := (bE.drop 77).take 10
noncomputable def o3x10 (P : Params) : Obj := ⟨.type "dict", none, .dict #[kv P "__name__" 165 (.str "law_pq0857_01" 1094), kv P "__doc__" 166 .none, kv P "__package__" 167 .none, kv P "__loader__" 168 (.builtin "__main__.__loader__#opaque"), kv P "__spec__" 169 .none, kv P "__annotations__" 170 (.ref 6), kv P "__builtins__" 171 (.ref 4), kv P "__file__" 173 (.str "/claim/cut.py" 172), kv P "__cached__" 174 .none, kv P "_wall" 193 (.ref 21), kv P "PhpFault" 224 (.ref 38), kv P "LeftOut" 240 (.ref 51), kv P "Misused" 256 (.ref 63), kv P "Thrown" 293 (.ref 83), kv P "error" 300 (.ref 93), kv P "least" 306 (.ref 100), kv P "greatest" 312 (.ref 107), kv P "Ref" 345 (.ref 125), kv P "Absent" 374 (.ref 147), kv P "Obj" 410 (.ref 168), kv P "deref" 417 (.ref 179), kv P "Arr" 527 (.ref 253), kv P "is_living" 535 (.ref 264), kv P "hash_of" 544 (.ref 271), kv P "link" 553 (.ref 278), kv P "chains" 561 (.ref 285), kv P "many_ahead" 567 (.ref 290), kv P "rehash" 573 (.ref 295), kv P "to_hash" 580 (.ref 302), kv P "takes_packed" 588 (.ref 309), kv P "add_packed" 597 (.ref 316), kv P "add_hashed" 607 (.ref 323), kv P "add" 616 (.ref 330), kv P "marked" 623 (.ref 337), kv P "kind" 632 (.ref 344), kv P "lower" 641 (.ref 351), kv P "is_subclass" 651 (.ref 358), kv P "instance_of" 659 (.ref 365), kv P "to_bool" 669 (.ref 372), kv P "int_text" 676 (.ref 379), kv P "to_text" 685 (.ref 386), kv P "is_digit" 695 (.ref 393), kv P "digits_behind" 703 (.ref 400), kv P "digits_value" 714 (.ref 407), kv P "signed" 723 (.ref 414), kv P "exponent_behind" 732 (.ref 421), kv P "blanks_behind" 740 (.ref 428), kv P "numeric" 753 (.ref 435), kv P "number_of" 761 (.ref 442), kv P "has_text" 771 (.ref 449), kv P "type_text" 780 (.ref 456), kv P "is_callable" 789 (.ref 463), kv P "is_of" 797 (.ref 470), kv P "by_class" 807 (.ref 477), kv P "accepts_name" 818 (.ref 484), kv P "accepts" 830 (.ref 491), kv P "coerced_to" 840 (.ref 498), kv P "coerce" 856 (.ref 505), kv P "native_null" 865 (.ref 512), kv P "Frame" 904 (.ref 530), kv P "Host" 1044 (.ref 629), kv P "Klass" 1093 (.ref 650), kv P "_law_names" 1101 (.ref 659), kv P "_law_text" 1107 (.ref 664), kv P "_law_behind" 1116 (.ref 671), kv P "_law_number" 1122 (.ref 676), kv P "_law_shown" 1130 (.ref 683), kv P "_law_calls" 1138 (.ref 690), kv P "_law_kind" 1145 (.ref 697), kv P "_law_line" 1153 (.ref 704), kv P "_law_is_below" 1159 (.ref 709), kv P "_law_takes" 1165 (.ref 714), kv P "_law_accepted" 1171 (.ref 719), kv P "_law_is_shown" 1177 (.ref 724), kv P "_law_worded" 1185 (.ref 731), kv P "_law_brought" 1195 (.ref 738), kv P "_law_due" 1208 (.ref 745), kv P "_law_accepts" 1219 (.ref 752), kv P "_law_coerced" 1231 (.ref 759), kv P "_law_alike" 1240 (.ref 766), kv P "_law_is_right" 1254 (.ref 773), kv P "_law_type_text" 1260 (.ref 778), kv P "_law_classes" 1271 (.ref 785), kv P "law" 1277 (.ref 790)] 84, #[]⟩
noncomputable def o12x10 (P : Params) : Obj := ⟨.none, none, .fields #[.int 1 0, .int 0 0, .ref 20, .int 5 0, .int 0 0, .ref 27, .int 10 0, .int 0 0, .ref 47, .int 12 0, .int 0 0, .ref 59, .int 14 0, .int 0 0, .ref 71, .int 23 0, .int 0 0, .ref 92, .int 25 0, .int 0 0, .ref 99, .int 27 0, .int 0 0, .ref 106, .int 30 0, .int 0 0, .ref 113, .int 36 0, .int 0 0, .ref 135, .int 40 0, .int 0 0, .ref 157, .int 50 0, .int 0 0, .ref 178, .int 57 0, .int 0 0, .ref 185, .int 105 0, .int 0 0, .ref 263, .int 107 0, .int 0 0, .ref 270, .int 114 0, .int 0 0, .ref 277, .int 118 0, .int 0 0, .ref 284, .int 124 0, .int 0 0, .ref 289, .int 126 0, .int 0 0, .ref 294, .int 134 0, .int 0 0, .ref 301, .int 138 0, .int 0 0, .ref 308, .int 144 0, .int 0 0, .ref 315, .int 148 0, .int 0 0, .ref 322, .int 160 0, .int 0 0, .ref 329, .int 172 0, .int 0 0, .ref 336, .int 177 0, .int 0 0, .ref 343, .int 191 0, .int 0 0, .ref 350, .int 196 0, .int 0 0, .ref 357, .int 206 0, .int 0 0, .ref 364, .int 209 0, .int 0 0, .ref 371, .int 220 0, .int 0 0, .ref 378, .int 222 0, .int 0 0, .ref 385, .int 237 0, .int 0 0, .ref 392, .int 239 0, .int 0 0, .ref 399, .int 243 0, .int 0 0, .ref 406, .int 250 0, .int 0 0, .ref 413, .int 255 0, .int 0 0, .ref 420, .int 264 0, .int 0 0, .ref 427, .int 268 0, .int 0 0, .ref 434, .int 287 0, .int 0 0, .ref 441, .int 293 0, .int 0 0, .ref 448, .int 301 0, .int 0 0, .ref 455, .int 307 0, .int 0 0, .ref 462, .int 312 0, .int 0 0, .ref 469, .int 314 0, .int 0 0, .ref 476, .int 322 0, .int 0 0, .ref 483, .int 338 0, .int 0 0, .ref 490, .int 345 0, .int 0 0, .ref 497, .int 358 0, .int 0 0, .ref 504, .int 371 0, .int 0 0, .ref 511, .int 381 0, .int 0 0, .ref 518, .int 391 0, .int 0 0, .ref 540, .int 451 0, .int 0 0, .ref 639, .int 473 0, .int 0 0, .ref 658, .int 476 0, .int 0 0, .ref 663, .int 479 0, .int 0 0, .ref 670, .int 483 0, .int 0 0, .ref 675, .int 503 0, .int 0 0, .ref 682, .int 505 0, .int 0 0, .ref 689, .int 507 0, .int 0 0, .ref 696, .int 511 0, .int 0 0, .ref 703, .int 516 0, .int 0 0, .ref 708, .int 518 0, .int 0 0, .ref 713, .int 539 0, .int 0 0, .ref 718, .int 543 0, .int 0 0, .ref 723, .int 545 0, .int 0 0, .ref 730, .int 549 0, .int 0 0, .ref 737, .int 564 0, .int 0 0, .ref 744, .int 571 0, .int 0 0, .ref 751, .int 576 0, .int 0 0, .ref 758, .int 581 0, .int 0 0, .ref 765, .int 590 0, .int 0 0, .ref 772, .int 603 0, .int 0 0, .ref 777, .int 608 0, .int 0 0, .ref 784, .int 618 0, .int 0 0, .ref 789], #[]⟩
noncomputable def o727x10 (P : Params) : Obj := ⟨.type "tuple", none, .seq #[.str "value" 1181, .str "what" 1182] 0, #[]⟩
noncomputable def o729x10 (P : Params) : Obj := ⟨.none, none, .func ⟨"_law_worded", "_law_worded", fA (S 77), .stmts (fB (S 77)), fS (S 77), 0, [], .none, .none, .none, .none, none, .none, .none, 0⟩, #[]⟩
noncomputable def o730x10 (P : Params) : Obj := ⟨.type "code", none, .fields #[.str "_law_worded" 1178, .str "_law_worded" 1179, .str "/claim/cut.py" 1180, .int 545 0, .int 2 0, .int 0 0, .int 0 0, .int 3 0, .ref 725, .bool true, .int 181 0, .ref 726, .none, .ref 727, .ref 728, .ref 729, .int 1183 0, .int 545 0, .str "/claim/cut.py" 1184], #[]⟩
noncomputable def o731x10 (P : Params) : Obj := ⟨.type "function", none, .func ⟨"_law_worded", "_law_worded", fA (S 77), .stmts (fB (S 77)), fS (S 77), 3, [], .none, .none, .none, .str "law_pq0857_01" 1094, none, .ref 730, .none, 0⟩, #[]⟩
noncomputable def o734x10 (P : Params) : Obj := ⟨.type "tuple", none, .seq #[.str "names" 1189, .str "value" 1190, .str "what" 1191, .str "number" 1192] 0, #[]⟩
noncomputable def o736x10 (P : Params) : Obj := ⟨.none, none, .func ⟨"_law_brought", "_law_brought", fA (S 78), .stmts (fB (S 78)), fS (S 78), 0, [], .none, .none, .none, .none, none, .none, .none, 0⟩, #[]⟩
noncomputable def o737x10 (P : Params) : Obj := ⟨.type "code", none, .fields #[.str "_law_brought" 1186, .str "_law_brought" 1187, .str "/claim/cut.py" 1188, .int 549 0, .int 2 0, .int 0 0, .int 0 0, .int 3 0, .ref 732, .bool true, .int 181 0, .ref 733, .none, .ref 734, .ref 735, .ref 736, .int 1193 0, .int 549 0, .str "/claim/cut.py" 1194], #[]⟩
noncomputable def o738x10 (P : Params) : Obj := ⟨.type "function", none, .func ⟨"_law_brought", "_law_brought", fA (S 78), .stmts (fB (S 78)), fS (S 78), 3, [], .none, .none, .none, .str "law_pq0857_01" 1094, none, .ref 737, .none, 0⟩, #[]⟩
noncomputable def o741x10 (P : Params) : Obj := ⟨.type "tuple", none, .seq #[.str "host" 1199, .str "names" 1200, .str "value" 1201, .str "is_strict" 1202, .str "here" 1203, .str "static" 1204, .str "is_taken" 1205] 0, #[]⟩
noncomputable def o743x10 (P : Params) : Obj := ⟨.none, none, .func ⟨"_law_due", "_law_due", fA (S 79), .stmts (fB (S 79)), fS (S 79), 0, [], .none, .none, .none, .none, none, .none, .none, 0⟩, #[]⟩
noncomputable def o744x10 (P : Params) : Obj := ⟨.type "code", none, .fields #[.str "_law_due" 1196, .str "_law_due" 1197, .str "/claim/cut.py" 1198, .int 564 0, .int 6 0, .int 0 0, .int 0 0, .int 3 0, .ref 739, .bool true, .int 181 0, .ref 740, .none, .ref 741, .ref 742, .ref 743, .int 1206 0, .int 564 0, .str "/claim/cut.py" 1207], #[]⟩
noncomputable def o745x10 (P : Params) : Obj := ⟨.type "function", none, .func ⟨"_law_due", "_law_due", fA (S 79), .stmts (fB (S 79)), fS (S 79), 3, [], .none, .none, .none, .str "law_pq0857_01" 1094, none, .ref 744, .none, 0⟩, #[]⟩
noncomputable def o748x10 (P : Params) : Obj := ⟨.type "tuple", none, .seq #[.str "host" 1212, .str "names" 1213, .str "value" 1214, .str "here" 1215, .str "static" 1216] 0, #[]⟩
noncomputable def o750x10 (P : Params) : Obj := ⟨.none, none, .func ⟨"_law_accepts", "_law_accepts", fA (S 80), .stmts (fB (S 80)), fS (S 80), 0, [], .none, .none, .none, .none, none, .none, .none, 0⟩, #[]⟩
noncomputable def o751x10 (P : Params) : Obj := ⟨.type "code", none, .fields #[.str "_law_accepts" 1209, .str "_law_accepts" 1210, .str "/claim/cut.py" 1211, .int 571 0, .int 5 0, .int 0 0, .int 0 0, .int 3 0, .ref 746, .bool true, .int 181 0, .ref 747, .none, .ref 748, .ref 749, .ref 750, .int 1217 0, .int 571 0, .str "/claim/cut.py" 1218], #[]⟩
noncomputable def o752x10 (P : Params) : Obj := ⟨.type "function", none, .func ⟨"_law_accepts", "_law_accepts", fA (S 80), .stmts (fB (S 80)), fS (S 80), 3, [], .none, .none, .none, .str "law_pq0857_01" 1094, none, .ref 751, .none, 0⟩, #[]⟩
noncomputable def o755x10 (P : Params) : Obj := ⟨.type "tuple", none, .seq #[.str "host" 1223, .str "names" 1224, .str "value" 1225, .str "is_strict" 1226, .str "here" 1227, .str "static" 1228] 0, #[]⟩
noncomputable def o757x10 (P : Params) : Obj := ⟨.none, none, .func ⟨"_law_coerced", "_law_coerced", fA (S 81), .stmts (fB (S 81)), fS (S 81), 0, [], .none, .none, .none, .none, none, .none, .none, 0⟩, #[]⟩
noncomputable def o758x10 (P : Params) : Obj := ⟨.type "code", none, .fields #[.str "_law_coerced" 1220, .str "_law_coerced" 1221, .str "/claim/cut.py" 1222, .int 576 0, .int 6 0, .int 0 0, .int 0 0, .int 3 0, .ref 753, .bool true, .int 181 0, .ref 754, .none, .ref 755, .ref 756, .ref 757, .int 1229 0, .int 576 0, .str "/claim/cut.py" 1230], #[]⟩
noncomputable def o759x10 (P : Params) : Obj := ⟨.type "function", none, .func ⟨"_law_coerced", "_law_coerced", fA (S 81), .stmts (fB (S 81)), fS (S 81), 3, [], .none, .none, .none, .str "law_pq0857_01" 1094, none, .ref 758, .none, 0⟩, #[]⟩
noncomputable def o762x10 (P : Params) : Obj := ⟨.type "tuple", none, .seq #[.str "due" 1235, .str "told" 1236, .str "what" 1237] 0, #[]⟩
noncomputable def o764x10 (P : Params) : Obj := ⟨.none, none, .func ⟨"_law_alike", "_law_alike", fA (S 82), .stmts (fB (S 82)), fS (S 82), 0, [], .none, .none, .none, .none, none, .none, .none, 0⟩, #[]⟩
noncomputable def o765x10 (P : Params) : Obj := ⟨.type "code", none, .fields #[.str "_law_alike" 1232, .str "_law_alike" 1233, .str "/claim/cut.py" 1234, .int 581 0, .int 2 0, .int 0 0, .int 0 0, .int 3 0, .ref 760, .bool true, .int 181 0, .ref 761, .none, .ref 762, .ref 763, .ref 764, .int 1238 0, .int 581 0, .str "/claim/cut.py" 1239], #[]⟩
noncomputable def o766x10 (P : Params) : Obj := ⟨.type "function", none, .func ⟨"_law_alike", "_law_alike", fA (S 82), .stmts (fB (S 82)), fS (S 82), 3, [], .none, .none, .none, .str "law_pq0857_01" 1094, none, .ref 765, .none, 0⟩, #[]⟩
noncomputable def o769x10 (P : Params) : Obj := ⟨.type "tuple", none, .seq #[.str "host" 1244, .str "names" 1245, .str "value" 1246, .str "here" 1247, .str "static" 1248, .str "told" 1249, .str "is_strict" 1250, .str "made" 1251] 0, #[]⟩
noncomputable def o771x10 (P : Params) : Obj := ⟨.none, none, .func ⟨"_law_is_right", "_law_is_right", fA (S 83), .stmts (fB (S 83)), fS (S 83), 0, [], .none, .none, .none, .none, none, .none, .none, 0⟩, #[]⟩
noncomputable def o772x10 (P : Params) : Obj := ⟨.type "code", none, .fields #[.str "_law_is_right" 1241, .str "_law_is_right" 1242, .str "/claim/cut.py" 1243, .int 590 0, .int 5 0, .int 0 0, .int 0 0, .int 3 0, .ref 767, .bool true, .int 181 0, .ref 768, .none, .ref 769, .ref 770, .ref 771, .int 1252 0, .int 590 0, .str "/claim/cut.py" 1253], #[]⟩
noncomputable def o773x10 (P : Params) : Obj := ⟨.type "function", none, .func ⟨"_law_is_right", "_law_is_right", fA (S 83), .stmts (fB (S 83)), fS (S 83), 3, [], .none, .none, .none, .str "law_pq0857_01" 1094, none, .ref 772, .none, 0⟩, #[]⟩
noncomputable def o776x10 (P : Params) : Obj := ⟨.none, none, .func ⟨"_law_type_text", "_law_type_text", fA (S 84), .stmts (fB (S 84)), fS (S 84), 0, [], .none, .none, .none, .none, none, .none, .none, 0⟩, #[]⟩
noncomputable def o777x10 (P : Params) : Obj := ⟨.type "code", none, .fields #[.str "_law_type_text" 1255, .str "_law_type_text" 1256, .str "/claim/cut.py" 1257, .int 603 0, .int 1 0, .int 0 0, .int 0 0, .int 3 0, .ref 774, .bool true, .int 181 0, .ref 775, .none, .none, .none, .ref 776, .int 1258 0, .int 603 0, .str "/claim/cut.py" 1259], #[]⟩
noncomputable def o778x10 (P : Params) : Obj := ⟨.type "function", none, .func ⟨"_law_type_text", "_law_type_text", fA (S 84), .stmts (fB (S 84)), fS (S 84), 3, [], .none, .none, .none, .str "law_pq0857_01" 1094, none, .ref 777, .none, 0⟩, #[]⟩
noncomputable def o781x10 (P : Params) : Obj := ⟨.type "tuple", none, .seq #[.str "draw" 1264, .str "walked" 1265, .str "found" 1266, .str "k" 1267, .str "made" 1268] 0, #[]⟩
noncomputable def o783x10 (P : Params) : Obj := ⟨.none, none, .func ⟨"_law_classes", "_law_classes", fA (S 85), .stmts (fB (S 85)), fS (S 85), 0, [], .none, .none, .none, .none, none, .none, .none, 0⟩, #[]⟩
noncomputable def o784x10 (P : Params) : Obj := ⟨.type "code", none, .fields #[.str "_law_classes" 1261, .str "_law_classes" 1262, .str "/claim/cut.py" 1263, .int 608 0, .int 1 0, .int 0 0, .int 0 0, .int 3 0, .ref 779, .bool true, .int 181 0, .ref 780, .none, .ref 781, .ref 782, .ref 783, .int 1269 0, .int 608 0, .str "/claim/cut.py" 1270], #[]⟩
noncomputable def o785x10 (P : Params) : Obj := ⟨.type "function", none, .func ⟨"_law_classes", "_law_classes", fA (S 85), .stmts (fB (S 85)), fS (S 85), 3, [], .none, .none, .none, .str "law_pq0857_01" 1094, none, .ref 784, .none, 0⟩, #[]⟩
noncomputable def o788x10 (P : Params) : Obj := ⟨.none, none, .func ⟨"law", "law", fA (S 86), .stmts (fB (S 86)), fS (S 86), 0, [], .none, .none, .none, .none, none, .none, .none, 0⟩, #[]⟩
noncomputable def o789x10 (P : Params) : Obj := ⟨.type "code", none, .fields #[.str "law" 1272, .str "law" 1273, .str "/claim/cut.py" 1274, .int 618 0, .int 1 0, .int 0 0, .int 0 0, .int 3 0, .ref 786, .bool true, .int 181 0, .ref 787, .none, .none, .none, .ref 788, .int 1275 0, .int 618 0, .str "/claim/cut.py" 1276], #[]⟩
noncomputable def o790x10 (P : Params) : Obj := ⟨.type "function", none, .func ⟨"law", "law", fA (S 86), .stmts (fB (S 86)), fS (S 86), 3, [], .none, .none, .none, .str "law_pq0857_01" 1094, none, .ref 789, .none, 0⟩, #[]⟩
noncomputable def t11 (P : Params) : BT := (N boot_o_0 P (N boot_o_1 P (N o3x10 P (N boot_o_7 P (N oa P (N o31x0 P (N o63x1 P (N o127x2 P (N o255x4 P (l o511x6 P) (l oa P)) (N oa P (l o639x9 P) .nil)) (N oa P (N o319x5 P (l o575x8 P) .nil) (N o447x6 P (l o703x9 P) .nil))) (N ob P (N oa P (N ob P (l oa P) .nil) (N oa P (l o671x9 P) .nil)) (N oa P (N o351x5 P (l ob P) .nil) (N ob P (l oa P) .nil)))) (N o47x0 P (N o79x1 P (N o143x2 P (N o271x4 P (l o527x7 P) (l o783x10 P)) (N o399x5 P (l oa P) .nil)) (N o207x4 P (N o335x5 P (l o591x8 P) .nil) (N o463x6 P (l o719x9 P) .nil))) (N oa P (N o175x3 P (N oa P (l o559x8 P) .nil) (N o431x6 P (l oa P) .nil)) (N o239x4 P (N ob P (l oa P) .nil) (N oa P (l o751x10 P) .nil))))) (N o23x0 P (N o39x0 P (N o71x1 P (N o135x2 P (N o263x4 P (l o519x7 P) (l ob P)) (N o391x5 P (l o647x9 P) .nil)) (N o199x4 P (N oa P (l o583x8 P) .nil) (N o455x6 P (l ob P) .nil))) (N oa P (N o167x3 P (N o295x5 P (l ob P) .nil) (N ob P (l o679x9 P) .nil)) (N ob P (N oa P (l o615x8 P) .nil) (N o487x6 P (l o743x10 P) .nil)))) (N o23x0 P (N oa P (N o151x2 P (N oa P (l oa P) .nil) (N o407x5 P (l o663x9 P) .nil)) (N o215x4 P (N o343x5 P (l oa P) .nil) (N oa P (l o727x10 P) .nil))) (N oa P (N oa P (N ob P (l oa P) .nil) (N oa P (l o695x9 P) .nil)) (N oa P (N o375x5 P (l o631x8 P) .nil) (N o503x6 P (l o759x10 P) .nil)))))) (N oa P (N o19x0 P (N o35x0 P (N o23x0 P (N o23x0 P (N ob P (l o515x7 P) (l o771x10 P)) (N oa P (l o643x9 P) .nil)) (N oa P (N o323x5 P (l ob P) .nil) (N ob P (l o707x9 P) .nil))) (N o99x1 P (N o163x3 P (N oa P (l o547x8 P) .nil) (N o419x6 P (l o675x9 P) .nil)) (N o227x4 P (N oa P (l o611x8 P) .nil) (N o483x6 P (l oa P) .nil)))) (N o51x0 P (N o83x1 P (N o147x2 P (N oa P (l o531x7 P) (l ob P)) (N o403x5 P (l o659x9 P) .nil)) (N o211x4 P (N ob P (l oa P) .nil) (N oa P (l o723x9 P) .nil))) (N o115x2 P (N o179x3 P (N o307x5 P (l o563x8 P) .nil) (N o435x6 P (l oa P) .nil)) (N o243x4 P (N o371x5 P (l o627x8 P) .nil) (N oa P (l o755x10 P) .nil))))) (N o27x0 P (N o23x0 P (N ob P (N ob P (N o267x4 P (l o523x7 P) (l oa P)) (N ob P (l o651x9 P) .nil)) (N ob P (N oa P (l o587x8 P) .nil) (N o459x6 P (l oa P) .nil))) (N o107x1 P (N o171x3 P (N oa P (l o555x8 P) .nil) (N o427x6 P (l o683x9 P) .nil)) (N o235x4 P (N o363x5 P (l o619x8 P) .nil) (N o491x6 P (l ob P) .nil)))) (N o59x1 P (N o91x1 P (N oa P (N o283x5 P (l o539x8 P) .nil) (N oa P (l o667x9 P) .nil)) (N oa P (N o347x5 P (l o603x8 P) .nil) (N o475x6 P (l o731x10 P) .nil))) (N o123x2 P (N o187x4 P (N o315x5 P (l oa P) .nil) (N oa P (l ob P) .nil)) (N o251x4 P (N o379x5 P (l o23x0 P) .nil) (N ob P (l oa P) .nil))))))) (N boot_o_5 P (N boot_o_9 P (N o17x0 P (N o33x0 P (N o65x1 P (N o129x2 P (N o257x4 P (l oa P) (l o769x10 P)) (N o385x5 P (l oa P) .nil)) (N o193x4 P (N o321x5 P (l o577x8 P) .nil) (N o449x6 P (l oa P) .nil))) (N oa P (N o161x3 P (N o289x5 P (l o545x8 P) .nil) (N o417x6 P (l ob P) .nil)) (N o225x4 P (N ob P (l oa P) .nil) (N oa P (l o737x10 P) .nil)))) (N oa P (N o81x1 P (N o145x2 P (N ob P (l o529x7 P) (l o785x10 P)) (N oa P (l o657x9 P) .nil)) (N oa P (N o337x5 P (l ob P) .nil) (N ob P (l ob P) .nil))) (N o113x2 P (N o177x3 P (N o305x5 P (l o561x8 P) .nil) (N o433x6 P (l o689x9 P) .nil)) (N o241x4 P (N oa P (l o625x8 P) .nil) (N o497x6 P (l oa P) .nil))))) (N oa P (N o41x0 P (N o73x1 P (N o137x2 P (N oa P (l oa P) (l o777x10 P)) (N o393x5 P (l o649x9 P) .nil)) (N o201x4 P (N o329x5 P (l oa P) .nil) (N oa P (l o713x9 P) .nil))) (N o105x1 P (N o169x3 P (N ob P (l oa P) .nil) (N oa P (l o681x9 P) .nil)) (N oa P (N o361x5 P (l o617x8 P) .nil) (N o489x6 P (l o745x10 P) .nil)))) (N oa P (N o89x1 P (N o23x0 P (N o281x5 P (l o537x8 P) .nil) (N ob P (l oa P) .nil)) (N ob P (N oa P (l o601x8 P) .nil) (N o473x6 P (l o729x10 P) .nil))) (N o121x2 P (N o185x4 P (N oa P (l o569x8 P) .nil) (N o441x6 P (l o697x9 P) .nil)) (N o249x4 P (N o377x5 P (l o633x8 P) .nil) (N o505x6 P (l ob P) .nil)))))) (N o13a P (N o21x0 P (N o37x0 P (N oa P (N oa P (N oa P (l o517x7 P) (l o773x10 P)) (N o389x5 P (l o645x9 P) .nil)) (N o197x4 P (N ob P (l oa P) .nil) (N oa P (l o709x9 P) .nil))) (N oa P (N o165x3 P (N o293x5 P (l o549x8 P) .nil) (N o421x6 P (l oa P) .nil)) (N o229x4 P (N o357x5 P (l oa P) .nil) (N oa P (l o741x10 P) .nil)))) (N o53x0 P (N o85x1 P (N o149x2 P (N o277x4 P (l o533x7 P) (l o789x10 P)) (N o405x5 P (l ob P) .nil)) (N o213x4 P (N oa P (l o597x8 P) .nil) (N o469x6 P (l oa P) .nil))) (N ob P (N o23x0 P (N o309x5 P (l ob P) .nil) (N ob P (l o693x9 P) .nil)) (N ob P (N oa P (l o629x8 P) .nil) (N o501x6 P (l o757x10 P) .nil))))) (N oa P (N oa P (N oa P (N oa P (N o269x4 P (l o525x7 P) (l o781x10 P)) (N oa P (l o653x9 P) .nil)) (N oa P (N o333x5 P (l o589x8 P) .nil) (N o461x6 P (l o717x9 P) .nil))) (N o23x0 P (N oa P (N o301x5 P (l oa P) .nil) (N oa P (l ob P) .nil)) (N oa P (N o365x5 P (l ob P) .nil) (N ob P (l oa P) .nil)))) (N oa P (N o93x1 P (N o157x3 P (N o285x5 P (l o541x8 P) .nil) (N o413x6 P (l o669x9 P) .nil)) (N o221x4 P (N o349x5 P (l o605x8 P) .nil) (N o477x6 P (l ob P) .nil))) (N o125x2 P (N ob P (N oa P (l o573x8 P) .nil) (N o445x6 P (l oa P) .nil)) (N o253x4 P (N ob P (l oa P) .nil) (N oa P (l o765x10 P) .nil)))))))) (N o2x1 P (N boot_o_4 P (N boot_o_8 P (N ob P (N oa P (N o64x1 P (N o128x2 P (N o256x4 P (l o512x6 P) (l ob P)) (N o384x5 P (l o640x9 P) .nil)) (N o192x4 P (N oa P (l o576x8 P) .nil) (N o448x6 P (l o704x9 P) .nil))) (N oa P (N ob P (N o288x5 P (l ob P) .nil) (N ob P (l oa P) .nil)) (N ob P (N oa P (l o608x8 P) .nil) (N o480x6 P (l o736x10 P) .nil)))) (N o48x0 P (N o80x1 P (N o144x2 P (N oa P (l o528x7 P) (l o784x10 P)) (N o400x5 P (l ob P) .nil)) (N o208x4 P (N o336x5 P (l oa P) .nil) (N oa P (l oa P) .nil))) (N o112x2 P (N oa P (N ob P (l oa P) .nil) (N oa P (l o688x9 P) .nil)) (N oa P (N o368x5 P (l o624x8 P) .nil) (N o496x6 P (l o752x10 P) .nil))))) (N o24x0 P (N o40x0 P (N o72x1 P (N o136x2 P (N o264x4 P (l o520x7 P) (l o776x10 P)) (N o392x5 P (l o648x9 P) .nil)) (N o200x4 P (N o328x5 P (l o584x8 P) .nil) (N o456x6 P (l o712x9 P) .nil))) (N oa P (N o168x3 P (N oa P (l o552x8 P) .nil) (N o424x6 P (l oa P) .nil)) (N o232x4 P (N ob P (l oa P) .nil) (N oa P (l o744x10 P) .nil)))) (N o56x1 P (N ob P (N oa P (N ob P (l o23x0 P) .nil) (N oa P (l o664x9 P) .nil)) (N oa P (N o344x5 P (l ob P) .nil) (N ob P (l oa P) .nil))) (N o120x2 P (N o184x4 P (N o312x5 P (l o568x8 P) .nil) (N o440x6 P (l o696x9 P) .nil)) (N o248x4 P (N oa P (l o632x8 P) .nil) (N o504x6 P (l oa P) .nil)))))) (N o12x10 P (N o20x0 P (N o36x0 P (N o68x1 P (N o132x2 P (N o260x4 P (l oa P) (l o772x10 P)) (N ob P (l oa P) .nil)) (N ob P (N oa P (l o580x8 P) .nil) (N o452x6 P (l o708x9 P) .nil))) (N o100x1 P (N o164x3 P (N ob P (l o548x8 P) .nil) (N o420x6 P (l o676x9 P) .nil)) (N o228x4 P (N o356x5 P (l o612x8 P) .nil) (N o484x6 P (l ob P) .nil)))) (N o52x0 P (N o84x1 P (N o148x2 P (N o276x4 P (l o532x7 P) (l o788x10 P)) (N oa P (l oa P) .nil)) (N oa P (N o340x5 P (l o596x8 P) .nil) (N o468x6 P (l o724x9 P) .nil))) (N oa P (N oa P (N o308x5 P (l oa P) .nil) (N oa P (l ob P) .nil)) (N oa P (N o372x5 P (l o628x8 P) .nil) (N ob P (l oa P) .nil))))) (N o28x0 P (N o44x0 P (N o76x1 P (N o140x2 P (N oa P (l oa P) (l ob P)) (N o396x5 P (l o652x9 P) .nil)) (N o204x4 P (N ob P (l oa P) .nil) (N oa P (l ob P) .nil))) (N oa P (N o172x3 P (N o300x5 P (l o556x8 P) .nil) (N o428x6 P (l oa P) .nil)) (N o236x4 P (N o364x5 P (l oa P) .nil) (N oa P (l o748x10 P) .nil)))) (N o60x1 P (N o92x1 P (N o156x3 P (N o284x5 P (l o540x8 P) .nil) (N o412x6 P (l oa P) .nil)) (N o220x4 P (N oa P (l o604x8 P) .nil) (N o476x6 P (l oa P) .nil))) (N o124x2 P (N oa P (N o316x5 P (l ob P) .nil) (N ob P (l o700x9 P) .nil)) (N o252x4 P (N oa P (l o636x9 P) .nil) (N o508x6 P (l o764x10 P) .nil))))))) (N boot_o_6 P (N boot_o_10 P (N oa P (N o34x0 P (N o22x0 P (N oa P (N oa P (l o23x0 P) (l oa P)) (N o386x5 P (l ob P) .nil)) (N o194x4 P (N o322x5 P (l oa P) .nil) (N oa P (l ob P) .nil))) (N o98x1 P (N oa P (N o290x5 P (l oa P) .nil) (N oa P (l o674x9 P) .nil)) (N oa P (N o354x5 P (l o610x8 P) .nil) (N o482x6 P (l o738x10 P) .nil)))) (N o50x0 P (N o82x1 P (N o146x2 P (N o274x4 P (l o530x7 P) (l oa P)) (N ob P (l o658x9 P) .nil)) (N ob P (N oa P (l o594x8 P) .nil) (N o466x6 P (l o722x9 P) .nil))) (N o114x2 P (N o178x3 P (N oa P (l o562x8 P) .nil) (N o434x6 P (l o690x9 P) .nil)) (N o242x4 P (N o370x5 P (l o626x8 P) .nil) (N o498x6 P (l ob P) .nil))))) (N o26x0 P (N o42x0 P (N oa P (N oa P (N ob P (l ob P) (l o778x10 P)) (N oa P (l o650x9 P) .nil)) (N oa P (N o330x5 P (l ob P) .nil) (N ob P (l o714x9 P) .nil))) (N o106x1 P (N o170x3 P (N o298x5 P (l o554x8 P) .nil) (N o426x6 P (l o682x9 P) .nil)) (N o234x4 P (N oa P (l o618x8 P) .nil) (N o490x6 P (l oa P) .nil)))) (N ob P (N oa P (N o154x3 P (N oa P (l oa P) .nil) (N o410x6 P (l ob P) .nil)) (N o218x4 P (N ob P (l oa P) .nil) (N oa P (l o730x10 P) .nil))) (N o122x2 P (N o186x4 P (N o314x5 P (l o570x8 P) .nil) (N o442x6 P (l oa P) .nil)) (N o250x4 P (N o378x5 P (l oa P) .nil) (N oa P (l o762x10 P) .nil)))))) (N o14a P (N o22x0 P (N o38x1 P (N o70x1 P (N o134x2 P (N o262x4 P (l o518x7 P) (l oa P)) (N oa P (l o646x9 P) .nil)) (N oa P (N o326x5 P (l o582x8 P) .nil) (N o454x6 P (l oa P) .nil))) (N ob P (N o166x3 P (N o294x5 P (l oa P) .nil) (N oa P (l ob P) .nil)) (N oa P (N o358x5 P (l ob P) .nil) (N ob P (l oa P) .nil)))) (N o42x0 P (N o86x1 P (N o150x2 P (N o278x4 P (l o534x7 P) (l o790x10 P)) (N o406x5 P (l o662x9 P) .nil)) (N o214x4 P (N o342x5 P (l o598x8 P) .nil) (N o470x6 P (l ob P) .nil))) (N o118x2 P (N o182x4 P (N oa P (l o566x8 P) .nil) (N o438x6 P (l oa P) .nil)) (N o246x4 P (N ob P (l o630x8 P) .nil) (N oa P (l o758x10 P) .nil))))) (N ob P (N ob P (N o78x1 P (N o142x2 P (N o270x4 P (l o526x7 P) (l oa P)) (N o398x5 P (l o654x9 P) .nil)) (N o206x4 P (N oa P (l o590x8 P) .nil) (N o462x6 P (l o718x9 P) .nil))) (N o110x2 P (N ob P (N o302x5 P (l ob P) .nil) (N ob P (l o686x9 P) .nil)) (N ob P (N oa P (l o622x8 P) .nil) (N o494x6 P (l o750x10 P) .nil)))) (N o62x1 P (N oa P (N o158x3 P (N oa P (l o542x8 P) .nil) (N o414x6 P (l o670x9 P) .nil)) (N o222x4 P (N o350x5 P (l oa P) .nil) (N oa P (l o734x10 P) .nil))) (N o126x2 P (N o190x4 P (N ob P (l oa P) .nil) (N oa P (l o702x9 P) .nil)) (N o254x4 P (N o382x5 P (l o638x9 P) .nil) (N o510x6 P (l o766x10 P) .nil)))))))))
noncomputable def s11 (w : World) (os : OsState) : SharedT := ⟨t11 w.params, 791, ⟨[], [], [], 0, [], [], false, #[], [], 0, false, false, false, 0, [2000, 10, 10], false, 0, true, [], [], 0, false⟩, ⟨[]⟩, ⟨0, 0, 0, 0⟩, 1278, os⟩
noncomputable def hF (P : Params) : Heap := ⟨⟨[boot_o_0 P, boot_o_1 P, o2x1 P, o3x10 P, boot_o_4 P, boot_o_5 P, boot_o_6 P, boot_o_7 P, boot_o_8 P, boot_o_9 P, boot_o_10 P, oa P, o12x10 P, o13a P, o14a P, oa P, ob P, o17x0 P, oa P, o19x0 P, o20x0 P, o21x0 P, o22x0 P, o23x0 P, o24x0 P, oa P, o26x0 P, o27x0 P, o28x0 P, oa P, ob P, o31x0 P, oa P, o33x0 P, o34x0 P, o35x0 P, o36x0 P, o37x0 P, o38x1 P, o39x0 P, o40x0 P, o41x0 P, o42x0 P, o23x0 P, o44x0 P, oa P, ob P, o47x0 P, o48x0 P, oa P, o50x0 P, o51x0 P, o52x0 P, o53x0 P, o42x0 P, o23x0 P, o56x1 P, oa P, ob P, o59x1 P, o60x1 P, oa P, o62x1 P, o63x1 P, o64x1 P, o65x1 P, o22x0 P, o23x0 P, o68x1 P, oa P, o70x1 P, o71x1 P, o72x1 P, o73x1 P, oa P, ob P, o76x1 P, oa P, o78x1 P, o79x1 P, o80x1 P, o81x1 P, o82x1 P, o83x1 P, o84x1 P, o85x1 P, o86x1 P, oa P, ob P, o89x1 P, oa P, o91x1 P, o92x1 P, o93x1 P, oa P, ob P, oa P, oa P, o98x1 P, o99x1 P, o100x1 P, oa P, ob P, oa P, oa P, o105x1 P, o106x1 P, o107x1 P, oa P, o23x0 P, o110x2 P, oa P, o112x2 P, o113x2 P, o114x2 P, o115x2 P, oa P, ob P, o118x2 P, oa P, o120x2 P, o121x2 P, o122x2 P, o123x2 P, o124x2 P, o125x2 P, o126x2 P, o127x2 P, o128x2 P, o129x2 P, oa P, o23x0 P, o132x2 P, oa P, o134x2 P, o135x2 P, o136x2 P, o137x2 P, oa P, ob P, o140x2 P, oa P, o142x2 P, o143x2 P, o144x2 P, o145x2 P, o146x2 P, o147x2 P, o148x2 P, o149x2 P, o150x2 P, o151x2 P, oa P, o23x0 P, o154x3 P, oa P, o156x3 P, o157x3 P, o158x3 P, oa P, ob P, o161x3 P, oa P, o163x3 P, o164x3 P, o165x3 P, o166x3 P, o167x3 P, o168x3 P, o169x3 P, o170x3 P, o171x3 P, o172x3 P, oa P, ob P, o175x3 P, oa P, o177x3 P, o178x3 P, o179x3 P, oa P, o23x0 P, o182x4 P, oa P, o184x4 P, o185x4 P, o186x4 P, o187x4 P, oa P, ob P, o190x4 P, oa P, o192x4 P, o193x4 P, o194x4 P, oa P, ob P, o197x4 P, oa P, o199x4 P, o200x4 P, o201x4 P, oa P, ob P, o204x4 P, oa P, o206x4 P, o207x4 P, o208x4 P, oa P, ob P, o211x4 P, oa P, o213x4 P, o214x4 P, o215x4 P, oa P, ob P, o218x4 P, oa P, o220x4 P, o221x4 P, o222x4 P, oa P, ob P, o225x4 P, oa P, o227x4 P, o228x4 P, o229x4 P, oa P, ob P, o232x4 P, oa P, o234x4 P, o235x4 P, o236x4 P, oa P, ob P, o239x4 P, oa P, o241x4 P, o242x4 P, o243x4 P, oa P, ob P, o246x4 P, oa P, o248x4 P, o249x4 P, o250x4 P, o251x4 P, o252x4 P, o253x4 P, o254x4 P, o255x4 P, o256x4 P, o257x4 P, oa P, ob P, o260x4 P, oa P, o262x4 P, o263x4 P, o264x4 P, oa P, ob P, o267x4 P, oa P, o269x4 P, o270x4 P, o271x4 P, oa P, ob P, o274x4 P, oa P, o276x4 P, o277x4 P, o278x4 P, oa P, ob P, o281x5 P, oa P, o283x5 P, o284x5 P, o285x5 P, oa P, ob P, o288x5 P, o289x5 P, o290x5 P, oa P, ob P, o293x5 P, o294x5 P, o295x5 P, oa P, ob P, o298x5 P, oa P, o300x5 P, o301x5 P, o302x5 P, oa P, ob P, o305x5 P, oa P, o307x5 P, o308x5 P, o309x5 P, oa P, ob P, o312x5 P, oa P, o314x5 P, o315x5 P, o316x5 P, oa P, ob P, o319x5 P, oa P, o321x5 P, o322x5 P, o323x5 P, oa P, ob P, o326x5 P, oa P, o328x5 P, o329x5 P, o330x5 P, oa P, ob P, o333x5 P, oa P, o335x5 P, o336x5 P, o337x5 P, oa P, ob P, o340x5 P, oa P, o342x5 P, o343x5 P, o344x5 P, oa P, ob P, o347x5 P, oa P, o349x5 P, o350x5 P, o351x5 P, oa P, ob P, o354x5 P, oa P, o356x5 P, o357x5 P, o358x5 P, oa P, ob P, o361x5 P, oa P, o363x5 P, o364x5 P, o365x5 P, oa P, ob P, o368x5 P, oa P, o370x5 P, o371x5 P, o372x5 P, oa P, ob P, o375x5 P, oa P, o377x5 P, o378x5 P, o379x5 P, oa P, ob P, o382x5 P, oa P, o384x5 P, o385x5 P, o386x5 P, oa P, ob P, o389x5 P, oa P, o391x5 P, o392x5 P, o393x5 P, oa P, ob P, o396x5 P, oa P, o398x5 P, o399x5 P, o400x5 P, oa P, ob P, o403x5 P, oa P, o405x5 P, o406x5 P, o407x5 P, oa P, ob P, o410x6 P, oa P, o412x6 P, o413x6 P, o414x6 P, oa P, ob P, o417x6 P, oa P, o419x6 P, o420x6 P, o421x6 P, oa P, ob P, o424x6 P, oa P, o426x6 P, o427x6 P, o428x6 P, oa P, ob P, o431x6 P, oa P, o433x6 P, o434x6 P, o435x6 P, oa P, ob P, o438x6 P, oa P, o440x6 P, o441x6 P, o442x6 P, oa P, ob P, o445x6 P, oa P, o447x6 P, o448x6 P, o449x6 P, oa P, ob P, o452x6 P, oa P, o454x6 P, o455x6 P, o456x6 P, oa P, ob P, o459x6 P, oa P, o461x6 P, o462x6 P, o463x6 P, oa P, ob P, o466x6 P, oa P, o468x6 P, o469x6 P, o470x6 P, oa P, ob P, o473x6 P, oa P, o475x6 P, o476x6 P, o477x6 P, oa P, ob P, o480x6 P, oa P, o482x6 P, o483x6 P, o484x6 P, oa P, ob P, o487x6 P, oa P, o489x6 P, o490x6 P, o491x6 P, oa P, ob P, o494x6 P, oa P, o496x6 P, o497x6 P, o498x6 P, oa P, ob P, o501x6 P, oa P, o503x6 P, o504x6 P, o505x6 P, oa P, ob P, o508x6 P, oa P, o510x6 P, o511x6 P, o512x6 P, oa P, o23x0 P, o515x7 P, oa P, o517x7 P, o518x7 P, o519x7 P, o520x7 P, oa P, ob P, o523x7 P, oa P, o525x7 P, o526x7 P, o527x7 P, o528x7 P, o529x7 P, o530x7 P, o531x7 P, o532x7 P, o533x7 P, o534x7 P, oa P, o23x0 P, o537x8 P, oa P, o539x8 P, o540x8 P, o541x8 P, o542x8 P, oa P, ob P, o545x8 P, oa P, o547x8 P, o548x8 P, o549x8 P, oa P, ob P, o552x8 P, oa P, o554x8 P, o555x8 P, o556x8 P, oa P, ob P, o559x8 P, oa P, o561x8 P, o562x8 P, o563x8 P, oa P, ob P, o566x8 P, oa P, o568x8 P, o569x8 P, o570x8 P, oa P, ob P, o573x8 P, oa P, o575x8 P, o576x8 P, o577x8 P, oa P, ob P, o580x8 P, oa P, o582x8 P, o583x8 P, o584x8 P, oa P, ob P, o587x8 P, oa P, o589x8 P, o590x8 P, o591x8 P, oa P, ob P, o594x8 P, oa P, o596x8 P, o597x8 P, o598x8 P, oa P, ob P, o601x8 P, oa P, o603x8 P, o604x8 P, o605x8 P, oa P, ob P, o608x8 P, oa P, o610x8 P, o611x8 P, o612x8 P, oa P, ob P, o615x8 P, oa P, o617x8 P, o618x8 P, o619x8 P, oa P, ob P, o622x8 P, oa P, o624x8 P, o625x8 P, o626x8 P, o627x8 P, o628x8 P, o629x8 P, o630x8 P, o631x8 P, o632x8 P, o633x8 P, oa P, o23x0 P, o636x9 P, oa P, o638x9 P, o639x9 P, o640x9 P, oa P, ob P, o643x9 P, oa P, o645x9 P, o646x9 P, o647x9 P, o648x9 P, o649x9 P, o650x9 P, o651x9 P, o652x9 P, o653x9 P, o654x9 P, oa P, ob P, o657x9 P, o658x9 P, o659x9 P, oa P, ob P, o662x9 P, o663x9 P, o664x9 P, oa P, ob P, o667x9 P, oa P, o669x9 P, o670x9 P, o671x9 P, oa P, ob P, o674x9 P, o675x9 P, o676x9 P, oa P, ob P, o679x9 P, oa P, o681x9 P, o682x9 P, o683x9 P, oa P, ob P, o686x9 P, oa P, o688x9 P, o689x9 P, o690x9 P, oa P, ob P, o693x9 P, oa P, o695x9 P, o696x9 P, o697x9 P, oa P, ob P, o700x9 P, oa P, o702x9 P, o703x9 P, o704x9 P, oa P, ob P, o707x9 P, o708x9 P, o709x9 P, oa P, ob P, o712x9 P, o713x9 P, o714x9 P, oa P, ob P, o717x9 P, o718x9 P, o719x9 P, oa P, ob P, o722x9 P, o723x9 P, o724x9 P, oa P, ob P, o727x10 P, oa P, o729x10 P, o730x10 P, o731x10 P, oa P, ob P, o734x10 P, oa P, o736x10 P, o737x10 P, o738x10 P, oa P, ob P, o741x10 P, oa P, o743x10 P, o744x10 P, o745x10 P, oa P, ob P, o748x10 P, oa P, o750x10 P, o751x10 P, o752x10 P, oa P, ob P, o755x10 P, oa P, o757x10 P, o758x10 P, o759x10 P, oa P, ob P, o762x10 P, oa P, o764x10 P, o765x10 P, o766x10 P, oa P, ob P, o769x10 P, oa P, o771x10 P, o772x10 P, o773x10 P, oa P, ob P, o776x10 P, o777x10 P, o778x10 P, oa P, ob P, o781x10 P, oa P, o783x10 P, o784x10 P, o785x10 P, oa P, ob P, o788x10 P, o789x10 P, o790x10 P]⟩, ⟨[], [], [], 0, [], [], false, #[], [], 0, false, false, false, 0, [2000, 10, 10], false, 0, true, [], [], 0, false⟩⟩
noncomputable def sF (w : World) (os : OsState) : Shared := ⟨hF w.params, ⟨[]⟩, ⟨0, 0, 0, 0⟩, 1278, os⟩
noncomputable def K : Params → Frag := fun P => (nat_lit 2, o2x1 P) :: (nat_lit 3, o3x10 P) :: (nat_lit 15, oa P) :: (nat_lit 17, o17x0 P) :: (nat_lit 18, oa P) :: (nat_lit 20, o20x0 P) :: (nat_lit 21, o21x0 P) :: (nat_lit 22, o22x0 P) :: (nat_lit 29, oa P) :: (nat_lit 31, o31x0 P) :: (nat_lit 32, oa P) :: (nat_lit 34, o34x0 P) :: (nat_lit 35, o35x0 P) :: (nat_lit 36, o36x0 P) :: (nat_lit 37, o37x0 P) :: (nat_lit 38, o38x1 P) :: (nat_lit 39, o39x0 P) :: (nat_lit 42, o42x0 P) :: (nat_lit 49, oa P) :: (nat_lit 50, o50x0 P) :: (nat_lit 51, o51x0 P) :: (nat_lit 54, o42x0 P) :: (nat_lit 61, oa P) :: (nat_lit 62, o62x1 P) :: (nat_lit 63, o63x1 P) :: (nat_lit 66, o22x0 P) :: (nat_lit 73, o73x1 P) :: (nat_lit 74, oa P) :: (nat_lit 76, o76x1 P) :: (nat_lit 77, oa P) :: (nat_lit 79, o79x1 P) :: (nat_lit 80, o80x1 P) :: (nat_lit 81, o81x1 P) :: (nat_lit 82, o82x1 P) :: (nat_lit 83, o83x1 P) :: (nat_lit 84, o84x1 P) :: (nat_lit 87, oa P) :: (nat_lit 89, o89x1 P) :: (nat_lit 90, oa P) :: (nat_lit 92, o92x1 P) :: (nat_lit 93, o93x1 P) :: (nat_lit 94, oa P) :: (nat_lit 96, oa P) :: (nat_lit 97, oa P) :: (nat_lit 99, o99x1 P) :: (nat_lit 100, o100x1 P) :: (nat_lit 101, oa P) :: (nat_lit 103, oa P) :: (nat_lit 104, oa P) :: (nat_lit 106, o106x1 P) :: (nat_lit 107, o107x1 P) :: (nat_lit 115, o115x2 P) :: (nat_lit 116, oa P) :: (nat_lit 118, o118x2 P) :: (nat_lit 119, oa P) :: (nat_lit 121, o121x2 P) :: (nat_lit 122, o122x2 P) :: (nat_lit 123, o123x2 P) :: (nat_lit 124, o124x2 P) :: (nat_lit 125, o125x2 P) :: (nat_lit 126, o126x2 P) :: (nat_lit 127, o127x2 P) :: (nat_lit 137, o137x2 P) :: (nat_lit 138, oa P) :: (nat_lit 140, o140x2 P) :: (nat_lit 141, oa P) :: (nat_lit 143, o143x2 P) :: (nat_lit 144, o144x2 P) :: (nat_lit 145, o145x2 P) :: (nat_lit 146, o146x2 P) :: (nat_lit 147, o147x2 P) :: (nat_lit 148, o148x2 P) :: (nat_lit 149, o149x2 P) :: (nat_lit 159, oa P) :: (nat_lit 161, o161x3 P) :: (nat_lit 162, oa P) :: (nat_lit 164, o164x3 P) :: (nat_lit 165, o165x3 P) :: (nat_lit 166, o166x3 P) :: (nat_lit 167, o167x3 P) :: (nat_lit 168, o168x3 P) :: (nat_lit 169, o169x3 P) :: (nat_lit 170, o170x3 P) :: (nat_lit 173, oa P) :: (nat_lit 175, o175x3 P) :: (nat_lit 176, oa P) :: (nat_lit 178, o178x3 P) :: (nat_lit 179, o179x3 P) :: (nat_lit 187, o187x4 P) :: (nat_lit 188, oa P) :: (nat_lit 190, o190x4 P) :: (nat_lit 191, oa P) :: (nat_lit 193, o193x4 P) :: (nat_lit 194, o194x4 P) :: (nat_lit 195, oa P) :: (nat_lit 197, o197x4 P) :: (nat_lit 198, oa P) :: (nat_lit 200, o200x4 P) :: (nat_lit 201, o201x4 P) :: (nat_lit 202, oa P) :: (nat_lit 204, o204x4 P) :: (nat_lit 205, oa P) :: (nat_lit 207, o207x4 P) :: (nat_lit 208, o208x4 P) :: (nat_lit 209, oa P) :: (nat_lit 211, o211x4 P) :: (nat_lit 212, oa P) :: (nat_lit 214, o214x4 P) :: (nat_lit 215, o215x4 P) :: (nat_lit 216, oa P) :: (nat_lit 218, o218x4 P) :: (nat_lit 219, oa P) :: (nat_lit 221, o221x4 P) :: (nat_lit 222, o222x4 P) :: (nat_lit 223, oa P) :: (nat_lit 225, o225x4 P) :: (nat_lit 226, oa P) :: (nat_lit 228, o228x4 P) :: (nat_lit 229, o229x4 P) :: (nat_lit 230, oa P) :: (nat_lit 232, o232x4 P) :: (nat_lit 233, oa P) :: (nat_lit 235, o235x4 P) :: (nat_lit 236, o236x4 P) :: (nat_lit 237, oa P) :: (nat_lit 239, o239x4 P) :: (nat_lit 240, oa P) :: (nat_lit 242, o242x4 P) :: (nat_lit 243, o243x4 P) :: (nat_lit 244, oa P) :: (nat_lit 246, o246x4 P) :: (nat_lit 247, oa P) :: (nat_lit 249, o249x4 P) :: (nat_lit 250, o250x4 P) :: (nat_lit 251, o251x4 P) :: (nat_lit 252, o252x4 P) :: (nat_lit 253, o253x4 P) :: (nat_lit 254, o254x4 P) :: (nat_lit 255, o255x4 P) :: (nat_lit 258, oa P) :: (nat_lit 260, o260x4 P) :: (nat_lit 261, oa P) :: (nat_lit 263, o263x4 P) :: (nat_lit 264, o264x4 P) :: (nat_lit 265, oa P) :: (nat_lit 267, o267x4 P) :: (nat_lit 268, oa P) :: (nat_lit 270, o270x4 P) :: (nat_lit 271, o271x4 P) :: (nat_lit 272, oa P) :: (nat_lit 274, o274x4 P) :: (nat_lit 275, oa P) :: (nat_lit 277, o277x4 P) :: (nat_lit 278, o278x4 P) :: (nat_lit 279, oa P) :: (nat_lit 281, o281x5 P) :: (nat_lit 282, oa P) :: (nat_lit 284, o284x5 P) :: (nat_lit 285, o285x5 P) :: (nat_lit 286, oa P) :: (nat_lit 289, o289x5 P) :: (nat_lit 290, o290x5 P) :: (nat_lit 291, oa P) :: (nat_lit 294, o294x5 P) :: (nat_lit 295, o295x5 P) :: (nat_lit 296, oa P) :: (nat_lit 298, o298x5 P) :: (nat_lit 299, oa P) :: (nat_lit 301, o301x5 P) :: (nat_lit 302, o302x5 P) :: (nat_lit 303, oa P) :: (nat_lit 305, o305x5 P) :: (nat_lit 306, oa P) :: (nat_lit 308, o308x5 P) :: (nat_lit 309, o309x5 P) :: (nat_lit 310, oa P) :: (nat_lit 312, o312x5 P) :: (nat_lit 313, oa P) :: (nat_lit 315, o315x5 P) :: (nat_lit 316, o316x5 P) :: (nat_lit 317, oa P) :: (nat_lit 319, o319x5 P) :: (nat_lit 320, oa P) :: (nat_lit 322, o322x5 P) :: (nat_lit 323, o323x5 P) :: (nat_lit 324, oa P) :: (nat_lit 326, o326x5 P) :: (nat_lit 327, oa P) :: (nat_lit 329, o329x5 P) :: (nat_lit 330, o330x5 P) :: (nat_lit 331, oa P) :: (nat_lit 333, o333x5 P) :: (nat_lit 334, oa P) :: (nat_lit 336, o336x5 P) :: (nat_lit 337, o337x5 P) :: (nat_lit 338, oa P) :: (nat_lit 340, o340x5 P) :: (nat_lit 341, oa P) :: (nat_lit 343, o343x5 P) :: (nat_lit 344, o344x5 P) :: (nat_lit 345, oa P) :: (nat_lit 347, o347x5 P) :: (nat_lit 348, oa P) :: (nat_lit 350, o350x5 P) :: (nat_lit 351, o351x5 P) :: (nat_lit 352, oa P) :: (nat_lit 354, o354x5 P) :: (nat_lit 355, oa P) :: (nat_lit 357, o357x5 P) :: (nat_lit 358, o358x5 P) :: (nat_lit 359, oa P) :: (nat_lit 361, o361x5 P) :: (nat_lit 362, oa P) :: (nat_lit 364, o364x5 P) :: (nat_lit 365, o365x5 P) :: (nat_lit 366, oa P) :: (nat_lit 368, o368x5 P) :: (nat_lit 369, oa P) :: (nat_lit 371, o371x5 P) :: (nat_lit 372, o372x5 P) :: (nat_lit 373, oa P) :: (nat_lit 375, o375x5 P) :: (nat_lit 376, oa P) :: (nat_lit 378, o378x5 P) :: (nat_lit 379, o379x5 P) :: (nat_lit 380, oa P) :: (nat_lit 382, o382x5 P) :: (nat_lit 383, oa P) :: (nat_lit 385, o385x5 P) :: (nat_lit 386, o386x5 P) :: (nat_lit 387, oa P) :: (nat_lit 389, o389x5 P) :: (nat_lit 390, oa P) :: (nat_lit 392, o392x5 P) :: (nat_lit 393, o393x5 P) :: (nat_lit 394, oa P) :: (nat_lit 396, o396x5 P) :: (nat_lit 397, oa P) :: (nat_lit 399, o399x5 P) :: (nat_lit 400, o400x5 P) :: (nat_lit 401, oa P) :: (nat_lit 403, o403x5 P) :: (nat_lit 404, oa P) :: (nat_lit 406, o406x5 P) :: (nat_lit 407, o407x5 P) :: (nat_lit 408, oa P) :: (nat_lit 410, o410x6 P) :: (nat_lit 411, oa P) :: (nat_lit 413, o413x6 P) :: (nat_lit 414, o414x6 P) :: (nat_lit 415, oa P) :: (nat_lit 417, o417x6 P) :: (nat_lit 418, oa P) :: (nat_lit 420, o420x6 P) :: (nat_lit 421, o421x6 P) :: (nat_lit 422, oa P) :: (nat_lit 424, o424x6 P) :: (nat_lit 425, oa P) :: (nat_lit 427, o427x6 P) :: (nat_lit 428, o428x6 P) :: (nat_lit 429, oa P) :: (nat_lit 431, o431x6 P) :: (nat_lit 432, oa P) :: (nat_lit 434, o434x6 P) :: (nat_lit 435, o435x6 P) :: (nat_lit 436, oa P) :: (nat_lit 438, o438x6 P) :: (nat_lit 439, oa P) :: (nat_lit 441, o441x6 P) :: (nat_lit 442, o442x6 P) :: (nat_lit 443, oa P) :: (nat_lit 445, o445x6 P) :: (nat_lit 446, oa P) :: (nat_lit 448, o448x6 P) :: (nat_lit 449, o449x6 P) :: (nat_lit 450, oa P) :: (nat_lit 452, o452x6 P) :: (nat_lit 453, oa P) :: (nat_lit 455, o455x6 P) :: (nat_lit 456, o456x6 P) :: (nat_lit 457, oa P) :: (nat_lit 459, o459x6 P) :: (nat_lit 460, oa P) :: (nat_lit 462, o462x6 P) :: (nat_lit 463, o463x6 P) :: (nat_lit 464, oa P) :: (nat_lit 466, o466x6 P) :: (nat_lit 467, oa P) :: (nat_lit 469, o469x6 P) :: (nat_lit 470, o470x6 P) :: (nat_lit 471, oa P) :: (nat_lit 473, o473x6 P) :: (nat_lit 474, oa P) :: (nat_lit 476, o476x6 P) :: (nat_lit 477, o477x6 P) :: (nat_lit 478, oa P) :: (nat_lit 480, o480x6 P) :: (nat_lit 481, oa P) :: (nat_lit 483, o483x6 P) :: (nat_lit 484, o484x6 P) :: (nat_lit 485, oa P) :: (nat_lit 487, o487x6 P) :: (nat_lit 488, oa P) :: (nat_lit 490, o490x6 P) :: (nat_lit 491, o491x6 P) :: (nat_lit 492, oa P) :: (nat_lit 494, o494x6 P) :: (nat_lit 495, oa P) :: (nat_lit 497, o497x6 P) :: (nat_lit 498, o498x6 P) :: (nat_lit 499, oa P) :: (nat_lit 501, o501x6 P) :: (nat_lit 502, oa P) :: (nat_lit 504, o504x6 P) :: (nat_lit 505, o505x6 P) :: (nat_lit 506, oa P) :: (nat_lit 508, o508x6 P) :: (nat_lit 509, oa P) :: (nat_lit 511, o511x6 P) :: (nat_lit 512, o512x6 P) :: (nat_lit 520, o520x7 P) :: (nat_lit 521, oa P) :: (nat_lit 523, o523x7 P) :: (nat_lit 524, oa P) :: (nat_lit 526, o526x7 P) :: (nat_lit 527, o527x7 P) :: (nat_lit 528, o528x7 P) :: (nat_lit 529, o529x7 P) :: (nat_lit 530, o530x7 P) :: (nat_lit 531, o531x7 P) :: (nat_lit 532, o532x7 P) :: (nat_lit 542, o542x8 P) :: (nat_lit 543, oa P) :: (nat_lit 545, o545x8 P) :: (nat_lit 546, oa P) :: (nat_lit 548, o548x8 P) :: (nat_lit 549, o549x8 P) :: (nat_lit 550, oa P) :: (nat_lit 552, o552x8 P) :: (nat_lit 553, oa P) :: (nat_lit 555, o555x8 P) :: (nat_lit 556, o556x8 P) :: (nat_lit 557, oa P) :: (nat_lit 559, o559x8 P) :: (nat_lit 560, oa P) :: (nat_lit 562, o562x8 P) :: (nat_lit 563, o563x8 P) :: (nat_lit 564, oa P) :: (nat_lit 566, o566x8 P) :: (nat_lit 567, oa P) :: (nat_lit 569, o569x8 P) :: (nat_lit 570, o570x8 P) :: (nat_lit 571, oa P) :: (nat_lit 573, o573x8 P) :: (nat_lit 574, oa P) :: (nat_lit 576, o576x8 P) :: (nat_lit 577, o577x8 P) :: (nat_lit 578, oa P) :: (nat_lit 580, o580x8 P) :: (nat_lit 581, oa P) :: (nat_lit 583, o583x8 P) :: (nat_lit 584, o584x8 P) :: (nat_lit 585, oa P) :: (nat_lit 587, o587x8 P) :: (nat_lit 588, oa P) :: (nat_lit 590, o590x8 P) :: (nat_lit 591, o591x8 P) :: (nat_lit 592, oa P) :: (nat_lit 594, o594x8 P) :: (nat_lit 595, oa P) :: (nat_lit 597, o597x8 P) :: (nat_lit 598, o598x8 P) :: (nat_lit 599, oa P) :: (nat_lit 601, o601x8 P) :: (nat_lit 602, oa P) :: (nat_lit 604, o604x8 P) :: (nat_lit 605, o605x8 P) :: (nat_lit 606, oa P) :: (nat_lit 608, o608x8 P) :: (nat_lit 609, oa P) :: (nat_lit 611, o611x8 P) :: (nat_lit 612, o612x8 P) :: (nat_lit 613, oa P) :: (nat_lit 615, o615x8 P) :: (nat_lit 616, oa P) :: (nat_lit 618, o618x8 P) :: (nat_lit 619, o619x8 P) :: (nat_lit 620, oa P) :: (nat_lit 622, o622x8 P) :: (nat_lit 623, oa P) :: (nat_lit 625, o625x8 P) :: (nat_lit 626, o626x8 P) :: (nat_lit 627, o627x8 P) :: (nat_lit 628, o628x8 P) :: (nat_lit 629, o629x8 P) :: (nat_lit 630, o630x8 P) :: (nat_lit 631, o631x8 P) :: (nat_lit 641, oa P) :: (nat_lit 643, o643x9 P) :: (nat_lit 644, oa P) :: (nat_lit 646, o646x9 P) :: (nat_lit 647, o647x9 P) :: (nat_lit 648, o648x9 P) :: (nat_lit 649, o649x9 P) :: (nat_lit 650, o650x9 P) :: (nat_lit 651, o651x9 P) :: (nat_lit 652, o652x9 P) :: (nat_lit 655, oa P) :: (nat_lit 658, o658x9 P) :: (nat_lit 659, o659x9 P) :: (nat_lit 660, oa P) :: (nat_lit 663, o663x9 P) :: (nat_lit 664, o664x9 P) :: (nat_lit 665, oa P) :: (nat_lit 667, o667x9 P) :: (nat_lit 668, oa P) :: (nat_lit 670, o670x9 P) :: (nat_lit 671, o671x9 P) :: (nat_lit 672, oa P) :: (nat_lit 675, o675x9 P) :: (nat_lit 676, o676x9 P) :: (nat_lit 677, oa P) :: (nat_lit 679, o679x9 P) :: (nat_lit 680, oa P) :: (nat_lit 682, o682x9 P) :: (nat_lit 683, o683x9 P) :: (nat_lit 684, oa P) :: (nat_lit 686, o686x9 P) :: (nat_lit 687, oa P) :: (nat_lit 689, o689x9 P) :: (nat_lit 690, o690x9 P) :: (nat_lit 691, oa P) :: (nat_lit 693, o693x9 P) :: (nat_lit 694, oa P) :: (nat_lit 696, o696x9 P) :: (nat_lit 697, o697x9 P) :: (nat_lit 698, oa P) :: (nat_lit 700, o700x9 P) :: (nat_lit 701, oa P) :: (nat_lit 703, o703x9 P) :: (nat_lit 704, o704x9 P) :: (nat_lit 705, oa P) :: (nat_lit 708, o708x9 P) :: (nat_lit 709, o709x9 P) :: (nat_lit 710, oa P) :: (nat_lit 713, o713x9 P) :: (nat_lit 714, o714x9 P) :: (nat_lit 715, oa P) :: (nat_lit 718, o718x9 P) :: (nat_lit 719, o719x9 P) :: (nat_lit 720, oa P) :: (nat_lit 723, o723x9 P) :: (nat_lit 724, o724x9 P) :: (nat_lit 725, oa P) :: (nat_lit 727, o727x10 P) :: (nat_lit 728, oa P) :: (nat_lit 730, o730x10 P) :: (nat_lit 731, o731x10 P) :: (nat_lit 732, oa P) :: (nat_lit 734, o734x10 P) :: (nat_lit 735, oa P) :: (nat_lit 737, o737x10 P) :: (nat_lit 738, o738x10 P) :: (nat_lit 739, oa P) :: (nat_lit 741, o741x10 P) :: (nat_lit 742, oa P) :: (nat_lit 744, o744x10 P) :: (nat_lit 745, o745x10 P) :: (nat_lit 746, oa P) :: (nat_lit 748, o748x10 P) :: (nat_lit 749, oa P) :: (nat_lit 751, o751x10 P) :: (nat_lit 752, o752x10 P) :: (nat_lit 753, oa P) :: (nat_lit 755, o755x10 P) :: (nat_lit 756, oa P) :: (nat_lit 758, o758x10 P) :: (nat_lit 759, o759x10 P) :: (nat_lit 760, oa P) :: (nat_lit 762, o762x10 P) :: (nat_lit 763, oa P) :: (nat_lit 765, o765x10 P) :: (nat_lit 766, o766x10 P) :: (nat_lit 767, oa P) :: (nat_lit 769, o769x10 P) :: (nat_lit 770, oa P) :: (nat_lit 772, o772x10 P) :: (nat_lit 773, o773x10 P) :: (nat_lit 774, oa P) :: (nat_lit 777, o777x10 P) :: (nat_lit 778, o778x10 P) :: (nat_lit 779, oa P) :: (nat_lit 781, o781x10 P) :: (nat_lit 782, oa P) :: (nat_lit 784, o784x10 P) :: (nat_lit 785, o785x10 P) :: (nat_lit 786, oa P) :: (nat_lit 789, o789x10 P) :: (nat_lit 790, o790x10 P) :: []
noncomputable abbrev asK : List Nat := nat_lit 2 :: nat_lit 3 :: nat_lit 15 :: nat_lit 17 :: nat_lit 18 :: nat_lit 20 :: nat_lit 21 :: nat_lit 22 :: nat_lit 29 :: nat_lit 31 :: nat_lit 32 :: nat_lit 34 :: nat_lit 35 :: nat_lit 36 :: nat_lit 37 :: nat_lit 38 :: nat_lit 39 :: nat_lit 42 :: nat_lit 49 :: nat_lit 50 :: nat_lit 51 :: nat_lit 54 :: nat_lit 61 :: nat_lit 62 :: nat_lit 63 :: nat_lit 66 :: nat_lit 73 :: nat_lit 74 :: nat_lit 76 :: nat_lit 77 :: nat_lit 79 :: nat_lit 80 :: nat_lit 81 :: nat_lit 82 :: nat_lit 83 :: nat_lit 84 :: nat_lit 87 :: nat_lit 89 :: nat_lit 90 :: nat_lit 92 :: nat_lit 93 :: nat_lit 94 :: nat_lit 96 :: nat_lit 97 :: nat_lit 99 :: nat_lit 100 :: nat_lit 101 :: nat_lit 103 :: nat_lit 104 :: nat_lit 106 :: nat_lit 107 :: nat_lit 115 :: nat_lit 116 :: nat_lit 118 :: nat_lit 119 :: nat_lit 121 :: nat_lit 122 :: nat_lit 123 :: nat_lit 124 :: nat_lit 125 :: nat_lit 126 :: nat_lit 127 :: nat_lit 137 :: nat_lit 138 :: nat_lit 140 :: nat_lit 141 :: nat_lit 143 :: nat_lit 144 :: nat_lit 145 :: nat_lit 146 :: nat_lit 147 :: nat_lit 148 :: nat_lit 149 :: nat_lit 159 :: nat_lit 161 :: nat_lit 162 :: nat_lit 164 :: nat_lit 165 :: nat_lit 166 :: nat_lit 167 :: nat_lit 168 :: nat_lit 169 :: nat_lit 170 :: nat_lit 173 :: nat_lit 175 :: nat_lit 176 :: nat_lit 178 :: nat_lit 179 :: nat_lit 187 :: nat_lit 188 :: nat_lit 190 :: nat_lit 191 :: nat_lit 193 :: nat_lit 194 :: nat_lit 195 :: nat_lit 197 :: nat_lit 198 :: nat_lit 200 :: nat_lit 201 :: nat_lit 202 :: nat_lit 204 :: nat_lit 205 :: nat_lit 207 :: nat_lit 208 :: nat_lit 209 :: nat_lit 211 :: nat_lit 212 :: nat_lit 214 :: nat_lit 215 :: nat_lit 216 :: nat_lit 218 :: nat_lit 219 :: nat_lit 221 :: nat_lit 222 :: nat_lit 223 :: nat_lit 225 :: nat_lit 226 :: nat_lit 228 :: nat_lit 229 :: nat_lit 230 :: nat_lit 232 :: nat_lit 233 :: nat_lit 235 :: nat_lit 236 :: nat_lit 237 :: nat_lit 239 :: nat_lit 240 :: nat_lit 242 :: nat_lit 243 :: nat_lit 244 :: nat_lit 246 :: nat_lit 247 :: nat_lit 249 :: nat_lit 250 :: nat_lit 251 :: nat_lit 252 :: nat_lit 253 :: nat_lit 254 :: nat_lit 255 :: nat_lit 258 :: nat_lit 260 :: nat_lit 261 :: nat_lit 263 :: nat_lit 264 :: nat_lit 265 :: nat_lit 267 :: nat_lit 268 :: nat_lit 270 :: nat_lit 271 :: nat_lit 272 :: nat_lit 274 :: nat_lit 275 :: nat_lit 277 :: nat_lit 278 :: nat_lit 279 :: nat_lit 281 :: nat_lit 282 :: nat_lit 284 :: nat_lit 285 :: nat_lit 286 :: nat_lit 289 :: nat_lit 290 :: nat_lit 291 :: nat_lit 294 :: nat_lit 295 :: nat_lit 296 :: nat_lit 298 :: nat_lit 299 :: nat_lit 301 :: nat_lit 302 :: nat_lit 303 :: nat_lit 305 :: nat_lit 306 :: nat_lit 308 :: nat_lit 309 :: nat_lit 310 :: nat_lit 312 :: nat_lit 313 :: nat_lit 315 :: nat_lit 316 :: nat_lit 317 :: nat_lit 319 :: nat_lit 320 :: nat_lit 322 :: nat_lit 323 :: nat_lit 324 :: nat_lit 326 :: nat_lit 327 :: nat_lit 329 :: nat_lit 330 :: nat_lit 331 :: nat_lit 333 :: nat_lit 334 :: nat_lit 336 :: nat_lit 337 :: nat_lit 338 :: nat_lit 340 :: nat_lit 341 :: nat_lit 343 :: nat_lit 344 :: nat_lit 345 :: nat_lit 347 :: nat_lit 348 :: nat_lit 350 :: nat_lit 351 :: nat_lit 352 :: nat_lit 354 :: nat_lit 355 :: nat_lit 357 :: nat_lit 358 :: nat_lit 359 :: nat_lit 361 :: nat_lit 362 :: nat_lit 364 :: nat_lit 365 :: nat_lit 366 :: nat_lit 368 :: nat_lit 369 :: nat_lit 371 :: nat_lit 372 :: nat_lit 373 :: nat_lit 375 :: nat_lit 376 :: nat_lit 378 :: nat_lit 379 :: nat_lit 380 :: nat_lit 382 :: nat_lit 383 :: nat_lit 385 :: nat_lit 386 :: nat_lit 387 :: nat_lit 389 :: nat_lit 390 :: nat_lit 392 :: nat_lit 393 :: nat_lit 394 :: nat_lit 396 :: nat_lit 397 :: nat_lit 399 :: nat_lit 400 :: nat_lit 401 :: nat_lit 403 :: nat_lit 404 :: nat_lit 406 :: nat_lit 407 :: nat_lit 408 :: nat_lit 410 :: nat_lit 411 :: nat_lit 413 :: nat_lit 414 :: nat_lit 415 :: nat_lit 417 :: nat_lit 418 :: nat_lit 420 :: nat_lit 421 :: nat_lit 422 :: nat_lit 424 :: nat_lit 425 :: nat_lit 427 :: nat_lit 428 :: nat_lit 429 :: nat_lit 431 :: nat_lit 432 :: nat_lit 434 :: nat_lit 435 :: nat_lit 436 :: nat_lit 438 :: nat_lit 439 :: nat_lit 441 :: nat_lit 442 :: nat_lit 443 :: nat_lit 445 :: nat_lit 446 :: nat_lit 448 :: nat_lit 449 :: nat_lit 450 :: nat_lit 452 :: nat_lit 453 :: nat_lit 455 :: nat_lit 456 :: nat_lit 457 :: nat_lit 459 :: nat_lit 460 :: nat_lit 462 :: nat_lit 463 :: nat_lit 464 :: nat_lit 466 :: nat_lit 467 :: nat_lit 469 :: nat_lit 470 :: nat_lit 471 :: nat_lit 473 :: nat_lit 474 :: nat_lit 476 :: nat_lit 477 :: nat_lit 478 :: nat_lit 480 :: nat_lit 481 :: nat_lit 483 :: nat_lit 484 :: nat_lit 485 :: nat_lit 487 :: nat_lit 488 :: nat_lit 490 :: nat_lit 491 :: nat_lit 492 :: nat_lit 494 :: nat_lit 495 :: nat_lit 497 :: nat_lit 498 :: nat_lit 499 :: nat_lit 501 :: nat_lit 502 :: nat_lit 504 :: nat_lit 505 :: nat_lit 506 :: nat_lit 508 :: nat_lit 509 :: nat_lit 511 :: nat_lit 512 :: nat_lit 520 :: nat_lit 521 :: nat_lit 523 :: nat_lit 524 :: nat_lit 526 :: nat_lit 527 :: nat_lit 528 :: nat_lit 529 :: nat_lit 530 :: nat_lit 531 :: nat_lit 532 :: nat_lit 542 :: nat_lit 543 :: nat_lit 545 :: nat_lit 546 :: nat_lit 548 :: nat_lit 549 :: nat_lit 550 :: nat_lit 552 :: nat_lit 553 :: nat_lit 555 :: nat_lit 556 :: nat_lit 557 :: nat_lit 559 :: nat_lit 560 :: nat_lit 562 :: nat_lit 563 :: nat_lit 564 :: nat_lit 566 :: nat_lit 567 :: nat_lit 569 :: nat_lit 570 :: nat_lit 571 :: nat_lit 573 :: nat_lit 574 :: nat_lit 576 :: nat_lit 577 :: nat_lit 578 :: nat_lit 580 :: nat_lit 581 :: nat_lit 583 :: nat_lit 584 :: nat_lit 585 :: nat_lit 587 :: nat_lit 588 :: nat_lit 590 :: nat_lit 591 :: nat_lit 592 :: nat_lit 594 :: nat_lit 595 :: nat_lit 597 :: nat_lit 598 :: nat_lit 599 :: nat_lit 601 :: nat_lit 602 :: nat_lit 604 :: nat_lit 605 :: nat_lit 606 :: nat_lit 608 :: nat_lit 609 :: nat_lit 611 :: nat_lit 612 :: nat_lit 613 :: nat_lit 615 :: nat_lit 616 :: nat_lit 618 :: nat_lit 619 :: nat_lit 620 :: nat_lit 622 :: nat_lit 623 :: nat_lit 625 :: nat_lit 626 :: nat_lit 627 :: nat_lit 628 :: nat_lit 629 :: nat_lit 630 :: nat_lit 631 :: nat_lit 641 :: nat_lit 643 :: nat_lit 644 :: nat_lit 646 :: nat_lit 647 :: nat_lit 648 :: nat_lit 649 :: nat_lit 650 :: nat_lit 651 :: nat_lit 652 :: nat_lit 655 :: nat_lit 658 :: nat_lit 659 :: nat_lit 660 :: nat_lit 663 :: nat_lit 664 :: nat_lit 665 :: nat_lit 667 :: nat_lit 668 :: nat_lit 670 :: nat_lit 671 :: nat_lit 672 :: nat_lit 675 :: nat_lit 676 :: nat_lit 677 :: nat_lit 679 :: nat_lit 680 :: nat_lit 682 :: nat_lit 683 :: nat_lit 684 :: nat_lit 686 :: nat_lit 687 :: nat_lit 689 :: nat_lit 690 :: nat_lit 691 :: nat_lit 693 :: nat_lit 694 :: nat_lit 696 :: nat_lit 697 :: nat_lit 698 :: nat_lit 700 :: nat_lit 701 :: nat_lit 703 :: nat_lit 704 :: nat_lit 705 :: nat_lit 708 :: nat_lit 709 :: nat_lit 710 :: nat_lit 713 :: nat_lit 714 :: nat_lit 715 :: nat_lit 718 :: nat_lit 719 :: nat_lit 720 :: nat_lit 723 :: nat_lit 724 :: nat_lit 725 :: nat_lit 727 :: nat_lit 728 :: nat_lit 730 :: nat_lit 731 :: nat_lit 732 :: nat_lit 734 :: nat_lit 735 :: nat_lit 737 :: nat_lit 738 :: nat_lit 739 :: nat_lit 741 :: nat_lit 742 :: nat_lit 744 :: nat_lit 745 :: nat_lit 746 :: nat_lit 748 :: nat_lit 749 :: nat_lit 751 :: nat_lit 752 :: nat_lit 753 :: nat_lit 755 :: nat_lit 756 :: nat_lit 758 :: nat_lit 759 :: nat_lit 760 :: nat_lit 762 :: nat_lit 763 :: nat_lit 765 :: nat_lit 766 :: nat_lit 767 :: nat_lit 769 :: nat_lit 770 :: nat_lit 772 :: nat_lit 773 :: nat_lit 774 :: nat_lit 777 :: nat_lit 778 :: nat_lit 779 :: nat_lit 781 :: nat_lit 782 :: nat_lit 784 :: nat_lit 785 :: nat_lit 786 :: nat_lit 789 :: nat_lit 790 :: []
noncomputable abbrev ann : Option Value := (some (.ref 6))
noncomputable abbrev cE : Code := .body bE env
noncomputable abbrev lo : List Str := "_wall" :: "PhpFault" :: "LeftOut" :: "Misused" :: "Thrown" :: "error" :: "least" :: "greatest" :: "Ref" :: "Absent" :: "Obj" :: "deref" :: "Arr" :: "is_living" :: "hash_of" :: "link" :: "chains" :: "many_ahead" :: "rehash" :: "to_hash" :: "takes_packed" :: "add_packed" :: "add_hashed" :: "add" :: "marked" :: "kind" :: "lower" :: "is_subclass" :: "instance_of" :: "to_bool" :: "int_text" :: "to_text" :: "is_digit" :: "digits_behind" :: "digits_value" :: "signed" :: "exponent_behind" :: "blanks_behind" :: "numeric" :: "number_of" :: "has_text" :: "type_text" :: "is_callable" :: "is_of" :: "by_class" :: "accepts_name" :: "accepts" :: "coerced_to" :: "coerce" :: "native_null" :: "Frame" :: "Host" :: "Klass" :: "_law_names" :: "_law_text" :: "_law_behind" :: "_law_number" :: "_law_shown" :: "_law_calls" :: "_law_kind" :: "_law_line" :: "_law_is_below" :: "_law_takes" :: "_law_accepted" :: "_law_is_shown" :: "_law_worded" :: "_law_brought" :: "_law_due" :: "_law_accepts" :: "_law_coerced" :: "_law_alike" :: "_law_is_right" :: "_law_type_text" :: "_law_classes" :: []
noncomputable def vbody : List Stmt := [S 86]
noncomputable def view : Program := { pw with main := { pw.main with body := vbody } }
end Mine.Hd
end

noncomputable section
namespace Mine.Hd
theorem pre (w : World) (os : OsState) : topGo treeTable pw w 11 ann 12 ⟨boot_heap w.params, Array.mk [], boot_drawn, boot_toks, os⟩ (topStub pw) = some (sA w os, ⟨denote treeTable cE, cE, ⟨0, 0, 0, 0⟩, Hd.frs⟩) := by
  rewrite [PySem.W.Fast.te15667345088766844465, PySem.W.Fast.te11892475500146522536, PySem.W.Fast.te14364793385576792824]
  kernel_rfl
theorem blk (w : World) (os : OsState) : segRun treeTable pw w 11 ann 1 1 (sA w os) (blockOf bE env cE ⟨0, 0, 0, 0⟩ Hd.frs) = some (.next, (s0 w os).abs, cE, ⟨0, 0, 0, 0⟩) := by
  rewrite [PySem.W.Fast.te14374325043358763698, PySem.W.Fast.te14364793385576792824]
  kernel_rfl
theorem pc0 (w : World) (os : OsState) : segRun treeTable pw w 11 ann 1 480 (s0 w os).abs (piecesOf sts0 env cE ⟨0, 0, 0, 0⟩ Hd.frs) = some (.next, (s1 w os).abs, cE, ⟨10, 0, 11, 8⟩) := by
  refine segRun_of ?_
  rewrite [PySem.W.Fast.te10110043849684766642, PySem.W.Fast.te14364793385576792824]
  kernel_rfl
theorem pc1 (w : World) (os : OsState) : segRun treeTable pw w 11 ann 1 545 (s1 w os).abs (piecesOf sts1 env cE ⟨10, 0, 11, 8⟩ Hd.frs) = some (.next, (s2 w os).abs, cE, ⟨29, 0, 29, 8⟩) := by
  refine segRun_of ?_
  rewrite [PySem.W.Fast.te10110043849684766642, PySem.W.Fast.te14364793385576792824]
  kernel_rfl
theorem pc2 (w : World) (os : OsState) : segRun treeTable pw w 11 ann 1 449 (s2 w os).abs (piecesOf sts2 env cE ⟨29, 0, 29, 8⟩ Hd.frs) = some (.next, (s3 w os).abs, cE, ⟨36, 0, 39, 34⟩) := by
  refine segRun_of ?_
  rewrite [PySem.W.Fast.te10110043849684766642, PySem.W.Fast.te14364793385576792824]
  kernel_rfl
theorem pc3 (w : World) (os : OsState) : segRun treeTable pw w 11 ann 1 268 (s3 w os).abs (piecesOf sts3 env cE ⟨36, 0, 39, 34⟩ Hd.frs) = some (.next, (s4 w os).abs, cE, ⟨56, 0, 56, 8⟩) := by
  refine segRun_of ?_
  rewrite [PySem.W.Fast.te10110043849684766642, PySem.W.Fast.te14364793385576792824]
  kernel_rfl
theorem pc4 (w : World) (os : OsState) : segRun treeTable pw w 11 ann 1 587 (s4 w os).abs (piecesOf sts4 env cE ⟨56, 0, 56, 8⟩ Hd.frs) = some (.next, (s5 w os).abs, cE, ⟨114, 0, 117, 28⟩) := by
  refine segRun_of ?_
  rewrite [PySem.W.Fast.te10110043849684766642, PySem.W.Fast.te14364793385576792824]
  kernel_rfl
theorem pc5 (w : World) (os : OsState) : segRun treeTable pw w 11 ann 1 597 (s5 w os).abs (piecesOf sts5 env cE ⟨114, 0, 117, 28⟩ Hd.frs) = some (.next, (s6 w os).abs, cE, ⟨243, 0, 249, 16⟩) := by
  refine segRun_of ?_
  rewrite [PySem.W.Fast.te10110043849684766642, PySem.W.Fast.te14364793385576792824]
  kernel_rfl
theorem pc6 (w : World) (os : OsState) : segRun treeTable pw w 11 ann 1 505 (s6 w os).abs (piecesOf sts6 env cE ⟨243, 0, 249, 16⟩ Hd.frs) = some (.next, (s7 w os).abs, cE, ⟨380, 0, 380, 8⟩) := by
  refine segRun_of ?_
  rewrite [PySem.W.Fast.te10110043849684766642, PySem.W.Fast.te14364793385576792824]
  kernel_rfl
theorem pc7 (w : World) (os : OsState) : segRun treeTable pw w 11 ann 1 241 (s7 w os).abs (piecesOf sts7 env cE ⟨380, 0, 380, 8⟩ Hd.frs) = some (.next, (s8 w os).abs, cE, ⟨390, 0, 390, 8⟩) := by
  refine segRun_of ?_
  rewrite [PySem.W.Fast.te10110043849684766642, PySem.W.Fast.te14364793385576792824]
  kernel_rfl
theorem pc8 (w : World) (os : OsState) : segRun treeTable pw w 11 ann 1 597 (s8 w os).abs (piecesOf sts8 env cE ⟨390, 0, 390, 8⟩ Hd.frs) = some (.next, (s9 w os).abs, cE, ⟨391, 0, 449, 17⟩) := by
  refine segRun_of ?_
  rewrite [PySem.W.Fast.te10110043849684766642, PySem.W.Fast.te14364793385576792824]
  kernel_rfl
theorem pc9 (w : World) (os : OsState) : segRun treeTable pw w 11 ann 1 591 (s9 w os).abs (piecesOf sts9 env cE ⟨391, 0, 449, 17⟩ Hd.frs) = some (.next, (s10 w os).abs, cE, ⟨543, 0, 544, 77⟩) := by
  refine segRun_of ?_
  rewrite [PySem.W.Fast.te10110043849684766642, PySem.W.Fast.te14364793385576792824]
  kernel_rfl
theorem pc10 (w : World) (os : OsState) : segRun treeTable pw w 11 ann 1 317 (s10 w os).abs (piecesOf sts10 env cE ⟨543, 0, 544, 77⟩ Hd.frs) = some (.next, (s11 w os).abs, cE, ⟨618, 0, 639, 103⟩) := by
  refine segRun_of ?_
  rewrite [PySem.W.Fast.te10110043849684766642, PySem.W.Fast.te14364793385576792824]
  kernel_rfl
theorem fin (w : World) (os : OsState) : topRun treeTable pw w 11 ann 2 (s11 w os).abs ⟨doneF .next, cE, ⟨618, 0, 639, 103⟩, Hd.frs⟩ = some (sF w os) := by
  rewrite [PySem.W.Fast.te14082659384304107361, PySem.W.Fast.te14364793385576792824]
  kernel_rfl
theorem body_eq : bE = (sts0 ++ (sts1 ++ (sts2 ++ (sts3 ++ (sts4 ++ (sts5 ++ (sts6 ++ (sts7 ++ (sts8 ++ (sts9 ++ (sts10 ++ []))))))))))) := by kernel_rfl
def steps : Nat := (12 + (1 + (480 + (545 + (449 + (268 + (587 + (597 + (505 + (241 + (597 + (591 + (317 + 2)))))))))))))
theorem rest (w : World) (os : OsState) : topRun treeTable pw w 11 ann (480 + (545 + (449 + (268 + (587 + (597 + (505 + (241 + (597 + (591 + (317 + 2))))))))))) (s0 w os).abs (restOf bE env cE ⟨0, 0, 0, 0⟩ Hd.frs) = some (sF w os) := by
  have h := piece_app (pc0 w os) (piece_app (pc1 w os) (piece_app (pc2 w os) (piece_app (pc3 w os) (piece_app (pc4 w os) (piece_app (pc5 w os) (piece_app (pc6 w os) (piece_app (pc7 w os) (piece_app (pc8 w os) (piece_app (pc9 w os) (piece_app (pc10 w os) (piece_nil (fin w os))))))))))))
  have e : restOf bE env cE ⟨0, 0, 0, 0⟩ Hd.frs = restOf (sts0 ++ (sts1 ++ (sts2 ++ (sts3 ++ (sts4 ++ (sts5 ++ (sts6 ++ (sts7 ++ (sts8 ++ (sts9 ++ (sts10 ++ []))))))))))) env cE ⟨0, 0, 0, 0⟩ Hd.frs := congrArg (fun b => restOf b env cE ⟨0, 0, 0, 0⟩ Hd.frs) body_eq
  rw [e]
  exact h
theorem run (w : World) (os : OsState) : topRun treeTable pw w 11 ann steps ⟨boot_heap w.params, Array.mk [], boot_drawn, boot_toks, os⟩ (topStub pw) = some (sF w os) :=
  go_top (pre w os) (piece_block (blk w os) (rest w os))
end Mine.Hd
end

noncomputable section
namespace Mine.Hd
theorem lp {α β : Type} {a a' : α} {b b' : β} (x : a = a') (y : b = b') : (a, b) = (a', b') := by rw [x, y]
abbrev Hk : Hook := kHook K asK (fun _ => by kernel_rfl)
abbrev rW : RowW := OpenRow.toRowW (OpenLaw.row Challenge.rw_pq0857_01)
abbrev Xt : Shared → Bool := fun s => xlAt view [] s && recOk (RowW.records rW) s
theorem size (w : World) : ((boot_heap w.params).isNs mainGlobals && (Array.mk ([] : List GenState)).size == 0, (boot_heap w.params).objs.size, (boot_heap w.params).nsMap mainGlobals "__annotations__") = (true, 11, ann) :=
  lp (by kernel_rfl) (lp (by kernel_rfl) (by kernel_rfl))
noncomputable def pk : List Obj → List Nat → Nat → Frag := fun l => @List.rec Obj (fun _ => List Nat → Nat → Frag) (fun _ _ => []) (fun o _ ih as n => @List.rec Nat (fun _ => Frag) [] (fun a r _ => @Bool.rec (fun _ => Frag) (ih as (Nat.succ n)) ((a, o) :: ih r (Nat.succ n)) (Nat.beq a n)) as) l
theorem pk_ok (l : List Obj) : ∀ as n p, p ∈ pk l as n → ∃ i, p.1 = n + i ∧ l[i]? = some p.2 := by
  induction l with
  | nil => intro as n p h; cases h
  | cons o l ih =>
    intro as n p h
    cases as with
    | nil => cases h
    | cons a r =>
      change p ∈ @Bool.rec (fun _ => Frag) (pk l (a :: r) (n + 1)) ((a, o) :: pk l r (n + 1)) (Nat.beq a n) at h
      cases e : Nat.beq a n <;> rw [e] at h
      · obtain ⟨i, h1, h2⟩ := ih _ _ _ h
        exact ⟨i + 1, h1.trans (Nat.succ_add n i), h2⟩
      · rcases List.mem_cons.mp h with rfl | h
        · exact ⟨0, Nat.eq_of_beq_eq_true e, rfl⟩
        · obtain ⟨i, h1, h2⟩ := ih _ _ _ h
          exact ⟨i + 1, h1.trans (Nat.succ_add n i), h2⟩
noncomputable def live (o : Obj) : Bool := match o.data with | .freed => false | _ => true
theorem get_live {h : Heap} {a : Nat} {o : Obj} (e : h.objs.toList[a]? = some o) (k : live o = true) : h.get? a = some o := by
  unfold Heap.get?
  rw [← Array.getElem?_toList, e]
  obtain ⟨c, d, x, s⟩ := o
  cases x <;> first | rfl | cases k
theorem kp (P : Params) : K P = pk (hF P).objs.toList asK 0 := by kernel_rfl
theorem kl (P : Params) : R.allR (K P) (fun p => live p.2) = true := by kernel_rfl
section
variable (w : World) (os : OsState)
theorem lk1 : staticsOk (importedModules pw.main.body) (boot_heap w.params) (hF w.params) = true := by kernel_rfl
theorem lk2 : namesBound pw (hF w.params) = true := by kernel_rfl
theorem lk3 : gensDone (sF w os) = true := by kernel_rfl
theorem lk4 : laidKept (boot_heap w.params) (hF w.params) = true := by kernel_rfl
theorem lkY : Hook.obs Hk (sF w os) = Hook.val Hk w := by
  have e : asK = (K w.params).map (·.1) := by kernel_rfl
  show asK.map (hF w.params).get? = (K w.params).map fun p => some p.2
  rw [e, List.map_map]
  refine List.map_congr_left fun p hp => ?_
  have hl := kl w.params
  rw [← R.allR_eq] at hl
  rw [kp] at hp
  obtain ⟨i, h1, h2⟩ := pk_ok _ _ _ _ hp
  rw [← kp] at hp
  have := List.all_eq_true.mp hl p hp
  rw [Nat.zero_add] at h1
  refine get_live (a := p.1) ?_ this
  rw [h1]
  exact h2
end
section
variable (w : World) (os : OsState)
theorem g1 : seen ((recsOf view).map (·.name)) (ownsOf view) [] { sF w os with gens := #[] } = expectedOf view := by kernel_rfl
theorem g2 : (sF w os).heap.bltView = bltViewBooted := by kernel_rfl
theorem g3a : (sF w os).heap.keysOk (looseW view lo) ((recsOf view).map (·.name)) ((litsOf view).map (·.1)) ((clssOf view (looseW view lo)).map (·.name)) = true := by kernel_rfl
theorem g3b : (sF w os).heap.accountedOkI (importedModules pw.main.body) = true := by kernel_rfl
theorem g3c : (sF w os).heap.isNs mainGlobals = true := by kernel_rfl
theorem g3d : (sF w os).heap.isNs builtinsNs = true := by kernel_rfl
theorem g3e : tablesOk view (sF w os).heap = true := by kernel_rfl
theorem g3f : Xt (sF w os) = true := by kernel_rfl
theorem g3g : ((sF w os).gens.size == 0) = true := by kernel_rfl
theorem g4 : tabsOk view (sF w os) = true := by kernel_rfl
theorem g5 : pinSeenD view (drecsOf view) (sF w os) = pinGoodD (drecsOf view) := by kernel_rfl
theorem g6 : plainSeenE view (looseW view lo) (sF w os) = plainGoodE view (looseW view lo) := by kernel_rfl
theorem g7 : plainSeenD view lo (sF w os) = plainGoodD view lo := by kernel_rfl
theorem g8 : wideSeen view (sF w os) = wideGood view := by kernel_rfl
theorem g9 : clsSeenW view lo (sF w os) = clsGoodW view lo := by kernel_rfl
end
theorem looks (w : World) : (fun os => ((staticsOk (importedModules pw.main.body) (boot_heap w.params) (hF w.params) && namesBound pw (hF w.params) && gensDone (sF w os) && laidKept (boot_heap w.params) (hF w.params)),
    openSeen view lo (importedModules pw.main.body) Xt true (sF w os), Hook.obs Hk (sF w os))) = fun _ => (true, openGood view lo, Hook.val Hk w) := by
  funext os
  refine lp (look_both (look_both (look_both (lk1 w) (lk2 w)) (lk3 w os)) (lk4 w)) (lp ?_ (lkY w os))
  exact lp (g1 w os) (lp (g2 w os) (lp (look_both (look_both (look_both (look_both (look_both (look_both (g3a w os) (g3b w os)) (g3c w os)) (g3d w os)) (g3e w os)) (g3f w os)) (g3g w os)) (lp (g4 w os) (lp (g5 w os) (lp (g6 w os) (lp (g7 w os) (lp (g8 w os) (g9 w os))))))))
theorem opens : opening pw = plainProg pw.main.scope.names := by kernel_rfl
theorem fences (s : Shared) : fenceModules? pw s = some s := by kernel_rfl
theorem left : LeftO pw view lo Xt (Hook.obs Hk) (Hook.val Hk) 10458 :=
  LeftO.of_pieces (boot_open opens (by decide) fences) size run (by decide) looks
theorem wellSaid : OpenLaw.wellSaid Challenge.rw_pq0857_01 = true := by
  rewrite [Fast.te9446332074065402090]
  delta Fast.tw9446332074065402090
  iterate 18 refine look_both ?_ ?_
  delta Fast.tw17960256430627541270
  iterate 2 refine look_both ?_ ?_
  delta Fast.tw2436336058641802641
  iterate 12 refine look_both ?_ ?_
  delta Fast.tw12908688711261696721
  iterate 5 refine look_both ?_ ?_
  all_goals as_aux_lemma => kernel_rfl
end Mine.Hd
end

local macro_rules | `(tactic| case $tag => $t:tacticSeq) => do
  let some i := tag.raw.find? (·.isIdent) | Lean.Macro.throwUnsupported
  unless i.getId == `fT do Lean.Macro.throwUnsupported
  let t' ← t.raw.rewriteBottomUpM fun s => do
    match s with
    | .ident i r n ps => if (← Lean.Macro.resolveGlobalName n).isEmpty then return .ident i r (← Lean.Macro.addMacroScope n) ps else return s
    | s => return s
  `(tactic| ($(⟨t'⟩):tacticSeq))
local macro_rules | `(tactic| walk_at $s:str) => do
  let k := Lean.Syntax.mkStrLit ("@" ++ s.getString)
  `(tactic| k_extra $k)
theorem zw0 : True := by
  k_with "A" => (with_reducible assumption)
  k_with "E0" => (intro A s Q E e1 e2 e3 W R hQ)
  k_with "E1" => (generalize A.frames = fr; generalize A.guards = gd)
  k_with "E2" => (k_extra "enter"; have X' := W.X; have T' := W.T; clear W; intro L' h₁ tk2 F' N')
  k_with "E3" => (intro A base outer s Q E e1 e2 e3 B0 W0 R hQ hE; have W := W0.keeps B0.stays)
  k_with "E4" => (generalize A.guards = gd at B1 ⊢; clear B0)
  k_with "E5" => (k_extra "enter"; have X' := W.X; have T' := W.T; clear W; intro Z₀ kZ₀ kN₀ L' h₁ tk2 F' N'; replace hQ := fun v h' tk st po => kZ₀ (hQ v h' tk st po))
  exact True.intro
namespace Mine

noncomputable abbrev LS : List Str := looseW Hd.view Hd.lo
theorem in_mono {α : Type} {M : Model} {A A' : Around} {t : Sem α} {Q : α → Shared → Prop} {E : Value → Shared → Prop} {s : Shared}
    (h : wpAny M A' t Q E s) (e1 : A.handled = A'.handled) (e2 : A.depth ≤ A'.depth) (e3 : A.frames = A'.frames) (e4 : A.guards = A'.guards) (e5 : A.units ≤ A'.units) : wpAny M A t Q E s :=
  fun Γ p hΓ => h Γ p ⟨hΓ.1.trans e1, Nat.le_trans hΓ.2.1 e2, fun l hl => hΓ.2.2.1 l (e3.trans hl), fun g hg => hΓ.2.2.2.1 g (e4.trans hg), Nat.le_trans hΓ.2.2.2.2 e5⟩
noncomputable def mp (l : List (Str × Value)) : Str → Option Value := fun y => l.lookup y
theorem mp_set (l : List (Str × Value)) (x : Str) (v : Value) : (fun y => if y = x then some v else mp l y) = mp ((x, v) :: l) := by
  funext y
  by_cases h : y = x
  · subst h; simp [mp, List.lookup]
  · have : (y == x) = false := by simpa using h
    simp [mp, List.lookup, h, this]
theorem mp_dup (l l' : List (Str × Value)) (x : Str) (v v' : Value) (h : mp l = mp ((x, v') :: l')) : mp ((x, v) :: l) = mp ((x, v) :: l') := by
  funext y
  have := congrFun h y
  simp only [mp, List.lookup] at this ⊢
  split
  · rfl
  · rename_i q; rw [q] at this; exact this
structure Wd (w : World) (mean : ExcName → Option Value) (mg mb : Str → Option Value) (h : Heap) : Prop where
  X : (Hd.K w.params).In h
  T : Top Hd.view LS mean mg mb h
theorem Wd.keeps {w : World} {mean : ExcName → Option Value} {mg mb : Str → Option Value} {h h' : Heap} (x : Wd w mean mg mb h) (k : ∀ b o, h.get? b = some o → h'.get? b = some o) : Wd w mean mg mb h' := ⟨x.X.keeps k, x.T.keeps k⟩
noncomputable def Pure (w : World) (mean : ExcName → Option Value) (mg mb : Str → Option Value) (d u : Nat) (f : Addr) (vs : List Value) (Pre : Heap → Prop) (Post : Heap → Value → Heap → Prop) : Prop :=
  ∀ (A : Around) (s : Shared) (Q E : Value → Shared → Prop), A.handled = none → A.depth ≤ d → A.units ≤ u → Wd w mean mg mb s.heap → Pre s.heap →
    (∀ v h' tk, s.heap.StaysIn h' → Post s.heap v h' → Q v { s with heap := h', toks := tk }) →
    wpAny (model Challenge.rw_pq0857_01.row.prog w) A (call (.ref f) vs) Q E s
noncomputable abbrev fdOf (name qual : Str) (p : Arguments) (b : List Stmt) (sc : Scope) (dV kV doc pm : Value) (an : Option Addr) (cdv ct : Value) : FuncData :=
  { name, qualname := qual, params := p, body := .stmts b, scope := sc, globals := mainGlobals, closure := [], defaults := dV, kwdefaults := kV, doc, pyModule := pm, annotations := an, code := cdv, closureTuple := ct, builtins := builtinsNs }
theorem enterP {w : World} {mean : ExcName → Option Value} {mg mb : Str → Option Value} {A : Around} {s : Shared} {Q E : Value → Shared → Prop} {f : Addr} {vs : List Value} {binds : List (Str × Value)}
    {name qual : Str} {p params : Arguments} {b body : List Stmt} {sc scope : Scope} {dV kV doc pm cdv ct oc : Value} {an od : Option Addr} {osl : Array (Option Value)}
    (W : Wd w mean mg mb s.heap) (ho : (Hd.K w.params).lookup f = some ⟨oc, od, .func (fdOf name qual p b sc dV kV doc pm an cdv ct), osl⟩) (he1 : p = params) (he2 : b = body) (he3 : sc = scope) (hcd : codeIn (Hd.K w.params) cdv qual = true) (hroom : A.depth < recursionLimit)
    (hbind : BindsTo s (fnOf name qual params body scope dV kV doc pm an cdv ct) ⟨vs, []⟩ binds) (hloc : ∀ y ∈ binds, scope.names.lookup y.1 = some .local)
    (h : ∀ L' h₁ tk, Fr s.heap L' h₁ (mp binds.reverse) → News s.heap L' h₁ [] →
      wpAny (model Challenge.rw_pq0857_01.row.prog w) (A.deeper (envOf qual scope L' f cdv)) (execs body (envOf qual scope L' f cdv))
        (fun fl s' => Q (match fl with | .ret v => v | _ => .none) s') (fun _ _ => False) { s with heap := h₁, toks := tk })
    (hcell : ∀ x ∈ scope.names, x.2 ≠ .cell) (hco : scope.isCoroutine = false) (hgen : scope.isGenerator = false) (hk : scope.kind = .function) :
    wpAny (model Challenge.rw_pq0857_01.row.prog w) A (call (.ref f) vs) Q E s := by
  subst he1 he2 he3
  refine wpAny_call (codeAny_call_def (fd := fnOf name qual p b sc dV kV doc pm an cdv ct) (body := b) (binds := binds) hroom (W.X _ _ ho) rfl W.T.nolimit (codeRec_of W.X hcd) rfl hbind hcell hloc (fun h₁ hns hk₁ => ?_) hco hgen hk)
  exact wpAny_mono (h _ h₁ _ ⟨hns, hk₁, Nat.le_refl _⟩ News.nil) (fun _ _ x => x) fun _ _ x => x.elim
theorem enterZ {w : World} {mean : ExcName → Option Value} {mg mb : Str → Option Value} {A : Around} {s : Shared} {Q E : Value → Shared → Prop} {f : Addr} {vs : List Value} {binds : List (Str × Value)}
    {name qual : Str} {p params : Arguments} {b body : List Stmt} {sc scope : Scope} {dV kV doc pm cdv ct oc : Value} {an od : Option Addr} {osl : Array (Option Value)}
    (W : Wd w mean mg mb s.heap) (ho : (Hd.K w.params).lookup f = some ⟨oc, od, .func (fdOf name qual p b sc dV kV doc pm an cdv ct), osl⟩) (he1 : p = params) (he2 : b = body) (he3 : sc = scope) (hcd : codeIn (Hd.K w.params) cdv qual = true) (hroom : A.depth < recursionLimit)
    (hbind : BindsTo s (fnOf name qual params body scope dV kV doc pm an cdv ct) ⟨vs, []⟩ binds) (hloc : ∀ y ∈ binds, scope.names.lookup y.1 = some .local)
    (h : ∀ Z : Flow → Shared → Prop, (∀ {v s'}, Q v s' → Z (.ret v) s') → (∀ {s'}, Q .none s' → Z .next s') → ∀ L' h₁ tk, Fr s.heap L' h₁ (mp binds.reverse) → News s.heap L' h₁ [] →
      wpAny (model Challenge.rw_pq0857_01.row.prog w) (A.deeper (envOf qual scope L' f cdv)) (execs body (envOf qual scope L' f cdv)) Z (fun _ _ => False) { s with heap := h₁, toks := tk })
    (hcell : ∀ x ∈ scope.names, x.2 ≠ .cell) (hco : scope.isCoroutine = false) (hgen : scope.isGenerator = false) (hk : scope.kind = .function) :
    wpAny (model Challenge.rw_pq0857_01.row.prog w) A (call (.ref f) vs) Q E s :=
  enterP W ho he1 he2 he3 hcd hroom hbind hloc (h _ (fun x => x) fun x => x) hcell hco hgen hk
theorem useP {w : World} {mean : ExcName → Option Value} {mg mb : Str → Option Value} {d u : Nat} {f : Addr} {vs : List Value} {Pre : Heap → Prop} {Post : Heap → Value → Heap → Prop} {A : Around} {s : Shared} {Q E : Value → Shared → Prop}
    {h₀ : Heap} {L : Addr} {m : Str → Option Value} {news : List (Addr × Obj)} (P : Pure w mean mg mb d u f vs Pre Post) (F : Fr h₀ L s.heap m) (N : News h₀ L s.heap news) (X : (Hd.K w.params).In h₀) (T : Top Hd.view LS mean mg mb h₀)
    (e1 : A.handled = none) (e2 : A.depth ≤ d) (e3 : A.units ≤ u) (hp : Pre s.heap)
    (k : ∀ v h' tk, Fr h₀ L h' m → News h₀ L h' news → s.heap.StaysIn h' → Post s.heap v h' → Q v { s with heap := h', toks := tk }) :
    wpAny (model Challenge.rw_pq0857_01.row.prog w) A (call (.ref f) vs) Q E s :=
  P A s Q E e1 e2 e3 ⟨X.keeps F.keep, T.keeps F.keep⟩ hp fun v h' tk st po => k v h' tk (F.keeps st) (N.grown st) st po
theorem iteP_T {a b : Prop} {i : Decidable True} (h : a) : @ite Prop True i a b := by rw [if_pos True.intro]; exact h
theorem lk_ne {x y : Str} {v : Value} {m : Str → Option Value} {w : Option Value} (h : (y == x) = false) (k : m y = w) : (fun z => if z = x then some v else m z) y = w := by
  have : y ≠ x := fun e => by subst e; simp at h
  show (if y = x then some v else m y) = w
  rw [if_neg this]; exact k
theorem lk_eq {x : Str} {v : Value} {m : Str → Option Value} : (fun z => if z = x then some v else m z) x = some v := if_pos rfl
noncomputable def scan (p : Nat → Bool) (t : Str) (n : Nat) : Nat := n + ((t.cps.toList.drop n).takeWhile p).length
theorem all_c {α : Type} {P : α → Prop} {a : α} {l : List α} (h : P a) (k : ∀ x, x ∈ l → P x) : ∀ x, x ∈ a :: l → P x := List.forall_mem_cons.mpr ⟨h, k⟩
theorem ne_of_get {h : Heap} {a b : Addr} {o o' : Obj} (ha : h.get? a = some o) (hb : h.get? b = some o') (ne : o ≠ o') : a ≠ b := fun e => ne (Option.some.inj (ha.symm.trans (e ▸ hb)))
theorem nkind (P : Params) : nsIn (Hd.K P) mainGlobals "kind" = some (some (.ref 344)) := by kernel_rfl
theorem nnumeric (P : Params) : nsIn (Hd.K P) mainGlobals "numeric" = some (some (.ref 435)) := by kernel_rfl
theorem nisZdigit (P : Params) : nsIn (Hd.K P) mainGlobals "is_digit" = some (some (.ref 393)) := by kernel_rfl
theorem ndigitsZbehind (P : Params) : nsIn (Hd.K P) mainGlobals "digits_behind" = some (some (.ref 400)) := by kernel_rfl
theorem nZlawZbehind (P : Params) : nsIn (Hd.K P) mainGlobals "_law_behind" = some (some (.ref 671)) := by kernel_rfl
theorem nZlawZkind (P : Params) : nsIn (Hd.K P) mainGlobals "_law_kind" = some (some (.ref 697)) := by kernel_rfl
theorem nZlawZline (P : Params) : nsIn (Hd.K P) mainGlobals "_law_line" = some (some (.ref 704)) := by kernel_rfl
theorem naccepts (P : Params) : nsIn (Hd.K P) mainGlobals "accepts" = some (some (.ref 491)) := by kernel_rfl
theorem nacceptsZname (P : Params) : nsIn (Hd.K P) mainGlobals "accepts_name" = some (some (.ref 484)) := by kernel_rfl
theorem nisZof (P : Params) : nsIn (Hd.K P) mainGlobals "is_of" = some (some (.ref 470)) := by kernel_rfl
theorem ninstanceZof (P : Params) : nsIn (Hd.K P) mainGlobals "instance_of" = some (some (.ref 365)) := by kernel_rfl
theorem nisZsubclass (P : Params) : nsIn (Hd.K P) mainGlobals "is_subclass" = some (some (.ref 358)) := by kernel_rfl
theorem nlower (P : Params) : nsIn (Hd.K P) mainGlobals "lower" = some (some (.ref 351)) := by kernel_rfl
theorem nZlawZisZbelow (P : Params) : nsIn (Hd.K P) mainGlobals "_law_is_below" = some (some (.ref 709)) := by kernel_rfl
theorem nZlawZtakes (P : Params) : nsIn (Hd.K P) mainGlobals "_law_takes" = some (some (.ref 714)) := by kernel_rfl
theorem nZlawZaccepted (P : Params) : nsIn (Hd.K P) mainGlobals "_law_accepted" = some (some (.ref 719)) := by kernel_rfl
theorem nZlawZisZshown (P : Params) : nsIn (Hd.K P) mainGlobals "_law_is_shown" = some (some (.ref 724)) := by kernel_rfl
theorem nZlawZworded (P : Params) : nsIn (Hd.K P) mainGlobals "_law_worded" = some (some (.ref 731)) := by kernel_rfl
theorem nZlawZnumber (P : Params) : nsIn (Hd.K P) mainGlobals "_law_number" = some (some (.ref 676)) := by kernel_rfl
theorem nZlawZbrought (P : Params) : nsIn (Hd.K P) mainGlobals "_law_brought" = some (some (.ref 738)) := by kernel_rfl
theorem nZlawZdue (P : Params) : nsIn (Hd.K P) mainGlobals "_law_due" = some (some (.ref 745)) := by kernel_rfl
theorem nZlawZaccepts (P : Params) : nsIn (Hd.K P) mainGlobals "_law_accepts" = some (some (.ref 752)) := by kernel_rfl
theorem nZlawZcoerced (P : Params) : nsIn (Hd.K P) mainGlobals "_law_coerced" = some (some (.ref 759)) := by kernel_rfl
theorem nZlawZalike (P : Params) : nsIn (Hd.K P) mainGlobals "_law_alike" = some (some (.ref 766)) := by kernel_rfl
theorem nZlawZisZright (P : Params) : nsIn (Hd.K P) mainGlobals "_law_is_right" = some (some (.ref 773)) := by kernel_rfl
theorem nZlawZtypeZtext (P : Params) : nsIn (Hd.K P) mainGlobals "_law_type_text" = some (some (.ref 778)) := by kernel_rfl
theorem nZlawZclasses (P : Params) : nsIn (Hd.K P) mainGlobals "_law_classes" = some (some (.ref 785)) := by kernel_rfl
theorem nZlawZnames (P : Params) : nsIn (Hd.K P) mainGlobals "_law_names" = some (some (.ref 659)) := by kernel_rfl
theorem nZlawZtext (P : Params) : nsIn (Hd.K P) mainGlobals "_law_text" = some (some (.ref 664)) := by kernel_rfl
theorem nZlawZshown (P : Params) : nsIn (Hd.K P) mainGlobals "_law_shown" = some (some (.ref 683)) := by kernel_rfl
theorem nZlawZcalls (P : Params) : nsIn (Hd.K P) mainGlobals "_law_calls" = some (some (.ref 690)) := by kernel_rfl
theorem nblanksZbehind (P : Params) : nsIn (Hd.K P) mainGlobals "blanks_behind" = some (some (.ref 428)) := by kernel_rfl
theorem nbyZclass (P : Params) : nsIn (Hd.K P) mainGlobals "by_class" = some (some (.ref 477)) := by kernel_rfl
theorem ncoerce (P : Params) : nsIn (Hd.K P) mainGlobals "coerce" = some (some (.ref 505)) := by kernel_rfl
theorem ncoercedZto (P : Params) : nsIn (Hd.K P) mainGlobals "coerced_to" = some (some (.ref 498)) := by kernel_rfl
theorem ndigitsZvalue (P : Params) : nsIn (Hd.K P) mainGlobals "digits_value" = some (some (.ref 407)) := by kernel_rfl
theorem nexponentZbehind (P : Params) : nsIn (Hd.K P) mainGlobals "exponent_behind" = some (some (.ref 421)) := by kernel_rfl
theorem ngreatest (P : Params) : nsIn (Hd.K P) mainGlobals "greatest" = some (some (.ref 107)) := by kernel_rfl
theorem nleast (P : Params) : nsIn (Hd.K P) mainGlobals "least" = some (some (.ref 100)) := by kernel_rfl
theorem nhasZtext (P : Params) : nsIn (Hd.K P) mainGlobals "has_text" = some (some (.ref 449)) := by kernel_rfl
theorem nintZtext (P : Params) : nsIn (Hd.K P) mainGlobals "int_text" = some (some (.ref 379)) := by kernel_rfl
theorem nisZcallable (P : Params) : nsIn (Hd.K P) mainGlobals "is_callable" = some (some (.ref 463)) := by kernel_rfl
theorem nnativeZnull (P : Params) : nsIn (Hd.K P) mainGlobals "native_null" = some (some (.ref 512)) := by kernel_rfl
theorem nnumberZof (P : Params) : nsIn (Hd.K P) mainGlobals "number_of" = some (some (.ref 442)) := by kernel_rfl
theorem nsigned (P : Params) : nsIn (Hd.K P) mainGlobals "signed" = some (some (.ref 414)) := by kernel_rfl
theorem ntoZbool (P : Params) : nsIn (Hd.K P) mainGlobals "to_bool" = some (some (.ref 372)) := by kernel_rfl
theorem ntoZtext (P : Params) : nsIn (Hd.K P) mainGlobals "to_text" = some (some (.ref 386)) := by kernel_rfl
theorem ntypeZtext (P : Params) : nsIn (Hd.K P) mainGlobals "type_text" = some (some (.ref 456)) := by kernel_rfl
theorem nArr (P : Params) : nsIn (Hd.K P) mainGlobals "Arr" = some (some (.ref 253)) := by kernel_rfl
theorem nObj (P : Params) : nsIn (Hd.K P) mainGlobals "Obj" = some (some (.ref 168)) := by kernel_rfl
theorem nKlass (P : Params) : nsIn (Hd.K P) mainGlobals "Klass" = some (some (.ref 650)) := by kernel_rfl
theorem nHost (P : Params) : nsIn (Hd.K P) mainGlobals "Host" = some (some (.ref 629)) := by kernel_rfl
theorem nFrame (P : Params) : nsIn (Hd.K P) mainGlobals "Frame" = some (some (.ref 530)) := by kernel_rfl
theorem nLeftOut (P : Params) : nsIn (Hd.K P) mainGlobals "LeftOut" = some (some (.ref 51)) := by kernel_rfl
theorem nMisused (P : Params) : nsIn (Hd.K P) mainGlobals "Misused" = some (some (.ref 63)) := by kernel_rfl
theorem bnisinstance (P : Params) : nsIn (Hd.K P) mainGlobals "isinstance" = some none ∧ bootBuiltins "isinstance" = some (.builtin "isinstance") := ⟨by kernel_rfl, by boot_by_name⟩
theorem bnlen (P : Params) : nsIn (Hd.K P) mainGlobals "len" = some none ∧ bootBuiltins "len" = some (.builtin "len") := ⟨by kernel_rfl, by boot_by_name⟩
theorem bnrange (P : Params) : nsIn (Hd.K P) mainGlobals "range" = some none ∧ bootBuiltins "range" = some (.type "range") := ⟨by kernel_rfl, by boot_by_name⟩
theorem bnall (P : Params) : nsIn (Hd.K P) mainGlobals "all" = some none ∧ bootBuiltins "all" = some (.builtin "all") := ⟨by kernel_rfl, by boot_by_name⟩
theorem bnany (P : Params) : nsIn (Hd.K P) mainGlobals "any" = some none ∧ bootBuiltins "any" = some (.builtin "any") := ⟨by kernel_rfl, by boot_by_name⟩
theorem bnsum (P : Params) : nsIn (Hd.K P) mainGlobals "sum" = some none ∧ bootBuiltins "sum" = some (.builtin "sum") := ⟨by kernel_rfl, by boot_by_name⟩
theorem bnenumerate (P : Params) : nsIn (Hd.K P) mainGlobals "enumerate" = some none ∧ bootBuiltins "enumerate" = some (.type "enumerate") := ⟨by kernel_rfl, by boot_by_name⟩
theorem bnstr (P : Params) : nsIn (Hd.K P) mainGlobals "str" = some none ∧ bootBuiltins "str" = some (.type "str") := ⟨by kernel_rfl, by boot_by_name⟩
theorem bnbool (P : Params) : nsIn (Hd.K P) mainGlobals "bool" = some none ∧ bootBuiltins "bool" = some (.type "bool") := ⟨by kernel_rfl, by boot_by_name⟩
theorem bnint (P : Params) : nsIn (Hd.K P) mainGlobals "int" = some none ∧ bootBuiltins "int" = some (.type "int") := ⟨by kernel_rfl, by boot_by_name⟩
theorem bnord (P : Params) : nsIn (Hd.K P) mainGlobals "ord" = some none ∧ bootBuiltins "ord" = some (.builtin "ord") := ⟨by kernel_rfl, by boot_by_name⟩
theorem bnchr (P : Params) : nsIn (Hd.K P) mainGlobals "chr" = some none ∧ bootBuiltins "chr" = some (.builtin "chr") := ⟨by kernel_rfl, by boot_by_name⟩
theorem bntuple (P : Params) : nsIn (Hd.K P) mainGlobals "tuple" = some none ∧ bootBuiltins "tuple" = some (.type "tuple") := ⟨by kernel_rfl, by boot_by_name⟩
theorem bnlist (P : Params) : nsIn (Hd.K P) mainGlobals "list" = some none ∧ bootBuiltins "list" = some (.type "list") := ⟨by kernel_rfl, by boot_by_name⟩
theorem bnException (P : Params) : nsIn (Hd.K P) mainGlobals "Exception" = some none ∧ bootBuiltins "Exception" = some (.type "Exception") := ⟨by kernel_rfl, by boot_by_name⟩
section
variable {M : Model} {A : Around} {E : Value → Shared → Prop} {s : Shared} {P : Params} {h₀ : Heap} {L a : Addr} {m mg mb : Str → Option Value} {cn : Str} {cs : Scope} {ccd : Value} {p : Program} {loose : List Str} {mean : ExcName → Option Value} {x : Str} {pos : Pos} {v : Value} {Q : Value → Shared → Prop}
theorem nameB (F : Fr h₀ L s.heap m) (X : (Hd.K P).In h₀) (T : Top p loose mean mg mb h₀) (e : nsIn (Hd.K P) mainGlobals x = some none ∧ bootBuiltins x = some v) (hn : x ≠ "__name__") (h : Q v s)
    (hk : cs.kind = .function) (hx : (envOf cn cs L a ccd).kindOf x = some .globalImplicit) (hd : (x == ("__debug__" : Str)) = false) :
    wpAny M A (eval (.Name x pos) (envOf cn cs L a ccd)) Q E s := name_B F X (topRead_of T) e.1 e.2 hn h hk hx hd
theorem nameK (F : Fr h₀ L s.heap m) (X : (Hd.K P).In h₀) (T : Top p loose mean mg mb h₀) (e : nsIn (Hd.K P) mainGlobals x = some (some v)) (h : Q v s)
    (hk : cs.kind = .function) (hx : (envOf cn cs L a ccd).kindOf x = some .globalImplicit) (hd : (x == ("__debug__" : Str)) = false) :
    wpAny M A (eval (.Name x pos) (envOf cn cs L a ccd)) Q E s := name_K F X (topRead_of T) e h hk hx hd
end
end Mine
namespace Mine
theorem fill_all (w : World) : Challenge.rw_pq0857_01 = Challenge.rw_pq0857_01 ∧ (Hd.K w.params) = (Hd.K w.params) := by
  k_fill
  exact ⟨rfl, rfl⟩
end Mine
namespace Mine
theorem zw1 : True := by
  k_with "AO" => (case fT => (first | k_extra "A" | omega | assumption))
  k_with "AS" => (case fT => (first | k_extra "A" | assumption))
  k_with "look" => (case fT => (first | k_extra "A" | exact Mine.lk_eq | exact rfl | (refine' Mine.lk_ne ?la ?lb; (case la => exact rfl); (case lb => k_extra "look"))))
  k_with "enter" => (case fT => ((
  (case k1 => k_is); (case kf1 => (conv => lhs; whnf)); (case kf2 => (conv => lhs; whnf)); (case kf3 => (conv => lhs; whnf)); (case k2 => k_is); (try (case k3 => exact Nat.le_of_ble_eq_true rfl)); (case k4 => exact BindsTo.of_eq rfl); (case k5 => exact locs rfl); (case k6 => decide); (case k7 => rfl); (case k8 => rfl); (case k9 => rfl))))
  k_with "stops" => (case fT => ((
  (fail_if_success (with_reducible show wpAny _ _ (pyIter _) _ _ _)); (fail_if_success (with_reducible show wpAny _ _ (exec (Stmt.While _ _ _ _) _) _ _ _)); (fail_if_success (with_reducible show wpAny _ _ (exec (Stmt.Try _ _ _ _ _) _) _ _ _)); (fail_if_success (with_reducible show wpAny _ _ (exec (Stmt.Raise _ _ _) _) _ _ _)))))
  k_with "go" => (case fT => (repeat' (first | (k_unfold; (try dsimp only)) | (k_extra "stops"; (try dsimp only); walk1))))
  k_with "stopsIf" => (case fT => ((
  (fail_if_success (with_reducible show wpAny _ _ (exec (Stmt.If _ _ _ _) _) _ _ _)); (fail_if_success (with_reducible show wpAny _ _ (exec (Stmt.Assign _ (Expr.BoolOp _ _ _) _) _) _ _ _)))))
  k_with "goIf" => (case fT => (repeat' (first | (k_unfold; (try dsimp only)) | (k_extra "stops"; k_extra "stopsIf"; (try dsimp only); walk1))))
  k_with "map" => (case fT => ((first | exact rfl | (
  refine' Eq.trans ?mapA (Mine.mp_ext ?mapB ?mapC)
  (case mapA => (repeat (first | exact rfl | apply Mine.mp_setf)))
  (case mapB => (repeat (first | exact True.intro | refine And.intro rfl ?_)))
  (case mapC => (repeat (first | exact True.intro | refine And.intro rfl ?_)))))))
  k_with "nmK" => (case fT => (with_reducible first
  | exact Mine.nkind _
  | exact Mine.nnumeric _
  | exact Mine.nisZdigit _
  | exact Mine.ndigitsZbehind _
  | exact Mine.nZlawZbehind _
  | exact Mine.nZlawZkind _
  | exact Mine.nZlawZline _
  | exact Mine.naccepts _
  | exact Mine.nacceptsZname _
  | exact Mine.nisZof _
  | exact Mine.ninstanceZof _
  | exact Mine.nisZsubclass _
  | exact Mine.nlower _
  | exact Mine.nZlawZisZbelow _
  | exact Mine.nZlawZtakes _
  | exact Mine.nZlawZaccepted _
  | exact Mine.nZlawZisZshown _
  | exact Mine.nZlawZworded _
  | exact Mine.nZlawZnumber _
  | exact Mine.nZlawZbrought _
  | exact Mine.nZlawZdue _
  | exact Mine.nZlawZaccepts _
  | exact Mine.nZlawZcoerced _
  | exact Mine.nZlawZalike _
  | exact Mine.nZlawZisZright _
  | exact Mine.nZlawZtypeZtext _
  | exact Mine.nZlawZclasses _
  | exact Mine.nZlawZnames _
  | exact Mine.nZlawZtext _
  | exact Mine.nZlawZshown _
  | exact Mine.nZlawZcalls _
  | exact Mine.nblanksZbehind _
  | exact Mine.nbyZclass _
  | exact Mine.ncoerce _
  | exact Mine.ncoercedZto _
  | exact Mine.ndigitsZvalue _
  | exact Mine.nexponentZbehind _
  | exact Mine.ngreatest _
  | exact Mine.nleast _
  | exact Mine.nhasZtext _
  | exact Mine.nintZtext _
  | exact Mine.nisZcallable _
  | exact Mine.nnativeZnull _
  | exact Mine.nnumberZof _
  | exact Mine.nsigned _
  | exact Mine.ntoZbool _
  | exact Mine.ntoZtext _
  | exact Mine.ntypeZtext _
  | exact Mine.nArr _
  | exact Mine.nObj _
  | exact Mine.nKlass _
  | exact Mine.nHost _
  | exact Mine.nFrame _
  | exact Mine.nLeftOut _
  | exact Mine.nMisused _))
  k_with "nmB" => (case fT => (with_reducible first
  | exact Mine.bnisinstance _
  | exact Mine.bnlen _
  | exact Mine.bnrange _
  | exact Mine.bnall _
  | exact Mine.bnany _
  | exact Mine.bnsum _
  | exact Mine.bnenumerate _
  | exact Mine.bnstr _
  | exact Mine.bnbool _
  | exact Mine.bnint _
  | exact Mine.bnord _
  | exact Mine.bnchr _
  | exact Mine.bntuple _
  | exact Mine.bnlist _
  | exact Mine.bnException _))
  k_with "@eval Name" => (case fT => ((name_kind "globalImplicit"; k_dflt (refine' Mine.nameK ?n1 ?n2 ?n3 ?n4 ?_ ?n5 ?n6 ?n7; (case n1 => k_extra "A"); (case n2 => k_extra "A"); (case n4 => k_extra "nmK"); (case n3 => k_extra "A"); (case n5 => exact rfl); (case n6 => exact rfl); (case n7 => exact rfl)))))
  k_with "@eval Name" => (case fT => ((name_kind "globalImplicit"; k_dflt (refine' Mine.nameB ?n1 ?n2 ?n3 ?n4 ?n8 ?_ ?n5 ?n6 ?n7; (case n1 => k_extra "A"); (case n2 => k_extra "A"); (case n4 => k_extra "nmB"); (case n3 => k_extra "A"); (case n5 => exact rfl); (case n6 => exact rfl); (case n7 => exact rfl); (case n8 => decide)))))
  k_with "@eval Name" => (case fT => ((name_kind "local"; k_dflt (refine' ld ?k1 ?k2 ?_; (case k1 => k_extra "A"); (case k2 => k_extra "look")))))
  k_with "@eval Call" => (case fT => (k_dflt (refine Call_ ?_)))
  k_with "@spliced" => (case fT => (k_dflt (first | refine args_cons ?_ | (refine args_nil ?_; dsimp only [List.cons_append, List.nil_append]))))
  k_with "@isTrue" => (case fT => (k_dflt (refine isTrue_plain ?_)))
  k_with "@exec If" => (case fT => (k_dflt (refine wpAny_If ?_)))
  k_with "@execs cons" => (case fT => ((k_dflt (refine wpAny_execs_cons ?_); (try dsimp only); (try k_gentoks))))
  k_with "@ite" => (case fT => (with_reducible first | refine ite_tt ?_ | refine ite_ff ?_ | refine Mine.iteP_T ?_ | refine Mine.iteP_F ?_ | refine Mine.ite_T ?_ | refine Mine.ite_F ?_))
  k_with "@execs nil" => (case fT => (k_dflt (refine wpAny_execs_nil ?_)))
  k_with "@binaryOp Pow int int" => (case fT => (((with_reducible refine pow_int_small ?kb1 ?kb2 ?kb3 ?_); (case kb1 => decide); (case kb2 => decide); (case kb3 => decide))))
  k_with "@loadName" => (case fT => (k_dflt (refine' ldn ?k1 ?k2 ?_; (case k1 => k_extra "A"); (case k2 => k_extra "look"))))
  k_with "bad" => (case fT => ((intro bd; exact ⟨by first | exact bd | simpa using bd, rfl⟩)))
  k_with "pre2" => (case fT => (exact stays_list (Fr.keep (by k_extra "A")) (by k_extra "A")))
  k_with "pre2" => (case fT => (exact stays_tup (Fr.keep (by k_extra "A")) (by k_extra "A")))
  k_with "pre2" => (case fT => (exact Fr.keep (by k_extra "A")))
  k_with "pre1" => (case fT => (first | k_extra "A" | k_extra "pre2"))
  k_with "pre" => (case fT => ((first | exact True.intro | ((try dsimp only); (repeat' (with_reducible refine' And.intro ?_ ?_)) <;> k_extra "pre1"))))
  k_with "passes" => (case fT => (exact PassesOwn.never))
  k_with "uup" => (case fT => (((case u1 => k_extra "A"); (case u2 => k_extra "A"); (case u3 => k_extra "A"); (case u4 => k_extra "A"); (case u5 => rfl); (case u6 => exact Nat.le_of_ble_eq_true rfl); (case u7 => exact Nat.le_of_ble_eq_true rfl); (case u8 => k_extra "pre"))))
  k_with "uur" => (case fT => (((case u0 => k_extra "A"); (case u1 => k_extra "A"); (case u2 => k_extra "A"); (case u9 => k_extra "A"); (case u5 => rfl); (case u6 => exact Nat.le_of_ble_eq_true rfl); (case u7 => exact Nat.le_of_ble_eq_true rfl); (case u8 => k_extra "pre"); (case ub => k_extra "bad"))))
  k_with "ut" => (case fT => (((try dsimp only); (try k_sweep))))
  k_with "FN" => (case fT => (((case F => k_extra "A"); (case N => k_extra "A"))))
  k_with "sd" => (case fT => (first | k_extra "A" | with_reducible exact rfl | exact Int.natCast_nonneg _ | exact And.left (by k_extra "A") | exact And.right (by k_extra "A") | omega | assumption))
  k_with "evU" => (case fT => (((case f => k_extra "evK"); (case b => k_extra "evs"); (case' P => k_extra "con"); (case X => k_extra "A"); (case T => k_extra "A"); (case k => k_is); (case e1 => rfl); (case e2 => exact Nat.le_of_ble_eq_true rfl); (case e3 => exact Nat.le_of_ble_eq_true rfl); (case hp => (intro _ _; k_extra "pre")); (all_goals k_extra "sd"))))
  k_with "@isTrue Compare Call" => (case fT => ((k_dflt (k_extra "tsc"); intro h' tk' F' N'; (try k_sweep))))
  k_with "@isTrue Compare Subscript" => (case fT => ((k_dflt (k_extra "tsc"); intro h' tk' F' N'; (try k_sweep))))
  exact True.intro
/- expressions that the frame answers by itself, said without what follows them -/
noncomputable abbrev Mw (w : World) : Model := model Challenge.rw_pq0857_01.row.prog w
noncomputable def PlainE (e : Expr) : Prop := (∀ r env, starEach (e :: r) env = (false, eval e env) :: starEach r env) ∧ ∀ op, behindInMarks op e = false
noncomputable def lcE (env : Env) (x : Str) : Bool := decide (env.scope.kind = .function) && decide (env.kindOf x = some .local) && !(x == ("__debug__" : Str))
theorem lcE_a {env : Env} {x : Str} (h : lcE env x = true) : env.scope.kind = .function ∧ env.kindOf x = some .local ∧ (x == ("__debug__" : Str)) = false := by
  unfold lcE at h
  rw [Bool.and_eq_true, Bool.and_eq_true, Bool.not_eq_true', decide_eq_true_eq, decide_eq_true_eq] at h
  exact ⟨h.1.1, h.1.2, h.2⟩
noncomputable def gbE (env : Env) (x : Str) : Bool := decide (env.scope.kind = .function) && decide (env.kindOf x = some .globalImplicit) && !(x == ("__debug__" : Str))
theorem gbE_a {env : Env} {x : Str} (h : gbE env x = true) : env.scope.kind = .function ∧ env.kindOf x = some .globalImplicit ∧ (x == ("__debug__" : Str)) = false := by
  unfold gbE at h
  rw [Bool.and_eq_true, Bool.and_eq_true, Bool.not_eq_true', decide_eq_true_eq, decide_eq_true_eq] at h
  exact ⟨h.1.1, h.1.2, h.2⟩
theorem gbE_n {env : Env} {x : Str} (h : (gbE env x && !(x == ("__name__" : Str))) = true) : gbE env x = true ∧ x ≠ "__name__" := by
  rw [Bool.and_eq_true, Bool.not_eq_true'] at h
  exact ⟨h.1, fun e => by rw [e] at h; cases (beq_self_eq_true _).symm.trans h.2⟩
structure Ev (w : World) (env : Env) (h₀ : Heap) (L : Addr) (m : Str → Option Value) (nw : List (Addr × Obj)) (e : Expr) (t : Nat) (v : Value) (t' : Nat) : Prop where
  st : PlainE e
  run : ∀ {A : Around} {E Q : Value → Shared → Prop} {h : Heap} {g : Array GenState} {d : Drawn} {o : OsState}, Fr h₀ L h m → News h₀ L h nw → Q v ⟨h, g, d, t', o⟩ → wpAny (Mw w) A (eval e env) Q E ⟨h, g, d, t, o⟩
noncomputable def EvL (w : World) (env : Env) (h₀ : Heap) (L : Addr) (m : Str → Option Value) (nw : List (Addr × Obj)) (es : List Expr) (t : Nat) (vs : List Value) (t' : Nat) : Prop :=
  (∀ pos, (backTo pos (starEach es env)).any (·.1) = false) ∧ ((es = [] ∧ vs = [] ∧ t = t') ∨ ∃ e r, PlainE e ∧ es = e :: r) ∧
  ∀ {A : Around} {E : Value → Shared → Prop} {Q : List Value → Shared → Prop} {h : Heap} {g : Array GenState} {d : Drawn} {o : OsState} {pos : Pos}, Fr h₀ L h m → News h₀ L h nw → Q vs ⟨h, g, d, t', o⟩ → wpAny (Mw w) A (spliced (backTo pos (starEach es env))) Q E ⟨h, g, d, t, o⟩
noncomputable def Tst (w : World) (env : Env) (h₀ : Heap) (L : Addr) (m : Str → Option Value) (nw : List (Addr × Obj)) (e : Expr) (t : Nat) (c : Bool) (t' : Nat) : Prop :=
  ∀ {A : Around} {E : Value → Shared → Prop} {Q : Bool → Shared → Prop} {h : Heap} {g : Array GenState} {d : Drawn} {o : OsState}, Fr h₀ L h m → News h₀ L h nw → Q c ⟨h, g, d, t', o⟩ → wpAny (Mw w) A (isTrue e env (eval e env)) Q E ⟨h, g, d, t, o⟩
section
variable {w : World} {env : Env} {h₀ : Heap} {L : Addr} {m : Str → Option Value} {nw : List (Addr × Obj)} {e l r : Expr} {es : List Expr} {t t1 t2 t' : Nat} {v v1 v2 : Value} {vs : List Value} {x y : Str} {p : Pos} {k : Nat} {tx ty : Tok}
theorem Ev.str : Ev w env h₀ L m nw (.Constant (.str x) k p) t (.str x t) (t + 1) := ⟨⟨fun _ _ => rfl, fun _ => rfl⟩, fun _ _ q => Calls.Constant_str q⟩
theorem Ev.int {i : Int} : Ev w env h₀ L m nw (.Constant (.int i) k p) t (.int i t) (t + 1) := ⟨⟨fun _ _ => rfl, fun _ => rfl⟩, fun _ _ q => wpAny_Constant_int q⟩
theorem Ev.no : Ev w env h₀ L m nw (.Constant .none k p) t .none t := ⟨⟨fun _ _ => rfl, fun _ => rfl⟩, fun _ _ q => wpAny_Constant_none q⟩
theorem Ev.bool {b : Bool} : Ev w env h₀ L m nw (.Constant (.bool b) k p) t (.bool b) t := ⟨⟨fun _ _ => rfl, fun _ => rfl⟩, fun _ _ q => Constant_bool q⟩
theorem Ev.loc (hv : m x = some v) (hL : env.locals = L) (hk : lcE env x = true) : Ev w env h₀ L m nw (.Name x p) t v t :=
  ⟨⟨fun _ _ => rfl, fun _ => rfl⟩, fun F _ q => wpAny_Name (wpAny_loadName_local (lcE_a hk).1 (lcE_a hk).2.1 (hL ▸ F.ns) hv q) (lcE_a hk).2.2⟩
theorem EvL.nil : EvL w env h₀ L m nw [] t [] t := ⟨fun _ => rfl, .inl ⟨rfl, rfl, rfl⟩, fun _ _ q => args_nil q⟩
theorem EvL.cons (a : Ev w env h₀ L m nw e t v t1) (b : EvL w env h₀ L m nw es t1 vs t2) : EvL w env h₀ L m nw (e :: es) t (v :: vs) t2 :=
  ⟨fun pos => by rw [a.st.1]; show (false || (backTo pos (starEach es env)).any (·.1)) = false; rw [b.1 pos]; rfl, .inr ⟨_, _, a.st, rfl⟩,
   fun F N q => args_cons (a.run F N (b.2.2 F N q)) (a.st.1 _ _)⟩
theorem EvL.args {A : Around} {E : Value → Shared → Prop} {Q : Args → Shared → Prop} {h : Heap} {g : Array GenState} {d : Drawn} {o : OsState} {pos : Pos} {f : Value} (a : EvL w env h₀ L m nw es t vs t') (F : Fr h₀ L h m) (N : News h₀ L h nw) (q : Q ⟨vs, []⟩ ⟨h, g, d, t', o⟩) :
    wpAny (Mw w) A (evalArgs f true (backTo pos (starEach es env)) []) Q E ⟨h, g, d, t, o⟩ := by
  obtain ⟨_, hs, hr⟩ := a
  rcases hs with ⟨rfl, rfl, rfl⟩ | ⟨e, r, he, rfl⟩
  · exact evalArgs_nil3 q
  · have k := hr (Q := fun vs s => Q ⟨vs, []⟩ s) (pos := pos) (A := A) (E := E) F N q
    rw [he.1] at k ⊢
    exact evalArgs_plain k
section
variable {A : Around} {E : Value → Shared → Prop} {Q : Value → Shared → Prop} {QB : Bool → Shared → Prop} {QL : List Value → Shared → Prop} {QF : Flow → Shared → Prop} {h : Heap} {g : Array GenState} {d : Drawn} {o : OsState} {pos : Pos}
theorem ev_go (F : Fr h₀ L h m) (N : News h₀ L h nw) (a : Ev w env h₀ L m nw e t v t') (q : Q v ⟨h, g, d, t', o⟩) : wpAny (Mw w) A (eval e env) Q E ⟨h, g, d, t, o⟩ := a.run F N q
theorem args_go (F : Fr h₀ L h m) (N : News h₀ L h nw) (a : EvL w env h₀ L m nw es t vs t') (q : QL vs ⟨h, g, d, t', o⟩) : wpAny (Mw w) A (spliced (backTo pos (starEach es env))) QL E ⟨h, g, d, t, o⟩ := a.2.2 F N q
theorem cmp_go {op : CmpOp} {whole : Sem Value} (F : Fr h₀ L h m) (N : News h₀ L h nw) (a : Ev w env h₀ L m nw l t v1 t1) (b : Ev w env h₀ L m nw r t1 v2 t2)
    (q : wpAny (Mw w) A (compareOp op v1 v2) (fun c s => wpAny (Mw w) A (truthy c) QB E s) E ⟨h, g, d, t2, o⟩) : wpAny (Mw w) A (isTrue (.Compare l [op] [r] pos) env whole) QB E ⟨h, g, d, t, o⟩ :=
  wpAny_isTrue_Compare1 (a.run F N (b.run F N q)) (b.st.2 _)
theorem cmpv_go {op : CmpOp} (F : Fr h₀ L h m) (N : News h₀ L h nw) (a : Ev w env h₀ L m nw l t v1 t1) (b : Ev w env h₀ L m nw r t1 v2 t2)
    (q : wpAny (Mw w) A (compareOp op v1 v2) Q E ⟨h, g, d, t2, o⟩) : wpAny (Mw w) A (eval (.Compare l [op] [r] pos) env) Q E ⟨h, g, d, t, o⟩ :=
  wpAny_Compare1 (a.run F N (b.run F N q)) (b.st.2 _)
theorem bin_go {op : Operator} (F : Fr h₀ L h m) (N : News h₀ L h nw) (a : Ev w env h₀ L m nw l t v1 t1) (b : Ev w env h₀ L m nw r t1 v2 t2)
    (q : wpAny (Mw w) A (binaryOp op v1 v2) Q E ⟨h, g, d, t2, o⟩) : wpAny (Mw w) A (eval (.BinOp l op r pos) env) Q E ⟨h, g, d, t, o⟩ :=
  wpAny_BinOp (a.run F N (b.run F N q))
theorem sub_go (F : Fr h₀ L h m) (N : News h₀ L h nw) (a : Ev w env h₀ L m nw l t v1 t1) (b : Ev w env h₀ L m nw r t1 v2 t2)
    (q : wpAny (Mw w) A (subscriptTail l r v1 v2) Q E ⟨h, g, d, t2, o⟩) : wpAny (Mw w) A (eval (.Subscript l r pos) env) Q E ⟨h, g, d, t, o⟩ :=
  Subscript_ (a.run F N (b.run F N q))
theorem tup_go (F : Fr h₀ L h m) (N : News h₀ L h nw) (a : EvL w env h₀ L m nw es t vs t')
    (q : wpAny (Mw w) A (newTuple vs) Q E ⟨h, g, d, t', o⟩) : wpAny (Mw w) A (eval (.Tuple es k pos) env) Q E ⟨h, g, d, t, o⟩ := Tuple_ (a.2.2 F N q)
theorem ret_go (F : Fr h₀ L h m) (N : News h₀ L h nw) (a : Ev w env h₀ L m nw e t v t') (q : QF (.ret v) ⟨h, g, d, t', o⟩) : wpAny (Mw w) A (exec (.Return (some e) pos) env) QF E ⟨h, g, d, t, o⟩ :=
  wpAny_Return_some (a.run F N q)
theorem tst_go (F : Fr h₀ L h m) (N : News h₀ L h nw) (a : Tst w env h₀ L m nw e t c t') (q : QB c ⟨h, g, d, t', o⟩) : wpAny (Mw w) A (isTrue e env (eval e env)) QB E ⟨h, g, d, t, o⟩ := a F N q
end
theorem Tst.eqs (a : Ev w env h₀ L m nw l t (.str x tx) t1) (b : Ev w env h₀ L m nw r t1 (.str y ty) t2) : Tst w env h₀ L m nw (.Compare l [.Eq] [r] p) t (x == y) t2 :=
  fun F N q => cmp_go F N a b (eq_str (wpAny_truthy_bool q))
end
theorem Ev.addi {w : World} {env : Env} {h₀ : Heap} {L : Addr} {m : Str → Option Value} {nw : List (Addr × Obj)} {l r : Expr} {t t1 t2 : Nat} {a b : Int} {ta tb : Tok} {p : Pos} (x : Ev w env h₀ L m nw l t (.int a ta) t1) (y : Ev w env h₀ L m nw r t1 (.int b tb) t2) : Ev w env h₀ L m nw (.BinOp l .Add r p) t (.int (a + b) t2) (t2 + 1) :=
  ⟨⟨fun _ _ => rfl, fun _ => rfl⟩, fun F N q => bin_go F N x y (wpAny_add_int q)⟩
/- calls -/
section
variable {w : World} {mean : ExcName → Option Value} {mg mb : Str → Option Value} {A : Around} {E Q : Value → Shared → Prop} {h₀ h : Heap} {L : Addr} {m : Str → Option Value} {nw : List (Addr × Obj)} {g : Array GenState} {d : Drawn} {o : OsState} {t t' : Nat} {fn : Str} {p pos : Pos} {es : List Expr} {vs : List Value} {fv : Value} {cn : Str} {cs : Scope} {ccd : Value} {a : Addr} {env : Env}
theorem Ev.K (X : (Hd.K w.params).In h₀) (T : Top Hd.view LS mean mg mb h₀) (e : nsIn (Hd.K w.params) mainGlobals fn = some (some fv)) (hk : gbE (envOf cn cs L a ccd) fn = true) : Ev w (envOf cn cs L a ccd) h₀ L m nw (.Name fn p) t fv t :=
  ⟨⟨fun _ _ => rfl, fun _ => rfl⟩, fun F _ q => nameK F X T e q (gbE_a hk).1 (gbE_a hk).2.1 (gbE_a hk).2.2⟩
theorem Ev.B (X : (Hd.K w.params).In h₀) (T : Top Hd.view LS mean mg mb h₀) (e : nsIn (Hd.K w.params) mainGlobals fn = some none ∧ bootBuiltins fn = some fv) (hk : (gbE (envOf cn cs L a ccd) fn && !(fn == ("__name__" : Str))) = true) : Ev w (envOf cn cs L a ccd) h₀ L m nw (.Name fn p) t fv t :=
  ⟨⟨fun _ _ => rfl, fun _ => rfl⟩, fun F _ q => nameB F X T e (gbE_n hk).2 q (gbE_a (gbE_n hk).1).1 (gbE_a (gbE_n hk).1).2.1 (gbE_a (gbE_n hk).1).2.2⟩
theorem Ev.KC (X : (Hd.K w.params).In h₀) (T : Top Hd.view LS mean mg mb h₀) (e : nsIn (Hd.K w.params) mainGlobals fn = some (some fv)) (hk : gbE (envOfC cn cs L a ccd) fn = true) : Ev w (envOfC cn cs L a ccd) h₀ L m nw (.Name fn p) t fv t :=
  ⟨⟨fun _ _ => rfl, fun _ => rfl⟩, fun F _ q => W.nameX_K (cl := cellsFrom (L + 1) cs.names []) F X (topRead_of T) e q (gbE_a hk).1 (gbE_a hk).2.1 (gbE_a hk).2.2⟩
theorem Ev.BC (X : (Hd.K w.params).In h₀) (T : Top Hd.view LS mean mg mb h₀) (e : nsIn (Hd.K w.params) mainGlobals fn = some none ∧ bootBuiltins fn = some fv) (hk : (gbE (envOfC cn cs L a ccd) fn && !(fn == ("__name__" : Str))) = true) : Ev w (envOfC cn cs L a ccd) h₀ L m nw (.Name fn p) t fv t :=
  ⟨⟨fun _ _ => rfl, fun _ => rfl⟩, fun F _ q => W.nameX_B (cl := cellsFrom (L + 1) cs.names []) F X (topRead_of T) e.1 e.2 (gbE_n hk).2 q (gbE_a (gbE_n hk).1).1 (gbE_a (gbE_n hk).1).2.1 (gbE_a (gbE_n hk).1).2.2⟩
theorem callN (ev : eval (.Call (.Name fn p) es [] pos) env = (do callWith pos (← eval (.Name fn p) env) [] (backTo pos (starEach es env)) (backToKw pos (keywordEach [] env)))) (F : Fr h₀ L h m) (N : News h₀ L h nw) (f : Ev w env h₀ L m nw (.Name fn p) t fv t)
    (q : wpAny (Mw w) A (callWith pos fv [] (backTo pos (starEach es env)) []) Q E ⟨h, g, d, t, o⟩) : wpAny (Mw w) A (eval (.Call (.Name fn p) es [] pos) env) Q E ⟨h, g, d, t, o⟩ :=
  Call_ (f.run F N q) ev
theorem call_K (F : Fr h₀ L h m) (N : News h₀ L h nw) (X : (Hd.K w.params).In h₀) (f : Ev w env h₀ L m nw (.Name fn p) t fv t) (b : EvL w env h₀ L m nw es t vs t') (hk : keepIn (Hd.K w.params) fv = true)
    (q : wpAny (Mw w) A (call fv vs) Q E ⟨h, g, d, t', o⟩) : wpAny (Mw w) A (eval (.Call (.Name fn p) es [] pos) env) Q E ⟨h, g, d, t, o⟩ :=
  callN rfl F N f (callWith_of (by rw [b.1 pos]; rfl) (keeps_K hk) (b.args F N ⟨X.keeps F.keep, q⟩))
theorem call_B {id : String} (F : Fr h₀ L h m) (N : News h₀ L h nw) (f : Ev w env h₀ L m nw (.Name fn p) t (.builtin id) t) (b : EvL w env h₀ L m nw es t vs t')
    (q : wpAny (Mw w) A (call (.builtin id) vs) Q E ⟨h, g, d, t', o⟩) : wpAny (Mw w) A (eval (.Call (.Name fn p) es [] pos) env) Q E ⟨h, g, d, t, o⟩ :=
  callN rfl F N f (callWith_builtin (b.1 pos) (b.args F N q))
theorem call_T {id : String} (F : Fr h₀ L h m) (N : News h₀ L h nw) (f : Ev w env h₀ L m nw (.Name fn p) t (.type id) t) (b : EvL w env h₀ L m nw es t vs t')
    (q : wpAny (Mw w) A (call (.type id) vs) Q E ⟨h, g, d, t', o⟩) : wpAny (Mw w) A (eval (.Call (.Name fn p) es [] pos) env) Q E ⟨h, g, d, t, o⟩ :=
  callN rfl F N f (PySem.callWith_type (b.1 pos) (b.args F N q))
end
/- a text among written ones -/
inductive StrLits : List Expr → List Str → Prop
  | nil : StrLits [] []
  | cons {x : Str} {k : Nat} {p : Pos} {r : List Expr} {ys : List Str} : StrLits r ys → StrLits (.Constant (.str x) k p :: r) (x :: ys)
theorem StrLits.ev {w : World} {env : Env} {h₀ : Heap} {L : Addr} {m : Str → Option Value} {nw : List (Addr × Obj)} {es : List Expr} {ys : List Str} (h : StrLits es ys) : ∀ t, ∃ vs t', EvL w env h₀ L m nw es t vs t' ∧ StrsAre vs ys := by
  induction h with
  | nil => exact fun t => ⟨_, _, .nil, .nil⟩
  | cons _ ih => exact fun t => let ⟨_, _, a, b⟩ := ih (t + 1); ⟨_, _, .cons .str a, .cons _ _ b⟩
theorem strsAre_length {vs : List Value} {ys : List Str} (h : StrsAre vs ys) : vs.length = ys.length := by
  induction h with
  | nil => rfl
  | cons _ _ _ ih => rw [List.length_cons, List.length_cons, ih]
section
variable {w : World} {A : Around} {E Q : Value → Shared → Prop} {QB : Bool → Shared → Prop} {h₀ h : Heap} {L : Addr} {m : Str → Option Value} {nw : List (Addr × Obj)} {g : Array GenState} {d : Drawn} {o : OsState} {t t1 : Nat} {p pos : Pos} {es : List Expr} {l : Expr} {x : Str} {tx : Tok} {ys : List Str} {k : Nat} {env : Env}
theorem in_lits (F : Fr h₀ L h m) (N : News h₀ L h nw) (a : Ev w env h₀ L m nw l t (.str x tx) t1) (b : StrLits es ys) (hz : Nat.ble ys.length 1000 = true)
    (q : ∀ h' t', Fr h₀ L h' m → News h₀ L h' nw → Q (.bool (ys.any (· == x))) ⟨h', g, d, t', o⟩) : wpAny (Mw w) A (eval (.Compare l [.In] [.Tuple es k p] pos) env) Q E ⟨h, g, d, t, o⟩ := by
  obtain ⟨vs, t', b1, b2⟩ := b.ev (w := w) (env := env) (h₀ := h₀) (L := L) (m := m) (nw := nw) t1
  have hl := strsAre_length b2
  have hz := Nat.le_of_ble_eq_true hz
  refine wpAny_Compare1 (a.run F N (tup_go F N b1 (newTuple_N F N (fun h' F' N' => ?_) (by unfold sizeLine; omega)))) rfl
  exact in_tuple_strs (News.isTup N' (.head _)) b2 (q _ _ F' fun p hp => N' p (.tail _ hp))
theorem in_litsT {whole : Sem Value} (F : Fr h₀ L h m) (N : News h₀ L h nw) (a : Ev w env h₀ L m nw l t (.str x tx) t1) (b : StrLits es ys) (hz : Nat.ble ys.length 1000 = true)
    (q : ∀ h' t', Fr h₀ L h' m → News h₀ L h' nw → QB (ys.any (· == x)) ⟨h', g, d, t', o⟩) : wpAny (Mw w) A (isTrue (.Compare l [.In] [.Tuple es k p] pos) env whole) QB E ⟨h, g, d, t, o⟩ := by
  obtain ⟨vs, t', b1, b2⟩ := b.ev (w := w) (env := env) (h₀ := h₀) (L := L) (m := m) (nw := nw) t1
  have hl := strsAre_length b2
  have hz := Nat.le_of_ble_eq_true hz
  refine wpAny_isTrue_Compare1 (a.run F N (tup_go F N b1 (newTuple_N F N (fun h' F' N' => ?_) (by unfold sizeLine; omega)))) rfl
  exact in_tuple_strs (News.isTup N' (.head _)) b2 (wpAny_truthy_bool (q _ _ F' fun p hp => N' p (.tail _ hp)))
theorem notin_litsT {whole : Sem Value} (F : Fr h₀ L h m) (N : News h₀ L h nw) (a : Ev w env h₀ L m nw l t (.str x tx) t1) (b : StrLits es ys) (hz : Nat.ble ys.length 1000 = true)
    (q : ∀ h' t', Fr h₀ L h' m → News h₀ L h' nw → QB (!(ys.any (· == x))) ⟨h', g, d, t', o⟩) : wpAny (Mw w) A (isTrue (.Compare l [.NotIn] [.Tuple es k p] pos) env whole) QB E ⟨h, g, d, t, o⟩ := by
  obtain ⟨vs, t', b1, b2⟩ := b.ev (w := w) (env := env) (h₀ := h₀) (L := L) (m := m) (nw := nw) t1
  have hl := strsAre_length b2
  have hz := Nat.le_of_ble_eq_true hz
  refine wpAny_isTrue_Compare1 (a.run F N (tup_go F N b1 (newTuple_N F N (fun h' F' N' => ?_) (by unfold sizeLine; omega)))) rfl
  exact notin_tuple_strs (News.isTup N' (.head _)) b2 (wpAny_truthy_bool (q _ _ F' fun p hp => N' p (.tail _ hp)))
end
/- calls by contract, the value put in -/
section
variable {w : World} {mean : ExcName → Option Value} {mg mb : Str → Option Value} {d u : Nat} {f : Addr} {vs : List Value} {Pre : Heap → Prop} {A : Around} {Q E : Value → Shared → Prop} {h₀ h : Heap} {L : Addr} {m : Str → Option Value} {nw : List (Addr × Obj)} {g : Array GenState} {dr : Drawn} {t : Nat} {o : OsState}
theorem use1 {x : Value} (P : Pure w mean mg mb d u f vs Pre fun _ r _ => r = x) (F : Fr h₀ L h m) (N : News h₀ L h nw) (X : (Hd.K w.params).In h₀) (T : Top Hd.view LS mean mg mb h₀)
    (e1 : A.handled = none) (e2 : A.depth ≤ d) (e3 : A.units ≤ u) (hp : Pre h)
    (k : ∀ h' t', Fr h₀ L h' m → News h₀ L h' nw → Q x ⟨h', g, dr, t', o⟩) : wpAny (Mw w) A (call (.ref f) vs) Q E ⟨h, g, dr, t, o⟩ :=
  useP P F N X T e1 e2 e3 hp fun v h' t' F' N' _ e => by subst e; exact k h' t' F' N'
theorem use2 {x : Tok → Value} (P : Pure w mean mg mb d u f vs Pre fun _ r _ => ∃ a, r = x a) (F : Fr h₀ L h m) (N : News h₀ L h nw) (X : (Hd.K w.params).In h₀) (T : Top Hd.view LS mean mg mb h₀)
    (e1 : A.handled = none) (e2 : A.depth ≤ d) (e3 : A.units ≤ u) (hp : Pre h)
    (k : ∀ a h' t', Fr h₀ L h' m → News h₀ L h' nw → Q (x a) ⟨h', g, dr, t', o⟩) : wpAny (Mw w) A (call (.ref f) vs) Q E ⟨h, g, dr, t, o⟩ :=
  useP P F N X T e1 e2 e3 hp fun v h' t' F' N' _ ⟨a, e⟩ => by subst e; exact k a h' t' F' N'
theorem use3 {x : Tok → Value} {R S : Prop} (P : Pure w mean mg mb d u f vs Pre fun _ r _ => ∃ a, r = x a ∧ R ∧ S) (F : Fr h₀ L h m) (N : News h₀ L h nw) (X : (Hd.K w.params).In h₀) (T : Top Hd.view LS mean mg mb h₀)
    (e1 : A.handled = none) (e2 : A.depth ≤ d) (e3 : A.units ≤ u) (hp : Pre h)
    (k : ∀ a h' t', Fr h₀ L h' m → News h₀ L h' nw → R → S → Q (x a) ⟨h', g, dr, t', o⟩) : wpAny (Mw w) A (call (.ref f) vs) Q E ⟨h, g, dr, t, o⟩ :=
  useP P F N X T e1 e2 e3 hp fun v h' t' F' N' _ ⟨a, e, r, s⟩ => by subst e; exact k a h' t' F' N' r s
end
/- expressions whose evaluation may add objects; x gives the value by its mark -/
structure EvC (w : World) (A : Around) (env : Env) (h₀ : Heap) (L : Addr) (m : Str → Option Value) (nw : List (Addr × Obj)) (e : Expr) (t : Nat) (x : Tok → Value) : Prop where
  st : PlainE e
  run : ∀ {E Q : Value → Shared → Prop} {h : Heap} {g : Array GenState} {d : Drawn} {o : OsState}, Fr h₀ L h m → News h₀ L h nw → (∀ a h' t', Fr h₀ L h' m → News h₀ L h' nw → Q (x a) ⟨h', g, d, t', o⟩) → wpAny (Mw w) A (eval e env) Q E ⟨h, g, d, t, o⟩
section
variable {w : World} {mean : ExcName → Option Value} {mg mb : Str → Option Value} {du u : Nat} {f : Addr} {vs : List Value} {Pre : Heap → Prop} {A : Around} {h₀ : Heap} {L : Addr} {m : Str → Option Value} {nw : List (Addr × Obj)} {env : Env} {fn : Str} {p pos : Pos} {es : List Expr} {t t' : Nat}
theorem EvC.use {Post : Heap → Value → Heap → Prop} {x : Tok → Value} (f' : Ev w env h₀ L m nw (.Name fn p) t (.ref f) t) (b : EvL w env h₀ L m nw es t vs t') (hk : keepIn (Hd.K w.params) (.ref f) = true) (X : (Hd.K w.params).In h₀) (T : Top Hd.view LS mean mg mb h₀)
    (P : Pure w mean mg mb du u f vs Pre Post) (k : ∀ h v h', Post h v h' → ∃ a, v = x a) (e1 : A.handled = none) (e2 : A.depth ≤ du) (e3 : A.units ≤ u) (hp : ∀ {h}, Fr h₀ L h m → Pre h) : EvC w A env h₀ L m nw (.Call (.Name fn p) es [] pos) t x :=
  ⟨⟨fun _ _ => rfl, fun _ => rfl⟩, fun F N q => call_K F N X f' b hk (useP P F N X T e1 e2 e3 (hp F) fun v h' t' F' N' _ z => let ⟨a, e⟩ := k _ _ _ z; by subst e; exact q a h' t' F' N')⟩
theorem EvC.use1 {x : Value} (f' : Ev w env h₀ L m nw (.Name fn p) t (.ref f) t) (b : EvL w env h₀ L m nw es t vs t') (hk : keepIn (Hd.K w.params) (.ref f) = true) (X : (Hd.K w.params).In h₀) (T : Top Hd.view LS mean mg mb h₀)
    (P : Pure w mean mg mb du u f vs Pre fun _ r _ => r = x) (e1 : A.handled = none) (e2 : A.depth ≤ du) (e3 : A.units ≤ u) (hp : ∀ {h}, Fr h₀ L h m → Pre h) : EvC w A env h₀ L m nw (.Call (.Name fn p) es [] pos) t (fun _ => x) :=
  .use f' b hk X T P (fun _ _ _ e => ⟨0, e⟩) e1 e2 e3 hp
theorem EvC.use2 {x : Tok → Value} (f' : Ev w env h₀ L m nw (.Name fn p) t (.ref f) t) (b : EvL w env h₀ L m nw es t vs t') (hk : keepIn (Hd.K w.params) (.ref f) = true) (X : (Hd.K w.params).In h₀) (T : Top Hd.view LS mean mg mb h₀)
    (P : Pure w mean mg mb du u f vs Pre fun _ r _ => ∃ a, r = x a) (e1 : A.handled = none) (e2 : A.depth ≤ du) (e3 : A.units ≤ u) (hp : ∀ {h}, Fr h₀ L h m → Pre h) : EvC w A env h₀ L m nw (.Call (.Name fn p) es [] pos) t x :=
  .use f' b hk X T P (fun _ _ _ e => e) e1 e2 e3 hp
/- who takes them -/
variable {E Q : Value → Shared → Prop} {QB : Bool → Shared → Prop} {QF : Flow → Shared → Prop} {h : Heap} {g : Array GenState} {d : Drawn} {o : OsState} {e r : Expr} {x : Tok → Value} {y : Str} {v : Value} {p' : Pos} {ys : List Str} {k : Nat}
theorem st_go (F : Fr h₀ L h m) (N : News h₀ L h nw) (hL : env.locals = L) (hk : lcE env y = true) (q : ∀ h', Fr h₀ L h' (fun z => if z = y then some v else m z) → News h₀ L h' nw → QF .next ⟨h', g, d, t + 1, o⟩) : wpAny (Mw w) A (storeName env y v) (fun _ => QF .next) E ⟨h, g, d, t, o⟩ := by
  subst hL
  exact wpAny_storeName_local (lcE_a hk).2.1 F.ns (fun h' hn hs => q h' (F.set hn hs) (N.set hs)) (by rw [(lcE_a hk).1]; rfl)
theorem asg_E (F : Fr h₀ L h m) (N : News h₀ L h nw) (a : Ev w env h₀ L m nw e t v t') (hs : swapsWith e (some (.Name y p')) pos.line env = pure false) (hL : env.locals = L) (hk : lcE env y = true)
    (q : ∀ h', Fr h₀ L h' (fun z => if z = y then some v else m z) → News h₀ L h' nw → QF .next ⟨h', g, d, t' + 1, o⟩) : wpAny (Mw w) A (exec (.Assign [.Name y p'] e pos) env) QF E ⟨h, g, d, t, o⟩ :=
  wpAny_Assign_Name (a.run F N (st_go F N hL hk q)) hs
theorem asg_C (F : Fr h₀ L h m) (N : News h₀ L h nw) (c : EvC w A env h₀ L m nw e t x) (hs : swapsWith e (some (.Name y p')) pos.line env = pure false) (hL : env.locals = L) (hk : lcE env y = true)
    (q : ∀ a h' t', Fr h₀ L h' (fun z => if z = y then some (x a) else m z) → News h₀ L h' nw → QF .next ⟨h', g, d, t', o⟩) : wpAny (Mw w) A (exec (.Assign [.Name y p'] e pos) env) QF E ⟨h, g, d, t, o⟩ :=
  wpAny_Assign_Name (c.run F N fun a _ _ F' N' => st_go F' N' hL hk fun h' => q a h' _) hs
theorem ret_C (F : Fr h₀ L h m) (N : News h₀ L h nw) (c : EvC w A env h₀ L m nw e t x) (q : ∀ a h' t', Fr h₀ L h' m → News h₀ L h' nw → QF (.ret (x a)) ⟨h', g, d, t', o⟩) : wpAny (Mw w) A (exec (.Return (some e) pos) env) QF E ⟨h, g, d, t, o⟩ :=
  wpAny_Return_some (c.run F N q)
theorem tst_C {b : Bool} (F : Fr h₀ L h m) (N : News h₀ L h nw) (c : EvC w A env h₀ L m nw e t fun _ => .bool b) (he : isTrue e env (eval e env) = (do let v ← eval e env; standAt e.pos; holding [v] (truthy v)))
    (q : ∀ h' t', Fr h₀ L h' m → News h₀ L h' nw → QB b ⟨h', g, d, t', o⟩) : wpAny (Mw w) A (isTrue e env (eval e env)) QB E ⟨h, g, d, t, o⟩ :=
  isTrue_plain (c.run F N fun _ h' t' F' N' => wpAny_truthy_bool (q h' t' F' N')) he
theorem ev_C (F : Fr h₀ L h m) (N : News h₀ L h nw) (c : EvC w A env h₀ L m nw e t x) (q : ∀ a h' t', Fr h₀ L h' m → News h₀ L h' nw → Q (x a) ⟨h', g, d, t', o⟩) : wpAny (Mw w) A (eval e env) Q E ⟨h, g, d, t, o⟩ := c.run F N q
theorem eq_C {z : Str} {whole : Sem Value} (F : Fr h₀ L h m) (N : News h₀ L h nw) (c : EvC w A env h₀ L m nw e t fun a => .str z a) (q : ∀ h' t', Fr h₀ L h' m → News h₀ L h' nw → QB (z == y) ⟨h', g, d, t', o⟩) :
    wpAny (Mw w) A (isTrue (.Compare e [.Eq] [.Constant (.str y) k p'] pos) env whole) QB E ⟨h, g, d, t, o⟩ :=
  wpAny_isTrue_Compare1 (c.run F N fun _ h' t' F' N' => Ev.str.run (w := w) F' N' (eq_str (wpAny_truthy_bool (q h' _ F' N')))) rfl
theorem eqv_C {z : Str} (F : Fr h₀ L h m) (N : News h₀ L h nw) (c : EvC w A env h₀ L m nw e t fun a => .str z a) (q : ∀ h' t', Fr h₀ L h' m → News h₀ L h' nw → Q (.bool (z == y)) ⟨h', g, d, t', o⟩) :
    wpAny (Mw w) A (eval (.Compare e [.Eq] [.Constant (.str y) k p'] pos) env) Q E ⟨h, g, d, t, o⟩ :=
  wpAny_Compare1 (c.run F N fun _ h' t' F' N' => Ev.str.run (w := w) F' N' (eq_str (q h' _ F' N'))) rfl
theorem in_C {z : Str} {whole : Sem Value} (F : Fr h₀ L h m) (N : News h₀ L h nw) (c : EvC w A env h₀ L m nw e t fun a => .str z a) (b : StrLits es ys) (hz : Nat.ble ys.length 1000 = true)
    (q : ∀ h' t', Fr h₀ L h' m → News h₀ L h' nw → QB (ys.any (· == z)) ⟨h', g, d, t', o⟩) : wpAny (Mw w) A (isTrue (.Compare e [.In] [.Tuple es k p'] pos) env whole) QB E ⟨h, g, d, t, o⟩ :=
  wpAny_isTrue_Compare1 (c.run F N fun _ h' t' F' N' => let ⟨_, _, b1, b2⟩ := b.ev (w := w) (env := env) (h₀ := h₀) (L := L) (m := m) (nw := nw) t'
    tup_go F' N' b1 (newTuple_N F' N' (fun h' F' N' => in_tuple_strs (News.isTup N' (.head _)) b2 (wpAny_truthy_bool (q _ _ F' fun p hp => N' p (.tail _ hp)))) (by have := strsAre_length b2; have := Nat.le_of_ble_eq_true hz; unfold sizeLine; omega))) rfl
theorem notin_C {z : Str} {whole : Sem Value} (F : Fr h₀ L h m) (N : News h₀ L h nw) (c : EvC w A env h₀ L m nw e t fun a => .str z a) (b : StrLits es ys) (hz : Nat.ble ys.length 1000 = true)
    (q : ∀ h' t', Fr h₀ L h' m → News h₀ L h' nw → QB (!(ys.any (· == z))) ⟨h', g, d, t', o⟩) : wpAny (Mw w) A (isTrue (.Compare e [.NotIn] [.Tuple es k p'] pos) env whole) QB E ⟨h, g, d, t, o⟩ :=
  wpAny_isTrue_Compare1 (c.run F N fun _ h' t' F' N' => let ⟨_, _, b1, b2⟩ := b.ev (w := w) (env := env) (h₀ := h₀) (L := L) (m := m) (nw := nw) t'
    tup_go F' N' b1 (newTuple_N F' N' (fun h' F' N' => notin_tuple_strs (News.isTup N' (.head _)) b2 (wpAny_truthy_bool (q _ _ F' fun p hp => N' p (.tail _ hp)))) (by have := strsAre_length b2; have := Nat.le_of_ble_eq_true hz; unfold sizeLine; omega))) rfl
end
theorem EvC.cut {w : World} {A : Around} {env : Env} {h₀ : Heap} {L : Addr} {m : Str → Option Value} {nw : List (Addr × Obj)} {lo hi : Expr} {t t1 t2 t3 : Nat} {x y : Str} {tx ti tj : Tok} {i j : Int} {p p0 sp : Pos} (a : Ev w env h₀ L m nw (.Name y p0) t (.str x tx) t1) (b : Ev w env h₀ L m nw lo t1 (.int i ti) t2) (c : Ev w env h₀ L m nw hi t2 (.int j tj) t3) (hz : x.length ≤ sizeLine) :
    EvC w A env h₀ L m nw (.Subscript (.Name y p0) (.Slice (some lo) (some hi) none sp) p) t (fun k => .str (Txt.slice x (some i) (some j)) k) :=
  ⟨⟨fun _ _ => rfl, fun _ => rfl⟩, fun F N q => Subscript_ (a.run F N (wpAny_Slice (evalPart_some_step (b.run F N (evalPart_some_step (c.run F N (evalPart_none_step (slice_strN_ss_len (s := ⟨_, _, _, _, _⟩) F N (fun h' t' k F' N' _ => q t' h' k F' N') (hsz := hz)))))))))⟩
/- statements of a list -/
section
variable {w : World} {A : Around} {E : Value → Shared → Prop} {K : Flow → Shared → Prop} {h₀ h : Heap} {L : Addr} {m : Str → Option Value} {nw : List (Addr × Obj)} {g : Array GenState} {d : Drawn} {o : OsState} {t t' : Nat} {p' pos : Pos} {e : Expr} {x : Tok → Value} {y : Str} {v : Value} {env : Env} {rest : List Stmt}
theorem asgs_E (F : Fr h₀ L h m) (N : News h₀ L h nw) (a : Ev w env h₀ L m nw e t v t') (hs : swapsWith e (some (.Name y p')) pos.line env = pure false) (hL : env.locals = L) (hk : lcE env y = true)
    (q : ∀ h', Fr h₀ L h' (fun z => if z = y then some v else m z) → News h₀ L h' nw → wpAny (Mw w) A (execs rest env) K E ⟨h', g, d, t' + 1, o⟩) : wpAny (Mw w) A (execs (.Assign [.Name y p'] e pos :: rest) env) K E ⟨h, g, d, t, o⟩ :=
  wpAny_execs_cons (asg_E F N a hs hL hk q)
theorem asgs_C (F : Fr h₀ L h m) (N : News h₀ L h nw) (c : EvC w A env h₀ L m nw e t x) (hs : swapsWith e (some (.Name y p')) pos.line env = pure false) (hL : env.locals = L) (hk : lcE env y = true)
    (q : ∀ a h' t', Fr h₀ L h' (fun z => if z = y then some (x a) else m z) → News h₀ L h' nw → wpAny (Mw w) A (execs rest env) K E ⟨h', g, d, t', o⟩) : wpAny (Mw w) A (execs (.Assign [.Name y p'] e pos :: rest) env) K E ⟨h, g, d, t, o⟩ :=
  wpAny_execs_cons (asg_C F N c hs hL hk q)
theorem rets_E (F : Fr h₀ L h m) (N : News h₀ L h nw) (a : Ev w env h₀ L m nw e t v t') (q : K (.ret v) ⟨h, g, d, t', o⟩) : wpAny (Mw w) A (execs (.Return (some e) pos :: rest) env) K E ⟨h, g, d, t, o⟩ :=
  wpAny_execs_cons (ret_go F N a q)
theorem rets_C (F : Fr h₀ L h m) (N : News h₀ L h nw) (c : EvC w A env h₀ L m nw e t x) (q : ∀ a h' t', Fr h₀ L h' m → News h₀ L h' nw → K (.ret (x a)) ⟨h', g, d, t', o⟩) : wpAny (Mw w) A (execs (.Return (some e) pos :: rest) env) K E ⟨h, g, d, t, o⟩ :=
  wpAny_execs_cons (ret_C F N c q)
end
theorem zw2 : True := by
  k_with "ev" => (case fT => (first | exact Mine.Ev.str | exact Mine.Ev.int | exact Mine.Ev.no | exact Mine.Ev.bool | (refine' Mine.Ev.addi ?a4 ?a5; (case a4 => k_extra "ev"); (case a5 => k_extra "ev")) | (refine' Mine.Ev.loc ?a1 ?a2 ?a3; (case a1 => k_extra "look"); (case a2 => exact rfl); (case a3 => exact rfl)) | k_extra "evK" | k_extra "evB"))
  k_with "evs" => (case fT => (first | exact Mine.EvL.nil | (refine' Mine.EvL.cons ?b1 ?b2; (case b1 => k_extra "ev"); (case b2 => k_extra "evs"))))
  k_with "evK" => (case fT => (first | (refine' Mine.Ev.K ?c1 ?c2 ?c3 ?c4; (case c3 => k_extra "nmK"); (case c1 => k_extra "A"); (case c2 => k_extra "A"); (case c4 => exact rfl)) | (refine' Mine.Ev.KC ?c1 ?c2 ?c3 ?c4; (case c3 => k_extra "nmK"); (case c1 => k_extra "A"); (case c2 => k_extra "A"); (case c4 => exact rfl))))
  k_with "evB" => (case fT => (first | (refine' Mine.Ev.B ?c1 ?c2 ?c3 ?c4; (case c3 => k_extra "nmB"); (case c1 => k_extra "A"); (case c2 => k_extra "A"); (case c4 => exact rfl)) | (refine' Mine.Ev.BC ?c1 ?c2 ?c3 ?c4; (case c3 => k_extra "nmB"); (case c1 => k_extra "A"); (case c2 => k_extra "A"); (case c4 => exact rfl))))
  k_with "lits" => (case fT => (first | exact Mine.StrLits.nil | (refine' Mine.StrLits.cons ?b1; (case b1 => k_extra "lits"))))
  k_with "@eval Constant" => (case fT => (k_dflt (refine' Mine.ev_go ?F ?N ?a ?_; (case F => k_extra "A"); (case N => k_extra "A"); (case a => k_extra "ev"))))
  k_with "@spliced" => (case fT => (k_dflt (refine' Mine.args_go ?F ?N ?a ?_; (case F => k_extra "A"); (case N => k_extra "A"); (case a => k_extra "evs"); (try dsimp only [List.cons_append, List.nil_append]))))
  k_with "@eval BinOp" => (case fT => (k_dflt (refine' Mine.bin_go ?F ?N ?a ?b ?_; (case F => k_extra "A"); (case N => k_extra "A"); (case a => k_extra "ev"); (case b => k_extra "ev"))))
  k_with "@eval Subscript" => (case fT => (k_dflt (refine' Mine.sub_go ?F ?N ?a ?b ?_; (case F => k_extra "A"); (case N => k_extra "A"); (case a => k_extra "ev"); (case b => k_extra "ev"))))
  k_with "@eval Tuple" => (case fT => (k_dflt (refine' Mine.tup_go ?F ?N ?a ?_; (case F => k_extra "A"); (case N => k_extra "A"); (case a => k_extra "evs"))))
  k_with "@exec Return some" => (case fT => (k_dflt (refine' Mine.ret_go ?F ?N ?a ?_; (case F => k_extra "A"); (case N => k_extra "A"); (case a => k_extra "ev"))))
  k_with "@eval Compare" => (case fT => (k_dflt (first
  | ((with_reducible show wpAny _ _ (eval (Expr.Compare _ [CmpOp.In] [Expr.Tuple _ _ _] _) _) _ _ _); refine' Mine.in_lits ?F ?N ?a ?b ?c ?_; (case F => k_extra "A"); (case N => k_extra "A"); (case b => k_extra "lits"); (case a => k_extra "ev"); (case c => exact rfl); intro h' tk' F' N'; (try k_sweep))
  | (refine' Mine.cmpv_go ?F ?N ?a ?b ?_; (case F => k_extra "A"); (case N => k_extra "A"); (case a => k_extra "ev"); (case b => k_extra "ev")))))
  k_with "@isTrue Compare" => (case fT => (k_dflt (first
  | ((with_reducible show wpAny _ _ (isTrue (Expr.Compare _ [CmpOp.In] [Expr.Tuple _ _ _] _) _ _) _ _ _); refine' Mine.in_litsT ?F ?N ?a ?b ?c ?_; (case F => k_extra "A"); (case N => k_extra "A"); (case b => k_extra "lits"); (case a => k_extra "ev"); (case c => exact rfl); intro h' tk' F' N'; (try k_sweep))
  | ((with_reducible show wpAny _ _ (isTrue (Expr.Compare _ [CmpOp.NotIn] [Expr.Tuple _ _ _] _) _ _) _ _ _); refine' Mine.notin_litsT ?F ?N ?a ?b ?c ?_; (case F => k_extra "A"); (case N => k_extra "A"); (case b => k_extra "lits"); (case a => k_extra "ev"); (case c => exact rfl); intro h' tk' F' N'; (try k_sweep))
  | ((with_reducible show wpAny _ _ (isTrue (Expr.Compare _ [CmpOp.Eq] _ _) _ _) _ _ _); refine' Mine.tst_go ?F ?N (Mine.Tst.eqs ?a ?b) ?_; (case F => k_extra "A"); (case N => k_extra "A"); (case a => k_extra "ev"); (case b => k_extra "ev"))
  | (refine' Mine.cmp_go ?F ?N ?a ?b ?_; (case F => k_extra "A"); (case N => k_extra "A"); (case a => k_extra "ev"); (case b => k_extra "ev")))))
  k_with "@eval Call" => (case fT => (k_dflt (first
  | (refine' Mine.call_K ?F ?N ?X ?f ?a ?k ?_; (case F => k_extra "A"); (case N => k_extra "A"); (case X => k_extra "A"); (case f => k_extra "evK"); (case a => k_extra "evs"); (case k => k_is))
  | (refine' Mine.call_B ?F ?N ?f ?a ?_; (case F => k_extra "A"); (case N => k_extra "A"); (case f => k_extra "evB"); (case a => k_extra "evs"))
  | (refine' Mine.call_T ?F ?N ?f ?a ?_; (case F => k_extra "A"); (case N => k_extra "A"); (case f => k_extra "evB"); (case a => k_extra "evs")))))
  k_with "evC" => (case fT => (first
  | (refine' Mine.EvC.use1 ?f ?b ?k ?X ?T ?P ?e1 ?e2 ?e3 ?hp; k_extra "evU")
  | (refine' Mine.EvC.use2 ?f ?b ?k ?X ?T ?P ?e1 ?e2 ?e3 ?hp; k_extra "evU")))
  k_with "evD" => (case fT => (first
  | (refine' Mine.EvC.cut ?a ?b ?c ?z; (case a => k_extra "ev"); (case b => k_extra "ev"); (case c => k_extra "ev"); (case z => size_fits))
  | k_extra "evC"))
  k_with "@exec Assign" => (case fT => (k_dflt (first
  | ((with_reducible show wpAny _ _ (exec (Stmt.Assign [Expr.Name _ _] _ _) _) _ _ _); refine' Mine.asg_E ?F ?N ?a ?s ?l ?k ?_; k_extra "FN"; (case a => k_extra "ev"); (case s => exact rfl); (case l => exact rfl); (case k => exact rfl); intro h' F' N'; (try k_sweep))
  | ((with_reducible show wpAny _ _ (exec (Stmt.Assign [Expr.Name _ _] (Expr.Call (Expr.Name _ _) _ _ _) _) _) _ _ _); refine' Mine.asg_C ?F ?N ?c ?s ?l ?k ?_; k_extra "FN"; (case c => k_extra "evC"); (case s => exact rfl); (case l => exact rfl); (case k => exact rfl); intro tv' h' tk' F' N'; (try k_sweep)))))
  k_with "@execs cons Assign" => (case fT => (k_dflt (first
  | ((with_reducible show wpAny _ _ (execs (Stmt.Assign [Expr.Name _ _] _ _ :: _) _) _ _ _); refine' Mine.asgs_E ?F ?N ?a ?s ?l ?k ?_; k_extra "FN"; (case a => k_extra "ev"); (case s => exact rfl); (case l => exact rfl); (case k => exact rfl); intro h' F' N'; (try k_sweep); (try k_gentoks))
  | ((with_reducible show wpAny _ _ (execs (Stmt.Assign [Expr.Name _ _] (Expr.Call (Expr.Name _ _) _ _ _) _ :: _) _) _ _ _); refine' Mine.asgs_C ?F ?N ?c ?s ?l ?k ?_; k_extra "FN"; (case c => k_extra "evC"); (case s => exact rfl); (case l => exact rfl); (case k => exact rfl); intro tv' h' tk' F' N'; (try k_sweep)))))
  k_with "@execs cons Return" => (case fT => (k_dflt (first
  | (refine' Mine.rets_E ?F ?N ?a ?_; k_extra "FN"; (case a => k_extra "ev"))
  | (refine' Mine.rets_C ?F ?N ?c ?_; k_extra "FN"; (case c => k_extra "evC"); intro tv' h' tk' F' N'; (try k_sweep)))))
  k_with "@isTrue Call" => (case fT => (k_dflt (refine' Mine.tst_C ?F ?N ?c ?e ?_; k_extra "FN"; (case c => k_extra "evC"); (case e => exact rfl); intro h' tk' F' N'; (try k_sweep))))
  k_with "@eval Call Name" => (case fT => (k_dflt (refine' Mine.ev_C ?F ?N ?c ?_; k_extra "FN"; (case c => k_extra "evC"); intro tv' h' tk' F' N'; (try k_sweep))))
  k_with "@eval Compare Call" => (case fT => (k_dflt ((with_reducible show wpAny _ _ (eval (Expr.Compare _ [CmpOp.Eq] [Expr.Constant _ _ _] _) _) _ _ _); refine' Mine.eqv_C ?F ?N ?c ?_; k_extra "FN"; (case c => k_extra "evC"); intro h' tk' F' N'; (try k_sweep))))
  k_with "tsc" => (case fT => (first
  | ((with_reducible show wpAny _ _ (isTrue (Expr.Compare _ [CmpOp.Eq] [Expr.Constant _ _ _] _) _ _) _ _ _); refine' Mine.eq_C ?F ?N ?c ?_; k_extra "FN"; (case c => k_extra "evD"))
  | ((with_reducible show wpAny _ _ (isTrue (Expr.Compare _ [CmpOp.In] [Expr.Tuple _ _ _] _) _ _) _ _ _); refine' Mine.in_C ?F ?N ?c ?l ?z ?_; k_extra "FN"; (case l => k_extra "lits"); (case c => k_extra "evD"); (case z => exact rfl))
  | ((with_reducible show wpAny _ _ (isTrue (Expr.Compare _ [CmpOp.NotIn] [Expr.Tuple _ _ _] _) _ _) _ _ _); refine' Mine.notin_C ?F ?N ?c ?l ?z ?_; k_extra "FN"; (case l => k_extra "lits"); (case c => k_extra "evD"); (case z => exact rfl))))
  exact True.intro
theorem ch_lt (c d : Nat) : ([c] < [d]) = (c < d) := by
  apply propext
  constructor
  · intro h
    cases h with
    | cons h => exact absurd h (by intro q; cases q)
    | rel h => exact h
  · intro h
    exact .rel h
theorem item_at (t : Str) (i : Int) (hi : 0 ≤ i) (h : i < t.length) : Txt.item t i = ⟨#[t.cps.getD i.toNat 0]⟩ := PySem.W.item_meets ⟨hi, h⟩
theorem cps0 : (Str.ofString "0").cps.toList = [48] := by decide +kernel
theorem cps9 : (Str.ofString "9").cps.toList = [57] := by decide +kernel
noncomputable def isD (c : Nat) : Bool := decide (48 ≤ c) && decide (c ≤ 57)
noncomputable def isDig (t : Str) (n : Nat) : Bool := decide (n < t.cps.size) && isD (t.cps.getD n 0)
section
variable {t : Str} {i : Int}
theorem it_lo (hi : 0 ≤ i) (h : i < t.length) : ((Txt.item t i).cps.toList < (Str.ofString "0").cps.toList) = (t.cps.getD i.toNat 0 < 48) := by rw [item_at t i hi h, cps0]; exact ch_lt _ _
theorem it_hi (hi : 0 ≤ i) (h : i < t.length) : ((Str.ofString "9").cps.toList < (Txt.item t i).cps.toList) = (57 < t.cps.getD i.toNat 0) := by rw [item_at t i hi h, cps9]; exact ch_lt _ _
theorem isDig_lt (hi : 0 ≤ i) (h : i < t.length) : isDig t i.toNat = isD (t.cps.getD i.toNat 0) := by
  rw [isDig, decide_eq_true (show i.toNat < t.cps.size from (Int.toNat_lt hi).mpr h)]
  exact Bool.true_and _
theorem dig1 (hi : 0 ≤ i) (h : i < t.length) (q : (Txt.item t i).cps.toList < (Str.ofString "0").cps.toList) : (!decide ((Txt.item t i).cps.toList < (Str.ofString "0").cps.toList)) = isDig t i.toNat := by
  rw [isDig_lt hi h, decide_eq_true q, isD, decide_eq_false (Nat.not_le_of_lt (it_lo hi h ▸ q))]
  rfl
theorem dig2 (hi : 0 ≤ i) (h : i < t.length) (q : ¬ (Txt.item t i).cps.toList < (Str.ofString "0").cps.toList) : (!decide ((Str.ofString "9").cps.toList < (Txt.item t i).cps.toList)) = isDig t i.toNat := by
  have q' : ¬ t.cps.getD i.toNat 0 < 48 := it_lo hi h ▸ q
  rw [isDig_lt hi h, isD, decide_eq_true (Nat.le_of_not_lt q'), Bool.true_and, ← decide_not]
  exact decide_eq_decide.mpr (by rw [it_hi hi h]; exact Nat.not_lt)
theorem dig3 (hi : 0 ≤ i) (q : ¬ i < t.length) : decide (i < t.length) = isDig t i.toNat := by
  rw [decide_eq_false q, isDig, decide_eq_false fun z : i.toNat < t.cps.size => q ((Int.toNat_lt hi).mp z)]
  exact (Bool.false_and _).symm
end
theorem ex_scan {j s : Nat} {u : Tok} (h : s = j) : ∃ u', Value.int (j : Int) u = .int (s : Int) u' := ⟨u, by rw [h]⟩
theorem is_digit_c {w : World} {mean mg mb} (t : Str) (tk : Tok) (i : Int) (tk' : Tok) (ht : t.length ≤ 1000) (hi : 0 ≤ i) :
    Pure w mean mg mb 990 1000 393 [.str t tk, .int i tk'] (fun _ => True) (fun _ v _ => v = .bool (isDig t i.toNat)) := by
  k_extra "E0"
  refine in_mono (A' := ⟨none, 990, A.frames, A.guards, 1000⟩) ?_ e1 e2 rfl rfl e3
  k_extra "E1"
  refine' enterZ (binds := [("text", .str t tk), ("at", .int i tk')]) W ?k1 ?kf1 ?kf2 ?kf3 ?k2 ?k3 ?k4 ?k5 ?_ ?k6 ?k7 ?k8 ?k9
  k_extra "E5"
  k_steps
  · exact hQ _ _ _ F'.keep (congrArg Value.bool (dig1 hi (by assumption) (by assumption)))
  · exact hQ _ _ _ F'.keep (congrArg Value.bool (dig2 hi (by assumption) (by assumption)))
  · exact hQ _ _ _ F'.keep (congrArg Value.bool (dig3 hi (by assumption)))
theorem zw3 : True := by
  k_with "@call ref" => (case fT => ((k_dflt (refine' Mine.use1 (is_digit_c _ _ _ _ ?k0 ?ki) ?u1 ?u2 ?u3 ?u4 ?u5 ?u6 ?u7 ?u8 ?_; k_extra "uup"; (case k0 => k_extra "AO"); (case ki => (first | assumption | exact Int.natCast_nonneg _ | omega))); intro h' tk' F' N'; k_extra "ut")))
  k_with "con" => (case fT => ((refine' is_digit_c _ _ _ _ ?k0 ?ki)))
  exact True.intro
theorem scan_go {p : Nat → Bool} {t : Str} {n : Nat} (h1 : n < t.cps.size) (h2 : p (t.cps.getD n 0) = true) : scan p t n = scan p t (n + 1) := by
  have hd : t.cps.toList.drop n = t.cps.getD n 0 :: t.cps.toList.drop (n + 1) := by
    rw [List.drop_eq_getElem_cons (by simpa using h1)]
    simp [Array.getD, h1]
  unfold scan
  rw [hd, List.takeWhile_cons, h2]
  simp only [if_true, List.length_cons]
  omega
theorem scan_end {p : Nat → Bool} {t : Str} {n : Nat} (h : ¬ (n < t.cps.size ∧ p (t.cps.getD n 0) = true)) : scan p t n = n := by
  unfold scan
  by_cases h1 : n < t.cps.size
  · have hd : t.cps.toList.drop n = t.cps.getD n 0 :: t.cps.toList.drop (n + 1) := by
      rw [List.drop_eq_getElem_cons (by simpa using h1)]
      simp [Array.getD, h1]
    have h2 : p (t.cps.getD n 0) = false := by
      cases q : p (t.cps.getD n 0) with
      | false => rfl
      | true => exact absurd ⟨h1, q⟩ h
    rw [hd, List.takeWhile_cons, h2]
    simp
  · rw [List.drop_eq_nil_of_le (by simpa using Nat.le_of_not_lt h1)]
    simp
theorem turn_nat {n j c : Nat} (h : n + j = 1001 + c) (hj : j < c) : n - 1 < n ∧ n - 1 + (j + 1) = 1001 + c := by
  cases n with
  | zero => exact absurd hj (Nat.not_lt.mpr (Nat.le_trans (Nat.le_add_left c 1001) (Nat.le_of_eq (h.symm.trans (Nat.zero_add j)))))
  | succ n => exact ⟨Nat.lt_succ_self n, (Nat.succ_add_eq_add_succ n j).symm.trans h⟩
theorem far_nat {i c : Nat} (h : (i : Int) ≤ 1000) : 1001 + c - i + i = 1001 + c :=
  Nat.sub_add_cancel (Nat.le_trans (Int.ofNat_le.mp h) (Nat.le_trans (Nat.le_succ _) (Nat.le_add_right _ _)))
theorem isDig_a {t : Str} {n : Nat} (h : isDig t n = true) : n < t.cps.size ∧ isD (t.cps.getD n 0) = true := by
  rw [isDig, Bool.and_eq_true, decide_eq_true_eq] at h
  exact h
theorem isDig_b {t : Str} {n : Nat} (h : isDig t n = false) : ¬ (n < t.cps.size ∧ isD (t.cps.getD n 0) = true) := fun ⟨a, b⟩ => by
  rw [isDig, b, decide_eq_true a] at h
  cases h
theorem While_inv0 {L : Addr} {w : World} {A : Around} {E : Value → Shared → Prop} {s : Shared} {env : Env} {h₀ : Heap} {Q : Flow → Shared → Prop} {test : Expr} {pos : Pos} {m : Str → Option Value} {body : List Stmt} (J : Nat → (Str → Option Value) → Prop) {n₀ : Nat} (F : Fr h₀ L s.heap m) (N : News h₀ L s.heap []) (hJ : J n₀ m)
    (turn : ∀ n m₁ h₁ tk₁, Fr h₀ L h₁ m₁ → News h₀ L h₁ [] → J n m₁ → wpAny (model Challenge.rw_pq0857_01.row.prog w) A (isTrue test env (eval test env)) (fun b s₂ =>
        if b = true then wpAny (model Challenge.rw_pq0857_01.row.prog w) A (execs body env) (WhileStep2 h₀ L s (fun k m nw => nw = [] ∧ J k m) Q n) E s₂ else Q .next s₂) E { s with heap := h₁, toks := tk₁ })
    (hE : PassesOwn (model Challenge.rw_pq0857_01.row.prog w) A env E) : wpAny (model Challenge.rw_pq0857_01.row.prog w) A (exec (.While test body [] pos) env) Q E s :=
  While_inv2 (fun k m nw => nw = [] ∧ J k m) F N ⟨rfl, hJ⟩ (fun n m₁ nw h tk F N ⟨en, j⟩ => by subst en; exact turn n m₁ h tk F N j) hE
theorem digits_behind_c {w : World} {mean mg mb} (t : Str) (tk : Tok) (i : Int) (tk' : Tok) (ht : t.length ≤ 1000) (hi : 0 ≤ i) (hi2 : i ≤ 1000) :
    Pure w mean mg mb 980 990 400 [.str t tk, .int i tk'] (fun _ => True) (fun _ v _ => ∃ u, v = .int (scan isD t i.toNat) u) := by
  obtain ⟨a, rfl⟩ := Int.eq_ofNat_of_zero_le hi
  k_extra "E0"
  refine in_mono (A' := ⟨none, 980, A.frames, A.guards, 990⟩) ?_ e1 e2 rfl rfl e3
  k_extra "E1"
  refine' enterZ (binds := [("text", .str t tk), ("at", .int a tk')]) W ?k1 ?kf1 ?kf2 ?kf3 ?k2 ?k3 ?k4 ?k5 ?_ ?k6 ?k7 ?k8 ?k9
  k_extra "E5"
  walk1
  refine While_inv0 (fun k m => ∃ (j : Nat) (u : Tok), m = mp [("at", .int j u), ("text", .str t tk)] ∧ k + j = (1001 : Nat) + t.length ∧ scan isD t j = scan isD t a) (n₀ := 1001 + t.length - a) F' N' ⟨a, tk', rfl, far_nat hi2, rfl⟩ ?_ PassesOwn.never
  clear F' N'
  rintro n m₁ h₂ tk₁ F' N' ⟨j, u, rfl, hk, hs⟩
  k_extra "go"
  · rename (isDig _ _ = true) => hb
    rename Fr _ _ _ _ => F'
    have hb := isDig_a hb
    have ht := turn_nat hk hb.1
    exact ⟨_, _, _, [], n - 1, rfl, F', News.nil, ht.1, rfl, j + 1, _, (mp_set _ _ _).trans (mp_dup _ _ _ _ _ rfl), ht.2, (scan_go hb.1 hb.2).symm.trans hs⟩
  · rename (isDig _ _ = false) => hb
    exact hQ _ _ _ (Fr.keep (by assumption)) (ex_scan (hs.symm.trans (scan_end (isDig_b hb))))
section
variable {w : World} {A : Around} {R : Result → Shared → Prop} {h : Heap} {g : Array GenState} {d : Drawn} {t : Nat} {os : OsState}
variable {nm q : Str} {C N : Addr} {bs bm : List Value} {hdct : Bool} {sn : List Str} {sub : List Value} {ab : Bool} {col : Option Bool} {dd : Option Addr} {k0 k1 k2 k3 k5 : Option Value} {B newId initId : String} {bmB : List Value}
theorem lo_new_ok {M : Model} {E : Value → Shared → Prop} (F : ExcBaseFacts B newId initId bmB) (hB : bm.contains (.type B) = true) {rest : List Value} {Q : Unit → Shared → Prop} (hC : h.get? C = some (excClassObj nm q C N bs bm hdct sn sub ab col dd k0 k1 k2 k3 k5 newId))
    (hq : Q () ⟨h, g, d, t, os⟩) : wpAny M A (checkBuiltinCall newId ⟨.ref C :: rest, []⟩) Q E ⟨h, g, d, t, os⟩ := by
  have hcont : (Value.ref C :: bm).contains (.type B) = true := by rw [List.contains_cons, hB, Bool.or_true]
  have hstar := F.noStar
  simp only [checkBuiltinCall, F.newKind, F.newSplit, F.newRow]
  repeat (first | with_reducible refine wpAny_loadPart_at hC ?_ | (with_reducible refine wpAny_isSubtype_exc hC ?_; rw [hcont]) | with_reducible refine wpAny_staticBase_exc hC ?_ | with_reducible refine wpAny_madeBy_exc hC ?_ | simp only [bne_self_eq_false, Bool.false_eq_true, if_false] | wp_step)
  exact hq
theorem lo_new (F : ExcBaseFacts B newId initId bmB) (hB : bm.contains (.type B) = true) (hA : bm.contains (.type "AttributeError") = false) (hN : bm.contains (.type "NameError") = false) {rest : List Value} (hC : h.get? C = some (excClassObj nm q C N bs bm hdct sn sub ab col dd k0 k1 k2 k3 k5 newId))
    (hq : R (.ok (.ret (.ref (h.objs.size + 1)))) ⟨(h.push { cls := .type "tuple", data := .seq rest.toArray }).push
      { cls := .ref C, data := .fields #[.ref h.objs.size, .none, .none, .none, .bool false, .none] }, g, d, t, os⟩) (hrest : rest.length ≤ sizeLine) :
    codeAny (model Challenge.rw_pq0857_01.row.prog w) A (.builtin newId ⟨.ref C :: rest, []⟩) R ⟨h, g, d, t, os⟩ := by
  have hends := F.ends
  have hcB : (Value.ref C :: bm).contains (.type B) = true := by rw [List.contains_cons, hB, Bool.or_true]
  have hcA : (Value.ref C :: bm).contains (.type "AttributeError") = false := by rw [List.contains_cons, hA]; rfl
  have hcN : (Value.ref C :: bm).contains (.type "NameError") = false := by rw [List.contains_cons, hN]; rfl
  refine codeAny_builtinAt F.entry ?_
  unfold Builtin.«BaseException.__new__»
  refine PySem.wpAt_bind ?_
  show PySem.wpAt _ _ _ (stack >>= _) _ _ _
  refine PySem.wpAt_bind (PySem.wpAt_stack fun p below => PySem.wpAt_of_wpAny ?_)
  wp_walk
  refine PySem.wpAt_of_wpAny ?_
  rw [F.owner]
  repeat (first | with_reducible refine wpAny_madeHere_exc F.canon hC ?_ | with_reducible refine wpAny_loadPart_at hC ?_ | (with_reducible refine wpAny_isSubtype_exc hC ?_; first | rw [hcB] | rw [hcA] | rw [hcN]) | wp_step)
  show R _ _
  rw [Heap.size_push]
  exact hq
theorem lo_init_ok {M : Model} {E : Value → Shared → Prop} (F : ExcBaseFacts B newId initId bmB) (hB : bm.contains (.type B) = true) {e : Addr} {oe : Obj} {rest : List Value} {Q : Unit → Shared → Prop}
    (hC : h.get? C = some (excClassObj nm q C N bs bm hdct sn sub ab col dd k0 k1 k2 k3 k5 newId)) (he : h.get? e = some oe) (hcls : oe.cls = .ref C) (hq : Q () ⟨h, g, d, t, os⟩) :
    wpAny M A (checkBuiltinCall initId ⟨.ref e :: rest, []⟩) Q E ⟨h, g, d, t, os⟩ := by
  have hcB : (Value.ref C :: bm).contains (.type B) = true := by rw [List.contains_cons, hB, Bool.or_true]
  have hshort := F.noStar
  simp only [checkBuiltinCall, F.initKind, F.initSplit, F.initRow]
  repeat (first | (with_reducible refine wpAny_loadPart_at he ?_; rw [hcls]) | with_reducible refine wpAny_loadPart_at hC ?_ | (with_reducible refine wpAny_isSubtype_exc hC ?_; rw [hcB]) | wp_step)
  refine wpAny_onRaise ?_
  rw [show ∀ (a b : String) (n : Nat), Bind.check ⟨.positional, "*", B, .self, [⟨"args", .varPos, false⟩]⟩ a b n (List.map (fun x => x.fst) ({ pos := Value.ref e :: rest } : Args).kw) = pure () from
    fun a b n => check_star_args _ _ _ _ _ _]
  exact wpAny_pure hq
end
theorem lo_type {w : World} {A : Around} {h : Heap} {g : Array GenState} {d : Drawn} {t : Nat} {os : OsState} (X : (Hd.K w.params).In h) {rest : List Value} {E : Value → Shared → Prop} {Q : PySem.Fin → Shared → Prop} (hrest : rest.length ≤ sizeLine)
    (hq : ∀ h' e, Heap.MadeExcOf h h' e (.ref 51) rest → h.objs.size ≤ h'.objs.size →
      wpAny (model Challenge.rw_pq0857_01.row.prog w) A (call (.ref 35) (.ref e :: rest)) (fun r s' => r = .none ∧ Q (.done (.ret (.ref e))) s') E ⟨h', g, d, t, os⟩) :
    wpAny (model Challenge.rw_pq0857_01.row.prog w) A (Builtin.«type.__call__» ⟨.ref 51 :: rest, []⟩) Q E ⟨h, g, d, t, os⟩ := by
  have hC := X 51 _ (by k_is)
  unfold Hd.o51x0 at hC
  have F := F.excBase_Exception
  repeat (first | with_reducible refine wpAny_loadPart_at hC ?_ | with_reducible refine wpAny_madeBy_exc hC ?_ | wp_step)
  refine codeAny_call_builtin_code (Code.quiet_builtin _ F.quiet) (lo_new_ok F (by decide) hC ?_)
  refine lo_new F (by decide) (by decide) (by decide) hC ?_ hrest
  show wpAny _ _ _ _ _ _
  have hget : ((h.push { cls := .type "tuple", data := .seq rest.toArray }).push
      { cls := .ref 51, data := .fields #[.ref h.objs.size, .none, .none, .none, .bool false, .none] }).get? (h.objs.size + 1) = some
      { cls := .ref 51, data := .fields #[.ref h.objs.size, .none, .none, .none, .bool false, .none] } := by heap_get
  have kp : ∀ b o, h.get? b = some o → ((h.push { cls := .type "tuple", data := .seq rest.toArray }).push
      { cls := .ref 51, data := .fields #[.ref h.objs.size, .none, .none, .none, .bool false, .none] }).get? b = some o := fun b o hb => Heap.get?_push_of_some _ (Heap.get?_push_of_some _ hb)
  have X₁ := X.keeps kp
  have hC₁ := kp _ _ hC
  have hm : Heap.MadeExcOf h ((h.push { cls := .type "tuple", data := .seq rest.toArray }).push
      { cls := .ref 51, data := .fields #[.ref h.objs.size, .none, .none, .none, .bool false, .none] }) (h.objs.size + 1) (.ref 51) rest :=
    ⟨kp, Heap.get?_none_of_le (Nat.le_succ _), h.objs.size, hget, Heap.get?_none_of_le (Nat.le_refl _), Heap.get?_push_of_some _ (Heap.get?_push_at rfl rfl)⟩
  have hq := hq _ _ hm (by simp only [Heap.size_push]; omega)
  generalize ((h.push { cls := .type "tuple", data := .seq rest.toArray }).push
      { cls := .ref 51, data := .fields #[.ref h.objs.size, .none, .none, .none, .bool false, .none] }) = h₁ at *
  generalize h.objs.size + 1 = e at *
  unfold isInstance
  repeat (first | with_reducible refine wpAny_loadPart_at hget ?_ | (with_reducible refine wpAny_isSubtype_exc hC₁ ?_; rw [show (Value.ref 51 :: [Value.ref 38, Value.type "Exception", Value.type "BaseException", Value.type "object"]).contains (.ref 51) = true by decide]) | wp_step)
  show wpAny _ _ (typeLookup (.ref 51) _) _ _ _
  refine (looks_findIn X₁ (r := some (.ref 35)) (by k_is)).here ?_
  have hf := X₁ 35 _ (by k_is)
  unfold Hd.o35x0 at hf
  refine wpAny_holding (wpAny_bind ?_)
  unfold bindSpecial
  refine wpAny_bind (wpAny_typeOf (T := "function") ⟨_, hf, rfl⟩ ?_)
  rw [if_pos (by decide)]
  refine wpAny_pure (wpAny_bind (wpAny_mono hq (fun r s' hr => ?_) fun _ _ x => x))
  obtain ⟨rfl, hQ⟩ := hr
  wp_walk
  exact hQ
theorem lo_call {w : World} {A : Around} {h : Heap} {g : Array GenState} {d : Drawn} {t : Nat} {os : OsState} (X : (Hd.K w.params).In h) {rest : List Value} {E Q : Value → Shared → Prop} (hrest : rest.length ≤ sizeLine)
    (hq : ∀ h' e, Heap.MadeExcOf h h' e (.ref 51) rest → h.objs.size ≤ h'.objs.size →
      wpAny (model Challenge.rw_pq0857_01.row.prog w) (A.under (.builtin "type.__call__" ⟨.ref 51 :: rest, []⟩)) (call (.ref 35) (.ref e :: rest)) (fun r s' => r = .none ∧ Q (.ref e) s') E ⟨h', g, d, t, os⟩) :
    wpAny (model Challenge.rw_pq0857_01.row.prog w) A (call (.ref 51) rest) Q E ⟨h, g, d, t, os⟩ := by
  have hC := X 51 _ (by k_is)
  unfold Hd.o51x0 at hC
  have f1 := tc_lookup
  have f2 := tc_bind (.ref 51)
  have hT : (⟨h, g, d, t, os⟩ : Shared).TypeIs (.ref 51) "type" := ⟨_, hC, rfl⟩
  refine wpAny_call (codeAny_of_tree ?_)
  show wpAny _ _ (callAny (.ref 51) _) _ _ _
  repeat (any_goals (first | assumption | with_reducible refine wpAny_loadPart_at hC ?_ | wp_step))
  refine ⟨rfl, ?_⟩
  refine codeAny_call_builtin_at (Code.quiet_builtin _ (by decide +kernel)) entry_typeCall (wpAny_check_type_call_sub hC (lo_type X hrest fun h' e hm hz => ?_))
  exact hq h' e hm hz
theorem lo_init_call {w : World} {A : Around} {h : Heap} {g : Array GenState} {d : Drawn} {t : Nat} {os : OsState} (X : (Hd.K w.params).In h) {e a0 : Addr} {v : Value} {E Q : Value → Shared → Prop}
    (he : h.get? e = some { cls := .ref 51, data := .fields #[.ref a0, .none, .none, .none, .bool false, .none] })
    (k : ∀ h' t1, (∀ b o, b ≠ e → h.get? b = some o → h'.get? b = some o) → h'.get? e = some { cls := .ref 51, data := .fields #[t1, .none, .none, .none, .bool false, .none] } → Q .none ⟨h', g, d, t, os⟩) :
    wpAny (model Challenge.rw_pq0857_01.row.prog w) A (call (.builtin "Exception.__init__") [.ref e, v]) Q E ⟨h, g, d, t, os⟩ := by
  have hC := X 51 _ (by k_is)
  unfold Hd.o51x0 at hC
  have FB := F.excBase_Exception
  refine wpAny_call (codeAny_call_builtin FB.init.plain FB.initEntry (lo_init_ok FB (by decide) hC he rfl ?_))
  wp_walk
  refine k _ (.ref h.objs.size) (fun b o hb ho => ?_) ?_
  · rw [Heap.get?_update_other _ _ (Ne.symm hb)]
    exact Heap.get?_push_of_some _ ho
  · rw [Heap.get?_update_self _ (Heap.get?_push_of_some _ he) rfl]
    rfl
theorem lo_set {w : World} {A : Around} {h : Heap} {g : Array GenState} {d : Drawn} {t : Nat} {os : OsState} (X : (Hd.K w.params).In h) {e : Addr} {t0 v : Value} {E : Value → Shared → Prop} {Q : Unit → Shared → Prop}
    (he : h.get? e = some { cls := .ref 51, data := .fields #[t0, .none, .none, .none, .bool false, .none] })
    (k : ∀ h' ob tk, (∀ b o, b ≠ e → h.get? b = some o → h'.get? b = some o) → h'.get? e = some ob → ob.cls = .ref 51 → ob.data = .fields #[t0, .none, .none, .none, .bool false, .none] → Q () ⟨h', g, d, tk, os⟩) :
    wpAny (model Challenge.rw_pq0857_01.row.prog w) A (setAttr (.ref e) "why" v) Q E ⟨h, g, d, t, os⟩ := by
  have hC := X 51 _ (by k_is)
  unfold Hd.o51x0 at hC
  refine set_plain X (x := e) (C := 51) (od := none) ⟨he, rfl, rfl, trivial⟩ (by k_is) ?_
  have SF := PySem.F.store_object
  have he' := he
  have I : InstAt h e { cls := .ref 51, data := .fields #[t0, .none, .none, .none, .bool false, .none] } 51 none := ⟨he, rfl, rfl, trivial⟩
  have hm : Looks (model Challenge.rw_pq0857_01.row.prog w) h (mroOf (.ref 51)) [.ref 51, .ref 38, .type "Exception", .type "BaseException", .type "object"] := (looks_clsIn X (C := 51) (by k_is)).andThen .now
  have sub : Looks (model Challenge.rw_pq0857_01.row.prog w) h (isInstance (.ref e) (.type "object")) true := I.type.andThen (looks_mroIn X (by k_is))
  refine codeAny_call_builtin SF.slot.plain SF.entry (@check_slot (model Challenge.rw_pq0857_01.row.prog w) _ _ _ "object.__setattr__" "object" "__setattr__" (.ref e) [.str "why" t, v] [] _ SF.kind SF.split sub (SF.args (.ref e) (.str "why" t) v) ?_)
  rw [osa_eq, refuse_eq]
  refine wpAny_bind (wpAny_bind (I.type.here (wpAny_bind (hm.here ?_))))
  have hr : refuseLoop (.ref e) "__setattr__" [.ref 51, .ref 38, .type "Exception", .type "BaseException", .type "object"] = pure () := by
    rw [refuseLoop_ref, refuseLoop_ref]; kernel_rfl
  rw [hr]
  refine wpAny_pure (wpAny_bind (I.type.here (wpAny_bind ((looks_findIn X (r := none) (by k_is)).here (wpAny_bind (wpAny_pure ?_))))))
  dsimp only
  wp_delta
  wp_walk
  have hne : e ≠ h.objs.size := Nat.ne_of_lt (Heap.lt_size he)
  have k2 : ∀ b o, b ≠ e → h.get? b = some o → ((h.push { cls := Value.type "dict", data := Data.dict #[] }).update e fun o => { cls := o.cls, dict := some h.objs.size, data := o.data, slots := o.slots }).get? b = some o := fun b o hb ho => by
    rw [Heap.get?_update_other _ _ (Ne.symm hb)]
    exact Heap.get?_push_of_some _ ho
  have e2 : ((h.push { cls := Value.type "dict", data := Data.dict #[] }).update e fun o => { cls := o.cls, dict := some h.objs.size, data := o.data, slots := o.slots }).get? e = some { cls := .ref 51, dict := some h.objs.size, data := .fields #[t0, .none, .none, .none, .bool false, .none] } := by
    rw [Heap.get?_update_self _ (Heap.get?_push_of_some _ he) rfl]
  have d2 : ((h.push { cls := Value.type "dict", data := Data.dict #[] }).update e fun o => { cls := o.cls, dict := some h.objs.size, data := o.data, slots := o.slots }).get? h.objs.size = some { cls := Value.type "dict", data := Data.dict #[] } := by
    rw [Heap.get?_update_other _ _ hne]
    exact Heap.get?_push_size _ rfl
  have hb3 : ∀ b o, h.get? b = some o → b ≠ h.objs.size := fun b o hb => Nat.ne_of_lt (Heap.lt_size hb)
  generalize ((h.push { cls := Value.type "dict", data := Data.dict #[] }).update e fun o => { cls := o.cls, dict := some h.objs.size, data := o.data, slots := o.slots }) = h2 at *
  generalize h.objs.size = dx at *
  refine wpAny_askSetting (wpAny_pure (wpAny_bind (wpAny_mkText (wpAny_bind (wpAny_loadPart d2 ?_)))))
  dsimp only
  rw [if_neg (by decide)]
  generalize (if (Str.ofString "why").cps.isEmpty = true then 0 else reduceHash _) = hh
  refine wpAny_updatePart d2 (wpAny_bind ?_)
  refine wpAny_lookBehind (Heap.get?_update_self _ d2 rfl) rfl (wpAny_pure ?_)
  refine k _ _ _ (fun b o hb ho => ?_) ((Heap.get?_update_other _ _ (Ne.symm hne)).trans e2) rfl rfl
  rw [Heap.get?_update_other _ _ (Ne.symm (hb3 b o ho))]
  exact k2 b o hb ho
theorem lo_init {w : World} {mean mg mb} {A : Around} {h₀ : Heap} {s : Shared} {e : Addr} {x : Str} {tx : Tok} {E Q : Value → Shared → Prop} (W : Wd w mean mg mb h₀) (hm : Heap.MadeExcOf h₀ s.heap e (.ref 51) [.str x tx]) (hsz : h₀.objs.size ≤ s.heap.objs.size) (hdp : A.depth < 1000)
    (k : ∀ h' tk ob tp, h₀.StaysIn h' → h'.get? e = some ob → ob.cls = .ref 51 → ob.data = .fields #[tp, .none, .none, .none, .bool false, .none] → Q .none { s with heap := h', toks := tk }) :
    wpAny (model Challenge.rw_pq0857_01.row.prog w) A (call (.ref 35) [.ref e, .str x tx]) Q E s := by
  have W' := W.keeps hm.keeps
  refine' enterP (binds := [("self", .ref e), ("why", .str x tx)]) W' ?k1 ?kf1 ?kf2 ?kf3 ?k2 hdp ?k4 ?k5 ?_ ?k6 ?k7 ?k8 ?k9
  k_extra "enter"
  have X' := W'.X
  have T' := W'.T
  intro L' h₁ tk2 F' N'
  have hT : (typeOf (.type "Exception") : Sem Value) = pure (.type "type") := by kernel_rfl
  k_steps
  refine' method_type ?F ?X ?m ?s ?e ?h ?_
  case F => exact F'
  case X => exact X'
  case m => exact hT
  case s => decide +kernel
  case e => k_dflt k_is
  case h => k_handed
  dsimp only
  k_steps
  obtain ⟨t0, he, htn, ht⟩ := hm.there
  have he₁ := F'.keep _ _ he
  have hLe : L' ≠ e := fun q => absurd (Nat.lt_of_lt_of_le (Heap.lt_size he) F'.above) (by rw [q]; exact Nat.lt_irrefl _)
  refine lo_init_call (X'.keeps F'.keep) he₁ fun h' t1 k1 e1 => ?_
  obtain ⟨oL, es, ep, hL, r⟩ := F'.ns
  have F2 : Fr h₀ L' h' (mp [(Str.ofString "self", Value.ref e), (Str.ofString "why", Value.str x tx)].reverse) :=
    ⟨⟨oL, es, ep, k1 L' oL hLe hL, r⟩, fun b o hb => k1 b o (fun q => by rw [q, hm.new] at hb; cases hb) (F'.keep _ _ (hm.keeps _ _ hb)), Nat.le_trans hsz F'.above⟩
  have N2 : News h₀ L' h' [] := News.nil
  have X2 := W.X
  have T2 := W.T
  clear F' N' X' T' W'
  k_steps
  refine lo_set (X2.keeps F2.keep) e1 fun h2 ob tk k2 e2 c2 d2 => ?_
  k_steps
  exact k _ _ ob _ (fun b o hb => k2 b o (fun q => by rw [q, hm.new] at hb; cases hb) (F2.keep b o hb)) e2 c2 d2
theorem lo_made {w : World} {mean mg mb} {A : Around} {s : Shared} {x : Str} {tx : Tok} {Q E : Value → Shared → Prop} (W : Wd w mean mg mb s.heap) (hdp : A.depth < 990)
    (h : ∀ e h' tk ob tp, s.heap.StaysIn h' → s.heap.get? e = none → h'.get? e = some ob → ob.cls = .ref 51 → ob.data = .fields #[tp, .none, .none, .none, .bool false, .none] → Q (.ref e) { s with heap := h', toks := tk }) :
    wpAny (model Challenge.rw_pq0857_01.row.prog w) A (call (.ref 51) [.str x tx]) Q E s := by
  refine lo_call W.X (rest := [.str x tx]) (by rw [sizeLine_eq]; simp) fun h' e hm hz => ?_
  refine lo_init W hm hz ?_ fun h2 tk ob tp k2 e2 c2 d2 => ⟨rfl, h e h2 tk ob tp k2 hm.new e2 c2 d2⟩
  have : (Code.builtin "type.__call__" ⟨[.ref 51, .str x tx], []⟩).weight = 1 := rfl
  show A.depth + _ < 1000
  omega
theorem lo_raise {w : World} {mean mg mb} {A : Around} {h₀ : Heap} {s : Shared} {name : Str} {scope : Scope} {L a : Addr} {cd : Value} {m : Str → Option Value} {x : Str} {np p2 cpos pos : Pos} {Q : Flow → Shared → Prop} {E : Value → Shared → Prop}
    (F' : Fr h₀ L s.heap m) (N' : News h₀ L s.heap []) (X' : (Hd.K w.params).In h₀) (T' : Top Hd.view LS mean mg mb h₀) (hh : A.handled = none) (hdp : A.depth < 990) (hx : x.length ≤ 1000)
    (hk : scope.kind = .function) (hl : (envOf name scope L a cd).kindOf "LeftOut" = some .globalImplicit)
    (h : ∀ e h' tk ob tp, s.heap.StaysIn h' → s.heap.get? e = none → h'.get? e = some ob → ob.cls = .ref 51 → ob.data = .fields #[tp, .none, .none, .none, .bool false, .none] → E (.ref e) { s with heap := h', toks := tk }) :
    wpAny (model Challenge.rw_pq0857_01.row.prog w) A (exec (.Raise (some (.Call (.Name "LeftOut" np) [.Constant (.str x) 0 p2] [] cpos)) none pos) (envOf name scope L a cd)) Q E s := by
  rw [arm_exec_Raise]
  refine wpAny_bind (wpAny_standAt ?_)
  unfold raiseStmt
  simp only [arm_evalOpt_some, Option.map]
  refine wpAny_bind (wpAny_bind ?_)
  refine wpAny_mono (Q := fun v s' => ∃ e h' tk ob tp, v = .ref e ∧ s' = { s with heap := h', toks := tk } ∧ s.heap.StaysIn h' ∧ s.heap.get? e = none ∧ h'.get? e = some ob ∧ ob.cls = .ref 51 ∧ ob.data = .fields #[tp, .none, .none, .none, .bool false, .none]) (E := E) ?_ ?_ fun _ _ x => x
  · refine wpAny_Call_ofName ?_
    refine' name_K F' X' (topRead_of T') ?e ?_ hk hl
    case e => k_dflt k_is
    k_steps
    refine lo_made ⟨X'.keeps F'.keep, T'.keeps F'.keep⟩ hdp fun e h' tk ob tp k1 k2 k3 k4 k5 => ?_
    exact ⟨e, h', tk, ob, tp, rfl, rfl, k1, k2, k3, k4, k5⟩
  · rintro v s' ⟨e, h', tk, ob, tp, rfl, rfl, k1, k2, k3, k4, k5⟩
    obtain ⟨oc, od, oda, osl⟩ := ob
    dsimp only at k4 k5
    subst k4 k5
    have hC := ((X'.keeps F'.keep).keeps k1) 51 _ (by k_is)
    unfold Hd.o51x0 at hC
    refine wpAny_bind (wpAny_standAt (wpAny_pure ?_))
    repeat (first | with_reducible refine wpAny_loadPart_at k3 ?_ | with_reducible refine wpAny_loadPart_at hC ?_ | (with_reducible refine wpAny_isSubtype_exc hC ?_; rw [show (Value.ref 51 :: [Value.ref 38, Value.type "Exception", Value.type "BaseException", Value.type "object"]).contains (.type "BaseException") = true by decide]) | wp_step)
    exact wpAny_raiseNew_none hh (h e h' tk _ tp k1 k2 k3 rfl rfl)
noncomputable def Exc (base G : Heap) (l : List Env) (s : Shared) (e : Value) (s' : Shared) : Prop :=
  ∃ ea h' tk, e = .ref ea ∧ s' = { s with heap := h', toks := tk } ∧ RaisedSN base G l ea (.ref 51) [] h' ∧ G.UpToSlots h'
noncomputable def Edge (base g : Heap) (env : Env) (outer : List Env) (L : Addr) (s : Shared) (e : Value) (s' : Shared) : Prop :=
  ∃ ea h' tk, e = .ref ea ∧ s' = { s with heap := h', toks := tk } ∧
    ((g.StaysIn h' ∧ g.get? ea = none ∧ (∃ m, h'.Ns L m) ∧ ∃ ob tp, h'.get? ea = some ob ∧ ob.cls = .ref 51 ∧ ob.data = .fields #[tp, .none, .none, .none, .bool false, .none]) ∨
     (RaisedSN base g (env :: outer) ea (.ref 51) [] h' ∧ g.UpToSlots h'))
theorem Exc.edge {base g h : Heap} {env : Env} {outer : List Env} {L : Addr} {s s₁ : Shared} {e : Value} {s' : Shared} {tk : Nat} (x : Exc base h (env :: outer) s₁ e s') (e1 : s₁ = { s with heap := h, toks := tk }) (k : g.StaysIn h) : Edge base g env outer L s e s' := by
  obtain ⟨ea, h', tk', rfl, rfl, ⟨B, a0, hB, hBG, hl, hfl⟩, u⟩ := x
  subst e1
  exact ⟨ea, h', tk', rfl, rfl, .inr ⟨⟨B, a0, hB, fun b o q n => hBG b o (k b o q) n, fun q hq => (nomatch hq), hfl⟩, (Heap.UpToSlots.of_keeps k).trans u⟩⟩
theorem leave_edge {w : World} {A : Around} {base g : Heap} {name : Str} {scope : Scope} {L a : Addr} {cd : Value} {outer : List Env} {s : Shared} {e : Value} {s' : Shared} {E' : Value → Shared → Prop} {R : Unit → Shared → Prop}
    (K : Below A base outer g) (hL : g.objs.size ≤ L) (hk : scope.kind = .function) (x : Edge base g (envOf name scope L a cd) outer L s e s')
    (q : ∀ s'', Exc base g outer s e s'' → R () s'') :
    wpAny (model Challenge.rw_pq0857_01.row.prog w) (A.deeper (envOf name scope L a cd)) (leaving (envOf name scope L a cd) e) R E' s' := by
  obtain ⟨ea, h', tk, rfl, rfl, x⟩ := x
  have hgL : g.get? L = none := by
    cases q : g.get? L with
    | none => rfl
    | some o => exact absurd (Nat.lt_of_lt_of_le (Heap.lt_size q) hL) (Nat.lt_irrefl _)
  rcases x with ⟨k1, k2, ⟨m, k3⟩, ob, tp, k4, k5, k6⟩ | ⟨⟨B, a0, hB, hBG, hl, hfl⟩, u⟩
  · obtain ⟨oL, es, ep, hoL, hdL, _⟩ := k3
    have sg : ∀ b o, g.get? b = some o → b ∉ outer.filterMap (·.frame) → (hideAll g (outer.filterMap (·.frame))).get? b = some o := fun b o q n => hideAll_get _ q n
    have st : base.StaysIn (hideAll g (outer.filterMap (·.frame))) := fun b o q => hideAll_get _ (K.stays b o q) fun hm => by
      rw [(K.frames.mem hm).1] at q; cases q
    have hB : (hideAll g (outer.filterMap (·.frame))).StaysIn h' := fun b o q => k1 b o (of_hideAll _ q)
    have hLB : (hideAll g (outer.filterMap (·.frame))).get? L = none := by
      cases q : (hideAll g (outer.filterMap (·.frame))).get? L with
      | none => rfl
      | some o => have := of_hideAll _ q; rw [hgL] at this; cases this
    have heB : (hideAll g (outer.filterMap (·.frame))).get? ea = none := by
      cases q : (hideAll g (outer.filterMap (·.frame))).get? ea with
      | none => rfl
      | some o => have := of_hideAll _ q; rw [k2] at this; cases this
    have ff : h'.FunFrames (hideAll g (outer.filterMap (·.frame))) (envOf name scope L a cd :: outer) := by
      refine ⟨by show scope.kind ≠ _; rw [hk]; decide, ⟨L, oL, rfl, hLB, hoL, fun vs q => by rw [hdL] at q; cases q⟩, ?_⟩
      exact (funFrames_hide K.frames fun env he b hb => List.mem_filterMap.mpr ⟨env, he, hb⟩).of_keeps fun b o q _ => ⟨o, k1 b o q, rfl⟩
    refine wpAny_leaving_firstW (a0 := tp) (Around.frames_deeper K.stack) ff rfl k4 hB heB k6 rfl rfl fun h2 hL2 => ?_
    obtain ⟨l1, ⟨_, _, l2⟩, l3, l4⟩ := hL2
    rw [k5] at l3
    exact q _ ⟨ea, h2, tk, rfl, rfl, ⟨_, tp, st, sg, fun q hq => (nomatch hq), l1, heB, l2, l3⟩, (Heap.UpToSlots.of_keeps k1).trans l4⟩
  · refine wpAny_leaves_onW (Around.frames_deeper K.stack) rfl hfl fun h2 x1 x2 => ?_
    refine q _ ⟨ea, h2, tk, rfl, rfl, ⟨B, a0, hB, fun b o qb n => hBG b o qb fun hm => ?_, fun q hq => (nomatch hq), x1⟩, u.trans x2⟩
    rcases kts_mem hm with z | z
    · rw [z, hgL] at qb; cases qb
    · exact n z
noncomputable def PureR (w : World) (mean : ExcName → Option Value) (mg mb : Str → Option Value) (d u : Nat) (f : Addr) (vs : List Value) (Pre : Heap → Prop) (Post : Heap → Value → Heap → Prop) (Bad : Prop) : Prop :=
  ∀ (A : Around) (base : Heap) (outer : List Env) (s : Shared) (Q E : Value → Shared → Prop), A.handled = none → A.depth ≤ d → A.units ≤ u → Below A base outer s.heap → Wd w mean mg mb base → Pre s.heap →
    (∀ v h' tk, s.heap.StaysIn h' → Post s.heap v h' → Q v { s with heap := h', toks := tk }) →
    (∀ e s', Bad → Exc base s.heap outer s e s' → E e s') →
    wpAny (model Challenge.rw_pq0857_01.row.prog w) A (call (.ref f) vs) Q E s
theorem enterR {w : World} {mean : ExcName → Option Value} {mg mb : Str → Option Value} {A : Around} {s : Shared} {Q E : Value → Shared → Prop} {f : Addr} {vs : List Value} {binds : List (Str × Value)} {base : Heap} {outer : List Env} {Bad : Prop}
    {name qual : Str} {p params : Arguments} {b body : List Stmt} {sc scope : Scope} {dV kV doc pm cdv ct oc : Value} {an od : Option Addr} {osl : Array (Option Value)}
    (K : Below A base outer s.heap) (W : Wd w mean mg mb s.heap) (ho : (Hd.K w.params).lookup f = some ⟨oc, od, .func (fdOf name qual p b sc dV kV doc pm an cdv ct), osl⟩) (he1 : p = params) (he2 : b = body) (he3 : sc = scope) (hcd : codeIn (Hd.K w.params) cdv qual = true) (hroom : A.depth < recursionLimit)
    (hbind : BindsTo s (fnOf name qual params body scope dV kV doc pm an cdv ct) ⟨vs, []⟩ binds) (hloc : ∀ y ∈ binds, scope.names.lookup y.1 = some .local)
    (hE : ∀ e s', Bad → Exc base s.heap outer s e s' → E e s')
    (h : ∀ L' h₁ tk, Fr s.heap L' h₁ (mp binds.reverse) → News s.heap L' h₁ [] →
      wpAny (model Challenge.rw_pq0857_01.row.prog w) (A.deeper (envOf qual scope L' f cdv)) (execs body (envOf qual scope L' f cdv))
        (fun fl s' => Q (match fl with | .ret v => v | _ => .none) s') (fun e s' => Bad ∧ Edge base s.heap (envOf qual scope L' f cdv) outer L' s e s') { s with heap := h₁, toks := tk })
    (hcell : ∀ x ∈ scope.names, x.2 ≠ .cell) (hco : scope.isCoroutine = false) (hgen : scope.isGenerator = false) (hk : scope.kind = .function) :
    wpAny (model Challenge.rw_pq0857_01.row.prog w) A (call (.ref f) vs) Q E s := by
  subst he1 he2 he3
  refine wpAny_call (codeAny_call_def (fd := fnOf name qual p b sc dV kV doc pm an cdv ct) (body := b) (binds := binds) hroom (W.X _ _ ho) rfl W.T.nolimit (codeRec_of W.X hcd) rfl hbind hcell hloc (fun h₁ hns hk₁ => ?_) hco hgen hk)
  exact wpAny_mono (h _ h₁ _ ⟨hns, hk₁, Nat.le_refl _⟩ News.nil) (fun _ _ x => x) fun e s' x => leave_edge K (Nat.le_refl _) hk x.2 fun s'' z => hE e s'' x.1 z
theorem useRR {w : World} {mean : ExcName → Option Value} {mg mb : Str → Option Value} {d u : Nat} {f : Addr} {vs : List Value} {Pre : Heap → Prop} {Post : Heap → Value → Heap → Prop} {Bad Bad' : Prop} {A : Around} {s s₀ : Shared} {Q : Value → Shared → Prop}
    {name : Str} {scope : Scope} {L a : Addr} {cd : Value} {base g : Heap} {outer : List Env} {m : Str → Option Value} {news : List (Addr × Obj)} (P : PureR w mean mg mb d u f vs Pre Post Bad) (B : Below A base outer g) (F : Fr g L s.heap m) (N : News g L s.heap news) (W0 : Wd w mean mg mb base)
    (e1 : (A.deeper (envOf name scope L a cd)).handled = none) (e2 : (A.deeper (envOf name scope L a cd)).depth ≤ d) (e3 : (A.deeper (envOf name scope L a cd)).units ≤ u) (hp : Pre s.heap) (hb : Bad → Bad' ∧ s = { s₀ with heap := s.heap, toks := s.toks })
    (k : ∀ v h' tk, Fr g L h' m → News g L h' news → s.heap.StaysIn h' → Post s.heap v h' → Q v { s with heap := h', toks := tk }) (hk : scope.kind = .function := by rfl) :
    wpAny (model Challenge.rw_pq0857_01.row.prog w) (A.deeper (envOf name scope L a cd)) (call (.ref f) vs) Q (fun e s' => Bad' ∧ Edge base g (envOf name scope L a cd) outer L s₀ e s') s :=
  P _ base (envOf name scope L a cd :: outer) s Q _ e1 e2 e3 (B.push F hk) W0 hp (fun v h' tk st po => k v h' tk (F.keeps st) (N.grown st) st po)
    fun _ _ bad x => ⟨(hb bad).1, x.edge (hb bad).2 F.keep⟩
theorem edge_made {base g h h' : Heap} {env : Env} {outer : List Env} {L : Addr} {s : Shared} {e : Addr} {tk : Nat} {ob : Obj} {tp : Value} {m : Str → Option Value} (F : Fr g L h m) (k1 : h.StaysIn h') (k2 : h.get? e = none) (k3 : h'.get? e = some ob) (k4 : ob.cls = .ref 51)
    (k5 : ob.data = .fields #[tp, .none, .none, .none, .bool false, .none]) : Edge base g env outer L s (.ref e) { s with heap := h', toks := tk } := by
  refine ⟨e, h', tk, rfl, rfl, .inl ⟨fun b o q => k1 b o (F.keep b o q), ?_, ⟨m, F.ns.keeps k1⟩, ob, tp, k3, k4, k5⟩⟩
  cases q : g.get? e with
  | none => rfl
  | some o => rw [F.keep _ _ q] at k2; cases k2
section
variable {L : Addr} {w : World} {A : Around} {E : Value → Shared → Prop} {s : Shared} {env : Env} {h₀ : Heap} {x : Str} {body : List Stmt} {Q : Flow → Shared → Prop} {m₀ : Str → Option Value} {news : List (Addr × Obj)}
noncomputable def Turns (w : World) (A : Around) (h₀ : Heap) (env : Env) (L : Addr) (x : Str) (body : List Stmt) (Q : Flow → Shared → Prop) (E : Value → Shared → Prop) (s : Shared) (I : Addr) (fp : List Addr) (n : Nat) (P : Nat → Value → Prop) (J : Nat → (Str → Option Value) → List (Addr × Obj) → Prop) : Prop :=
  (∀ i v m₁ news₁ h tk own, i < n → P i v → J i m₁ news₁ → (∀ p ∈ news₁, p.1 ∉ [I]) → (∀ p ∈ own, p.1 ∈ fp) → Fr h₀ L h (fun y => if y = x then some v else m₁ y) → News h₀ L h (own ++ news₁) →
    wpAny (model Challenge.rw_pq0857_01.row.prog w) A (execs body env) (LoopStepV h₀ L [I] own (J (i + 1)) { s with heap := h, toks := tk } (fun v s' => Q (.ret v) s') fun s' => Q .next s') E { s with heap := h, toks := tk }) ∧
  ∀ h tk m₁ news₁, J n m₁ news₁ → Fr h₀ L h m₁ → News h₀ L h news₁ → Q .next { s with heap := h, toks := tk }
theorem Turns.of0 {I : Addr} {fp : List Addr} {n : Nat} {P : Nat → Value → Prop} {J : Nat → (Str → Option Value) → Prop}
    (t : ∀ i v m₁ h tk own, i < n → P i v → J i m₁ → (∀ p ∈ ([] : List (Addr × Obj)), p.1 ∉ [I]) → (∀ p ∈ own, p.1 ∈ fp) → Fr h₀ L h (fun y => if y = x then some v else m₁ y) → News h₀ L h (own ++ []) →
      wpAny (model Challenge.rw_pq0857_01.row.prog w) A (execs body env) (LoopStepV h₀ L [I] own (fun m nw => nw = [] ∧ J (i + 1) m) { s with heap := h, toks := tk } (fun v s' => Q (.ret v) s') fun s' => Q .next s') E { s with heap := h, toks := tk })
    (e : ∀ h tk m₁, J n m₁ → Fr h₀ L h m₁ → News h₀ L h [] → Q .next { s with heap := h, toks := tk }) : Turns w A h₀ env L x body Q E s I fp n P fun i m nw => nw = [] ∧ J i m :=
  ⟨fun i v m₁ nw h tk own hi hv ⟨en, j⟩ ho hw F N => by subst en; exact t i v m₁ h tk own hi hv j ho hw F N, fun h tk m₁ nw ⟨en, j⟩ F N => by subst en; exact e h tk m₁ j F N⟩
theorem at_of_turns {o : Obj} {fp : List Addr} {n : Nat} {P : Nat → Value → Prop} {St : Nat → Heap → Prop} (J : Nat → (Str → Option Value) → List (Addr × Obj) → Prop)
    (W : Walks Challenge.rw_pq0857_01.row.prog w A s.heap.objs.size fp [s.heap.objs.size] n P St) (hL : ∀ b ∈ fp, b = s.heap.objs.size ∨ b ≠ env.locals) (hst : St 0 (s.heap.push o))
    (F : Fr h₀ env.locals s.heap m₀) (N : News h₀ env.locals s.heap news) (hj : J 0 m₀ news) (t : Turns w A h₀ env env.locals x body Q E s s.heap.objs.size fp n P J) :
    LoopAtV Challenge.rw_pq0857_01.row.prog w A h₀ env x body Q E (.ref s.heap.objs.size) { s with heap := s.heap.push o } := by
  have hne : s.heap.objs.size ≠ env.locals := Nat.ne_of_gt F.ns.lt
  refine ⟨_, _, _, n, _, _, m₀, news, J, rfl, W, ?_, ?_, ?_, hst, F.push _, (fun p hp => ⟨Heap.get?_push_of_some _ (N p hp).1, (N p hp).2⟩), hj, ?_, ?_⟩
  · intro hm
    rcases hL _ hm with q | q
    · exact hne q.symm
    · exact q rfl
  · intro b hb
    rw [List.mem_singleton.mp hb]
    exact next_is_new F
  · intro p hp hI
    exact absurd (Heap.lt_size (N p hp).1) ((List.mem_singleton.mp hI) ▸ Nat.lt_irrefl _)
  · rintro i v m₁ news₁ s₁ own ⟨h, tk, rfl⟩ hin hP hJ hoff hof _ _ _ F₁ N₁
    exact t.1 i v m₁ news₁ h tk own hin hP hJ hoff hof F₁ N₁
  · intro h' tk m' news' F' N' _ hJ
    exact t.2 h' tk m' news' hJ F' N'
theorem it_list {l : Addr} {vs : List Value} (J : Nat → (Str → Option Value) → List (Addr × Obj) → Prop) (hL0 : env.locals = L) (hh : A.handled = none) (hl : s.heap.IsList l vs.toArray) (hL : l ≠ L) (F : Fr h₀ L s.heap m₀) (N : News h₀ L s.heap news) (hj : J 0 m₀ news)
    (t : ∀ I, Turns w A h₀ env L x body Q E s I [I, l] vs.length (fun i v => vs[i]? = some v) J) :
    wpAny (model Challenge.rw_pq0857_01.row.prog w) A (pyIter (.ref l)) (fun it s₂ => LoopAtV Challenge.rw_pq0857_01.row.prog w A h₀ env x body Q E it s₂) E s := by
  subst hL0
  obtain ⟨ol, hol, _⟩ := id hl
  have hne : l ≠ s.heap.objs.size := Nat.ne_of_lt (Heap.lt_size hol)
  refine wpAny_pyIter_list hl ?_
  have W := Walks.list (prog := Challenge.rw_pq0857_01.row.prog) (w := w) hh s.heap.objs.size l hne vs.toArray
  refine at_of_turns J W ?_ ⟨⟨_, Heap.get?_push_size _ rfl, rfl, rfl⟩, hl.at fun o e => Heap.get?_push_of_some _ e⟩ F N hj ?_
  · intro b hb
    rcases List.mem_cons.mp hb with e | hb
    · exact .inl e
    · exact .inr (List.mem_singleton.mp hb ▸ hL)
  · have := t s.heap.objs.size
    simpa [Turns] using this
theorem it_tuple {l : Addr} {vs : List Value} (J : Nat → (Str → Option Value) → List (Addr × Obj) → Prop) (hL0 : env.locals = L) (hh : A.handled = none) (hl : IsTup s.heap l vs.toArray) (hL : l ≠ L) (F : Fr h₀ L s.heap m₀) (N : News h₀ L s.heap news) (hj : J 0 m₀ news)
    (t : ∀ I, Turns w A h₀ env L x body Q E s I [I, l] vs.length (fun i v => vs[i]? = some v) J) :
    wpAny (model Challenge.rw_pq0857_01.row.prog w) A (pyIter (.ref l)) (fun it s₂ => LoopAtV Challenge.rw_pq0857_01.row.prog w A h₀ env x body Q E it s₂) E s := by
  subst hL0
  obtain ⟨ol, hol, _⟩ := id hl
  have hne : l ≠ s.heap.objs.size := Nat.ne_of_lt (Heap.lt_size hol)
  have hl' : s.heap.IsTuple l vs.toArray := hl
  refine wpAny_pyIter_tuple hl' ?_
  have W := Walks.tuple (prog := Challenge.rw_pq0857_01.row.prog) (w := w) hh s.heap.objs.size l hne vs.toArray
  refine at_of_turns J W ?_ ⟨⟨_, Heap.get?_push_size _ rfl, rfl, rfl⟩, hl'.at fun o e => Heap.get?_push_of_some _ e⟩ F N hj ?_
  · intro b hb
    rcases List.mem_cons.mp hb with e | hb
    · exact .inl e
    · exact .inr (List.mem_singleton.mp hb ▸ hL)
  · have := t s.heap.objs.size
    simpa [Turns] using this
theorem it_str {y : Str} {ty : Tok} (J : Nat → (Str → Option Value) → List (Addr × Obj) → Prop) (hL0 : env.locals = L) (hh : A.handled = none) (F : Fr h₀ L s.heap m₀) (N : News h₀ L s.heap news) (hj : J 0 m₀ news)
    (t : ∀ I, Turns w A h₀ env L x body Q E s I [I] y.cps.size (SignAt y) J) :
    wpAny (model Challenge.rw_pq0857_01.row.prog w) A (pyIter (.str y ty)) (fun it s₂ => LoopAtV Challenge.rw_pq0857_01.row.prog w A h₀ env x body Q E it s₂) E s := by
  subst hL0
  refine wpAny_pyIter_str fun o St W hst => ?_
  refine at_of_turns J (W A hh) ?_ hst F N hj (t _)
  intro b hb
  exact .inl (List.mem_singleton.mp hb)
theorem it_range {r : Addr} {a c : Int} {n : Nat} {t₁ t₂ t₃ : Tok} (J : Nat → (Str → Option Value) → List (Addr × Obj) → Prop) (hL0 : env.locals = L) (hh : A.handled = none) (hr : IsRange s.heap r a c 1 t₁ t₂ t₃) (hsm : Builtin.Range.small a c 1 = true) (hn : (n : Int) = Builtin.Range.rangeSize a c 1) (F : Fr h₀ L s.heap m₀) (N : News h₀ L s.heap news) (hj : J 0 m₀ news)
    (t : ∀ I, Turns w A h₀ env L x body Q E s I [I] n (fun i v => ∃ u, v = .int (a + i * 1) u) J) :
    wpAny (model Challenge.rw_pq0857_01.row.prog w) A (pyIter (.ref r)) (fun it s₂ => LoopAtV Challenge.rw_pq0857_01.row.prog w A h₀ env x body Q E it s₂) E s := by
  subst hL0
  refine wpAny_pyIter_range hr hsm ?_
  have W := Walks.range (prog := Challenge.rw_pq0857_01.row.prog) (w := w) hh s.heap.objs.size a 1 n
  refine at_of_turns J W ?_ ?_ F N hj (t _)
  · intro b hb
    exact .inl (List.mem_singleton.mp hb)
  · rw [← hn]
    have := Heap.get?_push_size s.heap (o := { cls := .type "range_iterator", data := .fields #[rawInt a, rawInt (n : Int), rawInt 1] }) rfl
    simpa [IsRangeIter] using this
theorem forV {px pos : Pos} {iter : Expr} {m : Str → Option Value} {L : Addr} (F : Fr h₀ L s.heap m) (hx : env.kindOf x = some .local)
    (hp : (env.scope.kind == .class || (env.scope.kind == .module && env.locals != env.globals)) = false)
    (h : wpAny (model Challenge.rw_pq0857_01.row.prog w) A (eval iter env) (fun xv s₁ => wpAny (model Challenge.rw_pq0857_01.row.prog w) A (pyIter xv) (fun it s₂ => LoopAtV Challenge.rw_pq0857_01.row.prog w A h₀ env x body Q E it s₂) E s₁) E s)
    (hs : ∀ x, foldedSetIterable iter env x = pure x) (hE : PassesOwn (model Challenge.rw_pq0857_01.row.prog w) A env E) :
    wpAny (model Challenge.rw_pq0857_01.row.prog w) A (exec (.For (.Name x px) iter body [] pos) env) Q E s := For_invV h₀ hx hp h hs hE
noncomputable def Between (x : Str) (l : List (Str × Value)) (m : Str → Option Value) : Prop := m = mp l ∨ ∃ o, m = mp ((x, o) :: l)
theorem Between.start {x : Str} {l : List (Str × Value)} : Between x l (mp l) := .inl rfl
theorem Between.then {x : Str} {l : List (Str × Value)} {o : Value} : Between x l (mp ((x, o) :: l)) := .inr ⟨o, rfl⟩
theorem Between.set {x : Str} {l : List (Str × Value)} {m : Str → Option Value} (h : Between x l m) (v : Value) : (fun y => if y = x then some v else m y) = mp ((x, v) :: l) := by
  rcases h with rfl | ⟨o, rfl⟩
  · exact mp_set _ _ _
  · exact (mp_set _ _ _).trans (mp_dup _ _ _ _ _ rfl)
end
theorem zw4 : True := by
  k_with "@exec For Name" => (case fT => (k_dflt (refine' Mine.forV ?f1 ?f2 ?f3 ?_ ?f4 ?f5; (case f1 => k_extra "A"); (case f2 => exact rfl); (case f3 => exact rfl); (case f4 => (intro _; exact rfl)); (case f5 => k_extra "passes"))))
  k_with "@exec For Name Name" => (case fT => (k_dflt (refine' Mine.forV ?f1 ?f2 ?f3 ?_ ?f4 ?f5; (case f1 => k_extra "A"); (case f2 => exact rfl); (case f3 => exact rfl); (case f4 => (intro _; exact rfl)); (case f5 => k_extra "passes"))))
  k_with "@exec For Name Tuple cons nil" => (case fT => (k_dflt (refine' Mine.forV ?f1 ?f2 ?f3 ?_ ?f4 ?f5; (case f1 => k_extra "A"); (case f2 => exact rfl); (case f3 => exact rfl); (case f4 => (intro _; exact rfl)); (case f5 => k_extra "passes"))))
  exact True.intro
noncomputable def dfold (v : Int) (l : List Nat) : Int := l.foldl (fun (v : Int) (c : Nat) => v * 10 + (c : Int) - 48) v
noncomputable def cut (t : Str) (a b : Nat) : List Nat := (t.cps.toList.take b).drop a
noncomputable def sat (v : Int) : Int := if v > 9223372036854775808 then 9223372036854775809 else v
theorem dfold_ge {l : List Nat} (hl : ∀ c ∈ l, 48 ≤ c) : ∀ {v : Int}, 0 ≤ v → v ≤ dfold v l := by
  induction l with
  | nil => intro v _; exact Int.le_refl _
  | cons c r ih =>
    intro v hv
    have hc := hl c (.head _)
    have := ih (fun c h => hl c (.tail _ h)) (v := v * 10 + (c : Int) - 48) (by omega)
    simp only [dfold, List.foldl_cons] at this ⊢
    omega
theorem cut_snoc (t : Str) (a b : Nat) (h : a ≤ b) (hb : b < t.cps.size) : cut t a (b + 1) = cut t a b ++ [t.cps.getD b 0] := by
  unfold cut
  rw [List.take_add_one, List.drop_append_of_le_length (by rw [List.length_take, Array.length_toList]; exact Nat.le_min.mpr ⟨h, Nat.le_trans h (Nat.le_of_lt hb)⟩)]
  congr 1
  simp [Array.getD, hb]
theorem ex_int {a b : Int} {u : Tok} (h : a = b) : ∃ t, Value.int a u = .int b t := ⟨u, by rw [h]⟩
theorem size_one {a b : Int} (h : a ≤ b) : Builtin.Range.rangeSize a b 1 = b - a := by
  rw [rangeSize_one]
  split
  · rfl
  · rename_i q
    rw [Int.le_antisymm (Int.not_lt.mp q) h, Int.sub_self]
theorem small_one {a b : Int} (h0 : 0 ≤ a) (h : a ≤ b) (h1 : b ≤ 1000000) : Builtin.Range.small a b 1 = true :=
  PySem.small_one (Int.le_trans (by decide) h0) (Int.lt_of_le_of_lt (Int.le_trans h h1) (by decide)) (Int.le_trans (by decide) (Int.le_trans h0 h)) (Int.lt_of_le_of_lt h1 (by decide))
theorem cut_app (t : Str) (a b c : Nat) (h1 : a ≤ b) (h2 : b ≤ c) : cut t a c = cut t a b ++ cut t b c := by
  unfold cut
  rw [List.drop_take, List.drop_take, List.drop_take, ← Nat.sub_add_sub_cancel h2 h1, Nat.add_comm, List.take_add, List.drop_drop, Nat.add_sub_cancel' h1]
theorem cut_mem {t : Str} {a b c : Nat} (h : c ∈ cut t a b) : ∃ k, a ≤ k ∧ k < b ∧ k < t.cps.size ∧ t.cps.getD k 0 = c := by
  unfold cut at h
  obtain ⟨i, hi, e⟩ := List.mem_iff_getElem.mp h
  have h2 := hi
  rw [List.length_drop, List.length_take, Array.length_toList] at h2
  have ⟨h3, h4⟩ := Nat.lt_min.mp (Nat.add_lt_of_lt_sub' h2)
  refine ⟨a + i, Nat.le_add_right _ _, h3, h4, ?_⟩
  rw [← e]
  simp [Array.getD, h4]
theorem item_nat (x : Str) {k : Nat} (h : k < x.cps.size) : Txt.item x (k : Int) = ⟨#[x.cps.getD k 0]⟩ := item_at x k (Int.natCast_nonneg _) (Int.ofNat_lt.mpr h)
theorem dig_48 {c : Nat} (h : isD c = true) : 48 ≤ c := by
  rw [isD, Bool.and_eq_true, decide_eq_true_eq] at h
  exact h.1
theorem add_sub_l (a b : Int) : a + b - a = b := by omega
theorem p63 : (2 : Int) ^ Int.toNat 63 = 9223372036854775808 := by decide
theorem sat_past {x : Str} {a i n : Nat} (hd : ∀ k : Nat, a ≤ k → k < a + n → isD (x.cps.getD k 0) = true) (hi : i < n) {v : Int} (hv : dfold 0 (cut x a (a + (i + 1))) = v) (h : 2 ^ Int.toNat 63 ≤ v - 1) : 9223372036854775808 + 1 = sat (dfold 0 (cut x a (a + n))) := by
  have e2 : dfold 0 (cut x a (a + n)) = dfold v (cut x (a + (i + 1)) (a + n)) := by
    rw [cut_app x a (a + (i + 1)) (a + n) (Nat.le_add_right _ _) (Nat.add_le_add_left hi a), ← hv]
    exact List.foldl_append
  rw [p63] at h
  have hge := dfold_ge (l := cut x (a + (i + 1)) (a + n)) (fun c hc => by obtain ⟨k, k1, k2, _, rfl⟩ := cut_mem hc; exact dig_48 (hd k (Nat.le_trans (Nat.le_add_right _ _) k1) k2)) (v := v) (by clear hv e2; omega)
  rw [sat, e2, if_pos (by clear hv e2; omega)]
  rfl
theorem digits_value_c {w : World} {mean mg mb} (x : Str) (qx : Tok) (a b : Int) (ta tb : Tok) (hx : x.length ≤ 1000) (ha : 0 ≤ a) (hab : a ≤ b) (hb : b ≤ x.length)
    (hd : ∀ k : Nat, a.toNat ≤ k → k < b.toNat → isD (x.cps.getD k 0) = true) :
    Pure w mean mg mb 990 1000 407 [.str x qx, .int a ta, .int b tb] (fun _ => True) (fun _ v _ => ∃ u, v = .int (sat (dfold 0 (cut x a.toNat b.toNat))) u) := by
  obtain ⟨a, rfl⟩ := Int.eq_ofNat_of_zero_le ha
  obtain ⟨n, rfl⟩ := Int.le.dest hab
  replace hd : ∀ k : Nat, a ≤ k → k < a + n → isD (x.cps.getD k 0) = true := hd
  replace hb : a + n ≤ x.cps.size := Int.ofNat_le.mp hb
  have hn : ((a : Int) + n) ≤ 1000000 := Int.ofNat_le.mpr (Nat.le_trans hb (Nat.le_trans hx (by decide)))
  have hs0 : (n : Int) ≤ 1000000 := Int.le_trans (Int.le_add_of_nonneg_left ha) hn
  intro A s Q E e1 e2 e3 W _ hQ
  replace hQ : ∀ v h' tk, s.heap.StaysIn h' → (∃ u, v = .int (sat (dfold 0 (cut x a (a + n)))) u) → Q v { s with heap := h', toks := tk } := hQ
  refine in_mono (A' := ⟨none, 990, A.frames, A.guards, 1000⟩) ?_ e1 e2 rfl rfl e3
  generalize A.frames = fr
  generalize A.guards = gd
  refine' enterP (binds := [("text", .str x qx), ("first", .int a ta), ("behind", .int (a + n) tb)]) W ?k1 ?kf1 ?kf2 ?kf3 ?k2 ?k3 ?k4 ?k5 ?_ ?k6 ?k7 ?k8 ?k9
  k_extra "enter"
  have X' := W.X
  have T' := W.T
  clear W
  intro L' h₁ tk2 F' N'
  k_extra "go"
  rename IsRange _ _ _ _ _ _ _ _ => hr
  rename Fr _ _ _ _ => F3
  rename News _ _ _ _ => N3
  refine it_range (n := n) (fun i m n => n = [] ∧ ∃ v u, m "value" = some (.int v u) ∧ m "text" = some (.str x qx) ∧ v = dfold 0 (cut x a (a + i)) ∧ v ≤ 9223372036854775808)
    (by rfl) rfl hr (small_one ha hab hn) ((size_one hab).trans (add_sub_l _ _)).symm F3 N3 ⟨rfl, 0, _, rfl, rfl, ?_, by decide⟩ fun I => .of0 ?_ ?_
  · simp [cut, dfold]
  · clear F3 N3 hr hab hn hs0
    rintro i v m₁ h tk own hi ⟨u1, rfl⟩ ⟨v, u, hm1, hm2, hv, hle⟩ ho _ F4 N4
    have hai := Nat.add_lt_add_left hi a
    have e1 : (a : Int) + (i : Int) * 1 = ((a + i : Nat) : Int) := by rw [Int.mul_one]; rfl
    rw [e1] at F4
    have hit := congrArg (fun z => z.cps.getD 0 0) (item_nat x (Nat.lt_of_lt_of_le hai hb))
    have hsn : dfold 0 (cut x a (a + (i + 1))) = v * 10 + (x.cps.getD (a + i) 0 : Nat) - 48 := by
      rw [← Nat.add_assoc, cut_snoc x a (a + i) (Nat.le_add_right _ _) (Nat.lt_of_lt_of_le hai hb), hv]
      simp [dfold]
    have hlt : ((a + i : Nat) : Int) < x.length := Int.ofNat_lt.mpr (Nat.lt_of_lt_of_le hai hb)
    have hge : (0 : Int) ≤ ((a + i : Nat) : Int) := Int.natCast_nonneg _
    k_extra "go"
    · rename_i hgt
      rw [hit] at hgt
      exact hQ _ _ _ (Fr.keep (by assumption)) (ex_int (sat_past hd hi hsn (Int.le_sub_one_of_lt hgt)))
    · rename_i hgt
      rw [hit] at hgt
      refine' LoopStepU.intro (by assumption) (by assumption) ho ⟨rfl, _, _, ?zm, ?zn, ?zv, ?zl⟩
      case zm => k_extra "look"
      case zn => k_extra "look"
      case zv => rw [hit]; exact hsn.symm
      case zl => rw [hit]; exact Int.not_lt.mp hgt
  · rintro h tk m₁ ⟨v, u, hm1, hm2, hv, hle⟩ F4 N4
    dsimp only
    k_extra "go"
    refine hQ _ _ _ F4.keep ⟨u, ?_⟩
    rw [← hv, sat, if_neg (Int.not_lt.mpr hle)]
open PySem.Spec
noncomputable def Inst (h : Heap) (a C : Addr) : Prop := ∃ ox es n, InstAt h a ox C (some (dictOf es n))
noncomputable def At (h : Heap) (a C : Addr) (name : Str) (v : Value) : Prop := ∃ ox es n, InstAt h a ox C (some (dictOf es n)) ∧ getL name es = some (some v)
theorem instAt_keeps {h h' : Heap} {a C : Addr} {ox : Obj} {od : Option Obj} (k : h.StaysIn h') (I : InstAt h a ox C od) : InstAt h' a ox C od := by
  obtain ⟨h1, h2, h3, h4⟩ := I
  refine ⟨k _ _ h1, h2, h3, ?_⟩
  cases hd : ox.dict <;> cases od <;> simp only [hd] at h4 ⊢
  exact k _ _ h4
theorem Inst.keeps {h h' : Heap} {a C : Addr} (I : Inst h a C) (k : h.StaysIn h') : Inst h' a C := let ⟨ox, es, n, i⟩ := I; ⟨ox, es, n, instAt_keeps k i⟩
theorem At.keeps {h h' : Heap} {a C : Addr} {x : Str} {v : Value} (I : At h a C x v) (k : h.StaysIn h') : At h' a C x v := let ⟨ox, es, n, i, g⟩ := I; ⟨ox, es, n, instAt_keeps k i, g⟩
theorem At.inst {h : Heap} {a C : Addr} {x : Str} {v : Value} (I : At h a C x v) : Inst h a C := let ⟨ox, es, n, i, _⟩ := I; ⟨ox, es, n, i⟩
inductive CutEnd (h₀ : Heap) (L : Addr) (s : Shared) (J : (Str → Option Value) → Prop) (K : Flow → Shared → Prop) : Flow → Shared → Prop where
  | make {h' : Heap} {tk : Nat} {m' : Str → Option Value} (F : Fr h₀ L h' m') (j : J m') : CutEnd h₀ L s J K .next { s with heap := h', toks := tk }
  | ret {v : Value} {s' : Shared} (h : K (.ret v) s') : CutEnd h₀ L s J K (.ret v) s'
theorem cutF {M : Model} {A : Around} {E : Value → Shared → Prop} {s : Shared} {h₀ : Heap} {L : Addr} {t : Sem Flow} {K : Flow → Shared → Prop} (J : (Str → Option Value) → Prop)
    (h1 : wpAny M A t (CutEnd h₀ L s J K) (fun _ _ => False) s)
    (h2 : ∀ h' tk m', Fr h₀ L h' m' → News h₀ L h' [] → J m' → K .next { s with heap := h', toks := tk }) : wpAny M A t K E s :=
  wpAny_mono h1 (fun _ _ x => by cases x with
    | make F j => exact h2 _ _ _ F News.nil j
    | ret h => exact h) fun _ _ x => x.elim
structure AtrOk (P : Params) (C : Addr) (name : Str) : Prop where
  a : plainGet (Hd.K P) C name = true
  b : hasDictIn (Hd.K P) C = true
  c : ∃ attr, findIn (Hd.K P) (.ref C) name = some attr ∧ noGet (Hd.K P) attr = true
structure IsiOk (P : Params) (C : Addr) : Prop where
  a : plainGet (Hd.K P) C "__class__" = true
  b : hasDictIn (Hd.K P) C = true
  c : findIn (Hd.K P) (.ref C) "__class__" = some (some (.builtin "object.__class__"))
  d : specialIn (Hd.K P) (.builtin "object.__class__") "__get__" = some (some (.builtin "getset_descriptor.__get__"))
  e : takesIn (Hd.K P) (.builtin "object.__class__") = some true
  f : mroIn (Hd.K P) C (.type "object") = some true
section
variable {w : World} {A : Around} {E : Value → Shared → Prop} {s : Shared} {h₀ : Heap} {L a C D d : Addr} {m : Str → Option Value} {name : Str} {v : Value} {Q : Value → Shared → Prop}
theorem at_get {expr : Bool} (F : Fr h₀ L s.heap m) (X₀ : (Hd.K w.params).In h₀) (ok : AtrOk w.params C name) (I : At h₀ a C name v) (hv : handedIn v = true) (h : Q v { s with toks := s.toks + 1 }) :
    wpAny (model Challenge.rw_pq0857_01.row.prog w) A (getAttr (.ref a) name expr) Q E s := by
  obtain ⟨ox, es, n, i, g⟩ := I
  obtain ⟨attr, c1, c2⟩ := ok.c
  exact get_own F X₀ (instAt_keeps F.keep i) ok.a ok.b c1 c2 g hv h
theorem isi_yes (F : Fr h₀ L s.heap m) (X₀ : (Hd.K w.params).In h₀) (I : Inst h₀ a C) (e : isIn (Hd.K w.params) (.ref C) C = true) (h : Q (.bool true) s) :
    wpAny (model Challenge.rw_pq0857_01.row.prog w) A (call (.builtin "isinstance") [.ref a, .ref C]) Q E s := by
  obtain ⟨ox, es, n, i⟩ := I
  exact isi_call (X₀.keeps F.keep) (fun M => (instAt_keeps F.keep i).type) e (fun q => by cases q) h
theorem isi_no (F : Fr h₀ L s.heap m) (X₀ : (Hd.K w.params).In h₀) (I : Inst h₀ a D) (ok : IsiOk w.params D) (e : kin_not (Hd.K w.params) D C = true) (h : Q (.bool false) { s with toks := s.toks + 1 }) :
    wpAny (model Challenge.rw_pq0857_01.row.prog w) A (call (.builtin "isinstance") [.ref a, .ref C]) Q E s := by
  obtain ⟨ox, es, n, i⟩ := I
  exact kin_callC (X₀.keeps F.keep) (instAt_keeps F.keep i) e ok.a ok.b ok.c ok.d ok.e ok.f h
theorem isi_noT {T : String} (F : Fr h₀ L s.heap m) (X₀ : (Hd.K w.params).In h₀) (I : Inst h₀ a D) (ok : IsiOk w.params D) (e : kin_notT (Hd.K w.params) D T = true) (hty : typeOf (.type T) = pure (.type "type")) (h : Q (.bool false) { s with toks := s.toks + 1 }) :
    wpAny (model Challenge.rw_pq0857_01.row.prog w) A (call (.builtin "isinstance") [.ref a, .type T]) Q E s := by
  obtain ⟨ox, es, n, i⟩ := I
  exact kin_callT (X₀.keeps F.keep) (instAt_keeps F.keep i) e hty ok.a ok.b ok.c ok.d ok.e ok.f h
theorem in_dct {kvs : List (Str × Value)} {k : Str} {tk : Tok} (F : Fr h₀ L s.heap m) (D : h₀.DictOf (PySem.strKind Challenge.rw_pq0857_01.row.prog w) d kvs) (lo : (d == sysModules) = false) (h : Q (.bool (valueAt kvs k).isSome) { s with toks := s.toks + 1 }) :
    wpAny (model Challenge.rw_pq0857_01.row.prog w) A (compareOp .In (.str k tk) (.ref d)) Q E s := by
  obtain ⟨o, ho, hd⟩ := Heap.dictOf_iff.mp D
  exact wpAny_in_of (strKind_is _ _ _ _) lo (Heap.dictOf_iff.mpr ⟨o, F.keep _ _ ho, hd⟩).mapOf h
theorem item_dct {kvs : List (Str × Value)} {k : Str} {tk : Tok} (F : Fr h₀ L s.heap m) (D : h₀.DictOf (PySem.strKind Challenge.rw_pq0857_01.row.prog w) d kvs) (hv : valueAt kvs k = some v) (h : Q v { s with toks := s.toks + 1 }) :
    wpAny (model Challenge.rw_pq0857_01.row.prog w) A (getItem (.ref d) (.str k tk)) Q E s := by
  obtain ⟨o, ho, hd⟩ := Heap.dictOf_iff.mp D
  exact wpAny_getItem_of (strKind_is _ _ _ _) (Heap.dictOf_iff.mpr ⟨o, F.keep _ _ ho, hd⟩).mapOf hv h
end
theorem isi_Arr (P : Params) : IsiOk P 253 := ⟨by kernel_rfl, by kernel_rfl, by kernel_rfl, by kernel_rfl, by kernel_rfl, by kernel_rfl⟩
theorem isi_Obj (P : Params) : IsiOk P 168 := ⟨by kernel_rfl, by kernel_rfl, by kernel_rfl, by kernel_rfl, by kernel_rfl, by kernel_rfl⟩
theorem atr_Obj_cls (P : Params) : AtrOk P 168 "cls" := ⟨by kernel_rfl, by kernel_rfl, none, by kernel_rfl, by kernel_rfl⟩
theorem atr_Klass_key (P : Params) : AtrOk P 650 "key" := ⟨by kernel_rfl, by kernel_rfl, none, by kernel_rfl, by kernel_rfl⟩
theorem atr_Klass_name (P : Params) : AtrOk P 650 "name" := ⟨by kernel_rfl, by kernel_rfl, none, by kernel_rfl, by kernel_rfl⟩
theorem atr_Klass_parent (P : Params) : AtrOk P 650 "parent" := ⟨by kernel_rfl, by kernel_rfl, none, by kernel_rfl, by kernel_rfl⟩
theorem atr_Klass_interfaces (P : Params) : AtrOk P 650 "interfaces" := ⟨by kernel_rfl, by kernel_rfl, none, by kernel_rfl, by kernel_rfl⟩
theorem atr_Klass_methods (P : Params) : AtrOk P 650 "methods" := ⟨by kernel_rfl, by kernel_rfl, none, by kernel_rfl, by kernel_rfl⟩
theorem atr_Host_tools (P : Params) : AtrOk P 629 "tools" := ⟨by kernel_rfl, by kernel_rfl, none, by kernel_rfl, by kernel_rfl⟩
theorem atr_Host_notes (P : Params) : AtrOk P 629 "notes" := ⟨by kernel_rfl, by kernel_rfl, none, by kernel_rfl, by kernel_rfl⟩
theorem atr_Host_silent (P : Params) : AtrOk P 629 "silent" := ⟨by kernel_rfl, by kernel_rfl, none, by kernel_rfl, by kernel_rfl⟩
structure CI where
  name : Str
  key : Str
  walks : Bool
  shown : Bool
noncomputable def trav : CI := ⟨"Traversable", "traversable", false, false⟩
structure IsCls (w : World) (wa : Addr) (h : Heap) (a : Addr) (c : CI) (p : Value) : Prop where
  name : ∃ t, At h a 650 "name" (.str c.name t)
  key : ∃ t, At h a 650 "key" (.str c.key t)
  parent : At h a 650 "parent" p
  ifs : ∃ l, At h a 650 "interfaces" (.ref l) ∧ h.IsList l (if c.walks then [Value.ref wa] else []).toArray
  meths : ∃ d kvs, At h a 650 "methods" (.ref d) ∧ h.DictOf (PySem.strKind Challenge.rw_pq0857_01.row.prog w) d kvs ∧ (d == sysModules) = false ∧ (valueAt kvs "__tostring").isSome = c.shown
inductive Chain (w : World) (wa : Addr) (h : Heap) : Value → List CI → Prop where
  | nil : Chain w wa h .none []
  | cons {a c p l} : IsCls w wa h a c p → Chain w wa h p l → Chain w wa h (.ref a) (c :: l)
theorem stays_dict {w : World} {h h' : Heap} {d : Addr} {kvs : List (Str × Value)} (k : h.StaysIn h') (D : h.DictOf (PySem.strKind Challenge.rw_pq0857_01.row.prog w) d kvs) : h'.DictOf (PySem.strKind Challenge.rw_pq0857_01.row.prog w) d kvs := by
  obtain ⟨o, ho, hd⟩ := Heap.dictOf_iff.mp D
  exact Heap.dictOf_iff.mpr ⟨o, k _ _ ho, hd⟩
theorem IsCls.keeps {w : World} {wa : Addr} {h h' : Heap} {a : Addr} {c : CI} {p : Value} (I : IsCls w wa h a c p) (k : h.StaysIn h') : IsCls w wa h' a c p := by
  obtain ⟨⟨t1, h1⟩, ⟨t2, h2⟩, h3, ⟨l, h4, h5⟩, ⟨d, kvs, h6, h7, h8, h9⟩⟩ := I
  exact ⟨⟨t1, h1.keeps k⟩, ⟨t2, h2.keeps k⟩, h3.keeps k, ⟨l, h4.keeps k, stays_list k h5⟩, ⟨d, kvs, h6.keeps k, stays_dict k h7, h8, h9⟩⟩
theorem Chain.keeps {w : World} {wa : Addr} {h h' : Heap} {v : Value} {l : List CI} (C : Chain w wa h v l) (k : h.StaysIn h') : Chain w wa h' v l := by
  induction C with
  | nil => exact .nil
  | cons i _ ih => exact .cons (i.keeps k) ih
inductive V where
  | null
  | bool (b : Bool)
  | int (n : Int)
  | str (t : Str)
  | arr (a : Addr)
  | obj (a : Addr) (l : List CI)
noncomputable def NoText (h : Heap) (a : Addr) : Prop := ∃ o, h.get? a = some o ∧ ∀ v, o.data ≠ .prim v
theorem NoText.keeps {h h' : Heap} {a : Addr} (R : NoText h a) (k : h.StaysIn h') : NoText h' a := let ⟨o, i, j⟩ := R; ⟨o, k _ _ i, j⟩
noncomputable def Rep (w : World) (wa : Addr) (h : Heap) : V → Value → Prop
  | .null, v => v = .none
  | .bool b, v => v = .bool b
  | .int n, v => ∃ t, v = .int n t
  | .str x, v => ∃ t, v = .str x t
  | .arr a, v => v = .ref a ∧ Inst h a 253
  | .obj a l, v => v = .ref a ∧ (l ≠ [] ∧ NoText h a) ∧ ∃ c, At h a 168 "cls" c ∧ Chain w wa h c l ∧ handedIn c = true
theorem Rep.keeps {w : World} {wa : Addr} {h h' : Heap} {x : V} {v : Value} (R : Rep w wa h x v) (k : h.StaysIn h') : Rep w wa h' x v := by
  cases x with
  | arr a => exact ⟨R.1, R.2.keeps k⟩
  | obj a l => obtain ⟨r1, r2, c, r3, r4, r5⟩ := R; exact ⟨r1, ⟨r2.1, r2.2.keeps k⟩, c, r3.keeps k, r4.keeps k, r5⟩
  | _ => exact R
noncomputable def kindS : V → Str
  | .null => "null"
  | .bool _ => "bool"
  | .int _ => "int"
  | .str _ => "string"
  | .arr _ => "array"
  | .obj _ _ => "object"
theorem zw5 : True := by
  k_with "isi" => (case fT => (first | exact isi_Arr _ | exact isi_Obj _))
  k_with "inst" => (case fT => (first | k_extra "A" | exact At.inst (by k_extra "A")))
  k_with "@call builtin:isinstance" => (case fT => ((k_here; (with_reducible show wpAny _ _ (call _ [Value.ref _, Value.ref _]) _ _ _); k_dflt (first
  | (refine' isi_yes ?i1 ?i2 ?i3 ?i4 ?_; (case i1 => k_asm); (case i2 => k_asm); (case i3 => k_extra "inst"); (case i4 => kernel_rfl))
  | (refine' isi_no ?i1 ?i2 ?i3 ?i4 ?i5 ?_; (case i1 => k_asm); (case i2 => k_asm); (case i3 => k_extra "inst"); (case i4 => k_extra "isi"); (case i5 => kernel_rfl))))))
  k_with "@call builtin:isinstance" => (case fT => ((k_here; (with_reducible show wpAny _ _ (call _ [Value.ref _, Value.type _]) _ _ _); k_dflt (refine' isi_noT ?i1 ?i2 ?i3 ?i4 ?i5 ?i6 ?_; (case i1 => k_asm); (case i2 => k_asm); (case i3 => k_extra "inst"); (case i4 => k_extra "isi"); (case i5 => kernel_rfl); (case i6 => kernel_rfl)))))
  exact True.intro
theorem ex_str' {x y : Str} {u : Tok} (h : x = y) : ∃ t, Value.str x u = .str y t := ⟨u, by rw [h]⟩
theorem kind_c {w : World} {mean mg mb} (wa : Addr) (x : V) (v : Value) :
    Pure w mean mg mb 990 1000 344 [v] (fun h => Rep w wa h x v) (fun _ r _ => ∃ t, r = .str (kindS x) t) := by
  intro A s Q E e1 e2 e3 W R hQ
  refine in_mono (A' := ⟨none, 990, A.frames, A.guards, 1000⟩) ?_ e1 e2 rfl rfl e3
  generalize A.frames = fr
  generalize A.guards = gd
  refine' enterP (binds := [("value", v)]) W ?k1 ?kf1 ?kf2 ?kf3 ?k2 ?k3 ?k4 ?k5 ?_ ?k6 ?k7 ?k8 ?k9
  k_extra "enter"
  have X' := W.X
  have T' := W.T
  clear W
  intro L' h₁ tk2 F' N'
  rcases x with _ | b | n | t | a | ⟨a, l⟩
  · cases R
    k_steps
    exact hQ _ _ _ (Fr.keep (by assumption)) (ex_str' rfl)
  · cases R
    k_steps
    exact hQ _ _ _ (Fr.keep (by assumption)) (ex_str' rfl)
  · obtain ⟨t, rfl⟩ := R
    k_steps
    exact hQ _ _ _ (Fr.keep (by assumption)) (ex_str' rfl)
  · obtain ⟨t, rfl⟩ := R
    k_steps
    exact hQ _ _ _ (Fr.keep (by assumption)) (ex_str' rfl)
  · obtain ⟨rfl, I⟩ := R
    k_steps
    exact hQ _ _ _ (Fr.keep (by assumption)) (ex_str' rfl)
  · obtain ⟨rfl, hl, c, I, C, hc⟩ := R
    k_steps
    exact hQ _ _ _ (Fr.keep (by assumption)) (ex_str' rfl)
theorem zw6 : True := by
  k_with "cut" => (case fT => ((refine' Mine.CutEnd.make (by k_extra "A") ?_)))
  k_with "pre2" => (case fT => (exact Mine.IsCls.keeps (by k_extra "A") (Fr.keep (by k_extra "A"))))
  k_with "pre2" => (case fT => (exact Mine.Chain.keeps (by k_extra "A") (Fr.keep (by k_extra "A"))))
  k_with "pre2" => (case fT => (exact Mine.Rep.keeps (by k_extra "A") (Fr.keep (by k_extra "A"))))
  exact True.intro
theorem cutZF {M : Model} {A : Around} {E : Value → Shared → Prop} {s : Shared} {h₀ : Heap} {L : Addr} {t : Sem Flow} {K : Flow → Shared → Prop} (J : (Str → Option Value) → Prop)
    (h1 : ∀ Z : Flow → Shared → Prop, (∀ {h' tk m'}, Fr h₀ L h' m' → J m' → Z .next { s with heap := h', toks := tk }) → (∀ v s', K (.ret v) s' → Z (.ret v) s') → wpAny M A t Z (fun _ _ => False) s)
    (h2 : ∀ h' tk m', Fr h₀ L h' m' → News h₀ L h' [] → J m' → K .next { s with heap := h', toks := tk }) : wpAny M A t K E s :=
  cutF J (h1 _ (fun F j => .make F j) fun _ _ x => .ret x) h2
theorem least_c {w : World} {mean mg mb} :
    Pure w mean mg mb 990 1000 100 [] (fun _ => True) (fun _ r _ => ∃ t, r = .int (-9223372036854775808) t) := by
  k_extra "E0"
  refine in_mono (A' := ⟨none, 990, A.frames, A.guards, 1000⟩) ?_ e1 e2 rfl rfl e3
  k_extra "E1"
  refine' enterZ (binds := []) W ?k1 ?kf1 ?kf2 ?kf3 ?k2 ?k3 ?k4 ?k5 ?_ ?k6 ?k7 ?k8 ?k9
  k_extra "E5"
  k_steps
  exact hQ _ _ _ (Fr.keep (by assumption)) ⟨_, rfl⟩
theorem greatest_c {w : World} {mean mg mb} :
    Pure w mean mg mb 990 1000 107 [] (fun _ => True) (fun _ r _ => ∃ t, r = .int 9223372036854775807 t) := by
  k_extra "E0"
  refine in_mono (A' := ⟨none, 990, A.frames, A.guards, 1000⟩) ?_ e1 e2 rfl rfl e3
  k_extra "E1"
  refine' enterZ (binds := []) W ?k1 ?kf1 ?kf2 ?kf3 ?k2 ?k3 ?k4 ?k5 ?_ ?k6 ?k7 ?k8 ?k9
  k_extra "E5"
  k_steps
  exact hQ _ _ _ (Fr.keep (by assumption)) ⟨_, rfl⟩
theorem zw7 : True := by
  k_with "@call ref" => (case fT => ((k_dflt (refine' Mine.use2 (least_c) ?u1 ?u2 ?u3 ?u4 ?u5 ?u6 ?u7 ?u8 ?_; k_extra "uup"); intro tv' h' tk' F' N'; k_extra "ut")))
  k_with "con" => (case fT => ((refine' least_c)))
  k_with "@call ref" => (case fT => ((k_dflt (refine' Mine.use2 (greatest_c) ?u1 ?u2 ?u3 ?u4 ?u5 ?u6 ?u7 ?u8 ?_; k_extra "uup"); intro tv' h' tk' F' N'; k_extra "ut")))
  k_with "con" => (case fT => ((refine' greatest_c)))
  exact True.intro
noncomputable def signedV (b : Bool) (v : Int) : Option Int :=
  let n := if b then -v else v
  if n < -9223372036854775808 ∨ 9223372036854775807 < n then none else some n
noncomputable def optV (o : Option Int) (r : Value) : Prop := match o with | none => r = .none | some n => ∃ t, r = .int n t
theorem signed_c {w : World} {mean mg mb} (b : Bool) (v : Int) (t : Tok) (h0 : 0 ≤ v) (h1 : v ≤ 9223372036854775809) :
    Pure w mean mg mb 970 980 414 [.bool b, .int v t] (fun _ => True) (fun _ r _ => optV (signedV b v) r) := by
  k_extra "E0"
  refine in_mono (A' := ⟨none, 970, A.frames, A.guards, 980⟩) ?_ e1 e2 rfl rfl e3
  k_extra "E1"
  refine' enterZ (binds := [("is_minus", .bool b), ("value", .int v t)]) W ?k1 ?kf1 ?kf2 ?kf3 ?k2 ?k3 ?k4 ?k5 ?_ ?k6 ?k7 ?k8 ?k9
  k_extra "E5"
  cases b
  all_goals (
    k_steps
    all_goals (first | exact hQ _ _ _ (Fr.keep (by assumption)) (by
      unfold signedV
      first
        | (rw [if_pos (by simp; omega)]; exact rfl)
        | (rw [if_neg (by simp; omega)]; exact ⟨_, rfl⟩)) | trace_state))
noncomputable def isB (c : Nat) : Bool := decide (c ∈ [32, 9, 10, 13, 11, 12])
theorem one_eq (a b : Nat) : ((⟨#[a]⟩ : Str) == ⟨#[b]⟩) = (a == b) := by
  rw [Bool.eq_iff_iff]; simp
theorem any_one (d : Nat) : ∀ l : List Nat, ((l.map fun c => (⟨#[c]⟩ : Str)).any fun x => x == ⟨#[d]⟩) = decide (d ∈ l)
  | [] => rfl
  | c :: r => by rw [List.map_cons, List.any_cons, any_one d r, one_eq, Bool.eq_iff_iff, Bool.or_eq_true, decide_eq_true_eq, decide_eq_true_eq, List.mem_cons, beq_iff_eq, eq_comm]
theorem blanks_any (d : Nat) : ([Str.ofString " ", Str.ofString "\t", Str.ofString "\n", Str.ofString "\x0d", Str.ofString "\x0b", Str.ofString "\x0c"].any fun x => x == (⟨#[d]⟩ : Str)) = isB d := by
  exact (congrArg (fun l : List Str => l.any fun x => x == (⟨#[d]⟩ : Str)) (show [Str.ofString " ", Str.ofString "\t", Str.ofString "\n", Str.ofString "\x0d", Str.ofString "\x0b", Str.ofString "\x0c"] = [32, 9, 10, 13, 11, 12].map fun c => (⟨#[c]⟩ : Str) by decide +kernel)).trans (any_one d _)
theorem blanks_behind_c {w : World} {mean mg mb} (t : Str) (tk : Tok) (i : Int) (tk' : Tok) (ht : t.length ≤ 1000) (hi : 0 ≤ i) (hi2 : i ≤ 1000) :
    Pure w mean mg mb 980 990 428 [.str t tk, .int i tk'] (fun _ => True) (fun _ v _ => ∃ u, v = .int (scan isB t i.toNat) u) := by
  obtain ⟨a, rfl⟩ := Int.eq_ofNat_of_zero_le hi
  k_extra "E0"
  refine in_mono (A' := ⟨none, 980, A.frames, A.guards, 990⟩) ?_ e1 e2 rfl rfl e3
  k_extra "E1"
  refine' enterZ (binds := [("text", .str t tk), ("at", .int a tk')]) W ?k1 ?kf1 ?kf2 ?kf3 ?k2 ?k3 ?k4 ?k5 ?_ ?k6 ?k7 ?k8 ?k9
  k_extra "E5"
  walk1
  refine While_inv0 (fun k m => ∃ (j : Nat) (u : Tok), m "at" = some (.int j u) ∧ m "text" = some (.str t tk) ∧ k + j = (1001 : Nat) + t.length ∧ scan isB t j = scan isB t a) (n₀ := 1001 + t.length - a) F' N' ⟨a, tk', rfl, rfl, far_nat hi2, rfl⟩ ?_ PassesOwn.never
  clear F' N'
  rintro n m₁ h₂ tk₁ F' N' ⟨j, u, hm1, hm2, hk, hs⟩
  have hj : (0 : Int) ≤ j := Int.natCast_nonneg j
  k_extra "go"
  · have hlt : (j : Int) < t.length := by assumption
    rename (List.any _ _ = true) => hb
    rename Fr _ _ _ _ => F2
    have hb := (blanks_any _).symm.trans (item_at t j hj hlt ▸ hb)
    have ht := turn_nat hk (Int.ofNat_lt.mp hlt)
    exact ⟨_, _, _, [], n - 1, rfl, F2, News.nil, ht.1, rfl, j + 1, _, (by k_extra "look"), (by k_extra "look"), ht.2, (scan_go (Int.ofNat_lt.mp hlt) hb).symm.trans hs⟩
  · have hlt : (j : Int) < t.length := by assumption
    rename (List.any _ _ = false) => hb
    have hb := (blanks_any _).symm.trans (item_at t j hj hlt ▸ hb)
    exact hQ _ _ _ (Fr.keep (by assumption)) (ex_scan (hs.symm.trans (scan_end fun q => by cases q.2.symm.trans hb)))
  · have hlt : ¬ (j : Int) < t.length := by assumption
    exact hQ _ _ _ (Fr.keep (by assumption)) (ex_scan (hs.symm.trans (scan_end fun q => hlt (Int.ofNat_lt.mpr q.1))))
open PySem.Builtin.Str in
theorem slice_clip (a b L : Nat) : strSliceIndices (some (a : Int)) (some (b : Int)) 1 L = strSliceIndices (some ((min a L : Nat) : Int)) (some ((min b L : Nat) : Int)) 1 L := by
  have n : ∀ a : Nat, ¬ (a : Int) < 0 := fun a => Int.not_lt.mpr (Int.natCast_nonneg a)
  have e : ∀ a : Nat, min ((min a L : Nat) : Int) (L : Int) = min (a : Int) L := fun a => (Nat.le_total a L).elim (fun h => by rw [Nat.min_eq_left h]) fun h => by rw [Nat.min_eq_right h, Int.min_self, Int.min_eq_right (Int.ofNat_le.mpr h)]
  simp only [strSliceIndices, n, if_false, e]
  rfl
theorem slice_nat (x : Str) {a b : Nat} (h : a ≤ b) : Txt.slice x (some (a : Int)) (some (b : Int)) = ⟨((x.cps.toList.drop a).take (b - a)).toArray⟩ := by
  have hl : x.cps.toList.length = x.length := Array.length_toList
  have e : Txt.slice x (some (a : Int)) (some (b : Int)) = Txt.slice x (some ((min a x.length : Nat) : Int)) (some ((min b x.length : Nat) : Int)) := by
    show StrLaws.sliceText x _ _ = StrLaws.sliceText x _ _
    unfold StrLaws.sliceText
    rw [slice_clip a b]
  have hm : min a x.length ≤ min b x.length := Nat.le_min.mpr ⟨Nat.le_trans (Nat.min_le_left _ _) h, Nat.min_le_right _ _⟩
  rw [e, beq_iff_eq.mp (slice_closes ⟨Int.natCast_nonneg _, Int.ofNat_le.mpr hm, Int.ofNat_le.mpr (Nat.min_le_right _ _)⟩), ← Int.ofNat_sub hm]
  refine congrArg (fun l : List Nat => (⟨l.toArray⟩ : Str)) (show (x.cps.toList.drop (min a x.length)).take (min b x.length - min a x.length) = _ from ?_)
  by_cases ha : a ≤ x.length
  · rw [Nat.min_eq_left ha]
    by_cases hb : b ≤ x.length
    · rw [Nat.min_eq_left hb]
    · have hb := Nat.le_of_not_le hb
      rw [Nat.min_eq_right hb, List.take_of_length_le (by rw [List.length_drop, hl]; exact Nat.le_refl _), List.take_of_length_le (by rw [List.length_drop, hl]; exact Nat.sub_le_sub_right hb _)]
  · have ha := Nat.le_of_not_le ha
    rw [Nat.min_eq_right ha, List.drop_eq_nil_of_le (Nat.le_of_eq hl), List.drop_eq_nil_of_le (hl ▸ ha), List.take_nil, List.take_nil]
theorem slice_at {x : Str} {i j : Int} (h0 : 0 ≤ i) (h1 : i ≤ j) : Txt.slice x (some i) (some j) = ⟨((x.cps.toList.drop i.toNat).take (j - i).toNat).toArray⟩ := by
  obtain ⟨a, rfl⟩ := Int.eq_ofNat_of_zero_le h0
  obtain ⟨b, rfl⟩ := Int.eq_ofNat_of_zero_le (Int.le_trans h0 h1)
  rw [← Int.ofNat_sub (Int.ofNat_le.mp h1)]
  exact slice_nat x (Int.ofNat_le.mp h1)
theorem slice_one (x : Str) (i : Int) (h0 : 0 ≤ i) : Txt.slice x (some i) (some (i + 1)) = if i.toNat < x.cps.size then ⟨#[x.cps.getD i.toNat 0]⟩ else ⟨#[]⟩ := by
  obtain ⟨a, rfl⟩ := Int.eq_ofNat_of_zero_le h0
  refine (slice_nat x (Nat.le_succ a)).trans ?_
  rw [Nat.succ_sub (Nat.le_refl a), Nat.sub_self]
  split
  · rename_i h
    rw [List.drop_eq_getElem_cons (by simpa using h)]
    simp [Array.getD, h]
  · rename_i h
    rw [List.drop_eq_nil_of_le (by simpa using Nat.le_of_not_lt h)]
    rfl
theorem scan_ge (p : Nat → Bool) (t : Str) (n : Nat) : n ≤ scan p t n := Nat.le_add_right _ _
theorem scan_le (p : Nat → Bool) (t : Str) (n : Nat) : scan p t n ≤ max n t.cps.size := by
  unfold scan
  have h := (List.takeWhile_sublist p (l := t.cps.toList.drop n)).length_le
  rw [List.length_drop, Array.length_toList] at h
  exact Nat.le_trans (Nat.add_le_add_left h n) (by rw [Nat.add_comm, Nat.sub_add_eq_max, Nat.max_comm]; exact Nat.le_refl _)
theorem Pure.weak {w : World} {mean mg mb} {d u : Nat} {f : Addr} {vs : List Value} {Pre Pre' : Heap → Prop} {Post Post' : Heap → Value → Heap → Prop} (P : Pure w mean mg mb d u f vs Pre Post)
    (hp : ∀ h, Pre' h → Pre h) (k : ∀ h v h', Post h v h' → Post' h v h') : Pure w mean mg mb d u f vs Pre' Post' :=
  fun A s Q E e1 e2 e3 W R hQ => P A s Q E e1 e2 e3 W (hp _ R) fun v h' tk st po => hQ v h' tk st (k _ _ _ po)
theorem digits_behind_b {w : World} {mean mg mb} (t : Str) (tk : Tok) (i : Int) (tk' : Tok) (ht : t.length ≤ 1000) (hi : 0 ≤ i) (hi2 : i ≤ 1000) :
    Pure w mean mg mb 980 990 400 [.str t tk, .int i tk'] (fun _ => True) (fun _ v _ => ∃ u, v = .int (scan isD t i.toNat) u ∧ i.toNat ≤ scan isD t i.toNat ∧ scan isD t i.toNat ≤ max i.toNat t.length) :=
  (digits_behind_c t tk i tk' ht hi hi2).weak (fun _ h => h) fun _ _ _ ⟨u, h⟩ => ⟨u, h, scan_ge _ _ _, scan_le _ _ _⟩
theorem blanks_behind_b {w : World} {mean mg mb} (t : Str) (tk : Tok) (i : Int) (tk' : Tok) (ht : t.length ≤ 1000) (hi : 0 ≤ i) (hi2 : i ≤ 1000) :
    Pure w mean mg mb 980 990 428 [.str t tk, .int i tk'] (fun _ => True) (fun _ v _ => ∃ u, v = .int (scan isB t i.toNat) u ∧ i.toNat ≤ scan isB t i.toNat ∧ scan isB t i.toNat ≤ max i.toNat t.length) :=
  (blanks_behind_c t tk i tk' ht hi hi2).weak (fun _ h => h) fun _ _ _ ⟨u, h⟩ => ⟨u, h, scan_ge _ _ _, scan_le _ _ _⟩
theorem zw8 : True := by
  k_with "@call ref" => (case fT => ((k_dflt (refine' Mine.use1 (is_digit_c _ _ _ _ ?k0 ?ki) ?u1 ?u2 ?u3 ?u4 ?u5 ?u6 ?u7 ?u8 ?_; k_extra "uup"; (case k0 => k_extra "AO"); (case ki => (first | assumption | exact Int.natCast_nonneg _ | omega))); intro h' tk' F' N'; k_extra "ut")))
  k_with "con" => (case fT => ((refine' is_digit_c _ _ _ _ ?k0 ?ki)))
  k_with "@call ref" => (case fT => ((k_dflt (refine' Mine.use3 (digits_behind_b _ _ _ _ ?k0 ?ki ?kj) ?u1 ?u2 ?u3 ?u4 ?u5 ?u6 ?u7 ?u8 ?_; k_extra "uup"; (case k0 => k_extra "AO"); (case ki => k_extra "AO"); (case kj => k_extra "AO")); intro tv' h' tk' F' N' hge' hle'; k_extra "ut")))
  k_with "@call ref" => (case fT => ((k_dflt (refine' Mine.use3 (blanks_behind_b _ _ _ _ ?k0 ?ki ?kj) ?u1 ?u2 ?u3 ?u4 ?u5 ?u6 ?u7 ?u8 ?_; k_extra "uup"; (case k0 => k_extra "AO"); (case ki => k_extra "AO"); (case kj => k_extra "AO")); intro tv' h' tk' F' N' hge' hle'; k_extra "ut")))
  exact True.intro
noncomputable def oneOf (l : List Str) (t : Str) (i : Int) : Bool := l.any fun x => x == Txt.slice t (some i) (some (i + 1))
noncomputable def expB (t : Str) (i : Int) : Int :=
  if oneOf ["e", "E"] t i = true then
    (let j := if oneOf ["+", "-"] t (i + 1) = true then i + 1 + 1 else i + 1
     if isDig t j.toNat = true then scan isD t j.toNat else i)
  else i
theorem exponent_behind_c {w : World} {mean mg mb} (t : Str) (tk : Tok) (i : Int) (tk' : Tok) (ht : t.length ≤ 900) (hi : 0 ≤ i) (hi2 : i ≤ 950) :
    Pure w mean mg mb 960 970 421 [.str t tk, .int i tk'] (fun _ => True) (fun _ v _ => ∃ u, v = .int (expB t i) u) := by
  k_extra "E0"
  refine in_mono (A' := ⟨none, 960, A.frames, A.guards, 970⟩) ?_ e1 e2 rfl rfl e3
  k_extra "E1"
  refine' enterZ (binds := [("text", .str t tk), ("at", .int i tk')]) W ?k1 ?kf1 ?kf2 ?kf3 ?k2 ?k3 ?k4 ?k5 ?_ ?k6 ?k7 ?k8 ?k9
  k_extra "E5"
  k_steps
  all_goals (refine hQ _ _ _ (Fr.keep (by assumption)) (ex_int ?_); simp only [expB, oneOf, *, if_true, if_false, Bool.false_eq_true])
theorem scan_i {t : Str} {j c : Int} (h0 : 0 ≤ j) (hj : j ≤ c) : j ≤ (scan isD t j.toNat : Int) ∧ (scan isD t j.toNat : Int) ≤ max c t.length := by
  obtain ⟨a, rfl⟩ := Int.eq_ofNat_of_zero_le h0
  refine ⟨Int.ofNat_le.mpr (scan_ge _ _ _), ?_⟩
  by_cases q : a ≤ t.length
  · exact Int.le_trans (Int.ofNat_le.mpr (Nat.le_trans (scan_le isD t a) (Nat.le_of_eq (Nat.max_eq_right q)))) (Int.le_max_right _ _)
  · exact Int.le_trans (Int.ofNat_le.mpr (Nat.le_trans (scan_le isD t a) (Nat.le_of_eq (Nat.max_eq_left (Nat.le_of_not_le q))))) (Int.le_trans hj (Int.le_max_left _ _))
theorem expB_bounds (t : Str) (i : Int) (hi : 0 ≤ i) : i ≤ expB t i ∧ expB t i ≤ max (i + 3) t.length := by
  have h1 : i ≤ i + 1 := Int.le_add_of_nonneg_right (by decide)
  have h2 : i ≤ i + 1 + 1 := Int.le_trans h1 (Int.le_add_of_nonneg_right (by decide))
  have h3 : i + 1 ≤ i + 3 := Int.add_le_add_left (by decide) i
  have h4 : i + 1 + 1 ≤ i + 3 := (Int.add_assoc i 1 1) ▸ Int.add_le_add_left (by decide) i
  have z : i ≤ i ∧ i ≤ max (i + 3) t.length := ⟨Int.le_refl _, Int.le_trans (Int.le_trans h1 h3) (Int.le_max_left _ _)⟩
  have s1 := scan_i (t := t) (Int.le_trans hi h1) h3
  have s2 := scan_i (t := t) (Int.le_trans hi h2) h4
  unfold expB
  split
  · dsimp only
    split
    · split
      · exact ⟨Int.le_trans h2 s2.1, s2.2⟩
      · exact z
    · split
      · exact ⟨Int.le_trans h1 s1.1, s1.2⟩
      · exact z
  · exact z
theorem exponent_behind_b {w : World} {mean mg mb} (t : Str) (tk : Tok) (i : Int) (tk' : Tok) (ht : t.length ≤ 900) (hi : 0 ≤ i) (hi2 : i ≤ 950) :
    Pure w mean mg mb 960 970 421 [.str t tk, .int i tk'] (fun _ => True) (fun _ v _ => ∃ u, v = .int (expB t i) u ∧ i ≤ expB t i ∧ expB t i ≤ max (i + 3) t.length) :=
  (exponent_behind_c t tk i tk' ht hi hi2).weak (fun _ h => h) fun _ _ _ ⟨u, h⟩ => ⟨u, h, expB_bounds t i hi⟩
theorem dfold_bound (x : Str) (a b : Nat) : sat (dfold 0 (cut x a b)) ≤ 9223372036854775809 := by unfold sat; split <;> omega
theorem dfold_nonneg (l : List Nat) (hl : ∀ c ∈ l, 48 ≤ c) : 0 ≤ sat (dfold 0 l) := by
  have := dfold_ge hl (v := 0) (by omega)
  unfold sat; split <;> omega
theorem tw_all {p : Nat → Bool} : ∀ {l : List Nat} {j : Nat}, j < (l.takeWhile p).length → p (l.getD j 0) = true
  | [], _, h => absurd h (Nat.not_lt_zero _)
  | a :: l, j, h => by
    rw [List.takeWhile_cons] at h
    split at h
    · rename_i q
      cases j with
      | zero => exact q
      | succ j => exact tw_all (l := l) (Nat.lt_of_succ_lt_succ h)
    · exact absurd h (Nat.not_lt_zero _)
theorem scan_all {p : Nat → Bool} {t : Str} {n k : Nat} (h1 : n ≤ k) (h2 : k < scan p t n) : p (t.cps.getD k 0) = true := by
  obtain ⟨j, rfl⟩ := Nat.le.dest h1
  have := tw_all (Nat.lt_of_add_lt_add_left h2)
  rw [List.getD_eq_getElem?_getD, List.getElem?_drop, Array.getElem?_toList] at this
  rw [Array.getD_eq_getD_getElem?]
  exact this
theorem oneOf_lt {l : List Str} {t : Str} {i : Int} (hi : 0 ≤ i) (he : ∀ x ∈ l, x ≠ ⟨#[]⟩) (h : oneOf l t i = true) : i < t.length := by
  have hl : t.length = t.cps.size := rfl
  unfold oneOf at h
  obtain ⟨x, hx, e⟩ := List.any_eq_true.mp h
  rw [slice_one t i hi] at e
  split at e
  · omega
  · exact absurd (beq_iff_eq.mp e) (he x hx)
structure Num where
  sort : Int
  value : Option Int
noncomputable def numFirst (t : Str) : Int := scan isB t 0
noncomputable def numSign (t : Str) : Int := if oneOf ["+", "-"] t (numFirst t) = true then numFirst t + 1 else numFirst t
noncomputable def numBehind (t : Str) : Int := scan isD t (numSign t).toNat
noncomputable def numPointed (t : Str) : Bool := Txt.slice t (some (numBehind t)) (some (numBehind t + 1)) == Str.ofString "." && (decide (numSign t < numBehind t) || isDig t (numBehind t + 1).toNat)
noncomputable def numFar (t : Str) : Int := expB t (if numPointed t = true then scan isD t (numBehind t + 1).toNat else numBehind t)
@[irreducible] noncomputable def numValue (t : Str) : Option Int := if numFar t = numBehind t then signedV (Txt.slice t (some (numFirst t)) (some (numFirst t + 1)) == Str.ofString "-") (sat (dfold 0 (cut t (numSign t).toNat (numBehind t).toNat))) else none
@[irreducible] noncomputable def numericV (t : Str) : Num :=
  if numBehind t = numSign t ∧ numPointed t = false then ⟨0, some 0⟩ else
  if (scan isB t (numFar t).toNat : Int) = t.length then ⟨2, numValue t⟩ else ⟨1, numValue t⟩
theorem numeric_bounds (t : Str) : 0 ≤ numFirst t ∧ numFirst t ≤ numSign t ∧ numSign t ≤ t.length ∧ numSign t ≤ numBehind t ∧ numBehind t ≤ t.length := by
  have f : 0 ≤ numFirst t := Int.natCast_nonneg _
  have fl : numFirst t ≤ t.length := Int.ofNat_le.mpr (Nat.le_trans (scan_le isB t 0) (Nat.max_le.mpr ⟨Nat.zero_le _, Nat.le_refl _⟩))
  have d : numFirst t ≤ numSign t ∧ numSign t ≤ t.length := by
    unfold numSign
    split
    · rename_i h
      exact ⟨Int.le_add_of_nonneg_right (by decide), oneOf_lt f (by decide) h⟩
    · exact ⟨Int.le_refl _, fl⟩
  refine ⟨f, d.1, d.2, ?_⟩
  unfold numBehind
  obtain ⟨a, ea⟩ := Int.eq_ofNat_of_zero_le (Int.le_trans f d.1)
  have d2 := d.2
  rw [ea] at d2 ⊢
  exact ⟨Int.ofNat_le.mpr (scan_ge isD t a), Int.ofNat_le.mpr (Nat.le_trans (scan_le isD t a) (Nat.max_le.mpr ⟨Int.ofNat_le.mp d2, Nat.le_refl _⟩))⟩
theorem far_ok {t : Str} (ht : t.length ≤ 900) {b : Bool} : 0 ≤ (if b = true then (scan isD t (numBehind t + 1).toNat : Int) else numBehind t) ∧ (if b = true then (scan isD t (numBehind t + 1).toNat : Int) else numBehind t) ≤ 950 := by
  obtain ⟨n1, n2, n3, n4, n5⟩ := numeric_bounds t
  have n0 := Int.le_trans (Int.le_trans n1 n2) n4
  split
  · obtain ⟨c, ec⟩ := Int.eq_ofNat_of_zero_le n0
    rw [ec] at n5 ⊢
    exact ⟨Int.natCast_nonneg _, Int.ofNat_le.mpr (Nat.le_trans (scan_le isD t (c + 1)) (Nat.max_le.mpr ⟨Nat.le_trans (Nat.succ_le_succ (Nat.le_trans (Int.ofNat_le.mp n5) ht)) (by decide), Nat.le_trans ht (by decide)⟩))⟩
  · exact ⟨n0, Int.le_trans n5 (Int.ofNat_le.mpr (Nat.le_trans ht (by decide)))⟩
theorem zw9 : True := by
  k_with "sat" => (case fT => (first | exact dfold_bound _ _ _ | exact dfold_nonneg _ (by assumption)))
  k_with "@call ref" => (case fT => ((k_dflt (refine' Mine.use3 (exponent_behind_b _ _ _ _ ?k0 ?ki ?kj) ?u1 ?u2 ?u3 ?u4 ?u5 ?u6 ?u7 ?u8 ?_; k_extra "uup"; (case k0 => k_extra "AO"); (case ki => k_extra "AO"); (case kj => k_extra "AO")); intro tv' h' tk' F' N' hge' hle'; k_extra "ut")))
  k_with "@call ref" => (case fT => ((k_dflt (refine' Mine.use2 (digits_value_c _ _ _ _ _ _ ?k0 ?ki ?kj ?kk ?kl) ?u1 ?u2 ?u3 ?u4 ?u5 ?u6 ?u7 ?u8 ?_; k_extra "uup"; (case k0 => k_extra "AO"); (case ki => k_extra "AO"); (case kj => k_extra "AO"); (case kk => k_extra "AO"); (case kl => k_extra "AS")); intro tv' h' tk' F' N'; k_extra "ut")))
  k_with "con" => (case fT => ((refine' digits_value_c _ _ _ _ _ _ ?k0 ?ki ?kj ?kk ?kl)))
  exact True.intro
theorem int_is {o : Option Value} {a b : Int} {u : Tok} (h : o = some (.int a u)) (e : a = b) : ∃ u, o = some (.int b u) := ⟨u, by rw [h, e]⟩
theorem bool_is {o : Option Value} {a b : Bool} (h : o = some (.bool a)) (e : a = b) : o = some (.bool b) := by rw [h, e]
theorem zw10 : True := by
  k_with "@call ref" => (case fT => ((k_dflt (refine' useP (signed_c _ _ _ ?k0 ?ki) ?u1 ?u2 ?u3 ?u4 ?u5 ?u6 ?u7 ?u8 ?_; k_extra "uup"; (case k0 => k_extra "AS"); (case ki => k_extra "AS")); intro v' h' tk' F' N' st' hv'; k_extra "ut")))
  exact True.intro
theorem numeric_c {w : World} {mean mg mb} (t : Str) (qt : Tok) (ht : t.length ≤ 900) :
    Pure w mean mg mb 940 950 435 [.str t qt] (fun _ => True) (fun _ v h' => ∃ a u x, v = .ref a ∧ IsTup h' a #[.int (numericV t).sort u, x] ∧ optV (numericV t).value x) := by
  k_extra "E0"
  refine in_mono (A' := ⟨none, 940, A.frames, A.guards, 950⟩) ?_ e1 e2 rfl rfl e3
  k_extra "E1"
  refine' enterZ (binds := [("text", .str t qt)]) W ?k1 ?kf1 ?kf2 ?kf3 ?k2 ?k3 ?k4 ?k5 ?_ ?k6 ?k7 ?k8 ?k9
  k_extra "E5"
  have hl : t.length = t.cps.size := rfl
  obtain ⟨n1, n2, n3, n4, n5⟩ := numeric_bounds t
  have ht1 : t.length ≤ 1000 := Nat.le_trans ht (by decide)
  have s0 := Int.le_trans n1 n2
  have s1 : numSign t ≤ 1000 := Int.le_trans n3 (Int.ofNat_le.mpr ht1)
  have b0 := Int.le_trans s0 n4
  have b1 : numBehind t + 1 ≤ 1000 := Int.le_trans (Int.add_le_add_right (Int.le_trans n5 (Int.ofNat_le.mpr ht)) 1) (by decide)
  have nf : (scan isB t 0 : Int) = numFirst t := rfl
  k_extra "goIf"
  refine cutF (fun m => m "text" = some (.str t qt) ∧ (∃ u, m "first" = some (.int (numSign t) u)) ∧ m "is_minus" = some (.bool (Txt.slice t (some (numFirst t)) (some (numFirst t + 1)) == Str.ofString "-"))) ?_ ?_ (L := L') (h₀ := s.heap)
  · k_extra "go"
    · rename (List.any _ _ = true) => hb
      k_extra "cut"
      exact ⟨by k_extra "look", int_is (by k_extra "look") (by unfold numSign; rw [if_pos (show oneOf ["+", "-"] t (numFirst t) = true from hb)]; rfl), by k_extra "look"⟩
    · rename (List.any _ _ = false) => hb
      k_extra "cut"
      exact ⟨by k_extra "look", int_is (by k_extra "look") (by unfold numSign; rw [if_neg (by rw [show oneOf ["+", "-"] t (numFirst t) = false from hb]; simp)]; rfl), by k_extra "look"⟩
  clear nf
  intro h2 tk3 m2 F2 N2 ⟨hm1, ⟨u1, hm2⟩, hm3⟩
  k_extra "goIf"
  refine cutF (fun m => m "text" = some (.str t qt) ∧ (∃ u, m "first" = some (.int (numSign t) u)) ∧ (∃ u, m "behind" = some (.int (numBehind t) u)) ∧ m "is_pointed" = some (.bool (numPointed t)) ∧ m "is_minus" = some (.bool (Txt.slice t (some (numFirst t)) (some (numFirst t + 1)) == Str.ofString "-"))) ?_ ?_ (L := L') (h₀ := s.heap)
  · k_extra "go"
    all_goals k_extra "cut"
    all_goals refine ⟨by k_extra "look", ⟨_, by k_extra "look"⟩, int_is (by k_extra "look") rfl, bool_is (by k_extra "look") ?_, by k_extra "look"⟩
    all_goals (simp only [numPointed, numBehind, *]; simp)
  intro h2 tk3 m2 F2 N2 ⟨hm1, ⟨u1, hm2⟩, ⟨u2, hm3⟩, hm4, hm5⟩
  k_extra "goIf"
  refine cutF (fun m => m "text" = some (.str t qt) ∧ (∃ u, m "first" = some (.int (numSign t) u)) ∧ (∃ u, m "behind" = some (.int (numBehind t) u)) ∧ m "is_pointed" = some (.bool (numPointed t)) ∧ m "is_minus" = some (.bool (Txt.slice t (some (numFirst t)) (some (numFirst t + 1)) == Str.ofString "-")) ∧ ¬ (numBehind t = numSign t ∧ numPointed t = false)) ?_ ?_ (L := L') (h₀ := s.heap)
  · k_extra "go"
    · rename (numBehind t = numSign t) => e1'
      rename (numPointed t = true) => e2'
      k_extra "cut"
      exact ⟨by k_extra "look", ⟨_, by k_extra "look"⟩, ⟨_, by k_extra "look"⟩, by k_extra "look", by k_extra "look", fun q => by rw [e2'] at q; exact absurd q.2 (by simp)⟩
    · rename (numBehind t = numSign t) => e1'
      rename (numPointed t = false) => e2'
      rename News _ _ _ _ => N3
      have en : numericV t = ⟨0, some 0⟩ := by unfold numericV; rw [if_pos ⟨e1', e2'⟩]
      refine CutEnd.ret (hQ _ _ _ (Fr.keep (by assumption)) ?_)
      rw [en]
      exact ⟨_, _, _, rfl, News.isTup N3 (.head _), _, rfl⟩
    · rename (numBehind t ≠ numSign t) => e1'
      k_extra "cut"
      exact ⟨by k_extra "look", ⟨_, by k_extra "look"⟩, ⟨_, by k_extra "look"⟩, by k_extra "look", by k_extra "look", fun q => e1' q.1⟩
  intro h2 tk3 m2 F2 N2 ⟨hm1, ⟨u1, hm2⟩, ⟨u2, hm3⟩, hm4, hm5, hno⟩
  k_extra "goIf"
  refine cutF (fun m => m "text" = some (.str t qt) ∧ (∃ u, m "first" = some (.int (numSign t) u)) ∧ (∃ u, m "behind" = some (.int (numBehind t) u)) ∧ (∃ u, m "far" = some (.int (if numPointed t = true then scan isD t (numBehind t + 1).toNat else numBehind t) u)) ∧ m "is_minus" = some (.bool (Txt.slice t (some (numFirst t)) (some (numFirst t + 1)) == Str.ofString "-"))) ?_ ?_ (L := L') (h₀ := s.heap)
  · k_extra "go"
    · rename (numPointed t = true) => e2'
      k_extra "cut"
      exact ⟨by k_extra "look", ⟨_, by k_extra "look"⟩, ⟨_, by k_extra "look"⟩, int_is (by k_extra "look") (by rw [if_pos e2']), by k_extra "look"⟩
    · rename (numPointed t = false) => e2'
      k_extra "cut"
      exact ⟨by k_extra "look", ⟨_, by k_extra "look"⟩, ⟨_, by k_extra "look"⟩, int_is (by k_extra "look") (by rw [if_neg (by rw [e2']; simp)]), by k_extra "look"⟩
  intro h2 tk3 m2 F2 N2 ⟨hm1, ⟨u1, hm2⟩, ⟨u2, hm3⟩, ⟨u3, hm4⟩, hm5⟩
  obtain ⟨fb0, fb1⟩ := far_ok ht (b := numPointed t)
  have eF : expB t (if numPointed t = true then (scan isD t (numBehind t + 1).toNat : Int) else numBehind t) = numFar t := rfl
  generalize (if numPointed t = true then (scan isD t (numBehind t + 1).toNat : Int) else numBehind t) = far0 at *
  k_extra "goIf"
  rename Fr _ _ _ _ => F3
  have hdig : ∀ k : Nat, (numSign t).toNat ≤ k → k < (numBehind t).toNat → isD (t.cps.getD k 0) = true := fun k k1 k2 => scan_all k1 (by rw [numBehind, Int.toNat_natCast] at k2; exact k2)
  have hsat0 : 0 ≤ sat (dfold 0 (cut t (numSign t).toNat (numBehind t).toNat)) := dfold_nonneg _ fun c hc => by
    obtain ⟨k, k1, k2, _, rfl⟩ := cut_mem hc
    have := hdig k k1 k2
    simp only [isD, Bool.and_eq_true, decide_eq_true_eq] at this
    exact this.1
  have hsat1 := dfold_bound t (numSign t).toNat (numBehind t).toNat
  refine cutF (fun m => m "text" = some (.str t qt) ∧ (∃ u, m "far" = some (.int (numFar t) u)) ∧ ∃ x, m "value" = some x ∧ optV (numValue t) x) ?_ ?_ (L := L') (h₀ := s.heap)
  · k_extra "go"
    · rename (expB t far0 = numBehind t) => e1'
      rename (optV _ _) => ho
      k_extra "cut"
      refine ⟨by k_extra "look", int_is (by k_extra "look") eF, _, by k_extra "look", ?_⟩
      unfold numValue
      rw [if_pos (eF.symm.trans e1')]
      exact ho
    · rename (expB t far0 ≠ numBehind t) => e1'
      k_extra "cut"
      refine ⟨by k_extra "look", int_is (by k_extra "look") eF, _, by k_extra "look", ?_⟩
      unfold numValue
      rw [if_neg (fun q => e1' (eF.trans q))]
      rfl
  intro h2 tk3 m2 F2 N2 ⟨hm1, ⟨u1, hm2⟩, x, hm3, hx⟩
  obtain ⟨x1, x2⟩ := expB_bounds t far0 fb0
  rw [eF] at x1 x2
  have hge0 := Int.le_trans fb0 x1
  have hfar1 : numFar t ≤ 1000 := Int.le_trans x2 (Int.max_le.mpr ⟨Int.le_trans (Int.add_le_add_right fb1 3) (by decide), Int.ofNat_le.mpr ht1⟩)
  have hnz : ¬ (numBehind t = numSign t ∧ numPointed t = false) := hno
  k_extra "go"
  · rename ((_ : Int) = _) => e1'
    rename News _ _ _ _ => N3
    have en : numericV t = ⟨2, numValue t⟩ := by unfold numericV; rw [if_neg hnz, if_pos e1']
    rename Fr _ _ _ _ => F3
    have ht := News.isTup N3 (List.Mem.head _)
    refine hQ _ _ _ F3.keep ?_
    rw [en]
    exact ⟨_, _, _, rfl, ht, hx⟩
  · rename ((_ : Int) ≠ _) => e1'
    rename News _ _ _ _ => N3
    have en : numericV t = ⟨1, numValue t⟩ := by unfold numericV; rw [if_neg hnz, if_neg e1']
    rename Fr _ _ _ _ => F3
    have ht := News.isTup N3 (List.Mem.head _)
    refine hQ _ _ _ F3.keep ?_
    rw [en]
    exact ⟨_, _, _, rfl, ht, hx⟩
theorem zw11 : True := by
  k_with "@call ref" => (case fT => ((k_dflt (refine' useP (numeric_c _ _ ?k0) ?u1 ?u2 ?u3 ?u4 ?u5 ?u6 ?u7 ?u8 ?_; k_extra "uup"; (case k0 => k_extra "AO")); intro v' h' tk' F' N' st' hv'; obtain ⟨ta', tu', tx', hq', ht', ho'⟩ := hv'; subst hq'; k_extra "ut")))
  exact True.intro
theorem number_of_c {w : World} {mean mg mb} (t : Str) (qt : Tok) (ht : t.length ≤ 900) :
    PureR w mean mg mb 920 930 442 [.str t qt] (fun _ => True) (fun _ v _ => ∃ n u, (numericV t).value = some n ∧ v = .int n u) ((numericV t).value = none) := by
  k_extra "E3"
  refine in_mono (A' := ⟨none, 920, some outer, A.guards, 930⟩) ?_ e1 e2 B0.stack rfl e3
  have B1 : Below ⟨none, 920, some outer, A.guards, 930⟩ base outer s.heap := ⟨rfl, B0.stays, B0.frames⟩
  k_extra "E4"
  refine' enterR (binds := [("text", .str t qt)]) B1 W ?k1 ?kf1 ?kf2 ?kf3 ?k2 ?k3 ?k4 ?k5 hE ?_ ?k6 ?k7 ?k8 ?k9
  k_extra "E2"
  k_extra "go"
  rename (optV _ _) => ho
  cases hv : (numericV t).value with
  | none =>
    rw [hv] at ho
    cases ho
    k_extra "go"
    rename Fr _ _ _ _ => F3
    refine lo_raise (mean := mean) (mg := mg) (mb := mb) F3 News.nil X' T' rfl (Nat.le_of_ble_eq_true rfl) (by decide +kernel) rfl rfl fun e h' tk ob tp k1 k2 k3 k4 k5 => ?_
    exact ⟨by first | exact hv | rfl, edge_made F3 k1 k2 k3 k4 k5⟩
  | some n =>
    rw [hv] at ho
    obtain ⟨u, rfl⟩ := ho
    k_extra "go"
    exact hQ _ _ _ (Fr.keep (by assumption)) ⟨n, _, by first | exact hv | rfl, rfl⟩
theorem zw12 : True := by
  k_with "atr" => (case fT => (with_reducible first | exact atr_Klass_key _ | exact atr_Klass_parent _ | exact atr_Obj_cls _ | exact atr_Klass_name _ | exact atr_Klass_interfaces _ | exact atr_Klass_methods _ | exact atr_Host_tools _ | exact atr_Host_silent _ | exact atr_Host_notes _))
  k_with "@compareOp In str ref" => (case fT => (k_dflt (refine' in_dct ?g1 ?g2 ?g3 ?_; (case g1 => k_extra "A"); (case g2 => k_extra "A"); (case g3 => k_extra "A"))))
  k_with "@getAttr ref" => (case fT => (k_dflt (refine' at_get ?g1 ?g2 ?g3 ?g4 ?g5 ?_; (case g1 => k_extra "A"); (case g2 => k_extra "A"); (case g4 => k_extra "A"); (case g3 => k_extra "atr"); (case g5 => first | exact rfl | k_extra "A"))))
  exact True.intro
theorem Chain.handed {w : World} {wa : Addr} {h : Heap} {v : Value} {l : List CI} (C : Chain w wa h v l) : handedIn v = true := by cases C <;> rfl
noncomputable def anyKey (k : Str) (l : List CI) : Bool := l.any fun c => c.key == k
noncomputable def isSub (k : Str) : List CI → Bool
  | [] => false
  | c :: l => anyKey k (c :: l) || (c.walks && trav.key == k)
theorem ex_bool {a b : Bool} (h : a = b) : Value.bool a = .bool b := by rw [h]
theorem Chain.inv {w : World} {wa : Addr} {h : Heap} {v : Value} {c : CI} {l : List CI} (C : Chain w wa h v (c :: l)) : ∃ a p, v = .ref a ∧ IsCls w wa h a c p ∧ Chain w wa h p l := by
  cases C with
  | cons i r => exact ⟨_, _, rfl, i, r⟩
theorem is_subclass_c {w : World} {mean mg mb} (wa : Addr) (v : Value) (c : CI) (l : List CI) (k : Str) (qk : Tok) (hlen : l.length ≤ 100) :
    Pure w mean mg mb 980 990 358 [v, .str k qk] (fun h => Chain w wa h v (c :: l) ∧ IsCls w wa h wa trav .none) (fun _ r _ => r = .bool (isSub k (c :: l))) := by
  k_extra "E0"
  refine in_mono (A' := ⟨none, 980, A.frames, A.guards, 990⟩) ?_ e1 e2 rfl rfl e3
  k_extra "E1"
  refine' enterZ (binds := [("klass", v), ("lower_name", .str k qk)]) W ?k1 ?kf1 ?kf2 ?kf3 ?k2 ?k3 ?k4 ?k5 ?_ ?k6 ?k7 ?k8 ?k9
  k_extra "E5"
  obtain ⟨C, WT⟩ := R
  have C0 := C
  obtain ⟨a, p, rfl, IC, Cp⟩ := C.inv
  obtain ⟨li, Ai, Li⟩ := IC.ifs
  obtain ⟨tw, kw⟩ := WT.key
  walk1
  walk1
  k_extra "go"
  refine While_inv0 (fun n m => ∃ v' l', m "above" = some v' ∧ m "klass" = some (.ref a) ∧ m "lower_name" = some (.str k qk) ∧ Chain w wa s.heap v' l' ∧ n = l'.length + 1 ∧ anyKey k (c :: l) = anyKey k l') (n₀ := l.length + 2) (by k_extra "A") (by k_extra "A") ⟨_, _, by k_extra "look", by k_extra "look", by k_extra "look", C0, rfl, rfl⟩ ?_ PassesOwn.never
  rintro n m₁ h₂ tk₁ F2 N2 ⟨v', l', hm1, hm2, hm3, C2, hn, hk⟩
  cases C2 with
  | nil =>
    k_extra "go"
    rename Fr _ _ _ _ => F3
    rename News _ _ _ _ => N3
    refine it_list (fun i m n => n = [] ∧ m "lower_name" = some (.str k qk) ∧ (0 < i → c.walks = true → (trav.key == k) = false)) (by rfl) rfl (stays_list F3.keep Li) ?_ F3 N3 ⟨rfl, by k_extra "look", fun q => absurd q (by omega)⟩ fun I => .of0 ?_ ?_
    · obtain ⟨o, ho, _⟩ := Li
      exact Nat.ne_of_lt (Nat.lt_of_lt_of_le (Heap.lt_size ho) F3.above)
    · clear F3 N3
      rintro i v m₁ h tk own hi hv ⟨hm2, hx⟩ ho _ F4 N4
      have hw : c.walks = true := by
        cases q : c.walks with
        | true => rfl
        | false => rw [q] at hi; simp at hi
      rw [hw] at hv hi
      simp only [if_true, List.length_cons, List.length_nil] at hi
      have hi0 : i = 0 := by omega
      rw [hi0] at hv
      simp only [if_true, List.getElem?_cons_zero, Option.some.injEq] at hv
      subst hv
      k_extra "go"
      · rename ((_ == _) = true) => e
        refine hQ _ _ _ (Fr.keep (by assumption)) (ex_bool ?_)
        simp [isSub, hk, anyKey, hw, e]
      · rename ((_ == _) = false) => e
        exact LoopStepU.intro (by assumption) (by assumption) ho ⟨rfl, by k_extra "look", fun _ _ => e⟩
    · rintro h tk m₁ ⟨hm2, hx⟩ F4 N4
      dsimp only
      k_extra "go"
      refine hQ _ _ _ F4.keep (ex_bool ?_)
      simp only [isSub, hk]
      cases hw : c.walks with
      | true => rw [hw] at hx; simp [anyKey, hx (by simp) rfl]
      | false => simp [anyKey]
  | cons i2 r2 =>
    rename_i a2 c2 p2 l2
    obtain ⟨⟨t2, k2⟩, pa⟩ := And.intro i2.key i2.parent
    have hp2 := r2.handed
    k_extra "go"
    · rename ((_ == _) = true) => e
      refine hQ _ _ _ (Fr.keep (by assumption)) (ex_bool ?_)
      rw [isSub, hk]; simp [anyKey, e]
    · rename ((_ == _) = false) => e
      rename Fr _ _ _ _ => F3
      refine ⟨_, _, _, [], _, rfl, F3, News.nil, ?_, rfl, _, _, by k_extra "look", by k_extra "look", by k_extra "look", r2, rfl, ?_⟩
      · simp at hn; omega
      · rw [hk]; simp [anyKey, e]
theorem zw13 : True := by
  k_with "@call ref" => (case fT => ((k_dflt (refine' Mine.use1 (is_subclass_c _ _ _ _ _ _ ?k0) ?u1 ?u2 ?u3 ?u4 ?u5 ?u6 ?u7 ?u8 ?_; k_extra "uup"; (case k0 => k_extra "AS")); intro h' tk' F' N'; k_extra "ut")))
  k_with "con" => (case fT => ((refine' is_subclass_c _ _ _ _ _ _ ?k0)))
  exact True.intro
noncomputable def insV (k : Str) : V → Bool
  | .obj _ l => isSub k l
  | _ => false
noncomputable def V.ok : V → Prop
  | .obj _ l => l.length ≤ 50
  | .str t => t.length ≤ 900
  | .int n => -9223372036854775808 ≤ n ∧ n ≤ 9223372036854775807
  | _ => True
theorem instance_of_c {w : World} {mean mg mb} (wa : Addr) (x : V) (v : Value) (k : Str) (qk : Tok) (hx : x.ok) :
    Pure w mean mg mb 960 970 365 [v, .str k qk] (fun h => Rep w wa h x v ∧ IsCls w wa h wa trav .none) (fun _ r _ => r = .bool (insV k x)) := by
  k_extra "E0"
  refine in_mono (A' := ⟨none, 960, A.frames, A.guards, 970⟩) ?_ e1 e2 rfl rfl e3
  k_extra "E1"
  refine' enterZ (binds := [("value", v), ("lower_name", .str k qk)]) W ?k1 ?kf1 ?kf2 ?kf3 ?k2 ?k3 ?k4 ?k5 ?_ ?k6 ?k7 ?k8 ?k9
  k_extra "E5"
  obtain ⟨R, WT⟩ := R
  rcases x with _ | b | n | t | a | ⟨a, l⟩
  · cases R
    k_extra "go"
    exact hQ _ _ _ (Fr.keep (by assumption)) rfl
  · cases R
    k_extra "go"
    exact hQ _ _ _ (Fr.keep (by assumption)) rfl
  · obtain ⟨t, rfl⟩ := R
    k_extra "go"
    exact hQ _ _ _ (Fr.keep (by assumption)) rfl
  · obtain ⟨t, rfl⟩ := R
    k_extra "go"
    exact hQ _ _ _ (Fr.keep (by assumption)) rfl
  · obtain ⟨rfl, I⟩ := R
    k_extra "go"
    exact hQ _ _ _ (Fr.keep (by assumption)) rfl
  · obtain ⟨rfl, hl, cv, I, C, hc⟩ := R
    cases l with
    | nil => exact absurd rfl hl.1
    | cons c l =>
      have hlen : l.length ≤ 100 := by simp [V.ok] at hx; omega
      k_extra "go"
      exact hQ _ _ _ (Fr.keep (by assumption)) rfl
theorem zw14 : True := by
  k_with "@call ref" => (case fT => ((k_dflt (refine' Mine.use1 (instance_of_c _ _ _ _ _ ?k0) ?u1 ?u2 ?u3 ?u4 ?u5 ?u6 ?u7 ?u8 ?_; k_extra "uup"; (case k0 => k_extra "AS")); intro h' tk' F' N'; k_extra "ut")))
  k_with "con" => (case fT => ((refine' instance_of_c _ _ _ _ _ ?k0)))
  exact True.intro
noncomputable def anyShown (l : List CI) : Bool := l.any (·.shown)
theorem has_text_c {w : World} {mean mg mb} (wa a : Addr) (l : List CI) (hlen : l.length ≤ 100) :
    Pure w mean mg mb 980 990 449 [.ref a] (fun h => ∃ c, At h a 168 "cls" c ∧ Chain w wa h c l) (fun _ r _ => r = .bool (anyShown l)) := by
  k_extra "E0"
  refine in_mono (A' := ⟨none, 980, A.frames, A.guards, 990⟩) ?_ e1 e2 rfl rfl e3
  k_extra "E1"
  refine' enterZ (binds := [("obj", .ref a)]) W ?k1 ?kf1 ?kf2 ?kf3 ?k2 ?k3 ?k4 ?k5 ?_ ?k6 ?k7 ?k8 ?k9
  k_extra "E5"
  obtain ⟨cv, IO, C0⟩ := R
  have hcv := C0.handed
  k_extra "go"
  refine While_inv0 (fun n m => ∃ v' l', m "klass" = some v' ∧ Chain w wa s.heap v' l' ∧ n = l'.length + 1 ∧ anyShown l = anyShown l') (n₀ := l.length + 1) (by k_extra "A") (by k_extra "A") ⟨_, _, by k_extra "look", C0, rfl, rfl⟩ ?_ PassesOwn.never
  rintro n m₁ h₂ tk₁ F2 N2 ⟨v', l', hm1, C2, hn, hk⟩
  cases C2 with
  | nil =>
    k_extra "go"
    refine hQ _ _ _ (Fr.keep (by assumption)) (ex_bool ?_)
    rw [hk]; rfl
  | cons i2 r2 =>
    rename_i a2 c2 p2 l2
    obtain ⟨d, kvs, ma, md, lo, sh⟩ := i2.meths
    have pa := i2.parent
    have hp2 := r2.handed
    k_extra "go"
    · rename (_ = true) => e
      refine hQ _ _ _ (Fr.keep (by assumption)) (ex_bool ?_)
      rw [hk]; simp [anyShown, ← sh, e]
    · rename (_ = false) => e
      rename Fr _ _ _ _ => F3
      refine ⟨_, _, _, [], _, rfl, F3, News.nil, ?_, rfl, _, _, by k_extra "look", r2, rfl, ?_⟩
      · simp at hn; omega
      · rw [hk]; simp [anyShown, ← sh, e]
theorem zw15 : True := by
  k_with "@call ref" => (case fT => ((k_dflt (refine' Mine.use1 (has_text_c _ _ _ ?k0) ?u1 ?u2 ?u3 ?u4 ?u5 ?u6 ?u7 ?u8 ?_; k_extra "uup"; (case k0 => k_extra "AS")); intro h' tk' F' N'; k_extra "ut")))
  k_with "con" => (case fT => ((refine' has_text_c _ _ _ ?k0)))
  exact True.intro
noncomputable def lowC (c : Nat) : Nat := if 65 ≤ c ∧ c ≤ 90 then c + 32 else c
noncomputable def lowS (t : Str) : Str := ⟨t.cps.map lowC⟩
theorem strsAre_len {vs : List Value} {ys : List Str} (h : StrsAre vs ys) : vs.length = ys.length := by induction h with | nil => rfl | cons _ _ _ ih => simp [ih]
theorem strsAre_append {vs ws : List Value} {ys zs : List Str} (h : StrsAre vs ys) (k : StrsAre ws zs) : StrsAre (vs ++ ws) (ys ++ zs) := by
  induction h with
  | nil => exact k
  | cons y t _ ih => exact .cons y t ih
theorem sum_signs (x : Str) : ((signs x).map (·.length)).sum = x.length := by
  have : ∀ l : List Nat, ((l.map fun n => (⟨#[n]⟩ : Str)).map (·.length)).sum = l.length := fun l => by
    induction l with
    | nil => rfl
    | cons a r ih => rw [List.map_cons, List.map_cons, List.sum_cons, ih, List.length_cons]; simp [Str.length]; omega
  exact (this _).trans (by simp [Str.length])
theorem cpsA : (Str.ofString "A").cps.toList = [65] := by decide +kernel
theorem cpsZ : (Str.ofString "Z").cps.toList = [90] := by decide +kernel
theorem zw16 : True := by
  k_with "@call builtin:list.append" => (case fT => ((k_dflt (refine' append_K ?k1 ?k2 ?k3 ?_ ?z; (case k1 => k_extra "A"); (case k2 => k_extra "A"); (case k3 => exact Upd.head (by k_extra "A")); (case z => k_extra "AS")); intro h' F' N'; (try k_sweep))))
  exact True.intro
theorem lower_c {w : World} {mean mg mb} (t : Str) (qt : Tok) (ht : t.length ≤ 100) :
    Pure w mean mg mb 980 990 351 [.str t qt] (fun _ => True) (fun _ r _ => ∃ u, r = .str (lowS t) u) := by
  k_extra "E0"
  refine in_mono (A' := ⟨none, 980, A.frames, A.guards, 990⟩) ?_ e1 e2 rfl rfl e3
  k_extra "E1"
  refine' enterZ (binds := [("text", .str t qt)]) W ?k1 ?kf1 ?kf2 ?kf3 ?k2 ?k3 ?k4 ?k5 ?_ ?k6 ?k7 ?k8 ?k9
  k_extra "E5"
  have hl : t.length = t.cps.size := rfl
  k_extra "go"
  rename Fr _ _ _ _ => F3
  rename News _ _ _ _ => N3
  rename_i la _ _ _
  refine it_str (fun i m n => m "made" = some (.ref la) ∧ ∃ vs k, n = [(la, W.listOf vs k)] ∧ StrsAre vs.toList ((t.cps.toList.take i).map fun c => (⟨#[lowC c]⟩ : Str))) (by rfl) rfl F3 N3 ⟨by k_extra "look", _, _, rfl, ?_⟩ fun I => ⟨?_, ?_⟩
  · exact StrsAre.nil
  · clear F3 N3
    rintro i v m₁ news₁ h tk own hi ⟨c, u, hc, rfl⟩ ⟨hm1, vs, kk, rfl, hs⟩ ho hof F4 N4
    have hla : la ≠ I := fun e => ho _ (.head _) (by rw [e]; exact .head _)
    have hown : ∀ p ∈ own, p.1 ≠ la := fun p hp e => hla (by rw [← e]; exact List.mem_singleton.mp (hof p hp))
    have N5 : News s.heap L' h ((la, W.listOf vs kk) :: own) := fun p hp => N4 p (by rcases List.mem_cons.mp hp with e | e <;> simp [e])
    clear N4
    have hsz : vs.size ≤ sizeLine := by
      have := strsAre_len hs
      simp at this
      rw [sizeLine_eq]; omega
    have hc' : t.cps.toList[i]? = some c := by simpa using hc
    have hn : ∀ v, StrsAre [v] [(⟨#[lowC c]⟩ : Str)] → StrsAre (vs.push v).toList ((t.cps.toList.take (i + 1)).map fun c => (⟨#[lowC c]⟩ : Str)) := fun v hv => by
      rw [Array.toList_push, List.take_add_one, hc', List.map_append]
      exact strsAre_append hs hv
    have back : ∀ {h' : Heap} {v : Value}, News s.heap L' h' ((la, W.listOf (vs.push v) (kk + 1)) :: own) → News s.heap L' h' (own ++ [(la, W.listOf (vs.push v) (kk + 1))]) := fun N p hp => N p (by rcases List.mem_append.mp hp with e | e; exact .tail _ e; rw [List.mem_singleton.mp e]; exact .head _)
    have ho2 : ∀ {v : Value}, ∀ p ∈ [(la, W.listOf (vs.push v) (kk + 1))], p.1 ∉ [I] := fun p hp => by
      rw [List.mem_singleton.mp hp]; simpa using hla
    k_extra "go"
    · rename ([c] < _) => h1
      simp only [cpsA, ch_lt] at h1
      rename News _ _ _ _ => N6
      refine LoopStepU.intro (by assumption) (back N6) ho2 ⟨by k_extra "look", _, _, rfl, hn _ ?_⟩
      rw [show lowC c = c by unfold lowC; rw [if_neg (by omega)]]
      exact .cons _ _ .nil
    · rename (_ < [c]) => h1
      simp only [cpsZ, ch_lt] at h1
      rename News _ _ _ _ => N6
      refine LoopStepU.intro (by assumption) (back N6) ho2 ⟨by k_extra "look", _, _, rfl, hn _ ?_⟩
      rw [show lowC c = c by unfold lowC; rw [if_neg (by omega)]]
      exact .cons _ _ .nil
    · rename (¬ [c] < _) => h1
      rename (¬ _ < [c]) => h2
      simp only [cpsA, cpsZ, ch_lt] at h1 h2
      k_extra "go"
      rename News _ _ _ _ => N6
      refine LoopStepU.intro (by assumption) (back N6) ho2 ⟨by k_extra "look", _, _, rfl, hn _ ?_⟩
      rw [show lowC c = ((c : Int) + 32).toNat by unfold lowC; rw [if_pos (by omega)]; omega]
      exact .cons _ _ .nil
  · rintro h tk m₁ news₁ ⟨hm1, vs, kk, rfl, hs⟩ F4 N4
    dsimp only
    k_extra "go"
    have es : (t.cps.toList.take t.cps.size).map (fun c => (⟨#[lowC c]⟩ : Str)) = signs (lowS t) := by
      rw [List.take_of_length_le (by simp)]
      simp [signs, lowS]
    rw [es] at hs
    refine join_list (News.isList N4 (.head _)) hs ?_ fun t' k => ?_
    · rw [sum_signs]
      have : (lowS t).length = t.length := by simp [lowS, Str.length]
      have e0 : (Str.ofString "").length = 0 := by decide +kernel
      rw [e0]; omega
    · refine hQ _ _ _ F4.keep ⟨t', ?_⟩
      rw [show Str.ofString "" = ⟨#[]⟩ by decide +kernel]
      exact congrArg (fun z => Value.str z t') ((beq_iff_eq.mp (join_closes rfl)).trans (join_nil_signs _))
theorem zw17 : True := by
  k_with "@call ref" => (case fT => ((k_dflt (refine' Mine.use2 (lower_c _ _ ?k0) ?u1 ?u2 ?u3 ?u4 ?u5 ?u6 ?u7 ?u8 ?_; k_extra "uup"; (case k0 => k_extra "AO")); intro tv' h' tk' F' N'; k_extra "ut")))
  k_with "con" => (case fT => ((refine' lower_c _ _ ?k0)))
  exact True.intro
theorem ks1 : kindS .null = Str.ofString "null" := rfl
theorem ks2 (b : Bool) : kindS (.bool b) = Str.ofString "bool" := rfl
theorem ks3 (n : Int) : kindS (.int n) = Str.ofString "int" := rfl
theorem ks4 (t : Str) : kindS (.str t) = Str.ofString "string" := rfl
theorem ks5 (a : Addr) : kindS (.arr a) = Str.ofString "array" := rfl
theorem ks6 (a : Addr) (l : List CI) : kindS (.obj a l) = Str.ofString "object" := rfl
theorem kind_v {w : World} {mean mg mb} (wa : Addr) (x : V) (v : Value) (k : Str) (hk : kindS x = k) :
    Pure w mean mg mb 990 1000 344 [v] (fun h => Rep w wa h x v) (fun _ r _ => ∃ t, r = .str k t) := hk ▸ kind_c wa x v
theorem zw18 : True := by
  k_with "con" => (case fT => ((refine' kind_v _ _ _ _ ?k0)))
  k_with "@call ref" => (case fT => ((k_dflt (refine' Mine.use2 (kind_c _ _ _) ?u1 ?u2 ?u3 ?u4 ?u5 ?u6 ?u7 ?u8 ?_; k_extra "uup"); intro tv' h' tk' F' N'; (try simp only [Mine.ks1, Mine.ks2, Mine.ks3, Mine.ks4, Mine.ks5, Mine.ks6]); k_extra "ut")))
  exact True.intro
noncomputable def Lacks (h : Heap) (a C : Addr) (name : Str) : Prop := ∃ ox es n, InstAt h a ox C (some (dictOf es n)) ∧ getL name es = some none
theorem Lacks.keeps {h h' : Heap} {a C : Addr} {name : Str} (I : Lacks h a C name) (k : h.StaysIn h') : Lacks h' a C name := let ⟨ox, es, n, i, g⟩ := I; ⟨ox, es, n, instAt_keeps k i, g⟩
structure HostAt (w : World) (h : Heap) (ah : Addr) (hasC : Bool) : Prop where
  tools : ∃ td kvs, At h ah 629 "tools" (.ref td) ∧ h.DictOf (PySem.strKind Challenge.rw_pq0857_01.row.prog w) td kvs ∧ (td == sysModules) = false ∧ valueAt kvs "text" = some (.ref 683) ∧ valueAt kvs "callable" = if hasC then some (.ref 690) else none
  tool : Lacks h ah 629 "tool"
  warn : Lacks h ah 629 "warn"
  silent : ∃ t, At h ah 629 "silent" (.int 0 t)
theorem HostAt.keeps {w : World} {h h' : Heap} {ah : Addr} {b : Bool} (H : HostAt w h ah b) (k : h.StaysIn h') : HostAt w h' ah b := by
  obtain ⟨td, kvs, h1, h2, h3⟩ := H.tools
  obtain ⟨t, ht⟩ := H.silent
  exact ⟨⟨td, kvs, h1.keeps k, stays_dict k h2, h3⟩, H.tool.keeps k, H.warn.keeps k, ⟨t, ht.keeps k⟩⟩
noncomputable def isOfV (x : V) : List CI → Bool
  | [] => false
  | c :: _ => insV c.key x
theorem is_of_c {w : World} {mean mg mb} (wa : Addr) (x : V) (v kv : Value) (lk : List CI) (hx : x.ok) :
    Pure w mean mg mb 940 950 470 [v, kv] (fun h => Rep w wa h x v ∧ Chain w wa h kv lk ∧ IsCls w wa h wa trav .none) (fun _ r _ => r = .bool (isOfV x lk)) := by
  k_extra "E0"
  refine in_mono (A' := ⟨none, 940, A.frames, A.guards, 950⟩) ?_ e1 e2 rfl rfl e3
  k_extra "E1"
  refine' enterZ (binds := [("value", v), ("klass", kv)]) W ?k1 ?kf1 ?kf2 ?kf3 ?k2 ?k3 ?k4 ?k5 ?_ ?k6 ?k7 ?k8 ?k9
  k_extra "E5"
  obtain ⟨R, C, WT⟩ := R
  cases C with
  | nil =>
    k_extra "go"
    exact hQ _ _ _ (Fr.keep (by assumption)) rfl
  | cons i r =>
    rename_i a c p l
    obtain ⟨tk', ak⟩ := i.key
    have R0 := R
    rcases x with _ | b | n | t | a | ⟨a, lx⟩
    · cases R
      k_extra "go"
      exact hQ _ _ _ (Fr.keep (by assumption)) rfl
    · cases R
      k_extra "go"
      exact hQ _ _ _ (Fr.keep (by assumption)) rfl
    · obtain ⟨t, rfl⟩ := R
      k_extra "go"
      exact hQ _ _ _ (Fr.keep (by assumption)) rfl
    · obtain ⟨t, rfl⟩ := R
      k_extra "go"
      exact hQ _ _ _ (Fr.keep (by assumption)) rfl
    · obtain ⟨rfl, I⟩ := R
      k_extra "go"
      exact hQ _ _ _ (Fr.keep (by assumption)) rfl
    · obtain ⟨rfl, hl, cv, I, Cx, hc⟩ := R
      cases lx with
      | nil => exact absurd rfl hl.1
      | cons cx lx =>
        have hlen : lx.length ≤ 100 := by simp [V.ok] at hx; omega
        k_extra "go"
        exact hQ _ _ _ (Fr.keep (by assumption)) rfl
theorem zw19 : True := by
  k_with "@call ref" => (case fT => ((k_dflt (refine' Mine.use1 (is_of_c _ _ _ _ _ ?k0) ?u1 ?u2 ?u3 ?u4 ?u5 ?u6 ?u7 ?u8 ?_; k_extra "uup"; (case k0 => k_extra "AS")); intro h' tk' F' N'; k_extra "ut")))
  k_with "con" => (case fT => ((refine' is_of_c _ _ _ _ _ ?k0)))
  exact True.intro
noncomputable def byClassV (nm : Str) (x : V) (lh ls : List CI) : Bool :=
  if (nm == "self") = true then isOfV x lh
  else if (nm == "parent") = true then isOfV x lh.tail
  else if (nm == "static") = true then isOfV x ls
  else insV (lowS nm) x
theorem by_class_c {w : World} {mean mg mb} (wa : Addr) (nm : Str) (qn : Tok) (x : V) (v hv sv : Value) (lh ls : List CI) (hx : x.ok) (hn : nm.length ≤ 100) :
    Pure w mean mg mb 920 930 477 [.str nm qn, v, hv, sv] (fun h => Rep w wa h x v ∧ Chain w wa h hv lh ∧ Chain w wa h sv ls ∧ IsCls w wa h wa trav .none) (fun _ r _ => r = .bool (byClassV nm x lh ls)) := by
  k_extra "E0"
  refine in_mono (A' := ⟨none, 920, A.frames, A.guards, 930⟩) ?_ e1 e2 rfl rfl e3
  k_extra "E1"
  refine' enterZ (binds := [("name", .str nm qn), ("value", v), ("here", hv), ("static", sv)]) W ?k1 ?kf1 ?kf2 ?kf3 ?k2 ?k3 ?k4 ?k5 ?_ ?k6 ?k7 ?k8 ?k9
  k_extra "E5"
  obtain ⟨R, C1, C2, WT⟩ := R
  cases C1 with
  | nil =>
    have C1 : Chain w wa s.heap .none [] := .nil
    k_extra "go"
    all_goals (refine hQ _ _ _ (Fr.keep (by assumption)) (ex_bool ?_); simp only [byClassV, *, if_true, if_false, Bool.false_eq_true, List.tail, isOfV])
  | cons i r =>
    have C1 := Chain.cons i r
    have ap := i.parent
    have hp := r.handed
    k_extra "go"
    all_goals (refine hQ _ _ _ (Fr.keep (by assumption)) (ex_bool ?_); simp only [byClassV, *, if_true, if_false, Bool.false_eq_true, List.tail])
theorem zw20 : True := by
  k_with "@call ref" => (case fT => ((k_dflt (refine' Mine.use1 (by_class_c _ _ _ _ _ _ _ _ _ ?k0 ?k1) ?u1 ?u2 ?u3 ?u4 ?u5 ?u6 ?u7 ?u8 ?_; k_extra "uup"; (case k0 => k_extra "AS"); (case k1 => k_extra "AS")); intro h' tk' F' N'; k_extra "ut")))
  k_with "con" => (case fT => ((refine' by_class_c _ _ _ _ _ _ _ _ _ ?k0 ?k1)))
  k_with "pre2" => (case fT => (exact Mine.HostAt.keeps (by k_extra "A") (Fr.keep (by k_extra "A"))))
  k_with "sd" => (case fT => (with_reducible first | exact Mine.ks1 | exact Mine.ks2 _ | exact Mine.ks3 _ | exact Mine.ks4 _ | exact Mine.ks5 _ | exact Mine.ks6 _ _))
  exact True.intro
section
variable {prog : Program} {w : PySem.World} {A : Around} {E : Value → Shared → Prop} {s : Shared}
theorem str_eq_declines_inst {o : PySem.Obj} {C x : Addr} (b : Str) (u : Tok) (hc : o.cls = .ref C) (hn : ∀ v, o.data ≠ .prim v) :
    Meets (Builtin.«str.__eq__» ⟨[.str b u, .ref x], []⟩) (fun _ R s => s.heap.get? x = some o ∧ R (.ok (.ret .notImplemented)) s) :=
  .of_wp fun prog w A R s h => by
    obtain ⟨hp, g, d, tk, os⟩ := s
    obtain ⟨cls, dd, data, sl⟩ := o
    simp only at hc; subst hc
    obtain ⟨ho, h⟩ := h
    wp_walk using wpAny_loadPart' ho
    cases data <;> first | exact absurd rfl (hn _) | (wp_walk; exact ⟨_, rfl, h⟩)
theorem inst_eq_str {K : Frag} {x C : Addr} {ox : PySem.Obj} {od : Option PySem.Obj} {t : Str} {u : Tok} {Q : Value → Shared → Prop} (hu : A.units < cLine) (X : K.In s.heap) (I : InstAt s.heap x ox C od) (hnt : NoText s.heap x)
    (he : findIn K (.ref C) "__eq__" = some (some (.builtin "object.__eq__"))) (ho : mroIn K C (.type "object") = some true) (hs : subIn K (.type "str") (.ref C) = some false)
    (h : Q (.bool false) s) : wpAny (model prog w) A (richCompare .Eq (.ref x) (.str t u)) Q E s := by
  obtain ⟨oo, hoo, hn⟩ := hnt
  obtain rfl := Option.some.inj (I.at_.symm.trans hoo)
  have hi : Looks (model prog w) s.heap (isInstance (.ref x) (.type "object")) true := I.type.andThen (looks_mroIn X ho)
  have one : ∀ {Q' : Option Value → Shared → Prop}, Q' none s → wpAny (model prog w) A (tryCompare (.ref x) "__eq__" (.str t u)) Q' E s := by
    intro Q' q
    unfold tryCompare callSpecialIfBound? bindSpecialIfBound?
    refine wpAny_bind (wpAny_holding (wpAny_bind (wpAny_bind (wpAny_bind (I.type.here ((looks_findIn X he).here ?_))))))
    have hb := F.cmp_object.eq.bind (Value.ref x)
    simp only [hb]
    have fin : wpAny (model prog w) A (call (.builtin "object.__eq__") ([.ref x] ++ [.str t u]) >>= fun v => pure (some v)) (fun r s' => r = some .notImplemented ∧ s' = s) E s := by
      refine wpAny_bind (wpAny_call (codeAny_call_builtin F.cmp_object.eq.plain F.cmpEntry_eq (check_slot F.cmpKind_eq F.cmpSplit_eq hi (F.cmpArgs_eq _ _) ?_)))
      unfold Builtin.«object.__eq__»
      repeat (first | (with_reducible refine wpAny_of_eq (rfl : isSame (.ref x) (.str t u) = pure false) ?_) | wp_step)
      exact ⟨rfl, rfl⟩
    refine wpAny_bind (wpAny_askSetting (wpAny_ite ?_))
    split
    · refine wpAny_bind (wpAny_pure (wpAny_pure (wpAny_mono fin (fun r s' z => ?_) fun _ _ e => e)))
      obtain ⟨rfl, rfl⟩ := z
      exact wpAny_pure q
    · refine wpAny_tryCatch (wpAny_bind (wpAny_pure (wpAny_pure (wpAny_mono fin (fun r s' z => ?_) fun _ _ e => e))))
      obtain ⟨rfl, rfl⟩ := z
      exact wpAny_pure q
  have two : ∀ {Q' : Option Value → Shared → Prop}, Q' none s → wpAny (model prog w) A (tryCompare (.str t u) "__eq__" (.ref x)) Q' E s := by
    intro Q' q
    refine wpAny_tryCompare_declines (typeIs_str s t u) F.slot_str_eq_refl ?_
    exact call_meets F.slot_str_eq_refl (typeIs_str s t u) F.entry_str_eq (F.args_str_eq_2 _ _) (str_eq_declines_inst t u I.cls hn) ⟨I.at_, rfl, q⟩
  unfold richCompare
  simp only [oneThing_ref, cmpInfo_Eq]
  refine wpAny_holding (wpAny_bind (wpAny_cRoomFor hu ?_))
  refine wpAny_bind (I.type.here (wpAny_bind (wpAny_typeOf (typeIs_str s t u) ?_)))
  rw [if_pos (by rfl)]
  refine wpAny_bind ((looks_subIn X hs).here ?_)
  simp only [Bool.false_eq_true, if_false, Bool.not_false, if_true]
  refine wpAny_bind (one ?_)
  refine wpAny_bind (two ?_)
  refine wpAny_bind (wpAny_rule (wpAny_bind (wpAny_of_eq (rfl : isSame (.ref x) (.str t u) = pure false) (wpAny_pure h))))
end
section
variable {w : PySem.World} {A : Around} {E : Value → Shared → Prop} {s : Shared}
theorem obj_eq_str {h₀ : Heap} {L : Addr} {m : Str → Option Value} {a : Addr} {name : Str} {v : Value} {t : Str} {u : Tok} {Q : Value → Shared → Prop} (F : Fr h₀ L s.heap m) (X₀ : (Hd.K w.params).In h₀)
    (I : At h₀ a 168 name v) (N : NoText h₀ a) (hu : A.units < cLine) (h : Q (.bool false) s) : wpAny (model Challenge.rw_pq0857_01.row.prog w) A (compareOp .Eq (.ref a) (.str t u)) Q E s := by
  obtain ⟨ox, es, n, i, _⟩ := I
  exact inst_eq_str hu (X₀.keeps F.keep) (instAt_keeps F.keep i) (N.keeps F.keep) (by kernel_rfl) (by kernel_rfl) (by kernel_rfl) h
theorem sub_dct {h₀ : Heap} {L d : Addr} {m : Str → Option Value} {kvs : List (Str × Value)} {k : Str} {tk : Tok} {v : Value} {value slice : Expr} {Q : Value → Shared → Prop} (F : Fr h₀ L s.heap m)
    (D : h₀.DictOf (PySem.strKind Challenge.rw_pq0857_01.row.prog w) d kvs) (hv : valueAt kvs k = some v) (h : Q v { s with toks := s.toks + 1 })
    (hs : subscripted slice false (.ref d) (.str k tk) = operate [.ref d, .str k tk] (getItem (.ref d) (.str k tk)) := by with_unfolding_all rfl) :
    wpAny (model Challenge.rw_pq0857_01.row.prog w) A (subscriptTail value slice (.ref d) (.str k tk)) Q E s := by
  obtain ⟨o, ho, hd⟩ := Heap.dictOf_iff.mp D
  have D' : s.heap.DictOf (PySem.strKind Challenge.rw_pq0857_01.row.prog w) d kvs := Heap.dictOf_iff.mpr ⟨o, F.keep _ _ ho, hd⟩
  exact tail_any D'.mapOf.typeIs slot_dict_getitem.lookup (item_dct F D hv h) hs
end
theorem zw21 : True := by
  k_with "@subscriptTail" => (case fT => ((k_here; (with_reducible show wpAny _ _ (subscriptTail _ _ (Value.ref _) (Value.str _ _)) _ _ _); k_dflt (refine' sub_dct ?g1 ?g2 ?g3 ?_; (case g1 => k_extra "A"); (case g2 => k_extra "A"); (case g3 => k_extra "A"); k_whole))))
  k_with "@compareOp Eq ref str" => (case fT => (k_dflt (refine' obj_eq_str ?g1 ?g2 ?g3 ?g4 ?g5 ?_; (case g1 => k_extra "A"); (case g2 => k_extra "A"); (case g3 => k_extra "A"); (case g4 => first | k_extra "A" | exact And.right (by k_extra "A")); (case g5 => units_room))))
  exact True.intro
noncomputable def lawCallsV : V → Bool
  | .arr _ => true
  | .str t => t == Str.ofString "x"
  | _ => false
theorem law_calls_c {w : World} {mean mg mb} (wa : Addr) (x : V) (v hv : Value) :
    Pure w mean mg mb 940 950 690 [hv, v] (fun h => Rep w wa h x v) (fun _ r _ => r = .bool (lawCallsV x)) := by
  k_extra "E0"
  refine in_mono (A' := ⟨none, 940, A.frames, A.guards, 950⟩) ?_ e1 e2 rfl rfl e3
  k_extra "E1"
  refine' enterZ (binds := [("host", hv), ("value", v)]) W ?k1 ?kf1 ?kf2 ?kf3 ?k2 ?k3 ?k4 ?k5 ?_ ?k6 ?k7 ?k8 ?k9
  k_extra "E5"
  rcases x with _ | b | n | t | a | ⟨a, lx⟩
  · cases R
    k_extra "go"
    exact hQ _ _ _ (Fr.keep (by assumption)) rfl
  · cases R
    k_extra "go"
    exact hQ _ _ _ (Fr.keep (by assumption)) rfl
  · obtain ⟨t, rfl⟩ := R
    k_extra "go"
    exact hQ _ _ _ (Fr.keep (by assumption)) rfl
  · obtain ⟨t, rfl⟩ := R
    k_extra "go"
    all_goals (refine hQ _ _ _ (Fr.keep (by assumption)) rfl)
  · obtain ⟨rfl, I⟩ := R
    k_extra "go"
    exact hQ _ _ _ (Fr.keep (by assumption)) rfl
  · obtain ⟨rfl, ⟨hl, hN⟩, cv, I, Cx, hc⟩ := R
    k_extra "go"
    exact hQ _ _ _ (Fr.keep (by assumption)) rfl
theorem zw22 : True := by
  k_with "@call ref" => (case fT => ((k_dflt (refine' Mine.use1 (law_calls_c _ _ _ _) ?u1 ?u2 ?u3 ?u4 ?u5 ?u6 ?u7 ?u8 ?_; k_extra "uup"); intro h' tk' F' N'; k_extra "ut")))
  k_with "con" => (case fT => ((refine' law_calls_c _ _ _ _)))
  exact True.intro
noncomputable def callV (hasC : Bool) (x : V) : Bool :=
  if hasC then lawCallsV x else match x with
  | .str _ => true
  | .obj _ (c :: _) => c.key == "closure"
  | _ => false
theorem is_callable_c {w : World} {mean mg mb} (wa ah : Addr) (hasC : Bool) (x : V) (v : Value) (hx : x.ok) :
    Pure w mean mg mb 920 930 463 [.ref ah, v] (fun h => Rep w wa h x v ∧ HostAt w h ah hasC) (fun _ r _ => r = .bool (callV hasC x)) := by
  k_extra "E0"
  refine in_mono (A' := ⟨none, 920, A.frames, A.guards, 930⟩) ?_ e1 e2 rfl rfl e3
  k_extra "E1"
  refine' enterZ (binds := [("host", .ref ah), ("value", v)]) W ?k1 ?kf1 ?kf2 ?kf3 ?k2 ?k3 ?k4 ?k5 ?_ ?k6 ?k7 ?k8 ?k9
  k_extra "E5"
  obtain ⟨R, H⟩ := R
  obtain ⟨td, kvs, h1, h2, h3, h4, h5⟩ := H.tools
  cases hasC with
  | true =>
    have h6 : (valueAt kvs "callable").isSome = true := by rw [h5]; rfl
    have h7 : valueAt kvs "callable" = some (.ref 690) := h5
    k_extra "go"
    all_goals exact hQ _ _ _ (Fr.keep (by assumption)) rfl
  | false =>
    have h6 : (valueAt kvs "callable").isSome = false := by rw [h5]; rfl
    have R0 := R
    rcases x with _ | b | n | t | a | ⟨a, lx⟩
    · cases R
      k_extra "go"
      exact hQ _ _ _ (Fr.keep (by assumption)) rfl
    · cases R
      k_extra "go"
      exact hQ _ _ _ (Fr.keep (by assumption)) rfl
    · obtain ⟨t, rfl⟩ := R
      k_extra "go"
      exact hQ _ _ _ (Fr.keep (by assumption)) rfl
    · obtain ⟨t, rfl⟩ := R
      k_extra "go"
      exact hQ _ _ _ (Fr.keep (by assumption)) rfl
    · obtain ⟨rfl, I⟩ := R
      k_extra "go"
      exact hQ _ _ _ (Fr.keep (by assumption)) rfl
    · obtain ⟨rfl, hl, cv, I, Cx, hc⟩ := R
      cases Cx with
      | nil => exact absurd rfl hl.1
      | cons i r =>
        obtain ⟨tk', ak⟩ := i.key
        k_extra "go"
        exact hQ _ _ _ (Fr.keep (by assumption)) rfl
theorem zw23 : True := by
  k_with "@call ref" => (case fT => ((k_dflt (refine' Mine.use1 (by_class_c _ _ _ _ _ _ _ _ _ ?k0 ?k1) ?u1 ?u2 ?u3 ?u4 ?u5 ?u6 ?u7 ?u8 ?_; k_extra "uup"; (case k0 => k_extra "AS"); (case k1 => k_extra "AS")); intro h' tk' F' N'; k_extra "ut")))
  k_with "con" => (case fT => ((refine' by_class_c _ _ _ _ _ _ _ _ _ ?k0 ?k1)))
  k_with "@call ref" => (case fT => ((k_dflt (refine' Mine.use1 (is_callable_c _ _ _ _ _ ?k0) ?u1 ?u2 ?u3 ?u4 ?u5 ?u6 ?u7 ?u8 ?_; k_extra "uup"; (case k0 => k_extra "AS")); intro h' tk' F' N'; k_extra "ut")))
  k_with "con" => (case fT => ((refine' is_callable_c _ _ _ _ _ ?k0)))
  k_with "@call ref" => (case fT => ((k_dflt (refine' Mine.use1 (instance_of_c _ _ _ _ ?k0) ?u1 ?u2 ?u3 ?u4 ?u5 ?u6 ?u7 ?u8 ?_; k_extra "uup"; (case k0 => k_extra "AS")); intro h' tk' F' N'; k_extra "ut")))
  k_with "con" => (case fT => ((refine' instance_of_c _ _ _ _ ?k0)))
  exact True.intro
noncomputable def V.isNull : V → Bool
  | .null => true
  | _ => false
noncomputable def V.tru : V → Bool
  | .bool b => b
  | _ => false
section
variable {M : Model} {A : Around} {E : Value → Shared → Prop} {s : Shared} {w : PySem.World}
theorem rep_is_none {wa : Addr} {h : Heap} {x : V} {v : Value} {Q : Value → Shared → Prop} (R : Rep w wa h x v) (q : Q (.bool x.isNull) s) : wpAny M A (compareOp .Is v .none) Q E s := by
  cases x with
  | null => cases R; exact wpAny_is_self rfl q
  | bool b => cases R; exact wpAny_is_other rfl nofun q
  | int n => obtain ⟨t, rfl⟩ := R; exact wpAny_is_other rfl nofun q
  | str n => obtain ⟨t, rfl⟩ := R; exact wpAny_is_other rfl nofun q
  | arr a => obtain ⟨rfl, _⟩ := R; exact wpAny_is_other rfl nofun q
  | obj a l => obtain ⟨rfl, _⟩ := R; exact wpAny_is_other rfl nofun q
theorem rep_eq_bool {wa : Addr} {h : Heap} {x : V} {v : Value} {b : Bool} {Q : Value → Shared → Prop} (R : Rep w wa h x v) (e : (kindS x == Str.ofString "bool") = true) (q : Q (.bool (x.tru == b)) s) : wpAny (model Challenge.rw_pq0857_01.row.prog w) A (compareOp .Eq v (.bool b)) Q E s := by
  cases x with
  | bool c => cases R; exact SeqAt.RcAt.bool_bool c b _ _ E Q q
  | null => exact absurd e (by decide)
  | int n => exact absurd e (by rw [ks3]; decide)
  | str n => exact absurd e (by rw [ks4]; decide)
  | arr n => exact absurd e (by rw [ks5]; decide)
  | obj n l => exact absurd e (by rw [ks6]; decide)
end
noncomputable def acceptsN (hasC : Bool) (nm : Str) (x : V) (lh ls : List CI) : Bool :=
  if ([Str.ofString "int", Str.ofString "string", Str.ofString "bool", Str.ofString "array", Str.ofString "object"].any fun z => z == nm) = true then kindS x == nm
  else if (nm == Str.ofString "mixed") = true then true
  else if ([Str.ofString "null", Str.ofString "void"].any fun z => z == nm) = true then x.isNull
  else if ([Str.ofString "true", Str.ofString "false"].any fun z => z == nm) = true then kindS x == Str.ofString "bool" && (x.tru == (nm == Str.ofString "true"))
  else if (nm == Str.ofString "never") = true then false
  else if (nm == Str.ofString "callable") = true then callV hasC x
  else if (nm == Str.ofString "iterable") = true then kindS x == Str.ofString "array" || insV "traversable" x
  else byClassV nm x lh ls
theorem zw24 : True := by
  k_with "@compareOp Is" => (case fT => (k_dflt (refine' rep_is_none ?g1 ?_; (case g1 => k_extra "A"))))
  k_with "@compareOp Eq" => (case fT => (k_dflt (refine' rep_eq_bool ?g1 ?g2 ?_; (case g1 => k_extra "A"); (case g2 => assumption))))
  exact True.intro
theorem accepts_name_c {w : World} {mean mg mb} (wa ah : Addr) (hasC : Bool) (nm : Str) (qn : Tok) (x : V) (v hv sv : Value) (lh ls : List CI) (hx : x.ok) (hn : nm.length ≤ 100) :
    Pure w mean mg mb 900 910 484 [.ref ah, .str nm qn, v, hv, sv] (fun h => Rep w wa h x v ∧ HostAt w h ah hasC ∧ Chain w wa h hv lh ∧ Chain w wa h sv ls ∧ IsCls w wa h wa trav .none) (fun _ r _ => r = .bool (acceptsN hasC nm x lh ls)) := by
  k_extra "E0"
  refine in_mono (A' := ⟨none, 900, A.frames, A.guards, 910⟩) ?_ e1 e2 rfl rfl e3
  k_extra "E1"
  refine' enterZ (binds := [("host", .ref ah), ("name", .str nm qn), ("value", v), ("here", hv), ("static", sv)]) W ?k1 ?kf1 ?kf2 ?kf3 ?k2 ?k3 ?k4 ?k5 ?_ ?k6 ?k7 ?k8 ?k9
  k_extra "E5"
  obtain ⟨R, H, C1, C2, WT⟩ := R
  k_extra "go"
  all_goals (refine hQ _ _ _ (Fr.keep (by assumption)) (ex_bool ?_); simp only [acceptsN, *, if_true, if_false, Bool.false_eq_true, Bool.true_and, Bool.false_and, Bool.true_or, Bool.false_or])
theorem zw25 : True := by
  k_with "@call ref" => (case fT => ((k_dflt (refine' Mine.use1 (accepts_name_c _ _ _ _ _ _ _ _ _ _ _ ?k0 ?k1) ?u1 ?u2 ?u3 ?u4 ?u5 ?u6 ?u7 ?u8 ?_; k_extra "uup"; (case k0 => k_extra "AS"); (case k1 => k_extra "AS")); intro h' tk' F' N'; k_extra "ut")))
  k_with "con" => (case fT => ((refine' accepts_name_c _ _ _ _ _ _ _ _ _ _ _ ?k0 ?k1)))
  exact True.intro
noncomputable def TupStrs (h : Heap) (na : Addr) (ns : List Str) : Prop := ∃ vs, IsTup h na vs.toArray ∧ StrsAre vs ns
theorem TupStrs.keeps {h h' : Heap} {na : Addr} {ns : List Str} (H : TupStrs h na ns) (k : h.StaysIn h') : TupStrs h' na ns := let ⟨vs, a, b⟩ := H; ⟨vs, a.keeps k, b⟩
section
variable {w : PySem.World} {A : Around} {E : Value → Shared → Prop} {s : Shared}
theorem in_names {h₀ : Heap} {L na : Addr} {m : Str → Option Value} {k : Str} {tk : Tok} {ns : List Str} {Q : Value → Shared → Prop} (F : Fr h₀ L s.heap m) (H : TupStrs h₀ na ns) (h : Q (.bool (ns.any (· == k))) s) :
    wpAny (model Challenge.rw_pq0857_01.row.prog w) A (compareOp .In (.str k tk) (.ref na)) Q E s := by
  obtain ⟨vs, a, b⟩ := H
  exact in_tuple_strs (a.keeps F.keep) (by simpa using b) h
end
theorem zw26 : True := by
  k_with "@compareOp In str ref" => (case fT => (k_dflt (refine' in_names ?g1 ?g2 ?_; (case g1 => k_extra "A"); (case g2 => k_extra "A"))))
  exact True.intro
theorem strsAre_get {vs : List Value} {ys : List Str} (h : StrsAre vs ys) {i : Nat} {v : Value} (hv : vs[i]? = some v) : ∃ y u, ys[i]? = some y ∧ v = .str y u := by
  induction h generalizing i with
  | nil => simp at hv
  | cons y t _ ih =>
    cases i with
    | zero => simp at hv; exact ⟨y, t, by simp, hv.symm⟩
    | succ i => exact ih (by simpa using hv)
noncomputable def takes1 (hasC : Bool) (x : V) (lh ls : List CI) (n : Str) : Bool := !(n == Str.ofString "float") && acceptsN hasC n x lh ls
noncomputable def isLeft (ns : List Str) : Bool := ns.any (· == Str.ofString "float")
noncomputable def acceptsV (hasC : Bool) (ns : List Str) (x : V) (lh ls : List CI) : Option Bool :=
  if ns.any (takes1 hasC x lh ls) = true then some true else if isLeft ns = true then none else some false
theorem accepts_c {w : World} {mean mg mb} (wa ah na : Addr) (hasC : Bool) (ns : List Str) (x : V) (v hv sv : Value) (lh ls : List CI) (hx : x.ok) (hns : ∀ n ∈ ns, n.length ≤ 100) :
    PureR w mean mg mb 880 890 491 [.ref ah, .ref na, v, hv, sv] (fun h => TupStrs h na ns ∧ Rep w wa h x v ∧ HostAt w h ah hasC ∧ Chain w wa h hv lh ∧ Chain w wa h sv ls ∧ IsCls w wa h wa trav .none)
      (fun _ r _ => ∃ b, acceptsV hasC ns x lh ls = some b ∧ r = .bool b) (acceptsV hasC ns x lh ls = none) := by
  k_extra "E3"
  refine in_mono (A' := ⟨none, 880, some outer, A.guards, 890⟩) ?_ e1 e2 B0.stack rfl e3
  have B1 : Below ⟨none, 880, some outer, A.guards, 890⟩ base outer s.heap := ⟨rfl, B0.stays, B0.frames⟩
  k_extra "E4"
  refine' enterR (binds := [("host", .ref ah), ("names", .ref na), ("value", v), ("here", hv), ("static", sv)]) B1 W ?k1 ?kf1 ?kf2 ?kf3 ?k2 ?k3 ?k4 ?k5 hE ?_ ?k6 ?k7 ?k8 ?k9
  k_extra "E2"
  obtain ⟨NS, R, H, C1, C2, WT⟩ := R
  obtain ⟨vs, hvs, hss⟩ := id NS
  walk1
  refine cutF (fun m => m "names" = some (.ref na) ∧ ns.any (takes1 hasC x lh ls) = false) ?_ ?_ (L := L') (h₀ := s.heap)
  · refine forV (by k_extra "A") rfl rfl ?_ (fun _ => rfl) PassesOwn.never
    k_extra "go"
    rename Fr _ _ _ _ => F3
    rename News _ _ _ _ => N3
    refine it_tuple (fun i m n => n = [] ∧ Between "name" _ m ∧ (ns.take i).any (takes1 hasC x lh ls) = false) (by rfl) rfl (hvs.keeps F3.keep) ?_ F3 N3 ⟨rfl, Between.start, rfl⟩ fun I => .of0 ?_ ?_
    · obtain ⟨o, ho, _⟩ := hvs
      exact Nat.ne_of_lt (Nat.lt_of_lt_of_le (Heap.lt_size ho) F3.above)
    · clear F3 N3
      rintro i v m₁ h tk own hi hv ⟨hb, hx'⟩ ho _ F4 N4
      obtain ⟨nm, qn, hn1, rfl⟩ := strsAre_get hss hv
      have hn : nm.length ≤ 100 := hns nm (List.mem_of_getElem? hn1)
      rw [hb.set] at F4
      have step : takes1 hasC x lh ls nm = false → (ns.take (i + 1)).any (takes1 hasC x lh ls) = false := fun e => by
        rw [List.take_add_one, hn1, List.any_append, hx']; simp [e]
      k_extra "go"
      · rename ((_ != _) = true) => e1'
        rename (acceptsN _ _ _ _ _ = true) => e2'
        refine LoopStepV.ret (CutEnd.ret (hQ _ _ _ (Fr.keep (by assumption)) ⟨true, ?_, rfl⟩))
        unfold acceptsV
        rw [if_pos]
        exact List.any_eq_true.mpr ⟨nm, List.mem_of_getElem? hn1, by unfold takes1; rw [e2', Bool.and_true]; exact e1'⟩
      · rename ((_ != _) = true) => e1'
        rename (acceptsN _ _ _ _ _ = false) => e2'
        exact LoopStepU.intro (by assumption) (by assumption) ho ⟨rfl, Between.then, step (by unfold takes1; rw [e2', Bool.and_false])⟩
      · rename ((_ != _) = false) => e1'
        exact LoopStepU.intro (by assumption) (by assumption) ho ⟨rfl, Between.then, step (by unfold takes1; rw [show (!(nm == Str.ofString "float")) = false from e1', Bool.false_and])⟩
    · rintro h tk m₁ ⟨hb, hx'⟩ F4 N4
      refine CutEnd.make F4 ⟨?_, ?_⟩
      · rcases hb with rfl | ⟨o, rfl⟩ <;> k_extra "look"
      · have e := strsAre_len hss
        rw [e, List.take_length] at hx'
        exact hx'
  intro h2 tk3 m2 F2 N2 ⟨hm1, hno⟩
  k_extra "go"
  · rename (List.any _ _ = true) => hl
    rename Fr _ _ _ _ => F3
    refine lo_raise (mean := mean) (mg := mg) (mb := mb) F3 News.nil X' T' rfl (Nat.le_of_ble_eq_true rfl) (by decide +kernel) rfl rfl fun e h' tk ob tp k1 k2 k3 k4 k5 => ?_
    exact ⟨by unfold acceptsV isLeft; rw [hno, hl]; rfl, edge_made F3 k1 k2 k3 k4 k5⟩
  · rename (List.any _ _ = false) => hl
    exact hQ _ _ _ (Fr.keep (by assumption)) ⟨false, by unfold acceptsV isLeft; rw [hno, hl]; rfl, rfl⟩
theorem zw27 : True := by
  k_with "pre2" => (case fT => (exact Mine.TupStrs.keeps (by k_extra "A") (Fr.keep (by k_extra "A"))))
  exact True.intro
noncomputable def toBoolV : V → Bool
  | .bool b => b
  | .int n => !(n == 0)
  | .str t => !([Str.ofString "", Str.ofString "0"].any fun z => z == t)
  | .obj _ _ => true
  | _ => false
noncomputable def V.scalar : V → Bool
  | .bool _ | .int _ | .str _ => true
  | _ => false
theorem to_bool_c {w : World} {mean mg mb} (wa : Addr) (x : V) (v : Value) (hx : x.ok) (hsc : x.scalar = true) :
    Pure w mean mg mb 940 950 372 [v] (fun h => Rep w wa h x v) (fun _ r _ => r = .bool (toBoolV x)) := by
  k_extra "E0"
  refine in_mono (A' := ⟨none, 940, A.frames, A.guards, 950⟩) ?_ e1 e2 rfl rfl e3
  k_extra "E1"
  refine' enterZ (binds := [("value", v)]) W ?k1 ?kf1 ?kf2 ?kf3 ?k2 ?k3 ?k4 ?k5 ?_ ?k6 ?k7 ?k8 ?k9
  k_extra "E5"
  have R0 := R
  rcases x with _ | b | n | t | a | ⟨a, lx⟩
  · cases hsc
  · cases R
    k_extra "go"
    exact hQ _ _ _ (Fr.keep (by assumption)) (by cases b <;> rfl)
  · obtain ⟨t, rfl⟩ := R
    k_extra "go"
    exact hQ _ _ _ (Fr.keep (by assumption)) rfl
  · obtain ⟨t, rfl⟩ := R
    k_extra "go"
    exact hQ _ _ _ (Fr.keep (by assumption)) rfl
  · cases hsc
  · cases hsc
theorem zw28 : True := by
  k_with "@call ref" => (case fT => ((k_dflt (refine' Mine.use1 (to_bool_c _ _ _ ?k0 ?k1) ?u1 ?u2 ?u3 ?u4 ?u5 ?u6 ?u7 ?u8 ?_; k_extra "uup"; (case k0 => k_extra "AS"); (case k1 => rfl)); intro h' tk' F' N'; k_extra "ut")))
  k_with "con" => (case fT => ((refine' to_bool_c _ _ _ ?k0 ?k1)))
  exact True.intro
theorem int_text_c {w : World} {mean mg mb} (n : Int) (qn : Tok) (h1 : -9223372036854775808 ≤ n) (h2 : n ≤ 9223372036854775807) :
    Pure w mean mg mb 940 950 379 [.int n qn] (fun _ => True) (fun _ r _ => ∃ u, r = .str (Str.ofString (toString n)) u) := by
  k_extra "E0"
  refine in_mono (A' := ⟨none, 940, A.frames, A.guards, 950⟩) ?_ e1 e2 rfl rfl e3
  k_extra "E1"
  refine' enterZ (binds := [("n", .int n qn)]) W ?k1 ?kf1 ?kf2 ?kf3 ?k2 ?k3 ?k4 ?k5 ?_ ?k6 ?k7 ?k8 ?k9
  k_extra "E5"
  k_extra "go"
  exact hQ _ _ _ (Fr.keep (by assumption)) ⟨_, rfl⟩
theorem zw29 : True := by
  k_with "@call ref" => (case fT => ((k_dflt (refine' Mine.use2 (int_text_c _ _ ?k0 ?k1) ?u1 ?u2 ?u3 ?u4 ?u5 ?u6 ?u7 ?u8 ?_; k_extra "uup"; (case k0 => exact And.left (by assumption)); (case k1 => exact And.right (by assumption))); intro tv' h' tk' F' N'; k_extra "ut")))
  k_with "con" => (case fT => ((refine' int_text_c _ _ ?k0 ?k1)))
  exact True.intro
section
variable {w : PySem.World} {A : Around} {E : Value → Shared → Prop} {s : Shared}
theorem notin_dct {h₀ : Heap} {L d : Addr} {m : Str → Option Value} {kvs : List (Str × Value)} {k : Str} {tk : Tok} {Q : Value → Shared → Prop} (F : Fr h₀ L s.heap m) (D : h₀.DictOf (PySem.strKind Challenge.rw_pq0857_01.row.prog w) d kvs) (lo : (d == sysModules) = false) (h : Q (.bool (!(valueAt kvs k).isSome)) { s with toks := s.toks + 1 }) :
    wpAny (model Challenge.rw_pq0857_01.row.prog w) A (compareOp .NotIn (.str k tk) (.ref d)) Q E s := by
  obtain ⟨o, ho, hd⟩ := Heap.dictOf_iff.mp D
  exact wpAny_notIn_of (strKind_is _ _ _ _) lo (Heap.dictOf_iff.mpr ⟨o, F.keep _ _ ho, hd⟩).mapOf h
theorem meth_of {h₀ : Heap} {L a C f : Addr} {m : Str → Option Value} {name : Str} {pl : Sem Bool} {Q : Value × List Value → Shared → Prop} (F : Fr h₀ L s.heap m) (X₀ : (Hd.K w.params).In h₀) (I : Lacks h₀ a C name) (hg : plainGet (Hd.K w.params) C name = true)
    (hf : findIn (Hd.K w.params) (.ref C) name = some (some (.ref f))) (ht : isFn (Hd.K w.params) (.ref f) = true) (h : Q (.ref f, [.ref a]) s) :
    wpAny (model Challenge.rw_pq0857_01.row.prog w) A (getMethod (.ref a) name pl) Q E s := by
  obtain ⟨ox, es, n, i, g⟩ := I
  exact method_inst F X₀ (instAt_keeps F.keep i) hg hf ht g h
end
theorem zw30 : True := by
  k_with "@getMethod ref" => (case fT => (k_dflt (refine' meth_of ?g1 ?g2 ?g3 ?g4 ?g5 ?g6 ?_; (case g1 => k_extra "A"); (case g2 => k_extra "A"); (case g3 => first | exact HostAt.tool (by k_extra "A") | exact HostAt.warn (by k_extra "A")); (case g4 => kernel_rfl); (case g5 => k_is); (case g6 => kernel_rfl))))
  k_with "@compareOp NotIn str ref" => (case fT => (k_dflt (refine' notin_dct ?g1 ?g2 ?g3 ?_; (case g1 => k_extra "A"); (case g2 => k_extra "A"); (case g3 => k_extra "A"))))
  exact True.intro
theorem law_shown_c {w : World} {mean mg mb} (wa a : Addr) (c : CI) (l : List CI) (hv : Value) (hn : c.name.length ≤ 100) :
    Pure w mean mg mb 940 950 683 [hv, .ref a] (fun h => Rep w wa h (.obj a (c :: l)) (.ref a)) (fun _ r _ => ∃ u, r = .str (Str.ofString "text of " ++ c.name) u) := by
  k_extra "E0"
  refine in_mono (A' := ⟨none, 940, A.frames, A.guards, 950⟩) ?_ e1 e2 rfl rfl e3
  k_extra "E1"
  refine' enterZ (binds := [("host", hv), ("value", .ref a)]) W ?k1 ?kf1 ?kf2 ?kf3 ?k2 ?k3 ?k4 ?k5 ?_ ?k6 ?k7 ?k8 ?k9
  k_extra "E5"
  obtain ⟨_, hl, cv, I, Cx, hc⟩ := R
  cases Cx with
  | cons i r =>
    obtain ⟨tk', ak⟩ := i.name
    k_extra "go"
    exact hQ _ _ _ (Fr.keep (by assumption)) ⟨_, rfl⟩
theorem zw31 : True := by
  k_with "@call ref" => (case fT => ((k_dflt (refine' Mine.use2 (law_shown_c _ _ _ _ _ ?k0) ?u1 ?u2 ?u3 ?u4 ?u5 ?u6 ?u7 ?u8 ?_; k_extra "uup"; (case k0 => k_extra "AS")); intro tv' h' tk' F' N'; k_extra "ut")))
  k_with "con" => (case fT => ((refine' law_shown_c _ _ _ _ _ ?k0)))
  exact True.intro
theorem tool_c {w : World} {mean mg mb} (ah : Addr) (hasC : Bool) (q : Tok) :
    Pure w mean mg mb 950 960 556 [.ref ah, .str (Str.ofString "text") q] (fun h => HostAt w h ah hasC) (fun _ r _ => r = .ref 683) := by
  k_extra "E0"
  refine in_mono (A' := ⟨none, 950, A.frames, A.guards, 960⟩) ?_ e1 e2 rfl rfl e3
  k_extra "E1"
  refine' enterZ (binds := [("self", .ref ah), ("name", .str (Str.ofString "text") q)]) W ?k1 ?kf1 ?kf2 ?kf3 ?k2 ?k3 ?k4 ?k5 ?_ ?k6 ?k7 ?k8 ?k9
  k_extra "E5"
  obtain ⟨td, kvs, h1, h2, h3, h4, h5⟩ := R.tools
  have h6 : (valueAt kvs (Str.ofString "text")).isSome = true := by rw [h4]; rfl
  have h7 : valueAt kvs (Str.ofString "text") = some (.ref 683) := h4
  k_extra "go"
  exact hQ _ _ _ (Fr.keep (by assumption)) rfl
theorem zw32 : True := by
  k_with "@call ref" => (case fT => ((k_dflt (refine' Mine.use1 (tool_c _ _ _) ?u1 ?u2 ?u3 ?u4 ?u5 ?u6 ?u7 ?u8 ?_; k_extra "uup"); intro h' tk' F' N'; k_extra "ut")))
  k_with "con" => (case fT => ((refine' tool_c _ _ _)))
  exact True.intro
noncomputable def toTextV : V → Str
  | .bool b => if b then Str.ofString "1" else Str.ofString ""
  | .int n => Str.ofString (toString n)
  | .str t => t
  | .obj _ (c :: _) => Str.ofString "text of " ++ c.name
  | _ => Str.ofString ""
theorem to_text_c {w : World} {mean mg mb} (wa ah : Addr) (hasC : Bool) (x : V) (v : Value) (hx : x.ok) (hsc : x.scalar = true ∨ ∃ a l, x = .obj a l) (hnm : ∀ a c l, x = .obj a (c :: l) → c.name.length ≤ 100) :
    Pure w mean mg mb 920 930 386 [.ref ah, v] (fun h => Rep w wa h x v ∧ HostAt w h ah hasC) (fun _ r _ => ∃ u, r = .str (toTextV x) u) := by
  k_extra "E0"
  refine in_mono (A' := ⟨none, 920, A.frames, A.guards, 930⟩) ?_ e1 e2 rfl rfl e3
  k_extra "E1"
  refine' enterZ (binds := [("host", .ref ah), ("value", v)]) W ?k1 ?kf1 ?kf2 ?kf3 ?k2 ?k3 ?k4 ?k5 ?_ ?k6 ?k7 ?k8 ?k9
  k_extra "E5"
  obtain ⟨R, H⟩ := R
  have R0 := R
  rcases x with _ | b | n | t | a | ⟨a, lx⟩
  · simp [V.scalar] at hsc
  · cases R
    k_extra "go"
    all_goals exact hQ _ _ _ (Fr.keep (by assumption)) ⟨_, by simp only [toTextV, *, if_true, if_false, Bool.false_eq_true] <;> rfl⟩
  · obtain ⟨t, rfl⟩ := R
    k_extra "go"
    exact hQ _ _ _ (Fr.keep (by assumption)) ⟨_, rfl⟩
  · obtain ⟨t, rfl⟩ := R
    k_extra "go"
    exact hQ _ _ _ (Fr.keep (by assumption)) ⟨_, rfl⟩
  · simp [V.scalar] at hsc
  · obtain ⟨rfl, hl, cv, I, Cx, hc⟩ := R
    cases Cx with
    | nil => exact absurd rfl hl.1
    | cons i r =>
      have hn := hnm _ _ _ rfl
      k_extra "go"
      exact hQ _ _ _ (Fr.keep (by assumption)) ⟨_, rfl⟩
theorem zw33 : True := by
  k_with "@call ref" => (case fT => ((k_dflt (refine' Mine.use2 (to_text_c _ _ _ _ _ ?k0 ?k1 ?k2) ?u1 ?u2 ?u3 ?u4 ?u5 ?u6 ?u7 ?u8 ?_; k_extra "uup"; (case k0 => k_extra "AS"); (case k1 => k_extra "AS"); (case k2 => k_extra "AS")); intro tv' h' tk' F' N'; k_extra "ut")))
  k_with "con" => (case fT => ((refine' to_text_c _ _ _ _ _ ?k0 ?k1 ?k2)))
  k_with "@call ref" => (case fT => ((k_dflt (refine' useRR (number_of_c _ _ ?k0) ?u0 ?u1 ?u2 ?u9 ?u5 ?u6 ?u7 ?u8 ?ub ?_; k_extra "uur"; (case k0 => k_extra "AS")); intro v' h' tk' F' N' st' hv'; obtain ⟨nn', uu', hn', hq'⟩ := hv'; subst hq'; k_extra "ut")))
  exact True.intro
noncomputable def Pair (w : World) (wa : Addr) (h : Heap) (r : Value) (ok : Bool) (y : V) : Prop := ∃ a v2, r = .ref a ∧ IsTup h a #[.bool ok, v2] ∧ Rep w wa h y v2
noncomputable def coercedV (nm : Str) (x : V) : Option (Bool × V) :=
  if (nm == Str.ofString "string") = true then some (true, .str (toTextV x)) else
  match x with
  | .obj a l => some (false, .obj a l)
  | x => if (nm == Str.ofString "bool") = true then some (true, .bool (toBoolV x)) else
    match x with
    | .bool b => some (true, .int (if b then 1 else 0))
    | .str t => if (numericV t).sort = 2 then (match (numericV t).value with | some n => some (true, .int n) | none => none) else some (false, .str t)
    | x => some (false, x)
theorem zw34 : True := by
  k_with "bad" => (case fT => ((intro bd; exact ⟨by simp only [coercedV, *, if_true, if_false, Bool.false_eq_true], rfl⟩)))
  k_with "cv" => (case fT => ((simp only [coercedV, *, if_true, if_false, Bool.false_eq_true, reduceIte] <;> rfl)))
  k_with "pair" => (case fT => (first
  | exact ⟨_, .str (toTextV _), by k_extra "cv", _, _, rfl, News.isTup (by assumption) (.head _), ⟨_, rfl⟩⟩
  | exact ⟨_, .bool (toBoolV _), by k_extra "cv", _, _, rfl, News.isTup (by assumption) (.head _), rfl⟩
  | exact ⟨_, .int _, by k_extra "cv", _, _, rfl, News.isTup (by assumption) (.head _), ⟨_, rfl⟩⟩
  | exact ⟨_, .str _, by k_extra "cv", _, _, rfl, News.isTup (by assumption) (.head _), ⟨_, rfl⟩⟩
  | exact ⟨_, .obj _ _, by k_extra "cv", _, _, rfl, News.isTup (by assumption) (.head _), Rep.keeps (by assumption) (Fr.keep (by assumption))⟩))
  exact True.intro
theorem coerced_to_c {w : World} {mean mg mb} (wa ah : Addr) (hasC : Bool) (nm : Str) (qn : Tok) (x : V) (v : Value) (hx : x.ok) (hsc : x.scalar = true ∨ ∃ a l, x = .obj a l) (hnm : ∀ a c l, x = .obj a (c :: l) → c.name.length ≤ 100) :
    PureR w mean mg mb 900 910 498 [.ref ah, .str nm qn, v] (fun h => Rep w wa h x v ∧ HostAt w h ah hasC) (fun _ r h' => ∃ ok y, coercedV nm x = some (ok, y) ∧ Pair w wa h' r ok y) (coercedV nm x = none) := by
  k_extra "E3"
  refine in_mono (A' := ⟨none, 900, some outer, A.guards, 910⟩) ?_ e1 e2 B0.stack rfl e3
  have B1 : Below ⟨none, 900, some outer, A.guards, 910⟩ base outer s.heap := ⟨rfl, B0.stays, B0.frames⟩
  k_extra "E4"
  refine' enterR (binds := [("host", .ref ah), ("name", .str nm qn), ("value", v)]) B1 W ?k1 ?kf1 ?kf2 ?kf3 ?k2 ?k3 ?k4 ?k5 hE ?_ ?k6 ?k7 ?k8 ?k9
  k_extra "E2"
  obtain ⟨R, H⟩ := R
  have R0 := R
  rcases x with _ | b | n | t | a | ⟨a, lx⟩
  · simp [V.scalar] at hsc
  · cases R
    k_extra "go"
    all_goals (refine hQ _ _ _ (Fr.keep (by assumption)) ?_; dsimp only; k_extra "pair")
  · obtain ⟨t, rfl⟩ := R
    k_extra "go"
    all_goals (refine hQ _ _ _ (Fr.keep (by assumption)) ?_; dsimp only; k_extra "pair")
  · obtain ⟨u, rfl⟩ := R
    have ht : t.length ≤ 900 := hx
    k_extra "go"
    · refine hQ _ _ _ (Fr.keep (by assumption)) ?_; dsimp only; k_extra "pair"
    · refine hQ _ _ _ (Fr.keep (by assumption)) ?_; dsimp only; k_extra "pair"
    · refine hQ _ _ _ (Fr.keep (by assumption)) ?_; dsimp only; k_extra "pair"
    · refine hQ _ _ _ (Fr.keep (by assumption)) ?_; dsimp only; k_extra "pair"
  · simp [V.scalar] at hsc
  · obtain ⟨rfl, hl, cv, I, Cx, hc⟩ := R
    k_extra "go"
    all_goals (refine hQ _ _ _ (Fr.keep (by assumption)) ?_; dsimp only; k_extra "pair")
noncomputable def LvE (w : World) (A : Around) (env : Env) (Bad : Prop) (base g : Heap) (outer : List Env) (s : Shared) : Value → Shared → Prop :=
  fun e s' => wpAny (model Challenge.rw_pq0857_01.row.prog w) (A.deeper env) (leaving env e) (fun _ s'' => Bad ∧ Exc base g outer s e s'') (fun _ _ => False) s'
theorem lv_passes {w : World} {A : Around} {env : Env} {Bad : Prop} {base g : Heap} {outer : List Env} {s : Shared} : PassesOwn (model Challenge.rw_pq0857_01.row.prog w) (A.deeper env) env (LvE w A env Bad base g outer s) := PassesOwn.leaving
theorem enterL {w : World} {mean : ExcName → Option Value} {mg mb : Str → Option Value} {A : Around} {s : Shared} {Q E : Value → Shared → Prop} {f : Addr} {vs : List Value} {binds : List (Str × Value)} {base : Heap} {outer : List Env} {Bad : Prop}
    {name qual : Str} {p params : Arguments} {b body : List Stmt} {sc scope : Scope} {dV kV doc pm cdv ct oc : Value} {an od : Option Addr} {osl : Array (Option Value)}
    (K : Below A base outer s.heap) (W : Wd w mean mg mb s.heap) (ho : (Hd.K w.params).lookup f = some ⟨oc, od, .func (fdOf name qual p b sc dV kV doc pm an cdv ct), osl⟩) (he1 : p = params) (he2 : b = body) (he3 : sc = scope) (hcd : codeIn (Hd.K w.params) cdv qual = true) (hroom : A.depth < recursionLimit)
    (hbind : BindsTo s (fnOf name qual params body scope dV kV doc pm an cdv ct) ⟨vs, []⟩ binds) (hloc : ∀ y ∈ binds, scope.names.lookup y.1 = some .local)
    (hE : ∀ e s', Bad → Exc base s.heap outer s e s' → E e s')
    (h : ∀ L' h₁ tk, Fr s.heap L' h₁ (mp binds.reverse) → News s.heap L' h₁ [] →
      wpAny (model Challenge.rw_pq0857_01.row.prog w) (A.deeper (envOf qual scope L' f cdv)) (execs body (envOf qual scope L' f cdv))
        (fun fl s' => Q (match fl with | .ret v => v | _ => .none) s') (LvE w A (envOf qual scope L' f cdv) Bad base s.heap outer s) { s with heap := h₁, toks := tk })
    (hcell : ∀ x ∈ scope.names, x.2 ≠ .cell) (hco : scope.isCoroutine = false) (hgen : scope.isGenerator = false) (hk : scope.kind = .function) :
    wpAny (model Challenge.rw_pq0857_01.row.prog w) A (call (.ref f) vs) Q E s := by
  subst he1 he2 he3
  refine wpAny_call (codeAny_call_def (fd := fnOf name qual p b sc dV kV doc pm an cdv ct) (body := b) (binds := binds) hroom (W.X _ _ ho) rfl W.T.nolimit (codeRec_of W.X hcd) rfl hbind hcell hloc (fun h₁ hns hk₁ => ?_) hco hgen hk)
  exact wpAny_mono (h _ h₁ _ ⟨hns, hk₁, Nat.le_refl _⟩ News.nil) (fun _ _ x => x) fun e s' x => wpAny_mono x (fun _ s'' z => hE e s'' z.1 z.2) fun _ _ z => z.elim
theorem useRL {w : World} {mean : ExcName → Option Value} {mg mb : Str → Option Value} {d u : Nat} {f : Addr} {vs : List Value} {Pre : Heap → Prop} {Post : Heap → Value → Heap → Prop} {Bad Bad' : Prop} {A : Around} {s s₀ : Shared} {Q : Value → Shared → Prop}
    {name : Str} {scope : Scope} {L a : Addr} {cd : Value} {base g : Heap} {outer : List Env} {m : Str → Option Value} {news : List (Addr × Obj)} (P : PureR w mean mg mb d u f vs Pre Post Bad) (B : Below A base outer g) (F : Fr g L s.heap m) (N : News g L s.heap news) (W0 : Wd w mean mg mb base)
    (e1 : (A.deeper (envOf name scope L a cd)).handled = none) (e2 : (A.deeper (envOf name scope L a cd)).depth ≤ d) (e3 : (A.deeper (envOf name scope L a cd)).units ≤ u) (hp : Pre s.heap) (hb : Bad → Bad' ∧ s = { s₀ with heap := s.heap, toks := s.toks })
    (k : ∀ v h' tk, Fr g L h' m → News g L h' news → s.heap.StaysIn h' → Post s.heap v h' → Q v { s with heap := h', toks := tk }) (hk : scope.kind = .function := by rfl) :
    wpAny (model Challenge.rw_pq0857_01.row.prog w) (A.deeper (envOf name scope L a cd)) (call (.ref f) vs) Q (LvE w A (envOf name scope L a cd) Bad' base g outer s₀) s :=
  P _ base (envOf name scope L a cd :: outer) s Q _ e1 e2 e3 (B.push F hk) W0 hp (fun v h' tk st po => k v h' tk (F.keeps st) (N.grown st) st po)
    fun _ _ bad x => leave_edge B F.above hk (x.edge (hb bad).2 F.keep) fun _ z => ⟨(hb bad).1, z⟩
theorem zw35 : True := by
  k_with "passes" => (case fT => (exact Mine.lv_passes))
  exact True.intro
noncomputable def shownV : V → Bool
  | .obj _ l => anyShown l
  | _ => false
theorem has_text_v {w : World} {mean mg mb} (wa : Addr) (x : V) (v : Value) (hx : x.ok) :
    Pure w mean mg mb 980 990 449 [v] (fun h => Rep w wa h x v ∧ (kindS x == Str.ofString "object") = true) (fun _ r _ => r = .bool (shownV x)) := by
  intro A s Q E e1 e2 e3 W R hQ
  obtain ⟨R, hk⟩ := R
  cases x with
  | obj a l =>
    obtain ⟨rfl, hl, c, I, C, _⟩ := R
    exact has_text_c (mean := mean) (mg := mg) (mb := mb) wa a l (by simp [V.ok] at hx; omega) A s Q E e1 e2 e3 W ⟨c, I, C⟩ hQ
  | null => exact absurd hk (by decide)
  | bool b => exact absurd hk (by rw [ks2]; decide)
  | int n => exact absurd hk (by rw [ks3]; decide)
  | str n => exact absurd hk (by rw [ks4]; decide)
  | arr n => exact absurd hk (by rw [ks5]; decide)
theorem zw36 : True := by
  k_with "@call ref" => (case fT => ((k_dflt (refine' Mine.use1 (has_text_v _ _ _ ?k0) ?u1 ?u2 ?u3 ?u4 ?u5 ?u6 ?u7 ?u8 ?_; k_extra "uup"; (case k0 => k_extra "AS")); intro h' tk' F' N'; k_extra "ut")))
  k_with "con" => (case fT => ((refine' has_text_v _ _ _ ?k0)))
  k_with "@call ref" => (case fT => ((k_dflt (refine' useRL (accepts_c _ _ _ _ _ _ _ _ _ _ _ ?k0 ?k1) ?u0 ?u1 ?u2 ?u9 ?u5 ?u6 ?u7 ?u8 ?ub ?_; k_extra "uur"; (case k0 => k_extra "AS"); (case k1 => k_extra "AS")); intro v' h' tk' F' N' st' hv'; obtain ⟨bb', hb', hq'⟩ := hv'; subst hq'; k_extra "ut")))
  k_with "@call ref" => (case fT => ((k_dflt (refine' useRL (coerced_to_c _ _ _ _ _ _ _ ?k0 ?k1 ?k2) ?u0 ?u1 ?u2 ?u9 ?u5 ?u6 ?u7 ?u8 ?ub ?_; k_extra "uur"; (case k0 => k_extra "AS"); (case k1 => k_extra "AS"); (case k2 => k_extra "AS")); intro v' h' tk' F' N' st' hv'; obtain ⟨ok', y', hy', ta', v2', hq', ht', hr'⟩ := hv'; subst hq'; k_extra "ut")))
  k_with "bad" => (case fT => ((intro bd; refine ⟨?_, rfl⟩; revert bd; k_extra "A")))
  exact True.intro
noncomputable def goV (ns : List Str) (x : V) : List Str → Option (Bool × V)
  | [] => some (false, x)
  | n :: r => if (ns.any fun z => z == n) = true then (match coercedV n x with | none => none | some (true, y) => some (true, y) | some (false, _) => goV ns x r) else goV ns x r
noncomputable def scalars3 : List Str := [Str.ofString "int", Str.ofString "string", Str.ofString "bool"]
noncomputable def goes (x : V) : Bool := ([Str.ofString "int", Str.ofString "bool", Str.ofString "string"].any fun z => z == kindS x) || (kindS x == Str.ofString "object" && shownV x)
noncomputable def coerceV (hasC : Bool) (ns : List Str) (x : V) (st : Bool) (lh ls : List CI) : Option (Bool × V) :=
  match acceptsV hasC ns x lh ls with
  | none => none
  | some true => some (true, x)
  | some false => if st = true then some (false, x) else if goes x = true then goV ns x scalars3 else some (false, x)
theorem goes_sc {x : V} (h : goes x = true) : x.scalar = true ∨ ∃ a l, x = .obj a l := by
  cases x with
  | null => exact absurd h (by decide)
  | arr a => exact absurd (show (([Str.ofString "int", Str.ofString "bool", Str.ofString "string"].any fun z => z == Str.ofString "array") || (Str.ofString "array" == Str.ofString "object" && false)) = true from h) (by decide +kernel)
  | obj a l => exact .inr ⟨a, l, rfl⟩
  | _ => exact .inl rfl
theorem coerce_yes {hasC : Bool} {ns : List Str} {x : V} {st : Bool} {lh ls : List CI} (h : acceptsV hasC ns x lh ls = some true) : coerceV hasC ns x st lh ls = some (true, x) := by unfold coerceV; rw [h]
theorem coerce_strict {hasC : Bool} {ns : List Str} {x : V} {st : Bool} {lh ls : List CI} (h : acceptsV hasC ns x lh ls = some false) (h2 : st = true) : coerceV hasC ns x st lh ls = some (false, x) := by unfold coerceV; rw [h]; exact if_pos h2
theorem coerce_goes {hasC : Bool} {ns : List Str} {x : V} {st : Bool} {lh ls : List CI} (h : acceptsV hasC ns x lh ls = some false) (h2 : st = false) (h3 : goes x = true) : coerceV hasC ns x st lh ls = goV ns x scalars3 := by
  unfold coerceV; rw [h]; dsimp only; rw [if_neg (by rw [h2]; simp), if_pos h3]
theorem coerce_stays {hasC : Bool} {ns : List Str} {x : V} {st : Bool} {lh ls : List CI} (h : acceptsV hasC ns x lh ls = some false) (h2 : st = false) (h3 : goes x = false) : coerceV hasC ns x st lh ls = some (false, x) := by
  unfold coerceV; rw [h]; dsimp only; rw [if_neg (by rw [h2]; simp), if_neg (by rw [h3]; simp)]
theorem some_is {a b : Bool} {o : Option Bool} (h : o = some a) (e : a = b) : o = some b := by rw [h, e]
theorem coerced_sc {nm : Str} {x y : V} (h : coercedV nm x = some (true, y)) : y.scalar = true := by
  unfold coercedV at h
  repeat' split at h
  all_goals (simp only [Option.some.injEq, Prod.mk.injEq, Bool.false_eq_true, false_and, reduceCtorEq, true_and] at h; try (subst h; rfl))
theorem Rep.sc {w : World} {wa : Addr} {h h' : Heap} {y : V} {v : Value} (R : Rep w wa h y v) (e : y.scalar = true) : Rep w wa h' y v := by
  cases y <;> first | exact R | cases e
inductive CutB (h₀ : Heap) (L : Addr) (s : Shared) (m : Str → Option Value) (c : Bool) : Bool → Shared → Prop where
  | make {h' : Heap} {tk : Nat} {b : Bool} (F : Fr h₀ L h' m) (e : b = c) : CutB h₀ L s m c b { s with heap := h', toks := tk }
theorem cutB {M : Model} {A : Around} {E : Value → Shared → Prop} {s : Shared} {h₀ : Heap} {L : Addr} {m : Str → Option Value} {t : Sem Bool} {K : Bool → Shared → Prop} (c : Bool) (_F : Fr h₀ L s.heap m)
    (h1 : wpAny M A t (CutB h₀ L s m c) (fun _ _ => False) s) (h2 : ∀ h' tk, Fr h₀ L h' m → News h₀ L h' [] → K c { s with heap := h', toks := tk }) : wpAny M A t K E s :=
  wpAny_mono h1 (fun _ _ x => by cases x with
    | make F e => subst e; exact h2 _ _ F News.nil) fun _ _ x => x.elim
noncomputable def PairN (w : World) (wa : Addr) (h₀ h : Heap) (r : Value) (ok : Bool) (y : V) : Prop := ∃ a v2, r = .ref a ∧ h.get? a = some { cls := .type "tuple", data := .seq #[.bool ok, v2] } ∧ h₀.get? a = none ∧ Rep w wa h y v2
theorem PairN.of {w : World} {wa : Addr} {g h : Heap} {L D : Addr} {ok : Bool} {y : V} {v2 : Value} {r : List (Addr × Obj)} (N : News g L h ((D, { cls := .type "tuple", data := .seq #[.bool ok, v2] }) :: r)) (R : Rep w wa h y v2) : PairN w wa g h (.ref D) ok y :=
  ⟨D, v2, rfl, (N _ (.head _)).1, (N _ (.head _)).2.2, R⟩
structure JCo (ah na : Addr) (v : Value) (ns : List Str) (x : V) (i : Nat) (m : Str → Option Value) : Prop where
  a : m "host" = some (.ref ah)
  b : m "names" = some (.ref na)
  c : m "value" = some v
  d : goV ns x scalars3 = goV ns x (scalars3.drop i)
theorem coerce_c {w : World} {mean mg mb} (wa ah na : Addr) (hasC : Bool) (ns : List Str) (x : V) (v : Value) (st : Bool) (hv sv : Value) (lh ls : List CI) (hx : x.ok) (hns : ∀ n ∈ ns, n.length ≤ 100) (hnm : ∀ a c l, x = .obj a (c :: l) → c.name.length ≤ 100) :
    PureR w mean mg mb 860 870 505 [.ref ah, .ref na, v, .bool st, hv, sv] (fun h => TupStrs h na ns ∧ Rep w wa h x v ∧ HostAt w h ah hasC ∧ Chain w wa h hv lh ∧ Chain w wa h sv ls ∧ IsCls w wa h wa trav .none)
      (fun h₀ r h' => ∃ ok y, coerceV hasC ns x st lh ls = some (ok, y) ∧ PairN w wa h₀ h' r ok y) (coerceV hasC ns x st lh ls = none) := by
  k_extra "E3"
  refine in_mono (A' := ⟨none, 860, some outer, A.guards, 870⟩) ?_ e1 e2 B0.stack rfl e3
  have B1 : Below ⟨none, 860, some outer, A.guards, 870⟩ base outer s.heap := ⟨rfl, B0.stays, B0.frames⟩
  k_extra "E4"
  refine' enterL (binds := [("host", .ref ah), ("names", .ref na), ("value", v), ("is_strict", .bool st), ("here", hv), ("static", sv)]) B1 W ?k1 ?kf1 ?kf2 ?kf3 ?k2 ?k3 ?k4 ?k5 hE ?_ ?k6 ?k7 ?k8 ?k9
  k_extra "E2"
  obtain ⟨NS, R, H, C1, C2, WT⟩ := R
  have hb0 : acceptsV hasC ns x lh ls = none → coerceV hasC ns x st lh ls = none := fun e => by unfold coerceV; rw [e]
  k_extra "goIf"
  walk1
  k_extra "goIf"
  · exact hQ _ _ _ (Fr.keep (by assumption)) ⟨true, x, coerce_yes (some_is (by k_extra "A") (by assumption)), PairN.of (by k_extra "A") (R.keeps (Fr.keep (by assumption)))⟩
  walk1
  k_extra "goIf"
  · exact hQ _ _ _ (Fr.keep (by assumption)) ⟨false, x, coerce_strict (some_is (by k_extra "A") (by assumption)) (by assumption), PairN.of (by k_extra "A") (R.keeps (Fr.keep (by assumption)))⟩
  have hacc : acceptsV hasC ns x lh ls = some false := some_is (by k_extra "A") (by assumption)
  have hst : st = false := by assumption
  refine wpAny_If ?_
  rename Fr _ _ _ _ => F2
  refine cutB (goes x) F2 ?_ ?_
  · k_extra "go"
    all_goals exact .make (by k_extra "A") (by unfold goes; simp only [*, Bool.true_or, Bool.false_or, Bool.true_and, Bool.false_and, Bool.or_true, Bool.or_false])
  rename News _ _ _ _ => N3
  clear F2 N3
  intro h3 tk3 F3 N3
  cases hgo : goes x with
  | true =>
    have hsc := goes_sc hgo
    have hg := coerce_goes (ns := ns) hacc hst hgo
    rw [if_pos rfl]
    k_extra "go"
    rename Fr _ _ _ _ => F3
    rename News _ _ _ _ => N3
    refine it_tuple (fun i m n => n = [] ∧ JCo ah na v ns x i m) (by rfl) rfl (News.isTup N3 (.head _)) ?_ F3 News.nil ⟨rfl, by k_extra "look", by k_extra "look", by k_extra "look", rfl⟩ fun I => .of0 ?_ ?_
    · exact (N3 _ (.head _)).2.1
    · clear F3 N3
      rintro i v' m₁ h tk own hi hv' ⟨hm1, hm2, hm3, hj⟩ ho _ F4 N4
      obtain ⟨nm, qn, hn1, rfl⟩ := strsAre_get (ys := scalars3) (.cons _ _ (.cons _ _ (.cons _ _ .nil))) hv'
      have hd : scalars3.drop i = nm :: scalars3.drop (i + 1) := by
        obtain ⟨hlt, e⟩ := List.getElem?_eq_some_iff.mp hn1
        rw [List.drop_eq_getElem_cons hlt, e]
      have hb1 : (ns.any fun z => z == nm) = true → coercedV nm x = none → coerceV hasC ns x st lh ls = none := fun e f => by rw [hg, hj, hd]; simp only [goV, e, f, if_true]
      cases hin : (ns.any fun z => z == nm) with
      | true =>
        have hb2 := hb1 hin
        iterate 30 (first | (with_reducible show wpAny _ _ (call (Value.ref 498) _) _ _ _) | ((try dsimp only); walk1))
        walk_at "call ref"
        rename (coercedV nm x = some _) => hy
        rename Rep _ _ _ _ _ => hr
        k_extra "go"
        · rename (_ = true) => hok
          subst hok
          exact LoopStepV.ret (hQ _ _ _ (Fr.keep (by assumption)) ⟨true, _, by rw [hg, hj, hd]; simp only [goV, hin, hy, if_true], PairN.of (by k_extra "A") (hr.sc (coerced_sc hy))⟩)
        · rename (_ = false) => hok
          subst hok
          exact LoopStepU.intro (by assumption) (by assumption) ho ⟨rfl, by k_extra "look", by k_extra "look", by k_extra "look", by rw [hj, hd]; simp only [goV, hin, hy, if_true]⟩
      | false =>
        have hj2 : goV ns x scalars3 = goV ns x (scalars3.drop (i + 1)) := by rw [hj, hd]; simp only [goV, hin, Bool.false_eq_true, if_false]
        k_extra "go"
        exact LoopStepU.intro (by assumption) (by assumption) ho ⟨rfl, by k_extra "look", by k_extra "look", by k_extra "look", hj2⟩
    · rintro h tk m₁ ⟨hm1, hm2, hm3, hj⟩ F4 N4
      dsimp only
      k_extra "go"
      exact hQ _ _ _ (Fr.keep (by assumption)) ⟨false, x, by rw [hg, hj]; rfl, PairN.of (by k_extra "A") (R.keeps (Fr.keep (by assumption)))⟩
  | false =>
    rw [if_neg (by simp)]
    k_extra "go"
    exact hQ _ _ _ (Fr.keep (by assumption)) ⟨false, x, coerce_stays hacc hst hgo, PairN.of (by k_extra "A") (R.keeps (Fr.keep (by assumption)))⟩
section
variable {w : PySem.World} {A : Around} {E : Value → Shared → Prop} {s : Shared} {h₀ : Heap} {L na : Addr} {m : Str → Option Value} {ns : List Str} {Q : Value → Shared → Prop}
theorem names_len (F : Fr h₀ L s.heap m) (H : TupStrs h₀ na ns) (hn : ns.length ≤ 100) (h : ∀ t k, Q (.int ns.length t) { s with toks := k }) :
    wpAny (model Challenge.rw_pq0857_01.row.prog w) A (call (.builtin "len") [.ref na]) Q E s := by
  obtain ⟨vs, a, b⟩ := H
  have e := strsAre_len b
  refine len_tuple (a.keeps F.keep) (by simp only [List.size_toArray]; omega) ?_
  simp only [List.size_toArray, e]
  exact h _ _
theorem names_at {value slice : Expr} {k : Int} {u : Tok} (F : Fr h₀ L s.heap m) (H : TupStrs h₀ na ns) (h0 : 0 ≤ k) (hk : k < ns.length) (hf : k < 2 ^ 63) (h : ∀ t', Q (.str (ns.getD k.toNat Str.empty) t') s)
    (hs : subscripted slice false (.ref na) (.int k u) = operate [.ref na, .int k u] (getItem (.ref na) (.int k u)) := by with_unfolding_all rfl) (hg : ∀ r, letTemporaryGo value (.ref na) r = pure () := by intro _; with_unfolding_all rfl) :
    wpAny (model Challenge.rw_pq0857_01.row.prog w) A (subscriptTail value slice (.ref na) (.int k u)) Q E s := by
  obtain ⟨vs, a, b⟩ := H
  exact item_strsTu (a.keeps F.keep) b h0 hk hf h hs hg
theorem names_join {x : Str} {t : Tok} (F : Fr h₀ L s.heap m) (H : TupStrs h₀ na ns) (hsep : x.length ≤ 16) (hw : (ns.map (·.length)).sum + ns.length ≤ 1048576) (h : ∀ t' k, Q (.str (Txt.join x ns) t') { s with toks := k }) :
    wpAny (model Challenge.rw_pq0857_01.row.prog w) A (call (.builtin "str.join") [.str x t, .ref na]) Q E s := by
  obtain ⟨vs, a, b⟩ := H
  exact join_tupleW (a.keeps F.keep) (by simpa using b) hsep hw h
end
theorem zw37 : True := by
  k_with "@call builtin:len" => (case fT => (k_dflt (refine' names_len ?g1 ?g2 ?g3 ?_; (case g1 => k_extra "A"); (case g2 => k_extra "A"); (case g3 => omega); intro _ _)))
  k_with "@call builtin:str.join" => (case fT => (k_dflt (refine' names_join ?g1 ?g2 ?g3 ?g4 ?_; (case g1 => k_extra "A"); (case g2 => k_extra "A"); (case g3 => decide +kernel); (case g4 => assumption); intro _ _)))
  k_with "@subscriptTail" => (case fT => ((k_here; (with_reducible show wpAny _ _ (subscriptTail _ _ (Value.ref _) (Value.int _ _)) _ _ _); k_dflt (refine' names_at ?g1 ?g2 ?g3 ?g4 ?g5 ?_; (case g1 => k_extra "A"); (case g2 => k_extra "A"); (case g3 => omega); (case g4 => omega); (case g5 => omega); k_whole); intro _)))
  exact True.intro
theorem sum_small {ns : List Str} {b : Nat} (h : ∀ n ∈ ns, n.length ≤ b) : (ns.map (·.length)).sum ≤ ns.length * b := by
  induction ns with
  | nil => simp
  | cons a r ih =>
    have h1 := h a (.head _)
    have h2 := ih fun n hn => h n (.tail _ hn)
    simp only [List.map_cons, List.sum_cons, List.length_cons, Nat.add_mul, Nat.one_mul]; omega
theorem getD_small {ns : List Str} {b k : Nat} (h : ∀ n ∈ ns, n.length ≤ b) : (ns.getD k Str.empty).length ≤ b := by
  by_cases hk : k < ns.length
  · rw [List.getD_eq_getElem?_getD, List.getElem?_eq_getElem hk]; exact h _ (List.getElem_mem hk)
  · rw [List.getD_eq_getElem?_getD, List.getElem?_eq_none (by omega)]; exact Nat.zero_le _
noncomputable def typeTextV (ns : List Str) : Str :=
  if (ns.length : Int) = 2 ∧ (ns.any fun z => z == Str.ofString "null") = true then
    (if (ns.getD (Int.toNat 0) Str.empty == Str.ofString "null") = true then Str.ofString "?" ++ ns.getD (Int.toNat 1) Str.empty else Str.ofString "?" ++ ns.getD (Int.toNat 0) Str.empty)
  else Txt.join (Str.ofString "|") ns
theorem type_text_c {w : World} {mean mg mb} (na : Addr) (ns : List Str) (hns : ∀ n ∈ ns, n.length ≤ 100) (hn : ns.length ≤ 4) (hn0 : 0 < ns.length) :
    Pure w mean mg mb 940 950 456 [.ref na] (fun h => TupStrs h na ns) (fun _ r _ => ∃ u, r = .str (typeTextV ns) u) := by
  k_extra "E0"
  refine in_mono (A' := ⟨none, 940, A.frames, A.guards, 950⟩) ?_ e1 e2 rfl rfl e3
  k_extra "E1"
  refine' enterZ (binds := [("names", .ref na)]) W ?k1 ?kf1 ?kf2 ?kf3 ?k2 ?k3 ?k4 ?k5 ?_ ?k6 ?k7 ?k8 ?k9
  k_extra "E5"
  have hw : (ns.map (·.length)).sum + ns.length ≤ 1048576 := by have := sum_small hns; omega
  have hq0 : (ns.getD (Int.toNat 0) Str.empty).length ≤ 100 := getD_small hns
  have hq1 : (ns.getD (Int.toNat 1) Str.empty).length ≤ 100 := getD_small hns
  k_extra "go"
  · exact hQ _ _ _ (Fr.keep (by assumption)) (ex_str' (by unfold typeTextV; rw [if_pos ⟨by assumption, by assumption⟩, if_pos (by assumption)]))
  · rename ((_ == _) = false) => e
    exact hQ _ _ _ (Fr.keep (by assumption)) (ex_str' (by unfold typeTextV; rw [if_pos ⟨by assumption, by assumption⟩, if_neg (by rw [e]; simp)]))
  · rename ((List.any _ _) = false) => e
    exact hQ _ _ _ (Fr.keep (by assumption)) (ex_str' (by unfold typeTextV; rw [if_neg (by rw [e]; simp)]))
  · exact hQ _ _ _ (Fr.keep (by assumption)) (ex_str' (by unfold typeTextV; rw [if_neg (fun z => absurd z.1 (by assumption))]))
theorem zw38 : True := by
  k_with "@call ref" => (case fT => ((k_dflt (refine' Mine.use2 (type_text_c _ _ ?k0 ?k1 ?k2) ?u1 ?u2 ?u3 ?u4 ?u5 ?u6 ?u7 ?u8 ?_; k_extra "uup"; (case k0 => k_extra "AS"); (case k1 => k_extra "AS"); (case k2 => k_extra "AS")); intro tv' h' tk' F' N'; k_extra "ut")))
  k_with "con" => (case fT => ((refine' type_text_c _ _ ?k0 ?k1 ?k2)))
  exact True.intro
noncomputable def PureN (w : World) (mean : ExcName → Option Value) (mg mb : Str → Option Value) (d u : Nat) (f : Addr) (vs : List Value) (g : Heap) (ln : Addr) (its : Array Value) (k : Nat) (Post : Heap → Value → Heap → Prop) : Prop :=
  ∀ (A : Around) (s : Shared) (Q E : Value → Shared → Prop), A.handled = none → A.depth ≤ d → A.units ≤ u → Wd w mean mg mb g → g.StaysIn s.heap → g.objs.size ≤ s.heap.objs.size → s.heap.get? ln = some (W.listOf its k) → g.get? ln = none →
    (∀ v h' tk, g.StaysIn h' → g.objs.size ≤ h'.objs.size → Post g v h' → Q v { s with heap := h', toks := tk }) → wpAny (model Challenge.rw_pq0857_01.row.prog w) A (call (.ref f) vs) Q E s
theorem enterN {w : World} {mean : ExcName → Option Value} {mg mb : Str → Option Value} {A : Around} {s : Shared} {Q E : Value → Shared → Prop} {f : Addr} {vs : List Value} {binds : List (Str × Value)} {g : Heap} {ln : Addr} {its : Array Value} {k : Nat}
    {name qual : Str} {p params : Arguments} {b body : List Stmt} {sc scope : Scope} {dV kV doc pm cdv ct oc : Value} {an od : Option Addr} {osl : Array (Option Value)}
    (W₀ : Wd w mean mg mb g) (st : g.StaysIn s.heap) (sz : g.objs.size ≤ s.heap.objs.size) (hl : s.heap.get? ln = some (W.listOf its k)) (hg : g.get? ln = none)
    (ho : (Hd.K w.params).lookup f = some ⟨oc, od, .func (fdOf name qual p b sc dV kV doc pm an cdv ct), osl⟩) (he1 : p = params) (he2 : b = body) (he3 : sc = scope) (hcd : codeIn (Hd.K w.params) cdv qual = true) (hroom : A.depth < recursionLimit)
    (hbind : BindsTo s (fnOf name qual params body scope dV kV doc pm an cdv ct) ⟨vs, []⟩ binds) (hloc : ∀ y ∈ binds, scope.names.lookup y.1 = some .local)
    (h : ∀ L' h₁ tk, Fr g L' h₁ (mp binds.reverse) → News g L' h₁ [(ln, W.listOf its k)] →
      wpAny (model Challenge.rw_pq0857_01.row.prog w) (A.deeper (envOf qual scope L' f cdv)) (execs body (envOf qual scope L' f cdv))
        (fun fl s' => Q (match fl with | .ret v => v | _ => .none) s') (fun _ _ => False) { s with heap := h₁, toks := tk })
    (hcell : ∀ x ∈ scope.names, x.2 ≠ .cell) (hco : scope.isCoroutine = false) (hgen : scope.isGenerator = false) (hk : scope.kind = .function) :
    wpAny (model Challenge.rw_pq0857_01.row.prog w) A (call (.ref f) vs) Q E s := by
  subst he1 he2 he3
  have W' : Wd w mean mg mb s.heap := W₀.keeps st
  refine wpAny_call (codeAny_call_def (fd := fnOf name qual p b sc dV kV doc pm an cdv ct) (body := b) (binds := binds) hroom (W'.X _ _ ho) rfl W'.T.nolimit (codeRec_of W'.X hcd) rfl hbind hcell hloc (fun h₁ hns hk₁ => ?_) hco hgen hk)
  refine wpAny_mono (h _ h₁ _ ⟨hns, fun b o e => hk₁ b o (st b o e), sz⟩ ?_) (fun _ _ x => x) fun _ _ x => x.elim
  intro q hq
  obtain rfl := List.mem_singleton.mp hq
  exact ⟨hk₁ _ _ hl, Nat.ne_of_lt (Heap.lt_size hl), hg⟩
noncomputable def inS (sg : Str) (c : Nat) : Bool := decide (c ∈ sg.cps.toList)
theorem found_sign (sg : Str) (c : Nat) : (!(Builtin.Str.occurrences sg ⟨#[c]⟩ 0 sg.length 1).isEmpty) = inS sg c := StrLaws.found_one sg c
theorem found_no {sg : Str} {c : Nat} (h : (Builtin.Str.occurrences sg ⟨#[c]⟩ 0 sg.length 1).isEmpty = true) : inS sg c = false := by rw [← found_sign, h]; rfl
theorem found_yes {sg : Str} {c : Nat} (h : (Builtin.Str.occurrences sg ⟨#[c]⟩ 0 sg.length 1).isEmpty = false) : inS sg c = true := by rw [← found_sign, h]; rfl
theorem law_behind_c {w : World} {mean mg mb} (t : Str) (tk : Tok) (i : Int) (tk' : Tok) (sg : Str) (ts : Tok) (ht : t.length ≤ 1000) (hi : 0 ≤ i) (hi2 : i ≤ 1000) :
    Pure w mean mg mb 980 990 671 [.str t tk, .int i tk', .str sg ts] (fun _ => True) (fun _ v _ => ∃ u, v = .int (scan (inS sg) t i.toNat) u) := by
  obtain ⟨a, rfl⟩ := Int.eq_ofNat_of_zero_le hi
  k_extra "E0"
  refine in_mono (A' := ⟨none, 980, A.frames, A.guards, 990⟩) ?_ e1 e2 rfl rfl e3
  k_extra "E1"
  refine' enterZ (binds := [("text", .str t tk), ("at", .int a tk'), ("signs", .str sg ts)]) W ?k1 ?kf1 ?kf2 ?kf3 ?k2 ?k3 ?k4 ?k5 ?_ ?k6 ?k7 ?k8 ?k9
  k_extra "E5"
  walk1
  refine While_inv0 (fun k m => ∃ (j : Nat) (u : Tok), m "at" = some (.int j u) ∧ m "text" = some (.str t tk) ∧ m "signs" = some (.str sg ts) ∧ k + j = (1001 : Nat) + t.length ∧ scan (inS sg) t j = scan (inS sg) t a) (n₀ := 1001 + t.length - a) F' N' ⟨a, tk', rfl, rfl, rfl, far_nat hi2, rfl⟩ ?_ PassesOwn.never
  clear F' N'
  rintro n m₁ h₂ tk₁ F' N' ⟨j, u, hm1, hm2, hm3, hk, hs⟩
  have hj : (0 : Int) ≤ j := Int.natCast_nonneg j
  k_extra "go"
  · have hlt : (j : Int) < t.length := by assumption
    rename (List.isEmpty _ = true) => hb
    have hb := found_no (item_at t j hj hlt ▸ hb)
    exact hQ _ _ _ (Fr.keep (by assumption)) (ex_scan (hs.symm.trans (scan_end fun q => by cases q.2.symm.trans hb)))
  · have hlt : (j : Int) < t.length := by assumption
    rename (List.isEmpty _ = false) => hb
    have hb := found_yes (item_at t j hj hlt ▸ hb)
    have ht := turn_nat hk (Int.ofNat_lt.mp hlt)
    rename Fr _ _ _ _ => F2
    exact ⟨_, _, _, [], n - 1, rfl, F2, News.nil, ht.1, rfl, j + 1, _, (by k_extra "look"), (by k_extra "look"), (by k_extra "look"), ht.2, (scan_go (Int.ofNat_lt.mp hlt) hb).symm.trans hs⟩
  · have hlt : ¬ (j : Int) < t.length := by assumption
    exact hQ _ _ _ (Fr.keep (by assumption)) (ex_scan (hs.symm.trans (scan_end fun q => hlt (Int.ofNat_lt.mpr q.1))))
theorem law_behind_b {w : World} {mean mg mb} (t : Str) (tk : Tok) (i : Int) (tk' : Tok) (sg : Str) (ts : Tok) (ht : t.length ≤ 1000) (hi : 0 ≤ i) (hi2 : i ≤ 1000) :
    Pure w mean mg mb 980 990 671 [.str t tk, .int i tk', .str sg ts] (fun _ => True) (fun _ v _ => ∃ u, v = .int (scan (inS sg) t i.toNat) u ∧ i.toNat ≤ scan (inS sg) t i.toNat ∧ scan (inS sg) t i.toNat ≤ max i.toNat t.length) :=
  (law_behind_c t tk i tk' sg ts ht hi hi2).weak (fun _ h => h) fun _ _ _ ⟨u, h⟩ => ⟨u, h, scan_ge _ _ _, scan_le _ _ _⟩
theorem zw39 : True := by
  k_with "@call ref" => (case fT => ((k_dflt (refine' Mine.use3 (law_behind_b _ _ _ _ _ _ ?k0 ?ki ?kj) ?u1 ?u2 ?u3 ?u4 ?u5 ?u6 ?u7 ?u8 ?_; k_extra "uup"; (case k0 => k_extra "AO"); (case ki => k_extra "AO"); (case kj => k_extra "AO")); intro tv' h' tk' F' N' hge' hle'; k_extra "ut")))
  exact True.intro
noncomputable def isNB : Option Bool → Value → Bool
  | none, .none => true
  | some b, .bool c => b == c
  | _, _ => false
theorem isNB_shape {k : Option Bool} {v : Value} (h : isNB k v = true) : (k = none ∧ v = .none) ∨ ∃ b, k = some b ∧ v = .bool b := by
  cases k with
  | none => cases v <;> first | exact .inl ⟨rfl, rfl⟩ | cases h
  | some b => cases v <;> first | exact .inr ⟨b, rfl, congrArg Value.bool (eq_of_beq h).symm⟩ | cases h
section
variable {prog : Program} {w : PySem.World} {A : Around} {E : Value → Shared → Prop} {s : Shared}
theorem eqB_of {a b : Value} {k : Bool} {Q : Bool → Shared → Prop} (h : SeqAt.RcAt A s a b k) (hk : (a == b) = true → k = true) (hf : ∀ x y z u, ¬ (a = .float x y ∧ b = .float z u)) (q : Q k s) : wpAny (model prog w) A (eqBool a b) Q E s := by
  unfold eqBool
  refine wpAny_holding ?_
  by_cases hab : (a == b) = true
  · rw [if_pos hab]
    rw [hk hab] at q
    exact wpAny_bind (wpAny_rule (wpAny_pure q))
  · rw [if_neg hab]
    have := h prog w E (fun r s' => wpAny (model prog w) A (truthOfDropped r) Q E s') (wpAny_truthy_bool q)
    split
    · rename_i z; exact absurd (Prod.mk.inj z) (hf _ _ _ _)
    · exact wpAny_bind this
end
noncomputable def hashNB : Option Bool → Int
  | none => 0xFCA86420
  | some true => 1
  | some false => 0
noncomputable def nbPairs : List (Value × Value) → List (Option Bool × Value)
  | [] => []
  | (.bool b, v) :: r => (some b, v) :: nbPairs r
  | (_, v) :: r => (none, v) :: nbPairs r
noncomputable def nbKind (prog : Program) (w : PySem.World) : KeyKind prog w (Option Bool) where
  is := isNB
  hash := hashNB
  inj := fun v a b ha hb => by
    rcases isNB_shape ha with ⟨rfl, rfl⟩ | ⟨x, rfl, rfl⟩ <;> rcases isNB_shape hb with ⟨rfl, h⟩ | ⟨y, rfl, h⟩ <;> first | rfl | (cases h; rfl) | cases h
  byValue := fun k v h => by rcases isNB_shape h with ⟨rfl, rfl⟩ | ⟨x, rfl, rfl⟩ <;> rfl
  pyHash := fun hv h => by
    rcases isNB_shape hv with ⟨rfl, rfl⟩ | ⟨b, rfl, rfl⟩
    · exact W.pyHash_slot (T := "NoneType") rfl F.slot_NoneType_hash F.entry_NoneType_hash (F.args_NoneType_hash_1 _) (beq_builtin_none _) (.inl rfl) (wpAny_bind (wpAny_pure (wpAny_bind (wpAny_mkInt (wpAny_pure ⟨_, _, rfl, h⟩)))))
    · refine W.pyHash_slot (T := "bool") rfl F.slot_bool_hash entry_int_hash (args_int_hash _) (beq_builtin_none _) (.inl rfl) ?_
      cases b
      · exact (show wpAny _ _ (do ret (← mkInt 0)) _ _ _ from wpAny_bind (wpAny_mkInt (wpAny_pure ⟨_, _, rfl, h⟩)))
      · exact (show wpAny _ _ (do ret (← mkInt 1)) _ _ _ from wpAny_bind (wpAny_mkInt (wpAny_pure ⟨_, _, rfl, h⟩)))
  eqBool := fun hu hv h => by
    rcases isNB_shape hu with ⟨rfl, rfl⟩ | ⟨a, rfl, rfl⟩ <;> rcases isNB_shape hv with ⟨rfl, rfl⟩ | ⟨b, rfl, rfl⟩
    · exact eqB_of SeqAt.RcAt.none_none (fun _ => rfl) (fun _ _ _ _ z => by cases z.1) h
    · exact eqB_of (SeqAt.RcAt.none_bool b) (fun z => by cases z) (fun _ _ _ _ z => by cases z.1) h
    · exact eqB_of (SeqAt.RcAt.bool_none a) (fun z => by cases z) (fun _ _ _ _ z => by cases z.1) h
    · refine eqB_of (SeqAt.RcAt.bool_bool a b) (fun z => by cases a <;> cases b <;> first | rfl | cases z) (fun _ _ _ _ z => by cases z.1) ?_
      rw [show (a == b) = decide (some a = some b) by cases a <;> cases b <;> rfl]
      exact h
  «strs» := fun k x t v h => by rcases isNB_shape h with ⟨_, h⟩ | ⟨b, _, h⟩ <;> cases h
section
variable {prog : Program} {w : PySem.World} {A : Around} {E : Value → Shared → Prop} {s : Shared} {env : Env} {h₀ : Heap} {L d : Addr} {m : Str → Option Value} {news : List (Addr × Obj)} {g : Obj → List (Addr × Obj)} {o : Obj} {Q : Value → Shared → Prop}
variable {K : Type} [DecidableEq K] {knd : KeyKind prog w K} {kvs : List (K × Value)} {vs : List (Value × Value)}
theorem made_any (F : Fr h₀ L s.heap m) (N : News h₀ L s.heap news) (U : W.UpdF d o news g) (hd : o.IsDictOf knd []) (hc : Carries knd vs kvs) (hn : (kvs.map (·.1)).Nodup)
    (h : ∀ h' o', Fr h₀ L h' m → News h₀ L h' (g o') → o'.IsDictOf knd kvs → Q (.ref d) { s with heap := h', toks := s.toks + vs.length }) : W.KdnMade prog w knd d Q vs s := by
  obtain ⟨pre, post, rfl, hg, a, b⟩ := U.split
  have hm := N (d, o) (List.mem_append_right _ (.head _))
  refine ⟨kvs, hc, Heap.dictOf_iff.mpr ⟨o, hm.1, hd⟩, fun h' hmm hs => ?_⟩
  rw [merged_nil_of_nodup _ hn] at hmm
  obtain ⟨o', ho', hd'⟩ := Heap.dictOf_iff.mp hmm
  exact h h' o' (F.change hs hm.2.1 hm.2.2) (hg o' ▸ N.setIn a b hs ho') hd'
theorem made_nb {knd : KeyKind prog w (Option Bool)} (F : Fr h₀ L s.heap m) (N : News h₀ L s.heap news) (U : W.UpdF d o news g) (hd : o.IsDictOf knd []) (hc : Carries knd vs (nbPairs vs)) (hn : ((nbPairs vs).map (·.1)).Nodup)
    (h : ∀ h' o', Fr h₀ L h' m → News h₀ L h' (g o') → o'.IsDictOf knd (nbPairs vs) → Q (.ref d) { s with heap := h', toks := s.toks + vs.length }) : W.KdnMade prog w knd d Q vs s := made_any F N U hd hc hn h
theorem subd_name {x : Str} {p : Pos} {o i : Value} : subscripted (.Name x p) false o i = operate [o, i] (getItem o i) := rfl
theorem subd_const {c : Const} {n : Nat} {p : Pos} {o i : Value} : subscripted (.Constant c n p) false o i = operate [o, i] (getItem o i) := rfl
theorem sub_led {k : K} {key v : Value} {value slice : Expr} (N : News h₀ L s.heap news) (hm : (d, o) ∈ news) (hd : o.IsDictOf knd kvs) (hk : knd.is k key = true) (hv : valueAt kvs k = some v) (h : Q v { s with toks := s.toks + 1 })
    (hs : subscripted slice false (.ref d) key = operate [.ref d, key] (getItem (.ref d) key)) :
    wpAny (model prog w) A (subscriptTail value slice (.ref d) key) Q E s := by
  have D' : s.heap.DictOf knd d kvs := Heap.dictOf_iff.mpr ⟨o, (N _ hm).1, hd⟩
  exact tail_any D'.mapOf.typeIs slot_dict_getitem.lookup (wpAny_getItem_of hk D'.mapOf hv h) hs
end
theorem zw40 : True := by
  k_with "@eval Dict" => (case fT => (((with_reducible show wpAny _ _ (eval (Expr.Dict (some (Expr.Constant Const.none _ _) :: _) _ _) _) _ _ _); k_dflt (refine' W.kdn_eval (knd := Mine.nbKind _ _) ?F ?N ?b ?a ?l ?e ?n ?_; (case F => k_extra "A"); (case N => k_extra "A"); (case b => exact Top.nolimit (by k_extra "A")); (case a => rfl); (case l => rfl); (case e => exact List.cons_ne_nil _ _); (case n => exact Nat.le_of_ble_eq_true rfl)); intro d' h' o' F' N' l1 lo' hd'; (try k_lt l1))))
  k_with "@KdnMade" => (case fT => ((k_dflt (refine' Mine.made_nb ?F ?N ?U ?d ?k ?n ?_; (case F => k_extra "A"); (case N => k_extra "A"); (case U => k_updF); (case d => k_extra "A"); (case k => exact ⟨rfl, rfl, rfl, rfl, rfl, rfl, True.intro⟩); (case n => exact of_decide_eq_true rfl); intro h' o' F' N' hd'))))
  k_with "@subscriptTail" => (case fT => (((with_reducible show wpAny _ _ (subscriptTail _ _ (Value.ref _) Value.none) _ _ _); k_dflt (refine' Mine.sub_led (k := (none : Option Bool)) ?N ?m ?d ?k ?v ?_ ?hs; (case hs => first | exact Mine.subd_name | exact Mine.subd_const); (case N => k_extra "A"); (case m => exact .head _); (case d => k_extra "A"); (case k => rfl); (case v => rfl); k_whole))))
  k_with "@subscriptTail" => (case fT => (((with_reducible show wpAny _ _ (subscriptTail _ _ (Value.ref _) (Value.bool _)) _ _ _); k_dflt (first
  | (refine' Mine.sub_led (k := some true) ?N ?m ?d ?k ?v ?_ ?hs; (case hs => first | exact Mine.subd_name | exact Mine.subd_const); (case N => k_extra "A"); (case m => exact .head _); (case d => k_extra "A"); (case k => rfl); (case v => rfl); k_whole)
  | (refine' Mine.sub_led (k := some false) ?N ?m ?d ?k ?v ?_ ?hs; (case hs => first | exact Mine.subd_name | exact Mine.subd_const); (case N => k_extra "A"); (case m => exact .head _); (case d => k_extra "A"); (case k => rfl); (case v => rfl); k_whole)))))
  exact True.intro
noncomputable def lkindS : V → Str
  | .null => Str.ofString "null"
  | .bool b => if b then Str.ofString "true" else Str.ofString "false"
  | .int _ => Str.ofString "int"
  | .str _ => Str.ofString "string"
  | .arr _ => Str.ofString "array"
  | .obj _ _ => Str.ofString "object"
theorem lk1 : lkindS .null = Str.ofString "null" := rfl
theorem lk2 : lkindS (.bool true) = Str.ofString "true" := rfl
theorem lk3 : lkindS (.bool false) = Str.ofString "false" := rfl
theorem lk4 (n : Int) : lkindS (.int n) = Str.ofString "int" := rfl
theorem lk5 (t : Str) : lkindS (.str t) = Str.ofString "string" := rfl
theorem lk6 (a : Addr) : lkindS (.arr a) = Str.ofString "array" := rfl
theorem lk7 (a : Addr) (l : List CI) : lkindS (.obj a l) = Str.ofString "object" := rfl
theorem law_kind_c {w : World} {mean mg mb} (wa : Addr) (x : V) (v : Value) :
    Pure w mean mg mb 960 970 697 [v] (fun h => Rep w wa h x v) (fun _ r _ => ∃ t, r = .str (lkindS x) t) := by
  k_extra "E0"
  refine in_mono (A' := ⟨none, 960, A.frames, A.guards, 970⟩) ?_ e1 e2 rfl rfl e3
  k_extra "E1"
  refine' enterZ (binds := [("value", v)]) W ?k1 ?kf1 ?kf2 ?kf3 ?k2 ?k3 ?k4 ?k5 ?_ ?k6 ?k7 ?k8 ?k9
  k_extra "E5"
  rcases x with _ | b | n | t | a | ⟨a, l⟩
  · cases R
    k_extra "go"
    exact hQ _ _ _ (Fr.keep (by assumption)) (ex_str' rfl)
  · cases R
    cases b
    · k_extra "go"
      exact hQ _ _ _ (Fr.keep (by assumption)) (ex_str' rfl)
    · k_extra "go"
      exact hQ _ _ _ (Fr.keep (by assumption)) (ex_str' rfl)
  · obtain ⟨t, rfl⟩ := R
    k_extra "go"
    exact hQ _ _ _ (Fr.keep (by assumption)) (ex_str' rfl)
  · obtain ⟨t, rfl⟩ := R
    k_extra "go"
    exact hQ _ _ _ (Fr.keep (by assumption)) (ex_str' rfl)
  · obtain ⟨rfl, I⟩ := R
    k_extra "go"
    exact hQ _ _ _ (Fr.keep (by assumption)) (ex_str' rfl)
  · obtain ⟨rfl, hl, c, I, C, hc⟩ := R
    k_extra "go"
    exact hQ _ _ _ (Fr.keep (by assumption)) (ex_str' rfl)
theorem lkind_v {w : World} {mean mg mb} (wa : Addr) (x : V) (v : Value) (k : Str) (hk : lkindS x = k) :
    Pure w mean mg mb 960 970 697 [v] (fun h => Rep w wa h x v) (fun _ r _ => ∃ t, r = .str k t) := hk ▸ law_kind_c wa x v
theorem zw41 : True := by
  k_with "con" => (case fT => ((refine' lkind_v _ _ _ _ ?k0)))
  k_with "@call ref" => (case fT => ((k_dflt (refine' Mine.use2 (law_kind_c _ _ _) ?u1 ?u2 ?u3 ?u4 ?u5 ?u6 ?u7 ?u8 ?_; k_extra "uup"); intro tv' h' tk' F' N'; (try simp only [Mine.lk1, Mine.lk2, Mine.lk3, Mine.lk4, Mine.lk5, Mine.lk6, Mine.lk7]); k_extra "ut")))
  k_with "sd" => (case fT => (with_reducible first | exact Mine.lk1 | exact Mine.lk2 | exact Mine.lk3 | exact Mine.lk4 _ | exact Mine.lk5 _ | exact Mine.lk6 _ | exact Mine.lk7 _ _))
  exact True.intro
inductive LineAt (w : World) (wa : Addr) (h : Heap) : List Value → List CI → Prop where
  | nil : LineAt w wa h [] []
  | cons {a c p vs l} : IsCls w wa h a c p → LineAt w wa h vs l → LineAt w wa h (.ref a :: vs) (c :: l)
theorem LineAt.snoc {w : World} {wa : Addr} {h : Heap} {vs : List Value} {l : List CI} {a : Addr} {c : CI} {p : Value} (C : LineAt w wa h vs l) (i : IsCls w wa h a c p) : LineAt w wa h (vs ++ [.ref a]) (l ++ [c]) := by
  induction C with
  | nil => exact .cons i .nil
  | cons j _ ih => exact .cons j ih
theorem LineAt.len {w : World} {wa : Addr} {h : Heap} {vs : List Value} {l : List CI} (C : LineAt w wa h vs l) : vs.length = l.length := by
  induction C with
  | nil => rfl
  | cons j _ ih => simp [ih]
theorem subd_un {x : UnaryOp} {e : Expr} {p : Pos} {o i : Value} : subscripted (.UnaryOp x e p) false o i = operate [o, i] (getItem o i) := rfl
theorem last_led {w : PySem.World} {A : Around} {E : Value → Shared → Prop} {s : Shared} {h₀ : Heap} {L la : Addr} {news : List (Addr × Obj)} {vs : Array Value} {k : Nat} {x : Value} {pre : List Value} {u : Tok} {value e : Expr} {op : UnaryOp} {p : Pos} {Q : Value → Shared → Prop}
    (N : News h₀ L s.heap news) (hm : (la, W.listOf vs k) ∈ news) (hx : vs.toList = pre ++ [x]) (h : Q x s) :
    wpAny (model Challenge.rw_pq0857_01.row.prog w) A (subscriptTail value (.UnaryOp op e p) (.ref la) (.int (-1) u)) Q E s := by
  have hl := News.isList N hm
  have hs : vs.size = pre.length + 1 := by have := congrArg List.length hx; simpa using this
  refine tail_any hl.typeIs slot_list_getitem.lookup (wpAny_getItem_list_neg hl (by omega) (by omega) (by omega) ?_ h) subd_un
  rw [show ((-1 : Int) + vs.size).toNat = pre.length by omega, ← Array.getElem?_toList, hx]
  simp
theorem zw42 : True := by
  k_with "@subscriptTail" => (case fT => (((with_reducible show wpAny _ _ (subscriptTail _ _ (Value.ref _) (Value.int (-1) _)) _ _ _); k_dflt (refine' Mine.last_led ?N ?m ?d ?_; (case N => k_extra "A"); (case m => first | exact .head _ | k_extra "A"); (case d => k_extra "A"); k_whole))))
  k_with "@call builtin:list.append" => (case fT => ((k_dflt (refine' W.append_K ?k1 ?k2 ?k3 ?_ ?z; (case k1 => k_extra "A"); (case k2 => k_extra "A"); (case k3 => exact W.Upd.head (by k_extra "A")); (case z => k_extra "AS")); intro h' F' N'; (try k_sweep))))
  exact True.intro
theorem LineAt.get {w : World} {wa : Addr} {h : Heap} {vs : List Value} {l : List CI} (C : LineAt w wa h vs l) : ∀ {i : Nat} {v : Value}, vs[i]? = some v → ∃ a c p, v = .ref a ∧ l[i]? = some c ∧ IsCls w wa h a c p := by
  induction C with
  | nil => intro i v e; simp at e
  | cons j _ ih =>
    intro i v e
    cases i with
    | zero => simp at e; exact ⟨_, _, _, e.symm, by simp, j⟩
    | succ i => simp at e; obtain ⟨a, c, p, h1, h2, h3⟩ := ih e; exact ⟨a, c, p, h1, by simpa using h2, h3⟩
theorem led_add {h₀ h h' : Heap} {L la : Addr} {m : Str → Option Value} {news : List (Addr × Obj)} {o : Obj} (F : Fr h₀ L h m) (N : News h₀ L h' news) (hn : h.get? la = none) (hg : h'.get? la = some o) : News h₀ L h' ((la, o) :: news) := by
  intro p hp
  rcases List.mem_cons.mp hp with rfl | hp
  · refine ⟨hg, fun e => ?_, ?_⟩
    · obtain ⟨oL, _, _, hL, _⟩ := F.ns
      rw [show la = L from e, hL] at hn; cases hn
    · cases q : h₀.get? la with
      | none => rfl
      | some o => rw [F.keep _ _ q] at hn; cases hn
  · exact N p hp
theorem law_line_c {w : World} {mean mg mb} (wa a : Addr) (g : Heap) (l : List CI) (hlen : l.length ≤ 50) :
    Pure w mean mg mb 940 950 704 [.ref a] (fun h => Rep w wa g (.obj a l) (.ref a) ∧ g.StaysIn h) (fun h r h' => ∃ la vs k, r = .ref la ∧ h.get? la = none ∧ h'.get? la = some (W.listOf vs k) ∧ LineAt w wa g vs.toList l) := by
  k_extra "E0"
  refine in_mono (A' := ⟨none, 940, A.frames, A.guards, 950⟩) ?_ e1 e2 rfl rfl e3
  k_extra "E1"
  refine' enterZ (binds := [("value", .ref a)]) W ?k1 ?kf1 ?kf2 ?kf3 ?k2 ?k3 ?k4 ?k5 ?_ ?k6 ?k7 ?k8 ?k9
  k_extra "E5"
  obtain ⟨⟨_, hl, c, I0, C, hc⟩, gs⟩ := R
  have I := I0.keeps gs
  k_extra "go"
  rename Fr _ _ _ _ => F3
  rename News _ _ _ _ => N3
  rename_i la _ _ _
  refine While_inv2 (fun n m nw => ∃ vs k pre v' l0 l1, nw = [(la, W.listOf vs k)] ∧ m "found" = some (.ref la) ∧ vs.toList = pre ++ [v'] ∧ LineAt w wa g pre l0 ∧ Chain w wa g v' l1 ∧ l1 ≠ [] ∧ l = l0 ++ l1 ∧ n = l1.length) (n₀ := l.length) F3 N3 ⟨_, _, [], c, [], l, rfl, by k_extra "look", rfl, .nil, C, hl.1, rfl, rfl⟩ ?_ PassesOwn.never
  clear F3 N3
  rintro n m₁ news₁ h₂ tk₁ F2 N2 ⟨vs, k, pre, v', l0, l1, rfl, hm1, hx, hp, C2, hne, hl2, hn⟩
  cases C2 with
  | nil => exact absurd rfl hne
  | cons i2 r2 =>
    rename_i a2 c2 p2 l2
    have pa := i2.parent.keeps gs
    have hp2 := r2.handed
    have hsz : vs.size ≤ sizeLine := by
      have e1 := hp.len
      have e2 := congrArg List.length hx
      have e3 := congrArg List.length hl2
      simp at e2 e3
      rw [sizeLine_eq]; omega
    cases r2 with
    | nil =>
      k_extra "go"
      rename Fr _ _ _ _ => F4
      rename News _ _ _ _ => N4
      refine hQ _ _ _ F4.keep ⟨_, vs, k, rfl, (N4 _ (.head _)).2.2, (N4 _ (.head _)).1, ?_⟩
      rw [hx, hl2]
      exact hp.snoc i2
    | cons i3 r3 =>
      k_extra "go"
      rename Fr _ _ _ _ => F4
      rename News _ _ _ _ => N4
      refine ⟨_, _, _, _, _, rfl, F4, N4, ?_, _, _, pre ++ [.ref a2], _, l0 ++ [c2], _, rfl, hm1, ?_, hp.snoc i2, .cons i3 r3, by simp, ?_, rfl⟩
      · rw [hn]; simp
      · rw [Array.toList_push, hx]
      · rw [hl2]; simp
theorem zw43 : True := by
  k_with "@call ref" => (case fT => ((k_dflt (refine' useP (law_line_c _ _ _ _ ?k0) ?u1 ?u2 ?u3 ?u4 ?u5 ?u6 ?u7 ?u8 ?_; k_extra "uup"; (case k0 => k_extra "AS")); intro v' h' tk' F' N' st' hv'; obtain ⟨la', lvs', lk', hq', hn', hg', hLi'⟩ := hv'; subst hq'; have N9' := Mine.led_add (by assumption) N' hn' hg'; clear N' hg' hn'; k_extra "ut")))
  exact True.intro
open PyProof.Rows.LCg
section
variable {w : World} {A : Around} {E : Value → Shared → Prop} {s : Shared} {h₀ : Heap} {L : Addr} {m : Str → Option Value} {env : Env}
noncomputable abbrev mprog : Program := Challenge.rw_pq0857_01.row.prog
noncomputable def SeqSrc (h₀ : Heap) (T : String) (ax : Addr) (its : Array Value) (news : List (Addr × Obj)) : Prop :=
  ∃ o n, o.cls = .type T ∧ o.data = .seq its n ∧ (h₀.get? ax = some o ∨ (ax, o) ∈ news)
theorem SeqSrc.here {h : Heap} {T : String} {ax : Addr} {its : Array Value} {news : List (Addr × Obj)} (x : SeqSrc h₀ T ax its news) (k : ∀ b o, h₀.get? b = some o → h.get? b = some o) (N : News h₀ L h news) :
    ∃ o n, h.get? ax = some o ∧ o.cls = .type T ∧ o.data = .seq its n := by
  obtain ⟨o, n, h1, h2, h3 | h3⟩ := x
  · exact ⟨o, n, k _ _ h3, h1, h2⟩
  · exact ⟨o, n, (N _ h3).1, h1, h2⟩
theorem SeqSrc.list {h : Heap} {ax : Addr} {its : Array Value} {news : List (Addr × Obj)} (x : SeqSrc h₀ "list" ax its news) (k : ∀ b o, h₀.get? b = some o → h.get? b = some o) (N : News h₀ L h news) : h.IsList ax its :=
  let ⟨o, n, a, b, c⟩ := x.here k N; ⟨o, a, b, n, c⟩
theorem SeqSrc.tuple {h : Heap} {ax : Addr} {its : Array Value} {news : List (Addr × Obj)} (x : SeqSrc h₀ "tuple" ax its news) (k : ∀ b o, h₀.get? b = some o → h.get? b = some o) (N : News h₀ L h news) : h.IsTuple ax its :=
  let ⟨o, n, a, b, c⟩ := x.here k N; ⟨o, a, b, n, c⟩
theorem src_base_list {ax : Addr} {its : Array Value} {news : List (Addr × Obj)} (h : h₀.IsList ax its) : SeqSrc h₀ "list" ax its news := let ⟨o, a, b, n, c⟩ := h; ⟨o, n, b, c, .inl a⟩
theorem src_base_tuple {ax : Addr} {its : Array Value} {news : List (Addr × Obj)} (h : IsTup h₀ ax its) : SeqSrc h₀ "tuple" ax its news := let ⟨o, a, b, n, c⟩ := (show h₀.IsTuple ax its from h); ⟨o, n, b, c, .inl a⟩
theorem src_led_list {ax : Addr} {its : Array Value} {n : Nat} {news : List (Addr × Obj)} (h : (ax, W.listOf its n) ∈ news) : SeqSrc h₀ "list" ax its news := ⟨_, n, rfl, rfl, .inr h⟩
noncomputable def SrcG (A : Around) (w : World) (h₀ : Heap) (L : Addr) (s₁ : Shared) (news : List (Addr × Obj)) (xv : Value) (n : Nat) (P : Nat → Value → Prop) : Prop :=
  ∀ (Q E : Value → Shared → Prop), (∀ (I : Addr) (fp : List Addr) (St : Nat → Heap → Prop) (h2 : Heap), PySem.Walks mprog w A I fp [I] n P St → (∀ i h, St i h → ∃ o, h.get? I = some o) →
    (∀ i h h' o, St i h → h.get? I = some o → h'.get? I = some o → (∀ b o, h₀.get? b = some o → h'.get? b = some o) → News h₀ L h' news → St i h') → St 0 h2 → (∀ b ∈ fp, b < h2.objs.size) →
    (∀ b o, s₁.heap.get? b = some o → h2.get? b = some o) → s₁.heap.objs.size ≤ I → Q (.ref I) { s₁ with heap := h2 }) → wpAny (model mprog w) A (pyIter xv) Q E s₁
theorem srcG_list {s₁ : Shared} {news : List (Addr × Obj)} {ax : Addr} {its : Array Value} (hh : A.handled = none) (F : Fr h₀ L s₁.heap m) (N : News h₀ L s₁.heap news) (S : SeqSrc h₀ "list" ax its news) :
    SrcG A w h₀ L s₁ news (.ref ax) its.size (fun i v => its[i]? = some v) := by
  intro Q E k
  have hl := S.list F.keep N
  have hlt : ax < s₁.heap.objs.size := by obtain ⟨_, e, _⟩ := hl; exact Heap.lt_size e
  refine wpAny_pyIter_list hl (k _ _ _ _ (Walks.list hh s₁.heap.objs.size ax (Nat.ne_of_lt hlt) its) (fun i h st => by obtain ⟨o, e, _⟩ := st.1; exact ⟨o, e⟩) ?_ ⟨⟨_, Heap.get?_push_size _ rfl, rfl, rfl⟩, hl.push _⟩ ?_ (fun b o e => Heap.get?_push_of_some _ e) (Nat.le_refl _))
  · intro i h h' o st e e' kp N'
    exact ⟨by obtain ⟨o', q, r⟩ := st.1; rw [e] at q; cases q; exact ⟨o, e', r⟩, S.list kp N'⟩
  · intro b hb
    show b < (s₁.heap.push _).objs.size
    rw [Heap.size_push]
    rcases List.mem_cons.mp hb with rfl | hb
    · exact Nat.lt_succ_self _
    · rw [List.mem_singleton.mp hb]; exact Nat.lt_succ_of_lt hlt
theorem srcG_tuple {s₁ : Shared} {news : List (Addr × Obj)} {ax : Addr} {its : Array Value} (hh : A.handled = none) (F : Fr h₀ L s₁.heap m) (N : News h₀ L s₁.heap news) (S : SeqSrc h₀ "tuple" ax its news) :
    SrcG A w h₀ L s₁ news (.ref ax) its.size (fun i v => its[i]? = some v) := by
  intro Q E k
  have hl := S.tuple F.keep N
  have hlt : ax < s₁.heap.objs.size := by obtain ⟨_, e, _⟩ := hl; exact Heap.lt_size e
  refine wpAny_pyIter_tuple hl (k _ _ _ _ (Walks.tuple hh s₁.heap.objs.size ax (Nat.ne_of_lt hlt) its) (fun i h st => by obtain ⟨o, e, _⟩ := st.1; exact ⟨o, e⟩) ?_ ⟨⟨_, Heap.get?_push_size _ rfl, rfl, rfl⟩, hl.at fun o e => Heap.get?_push_of_some _ e⟩ ?_ (fun b o e => Heap.get?_push_of_some _ e) (Nat.le_refl _))
  · intro i h h' o st e e' kp N'
    exact ⟨by obtain ⟨o', q, r⟩ := st.1; rw [e] at q; cases q; exact ⟨o, e', r⟩, S.tuple kp N'⟩
  · intro b hb
    show b < (s₁.heap.push _).objs.size
    rw [Heap.size_push]
    rcases List.mem_cons.mp hb with rfl | hb
    · exact Nat.lt_succ_self _
    · rw [List.mem_singleton.mp hb]; exact Nat.lt_succ_of_lt hlt
theorem srcG_range {s₁ : Shared} {news : List (Addr × Obj)} {r : Addr} {a b : Int} {t u v : Tok} {n : Nat} (hh : A.handled = none) (hr : IsRange s₁.heap r a b 1 t u v) (hsm : Builtin.Range.small a b 1 = true) (hn : Builtin.Range.rangeSize a b 1 = ((n : Nat) : Int)) :
    SrcG A w h₀ L s₁ news (.ref r) n (fun i v => ∃ t, v = .int (a + (i : Int)) t) := by
  intro Q E k
  refine wpAny_pyIter_range hr hsm (k _ _ _ _ (range_walks hh a n) (fun i h st => ⟨_, st⟩) ?_ (by show IsRangeIter _ _ _ _ _; rw [hn]; simpa using Heap.get?_push_size _ rfl) ?_ (fun b o e => Heap.get?_push_of_some _ e) (Nat.le_refl _))
  · intro i h h' o st e e' kp N'
    have st' : h.get? _ = some _ := st
    show h'.get? _ = some _
    rw [e', ← e]; exact st'
  · intro b hb
    rw [List.mem_singleton.mp hb]
    show s₁.heap.objs.size < (s₁.heap.push _).objs.size
    rw [Heap.size_push]; exact Nat.lt_succ_self _
noncomputable abbrev inTurn (I : Addr) (oI : Obj) (C : Addr) (oC : Obj) (D : Addr) (ys : List Value) (news : List (Addr × Obj)) : List (Addr × Obj) := (I, oI) :: (C, oC) :: (D, lst ys) :: news
inductive TurnEnd (h₀ : Heap) (L : Addr) (m : Str → Option Value) (s₁ : Shared) (nw : List (Addr × Obj)) (J : Value → Prop) : Value → Shared → Prop where
  | mk {y : Value} {h' : Heap} {tk : Nat} (F : Fr h₀ L h' m) (N : News h₀ L h' nw) (j : J y) : TurnEnd h₀ L m s₁ nw J y { s₁ with heap := h', toks := tk }
structure Comp (w : World) (A : Around) (h₀ : Heap) (L : Addr) (m : Str → Option Value) (env : Env) (elt : Expr) (x : Str) (scope : Scope) (cl : List (Str × Addr)) (s₁ : Shared) (news : List (Addr × Obj)) (n : Nat) (P : Nat → Value → Prop) (J : Nat → List Value → Prop) : Prop where
  start : J 0 []
  turn : ∀ i ys v I oI C oC D m₂ h tk (E' : Value → Shared → Prop), i < n → P i v → J i ys → NsObj oC m₂ → m₂ x = some v → Fr h₀ L h m → News h₀ L h (inTurn I oI C oC D ys news) →
    wpAny (model mprog w) A (eval elt (compEnvC scope cl C env)) (TurnEnd h₀ L m s₁ (inTurn I oI C oC D ys news) (fun y => J (i + 1) (ys ++ [y]))) E' { s₁ with heap := h, toks := tk }
theorem rest_of {elt : Expr} {x : Str} {scope : Scope} {cl : List (Str × Addr)} {s₁ : Shared} {h2 : Heap} {news : List (Addr × Obj)} {n : Nat} {P : Nat → Value → Prop} {J : Nat → List Value → Prop} (c : Comp w A h₀ L m env elt x scope cl s₁ news n P J) :
    ∀ k i ys, i + k = n → J i ys → CompRest mprog w A h₀ L m env elt x scope cl { s₁ with heap := h2 } (fun nw => nw = news) P (fun ys nw => J n ys ∧ nw = news) k i ys news := by
  intro k
  induction k with
  | zero =>
    intro i ys hi j
    obtain rfl : i = n := hi
    exact CompRest.zero ⟨j, rfl⟩
  | succ k ih =>
    intro i ys hi j
    refine CompRest.succ fun v I oI C oC D m₂ h tk E' hP hO hx F N off ne => ?_
    refine wpAny_mono (c.turn i ys v I oI C oC D m₂ h tk E' (by omega) hP j hO hx F N) (fun y s' z => ?_) fun _ _ z => z
    cases z with
    | mk F' N' j' => exact ⟨_, _, news, rfl, F', N', off, rfl, ih (i + 1) _ (by omega) j'⟩
theorem turn_lt {i n : Nat} (h : i < n) : n + 1 - (i + 1) < n + 1 - i := Nat.sub_lt_sub_left (Nat.lt_succ_of_lt h) (Nat.lt_succ_self i)
inductive LcSrc (w : World) (A : Around) (h₀ : Heap) (L : Addr) (env : Env) (elt : Expr) (x : Str) (scope : Scope) (cl : List (Str × Addr)) (Q : Value → Shared → Prop) (xv : Value) (s₁ : Shared) : Prop where
  | mk (m : Str → Option Value) (news : List (Addr × Obj)) (n : Nat) (P : Nat → Value → Prop) (J : Nat → List Value → Prop) (F : Fr h₀ L s₁.heap m) (N : News h₀ L s₁.heap news) (src : SrcG A w h₀ L s₁ news xv n P) (hsz : n ≤ sizeLine) (c : Comp w A h₀ L m env elt x scope cl s₁ news n P J)
    (fin : ∀ D h tk ys, J n ys → Fr h₀ L h m → News h₀ L h ((D, lst ys) :: news) → Q (.ref D) { s₁ with heap := h, toks := tk })
inductive LaSrc (w : World) (A : Around) (h₀ : Heap) (L : Addr) (env : Env) (elt : Expr) (x y : Str) (scope : Scope) (cl : List (Str × Addr)) (Q : Flow → Shared → Prop) (xv : Value) (s₁ : Shared) : Prop where
  | mk (m : Str → Option Value) (news : List (Addr × Obj)) (n : Nat) (P : Nat → Value → Prop) (J : Nat → List Value → Prop) (F : Fr h₀ L s₁.heap m) (N : News h₀ L s₁.heap news) (src : SrcG A w h₀ L s₁ news xv n P) (hsz : n ≤ sizeLine) (c : Comp w A h₀ L m env elt x scope cl s₁ news n P J)
    (fin : ∀ D h tk ys, J n ys → Fr h₀ L h (fun z => if z = y then some (.ref D) else m z) → News h₀ L h ((D, lst ys) :: news) → Q .next { s₁ with heap := h, toks := tk })
theorem lc_eval {elt iter : Expr} {x : Str} {px : Pos} {scope : Scope} {cl : List (Str × Addr)} {pos : Pos} {Q : Value → Shared → Prop} {m₀ : Str → Option Value} (_ : Fr h₀ L s.heap m₀)
    (hclos : closureFor scope env = pure cl) (hcell : ∀ y ∈ scope.names, y.2 ≠ .cell) (hkind : scope.kind = .function)
    (hnames : ∀ y ∈ scope.names, y.2 = .local → scope.names.lookup y.1 = some .local) (hx : scope.names.lookup x = some .local)
    (hs : ∀ x, foldedSetIterable iter env x = pure x)
    (h : wpAny (model mprog w) A (eval iter env) (LcSrc w A h₀ L env elt x scope cl Q) E s) :
    wpAny (model mprog w) A (eval (.ListComp elt [⟨.Name x px, iter, [], 0⟩] scope pos) env) Q E s := by
  rw [eval_ListComp]
  refine wpAny_comprehension_free (use := none) rfl hs hclos hkind hnames (wpAny_mono h (fun xv s₁ h₁ => ?_) fun _ _ e => e)
  obtain ⟨m, news, n, P, J, F, N, src, hsz, c, fin⟩ := h₁
  refine src _ _ fun I fp St h2 W hIo hSt st hfp up hI => ?_
  have hnew : ∀ b, h₀.get? b = none ∨ b < s₁.heap.objs.size := fun b => by
    cases q : h₀.get? b with
    | none => exact .inl rfl
    | some o => exact .inr (Heap.lt_size (F.keep b o q))
  refine block_U W hsz hIo (S := fun nw => nw = news) (fun i h h' o nw st e e' kp N' hS => hSt i h h' o st e e' kp (hS ▸ N')) hcell hkind hx st hfp (F.keeps up) (N.grown up) (Nat.ne_of_lt (Nat.lt_of_lt_of_le F.ns.lt hI)) ((hnew I).resolve_right (Nat.not_lt.mpr hI)) (fun p hp => Nat.ne_of_lt (Nat.lt_of_lt_of_le (Heap.lt_size (N p hp).1) hI)) rfl (rest_of c n 0 [] (by omega) c.start) ?_
  intro D C h tk m' ys news' F' N' o1 hn hC₀ hD₀ hCL hDL hCD offC fn
  obtain ⟨j, rfl⟩ := fn
  refine ⟨m', hn, fun h'' hs'' => fin D h'' tk ys j (F'.change hs'' hCL hC₀) (fun p hp => ?_)⟩
  refine ⟨hs''.extBut _ _ ?_ (N' p hp).1, (N' p hp).2⟩
  rcases List.mem_cons.mp hp with rfl | hp
  · exact Ne.symm hCD
  · exact offC p hp
theorem lc_assign {elt iter : Expr} {x y : Str} {px py : Pos} {scope : Scope} {cl : List (Str × Addr)} {pos spos : Pos} {Q : Flow → Shared → Prop} {m₀ : Str → Option Value} (_ : Fr h₀ L s.heap m₀) (hLe : env.locals = L)
    (hsw : swapsWith (.ListComp elt [⟨.Name x px, iter, [], 0⟩] scope pos) (some (.Name y py)) spos.line env = pure true)
    (hclos : closureFor scope env = pure cl) (hcell : ∀ z ∈ scope.names, z.2 ≠ .cell) (hkind : scope.kind = .function)
    (hnames : ∀ z ∈ scope.names, z.2 = .local → scope.names.lookup z.1 = some .local) (hx : scope.names.lookup x = some .local)
    (hy : env.kindOf y = some .local) (hp : (env.scope.kind == .class || (env.scope.kind == .module && env.locals != env.globals)) = false) (hs : ∀ x, foldedSetIterable iter env x = pure x)
    (h : wpAny (model mprog w) A (eval iter env) (LaSrc w A h₀ L env elt x y scope cl Q) E s) :
    wpAny (model mprog w) A (exec (.Assign [.Name y py] (.ListComp elt [⟨.Name x px, iter, [], 0⟩] scope pos) spos) env) Q E s := by
  subst hLe
  rw [exec_Assign_Name_used _ _ _ _ hsw]
  refine wpAny_bind (wpAny_standAt (wpAny_bind ?_))
  show wpAny _ A (do let _ ← comprehension (.ListComp elt [⟨.Name x px, iter, [], 0⟩] scope pos) scope env _ (newList []) false (eval iter env) (some (assign (.Name y py) env))) _ _ s
  refine wpAny_bind (wpAny_mono (wpAny_comprehension_free (use := some (assign (.Name y py) env)) (Q := fun _ s' => Q .next s') rfl hs hclos hkind hnames
    (wpAny_mono h (fun xv s₁ h₁ => ?_) fun _ _ e => e)) (fun _ s' hq => wpAny_pure (wpAny_pure hq)) fun _ _ e => e)
  obtain ⟨m, news, n, P, J, F, N, src, hsz, c, fin⟩ := h₁
  refine src _ _ fun I fp St h2 W hIo hSt st hfp up hI => ?_
  have hnew : ∀ b, h₀.get? b = none ∨ b < s₁.heap.objs.size := fun b => by
    cases q : h₀.get? b with
    | none => exact .inl rfl
    | some o => exact .inr (Heap.lt_size (F.keep b o q))
  refine block_U W hsz hIo (S := fun nw => nw = news) (fun i h h' o nw st e e' kp N' hS => hSt i h h' o st e e' kp (hS ▸ N')) hcell hkind hx st hfp (F.keeps up) (N.grown up) (Nat.ne_of_lt (Nat.lt_of_lt_of_le F.ns.lt hI)) ((hnew I).resolve_right (Nat.not_lt.mpr hI)) (fun p hp => Nat.ne_of_lt (Nat.lt_of_lt_of_le (Heap.lt_size (N p hp).1) hI)) rfl (rest_of c n 0 [] (by omega) c.start) ?_
  intro D C h tk m' ys news' F' N' o1 hn hC₀ hD₀ hCL hDL hCD offC fn
  obtain ⟨j, rfl⟩ := fn
  refine wpAny_assign_Name (wpAny_storeName_local hy F'.ns (fun h₂ hn₂ hs₂ => ?_) hp)
  have hL₀ : h₀.get? env.locals = none := Heap.get?_none_of_le F'.above
  have F₂ : Fr h₀ env.locals h₂ (fun z => if z = y then some (.ref D) else m z) := ⟨hn₂, fun b o e => hs₂.extBut b o (fun q => by rw [q, hL₀] at e; cases e) (F'.keep b o e), F'.above⟩
  refine ⟨m', hn.sameBut hs₂ hCL, fun h'' hs'' => fin D h'' _ ys j (F₂.change hs'' hCL hC₀) (fun p hp => ?_)⟩
  have z : h₂.get? p.1 = some p.2 := hs₂.extBut _ _ (N' p hp).2.1 (N' p hp).1
  refine ⟨hs''.extBut _ _ ?_ z, (N' p hp).2⟩
  rcases List.mem_cons.mp hp with rfl | hp
  · exact Ne.symm hCD
  · exact offC p hp
end
open PyProof.Rows.LCg
section
variable {w : World} {A : Around} {E : Value → Shared → Prop} {s : Shared} {P : Params} {h₀ : Heap} {L C : Addr} {m m₂ mg mb : Str → Option Value} {news : List (Addr × Obj)} {scope : Scope} {cl : List (Str × Addr)} {env : Env} {p : Program} {loose : List Str} {mean : ExcName → Option Value} {x : Str} {pos : Pos} {v : Value} {oC : Obj} {Q : Value → Shared → Prop} {M : Model}
theorem lcL (N : News h₀ L s.heap news) (hm : (C, oC) ∈ news) (hC : NsObj oC m₂) (hx : m₂ x = some v) (h : Q v s)
    (hk : (compEnvC scope cl C env).scope.kind = .function) (hl : (compEnvC scope cl C env).kindOf x = some .local) (hd : (x == ("__debug__" : Str)) = false) :
    wpAny M A (eval (.Name x pos) (compEnvC scope cl C env)) Q E s := W.LCgL.ld_own N hm hC hx h hk hl hd
theorem lcK (F : Fr h₀ L s.heap m) (X : (Hd.K P).In h₀) (T : Top p loose mean mg mb h₀) (e : nsIn (Hd.K P) mainGlobals x = some (some v)) (h : Q v s) (hg : env.globals = mainGlobals)
    (hk : (compEnvC scope cl C env).scope.kind = .function) (hx : (compEnvC scope cl C env).kindOf x = some .globalImplicit) (hd : (x == ("__debug__" : Str)) = false) :
    wpAny M A (eval (.Name x pos) (compEnvC scope cl C env)) Q E s := W.LCgL.ld_global F X T e h hg hk hx hd
theorem lcB (F : Fr h₀ L s.heap m) (X : (Hd.K P).In h₀) (T : Top p loose mean mg mb h₀) (e : nsIn (Hd.K P) mainGlobals x = some none ∧ bootBuiltins x = some v) (hn : x ≠ "__name__") (h : Q v s) (hg : env.globals = mainGlobals) (hb : env.builtins = builtinsNs)
    (hk : (compEnvC scope cl C env).scope.kind = .function) (hx : (compEnvC scope cl C env).kindOf x = some .globalImplicit) (hd : (x == ("__debug__" : Str)) = false) :
    wpAny M A (eval (.Name x pos) (compEnvC scope cl C env)) Q E s := W.LCgL.ld_built F X T e.1 e.2 hn h hg hb hk hx hd
end
theorem zw44 : True := by
  k_with "mem" => (case fT => (first | with_reducible exact List.Mem.head _ | with_reducible exact List.Mem.tail _ (.head _) | with_reducible exact List.Mem.tail _ (.tail _ (.head _)) | with_reducible exact List.Mem.tail _ (.tail _ (.tail _ (.head _))) | with_reducible exact List.Mem.tail _ (.tail _ (.tail _ (.tail _ (.head _)))) | with_reducible exact List.Mem.tail _ (.tail _ (.tail _ (.tail _ (.tail _ (.head _))))) | with_reducible exact List.Mem.tail _ (.tail _ (.tail _ (.tail _ (.tail _ (.tail _ (.head _)))))) | with_reducible exact List.Mem.tail _ (.tail _ (.tail _ (.tail _ (.tail _ (.tail _ (.tail _ (.head _))))))) | with_reducible exact List.Mem.tail _ (.tail _ (.tail _ (.tail _ (.tail _ (.tail _ (.tail _ (.tail _ (.head _)))))))) | with_reducible exact List.Mem.tail _ (.tail _ (.tail _ (.tail _ (.tail _ (.tail _ (.tail _ (.tail _ (.tail _ (.head _))))))))) | exact List.Mem.head _ | exact List.Mem.tail _ (.head _) | exact List.Mem.tail _ (.tail _ (.head _)) | exact List.Mem.tail _ (.tail _ (.tail _ (.head _))) | exact List.Mem.tail _ (.tail _ (.tail _ (.tail _ (.head _)))) | exact List.Mem.tail _ (.tail _ (.tail _ (.tail _ (.tail _ (.head _)))))))
  k_with "@eval Name" => (case fT => (((with_reducible show wpAny _ _ (eval (Expr.Name _ _) (compEnvC _ _ _ _)) _ _ _); k_dflt (first
  | (refine' Mine.lcL ?n1 ?n2 ?n3 ?n4 ?_ ?n5 ?n6 ?n7; (case n1 => k_extra "A"); (case n3 => k_extra "A"); (case n4 => k_extra "A"); (case n2 => k_extra "mem"); (case n5 => exact rfl); (case n6 => exact rfl); (case n7 => exact rfl))
  | (refine' Mine.lcK ?n1 ?n2 ?n3 ?n4 ?_ ?n8 ?n5 ?n6 ?n7; (case n1 => k_extra "A"); (case n2 => k_extra "A"); (case n4 => k_extra "nmK"); (case n3 => k_extra "A"); (case n8 => exact rfl); (case n5 => exact rfl); (case n6 => exact rfl); (case n7 => exact rfl))
  | (refine' Mine.lcB ?n1 ?n2 ?n3 ?n4 ?na ?_ ?n8 ?n9 ?n5 ?n6 ?n7; (case n1 => k_extra "A"); (case n2 => k_extra "A"); (case n4 => k_extra "nmB"); (case n3 => k_extra "A"); (case na => decide); (case n8 => exact rfl); (case n9 => exact rfl); (case n5 => exact rfl); (case n6 => exact rfl); (case n7 => exact rfl))))))
  k_with "@eval ListComp" => (case fT => (((with_reducible show wpAny _ _ (eval (Expr.ListComp _ [Comprehension.mk _ _ [] _] _ _) _) _ _ _); k_dflt (refine' Mine.lc_eval ?z0 ?z1 ?z2 ?z3 ?z4 ?z5 ?z6 ?_; (case z0 => k_extra "A"); (case z1 => first | exact rfl | with_unfolding_all rfl); (case z2 => decide); (case z3 => exact rfl); (case z4 => decide); (case z5 => exact rfl); (case z6 => (intro _; exact rfl))))))
  exact True.intro
theorem strsAre_append0 {vs ws : List Value} {ys zs : List Str} (h : StrsAre vs ys) (k : StrsAre ws zs) : StrsAre (vs ++ ws) (ys ++ zs) := by
  induction h with
  | nil => exact k
  | cons y t _ ih => exact .cons y t ih
theorem strs_snoc {α : Type} {f : α → Str} {l : List α} {ys : List Value} {i : Nat} {c : α} {t : Tok} (h : StrsAre ys ((l.take i).map f)) (hc : l[i]? = some c) : StrsAre (ys ++ [.str (f c) t]) ((l.take (i + 1)).map f) := by
  rw [List.take_add_one, hc, List.map_append]
  exact strsAre_append0 h (.cons _ _ .nil)
noncomputable def belowV (l : List CI) : List CI → Bool
  | [] => false
  | c :: _ => l.any fun d => d.name == c.name
theorem law_is_below_c {w : World} {mean mg mb} (wa a : Addr) (l lk : List CI) (kv : Value) (hlen : l.length ≤ 50) :
    Pure w mean mg mb 920 930 709 [.ref a, kv] (fun h => Rep w wa h (.obj a l) (.ref a) ∧ Chain w wa h kv lk) (fun _ r _ => r = .bool (belowV l lk)) := by
  k_extra "E0"
  refine in_mono (A' := ⟨none, 920, A.frames, A.guards, 930⟩) ?_ e1 e2 rfl rfl e3
  k_extra "E1"
  refine' enterZ (binds := [("value", .ref a), ("klass", kv)]) W ?k1 ?kf1 ?kf2 ?kf3 ?k2 ?k3 ?k4 ?k5 ?_ ?k6 ?k7 ?k8 ?k9
  k_extra "E5"
  obtain ⟨R, C⟩ := R
  cases C with
  | nil =>
    k_extra "go"
    exact hQ _ _ _ (Fr.keep (by assumption)) rfl
  | cons i r =>
    rename_i ak ck pk lk
    obtain ⟨tk', an⟩ := i.name
    k_extra "go"
    rename Fr _ _ _ _ => F3
    rename News _ _ _ _ => N3
    rename LineAt _ _ _ _ _ => hL
    refine ⟨_, _, _, _, fun i ys => StrsAre ys ((l.take i).map (·.name)), F3, N3, srcG_list rfl F3 N3 (src_led_list (.head _)), ?_, ⟨.nil, ?_⟩, ?_⟩
    · have := hL.len; rw [sizeLine_eq]; simp at this; omega
    · clear F3 N3
      intro i ys v I oI C oC D m₂ h tk E' hi hv hj hO hx F4 N4
      obtain ⟨ac, c, p, rfl, hc, ic⟩ := hL.get (i := i) (by simpa using hv)
      obtain ⟨tk9, an9⟩ := ic.name
      k_extra "go"
      exact .mk (by k_extra "A") (by k_extra "A") (strs_snoc hj hc)
    · intro D h tk ys hj F4 N4
      k_extra "go"
      refine hQ _ _ _ F4.keep (ex_bool ?_)
      have e := hL.len
      simp only [Array.length_toList] at e
      rw [e, List.take_length, List.any_map]
      rfl
theorem zw45 : True := by
  k_with "@call ref" => (case fT => ((k_dflt (refine' Mine.use1 (law_is_below_c _ _ _ _ _ ?k0) ?u1 ?u2 ?u3 ?u4 ?u5 ?u6 ?u7 ?u8 ?_; k_extra "uup"; (case k0 => k_extra "AS")); intro h' tk' F' N'; k_extra "ut")))
  k_with "con" => (case fT => ((refine' law_is_below_c _ _ _ _ _ ?k0)))
  exact True.intro
noncomputable def words21 : List Str := [Str.ofString "int", Str.ofString "bool", Str.ofString "string", Str.ofString "null", Str.ofString "array", Str.ofString "object", Str.ofString "false", Str.ofString "callable", Str.ofString "iterable", Str.ofString "self", Str.ofString "A1", Str.ofString "true", Str.ofString "void", Str.ofString "mixed", Str.ofString "parent", Str.ofString "static", Str.ofString "never", Str.ofString "a0", Str.ofString "Zed", Str.ofString "float", Str.ofString "TRAVERSABLE"]
noncomputable def clo : CI := ⟨"Closure", "closure", false, false⟩
structure CW where
  (w0 w1 w2 s0 s1 s2 : Bool)
noncomputable def CW.good (c : CW) : Bool := (!c.w0 || c.w1) && (!c.w1 || c.w2)
noncomputable def CW.line (c : CW) : Nat → List CI
  | 0 => [⟨"A0", "a0", c.w0, c.s0⟩]
  | 1 => [⟨"A1", "a1", c.w1, c.s1⟩, ⟨"A0", "a0", c.w0, c.s0⟩]
  | _ => [⟨"A2", "a2", c.w2, c.s2⟩, ⟨"A1", "a1", c.w1, c.s1⟩, ⟨"A0", "a0", c.w0, c.s0⟩]
noncomputable def CW.lines (c : CW) : List (List CI) := [[clo], c.line 0, c.line 1, c.line 2]
noncomputable def CW.scopes (c : CW) : List (List CI) := [[], c.line 0, c.line 1, c.line 2]
open PyProof.Rows.LCg
theorem bools_append {vs ws : List Value} {ys zs : List Bool} (h : LSm.BoolsAre vs ys) (k : LSm.BoolsAre ws zs) : LSm.BoolsAre (vs ++ ws) (ys ++ zs) := by
  induction h with
  | nil => exact k
  | cons y _ ih => exact .cons y ih
theorem bools_snoc {α : Type} {f : α → Bool} {l : List α} {ys : List Value} {i : Nat} {c : α} (h : LSm.BoolsAre ys ((l.take i).map f)) (hc : l[i]? = some c) : LSm.BoolsAre (ys ++ [.bool (f c)]) ((l.take (i + 1)).map f) := by
  rw [List.take_add_one, hc, List.map_append]
  exact bools_append h (.cons _ .nil)
theorem zw46 : True := by
  k_with "@call builtin:any" => (case fT => ((k_dflt (refine' LSm.any_bools ?g1 ?g2 ?g3 ?g4 ?g5 ?_; (case g1 => k_extra "A"); (case g2 => k_extra "A"); (case g3 => exact rfl); (case g4 => exact News.isList (by k_extra "A") (by k_extra "mem")); (case g5 => k_extra "A")); intro h' tk' F' N'; (try k_sweep))))
  k_with "@call builtin:all" => (case fT => ((k_dflt (refine' LSm.all_bools ?g1 ?g2 ?g3 ?g4 ?g5 ?_; (case g1 => k_extra "A"); (case g2 => k_extra "A"); (case g3 => exact rfl); (case g4 => exact News.isList (by k_extra "A") (by k_extra "mem")); (case g5 => k_extra "A")); intro h' tk' F' N'; (try k_sweep))))
  exact True.intro
theorem law_is_shown_c {w : World} {mean mg mb} (wa a : Addr) (l : List CI) (hlen : l.length ≤ 50) :
    Pure w mean mg mb 920 930 724 [.ref a] (fun h => Rep w wa h (.obj a l) (.ref a)) (fun _ r _ => r = .bool (anyShown l)) := by
  k_extra "E0"
  refine in_mono (A' := ⟨none, 920, A.frames, A.guards, 930⟩) ?_ e1 e2 rfl rfl e3
  k_extra "E1"
  refine' enterZ (binds := [("value", .ref a)]) W ?k1 ?kf1 ?kf2 ?kf3 ?k2 ?k3 ?k4 ?k5 ?_ ?k6 ?k7 ?k8 ?k9
  k_extra "E5"
  k_extra "go"
  rename Fr _ _ _ _ => F3
  rename News _ _ _ _ => N3
  rename LineAt _ _ _ _ _ => hL
  refine ⟨_, _, _, _, fun i ys => LSm.BoolsAre ys ((l.take i).map (·.shown)), F3, N3, srcG_list rfl F3 N3 (src_led_list (.head _)), ?_, ⟨.nil, ?_⟩, ?_⟩
  · have := hL.len; rw [sizeLine_eq]; simp at this; omega
  · clear F3 N3
    intro i ys v I oI C oC D m₂ h tk E' hi hv hj hO hx F4 N4
    obtain ⟨ac, c, p, rfl, hc, ic⟩ := hL.get (i := i) (by simpa using hv)
    obtain ⟨d, kvs, ma, md, lo, sh⟩ := ic.meths
    k_extra "go"
    exact .mk (by k_extra "A") (by k_extra "A") (sh ▸ bools_snoc hj hc)
  · intro D h tk ys hj F4 N4
    k_extra "go"
    refine hQ _ _ _ (Fr.keep (by assumption)) (ex_bool ?_)
    have e := hL.len
    simp only [Array.length_toList] at e
    rw [e, List.take_length, List.any_map]
    rfl
theorem zw47 : True := by
  k_with "@call ref" => (case fT => ((k_dflt (refine' Mine.use1 (law_is_shown_c _ _ _ ?k0) ?u1 ?u2 ?u3 ?u4 ?u5 ?u6 ?u7 ?u8 ?_; k_extra "uup"; (case k0 => k_extra "AS")); intro h' tk' F' N'; k_extra "ut")))
  k_with "con" => (case fT => ((refine' law_is_shown_c _ _ _ ?k0)))
  exact True.intro
open PyProof.Rows.LCg
noncomputable abbrev lc2 (elt : Expr) (x₀ x₁ : Str) (p₀ p₁ : Pos) (i₀ i₁ : Expr) (scope : Scope) (pos : Pos) : Expr := .ListComp elt [⟨.Name x₀ p₀, i₀, [], 0⟩, ⟨.Name x₁ p₁, i₁, [], 0⟩] scope pos
section
variable {elt i₀ i₁ : Expr} {x₀ x₁ : Str} {p₀ p₁ : Pos} {scope : Scope} {pos : Pos}
theorem compTurn2_0 (it acc : Value) (env : Env) : compTurn (lc2 elt x₀ x₁ p₀ p₁ i₀ i₁ scope pos) 0 it acc env = (standAt i₀.pos >>= fun _ => pyNext it >>= fun r => match r with
      | none => pure (.done .next)
      | some v => letOwnedTupleGo (.Name x₀ p₀) it v >>= fun _ => assign (.Name x₀ p₀) env v >>= fun _ =>
        (eval i₁ env >>= fun x => standAt i₁.pos >>= fun _ => foldedSetIterable i₁ env x >>= fun x => holding [x] (pyIter x) >>= fun it1 => runOwn (.compStart (lc2 elt x₀ x₁ p₀ p₁ i₀ i₁ scope pos) 1 it1 acc env) env >>= fun _ =>
          again (.compLoop (lc2 elt x₀ x₁ p₀ p₁ i₀ i₁ scope pos) 0 it acc env))) := by rfl
theorem compTurn2_1 (it acc : Value) (env : Env) : compTurn (lc2 elt x₀ x₁ p₀ p₁ i₀ i₁ scope pos) 1 it acc env = (standAt i₁.pos >>= fun _ => pyNext it >>= fun r => match r with
      | none => pure (.done .next)
      | some v => letOwnedTupleGo (.Name x₁ p₁) it v >>= fun _ => assign (.Name x₁ p₁) env v >>= fun _ =>
        (eval elt env >>= fun x => call (.builtin "list.append") [acc, x] >>= fun _ => pure ()) >>= fun _ =>
          again (.compLoop (lc2 elt x₀ x₁ p₀ p₁ i₀ i₁ scope pos) 1 it acc env)) := by rfl
variable {w : World} {A : Around} {E : Value → Shared → Prop} {s : Shared} {R : Result → Shared → Prop} {it acc : Value} {env : Env}
theorem loop2_1 (I : Nat → Shared → Prop)
    (turn : ∀ n s, I n s → wpAny (model mprog w) A (pyNext it) (fun r s₁ => match r with
      | none => R (.ok .next) s₁
      | some v => wpAny (model mprog w) A (assign (.Name x₁ p₁) env v) (fun _ s₂ => wpAny (model mprog w) A (eval elt env) (fun x s₃ =>
          wpAny (model mprog w) A (call (.builtin "list.append") [acc, x]) (fun _ s₄ => ∃ m, m < n ∧ I m s₄) (notedBy (model mprog w) A env fun e s' => R (.error e) s') s₃)
          (notedBy (model mprog w) A env fun e s' => R (.error e) s') s₂) (notedBy (model mprog w) A env fun e s' => R (.error e) s') s₁) (notedBy (model mprog w) A env fun e s' => R (.error e) s') s)
    (n : Nat) (h : I n s) : codeAny (model mprog w) A (.compLoop (lc2 elt x₀ x₁ p₀ p₁ i₀ i₁ scope pos) 1 it acc env) R s := by
  refine codeAny_loop rfl I (fun n s hI => ?_) n h
  show wpAny _ _ ((compTurn (lc2 elt x₀ x₁ p₀ p₁ i₀ i₁ scope pos) 1 it acc env).onRaise (fun x => do noteFrame x env; theTreesLotGoes x)) _ _ s
  refine wpAny_noted ?_
  rw [compTurn2_1]
  refine wpAny_bind (wpAny_standAt (wpAny_bind (wpAny_mono (turn n s hI) (fun r s₁ h₁ => ?_) fun _ _ h' => h')))
  cases r with
  | none => exact wpAny_pure h₁
  | some v =>
    refine wpAny_bind (wpAny_of_eq (rfl : letOwnedTupleGo (.Name x₁ p₁) it v = pure ()) ?_)
    exact wpAny_bind (wpAny_mono h₁ (fun _ s₂ h₂ => wpAny_bind (wpAny_bind (wpAny_mono h₂ (fun x s₃ h₃ => wpAny_bind (wpAny_mono h₃
      (fun _ s₄ h₄ => wpAny_pure (wpAny_pure ⟨rfl, h₄⟩)) fun _ _ h' => h')) fun _ _ h' => h'))) fun _ _ h' => h')
theorem start2_1
    (h0 : codeAny (model mprog w) A (.compLoop (lc2 elt x₀ x₁ p₀ p₁ i₀ i₁ scope pos) 1 it acc env) R s)
    (h : wpAny (model mprog w) A (pyIter it) (fun it' s' => codeAny (model mprog w) A (.compLoop (lc2 elt x₀ x₁ p₀ p₁ i₀ i₁ scope pos) 1 it' acc env) R s')
      (notedBy (model mprog w) A env fun x s' => R (.error x) s') s) :
    codeAny (model mprog w) A (.compStart (lc2 elt x₀ x₁ p₀ p₁ i₀ i₁ scope pos) 1 it acc env) R s := by
  refine codeAny_of_tree ?_
  show wpAny _ _ ((compStart (lc2 elt x₀ x₁ p₀ p₁ i₀ i₁ scope pos) 1 it acc env).onRaise (fun x => do noteFrame x env; standAt theWindowsPlace)) _ _ s
  refine wpAny_notedAt ?_
  unfold compStart
  show wpAny _ _ (ask >>= _) _ _ s
  refine wpAny_bind (wpAny_askSetting (wpAny_ite ?_))
  split
  · first
      | exact wpAny_bind (wpAny_pure (wpAny_pure (And.intro rfl h0)))
      | exact wpAny_pure (And.intro rfl h0)
  · first
      | exact wpAny_bind (wpAny_rule (wpAny_bind (wpAny_standAt (wpAny_bind (wpAny_mono h (fun it' s' h' => wpAny_pure (And.intro rfl h')) fun _ _ x => x)))))
      | (refine wpAny_bind (wpAny_rule ?_); show wpAny _ _ (standAt i₁.pos >>= _) _ _ s; exact wpAny_bind (wpAny_standAt (wpAny_bind (wpAny_mono h (fun it' s' h' => wpAny_pure (And.intro rfl h')) fun _ _ x => x))))
theorem loop2_0 (I : Nat → Shared → Prop) (hs : ∀ x, foldedSetIterable i₁ env x = pure x)
    (turn : ∀ n s, I n s → wpAny (model mprog w) A (pyNext it) (fun r s₁ => match r with
      | none => R (.ok .next) s₁
      | some v => wpAny (model mprog w) A (assign (.Name x₀ p₀) env v) (fun _ s₂ => wpAny (model mprog w) A (eval i₁ env) (fun x s₃ =>
          wpAny (model mprog w) A (pyIter x) (fun it1 s₄ => codeAny (model mprog w) A (.compStart (lc2 elt x₀ x₁ p₀ p₁ i₀ i₁ scope pos) 1 it1 acc env) (fun r s₅ => match r with | .ok _ => ∃ m, m < n ∧ I m s₅ | .error _ => False) s₄) (notedBy (model mprog w) A env fun e s' => R (.error e) s') s₃)
          (notedBy (model mprog w) A env fun e s' => R (.error e) s') s₂) (notedBy (model mprog w) A env fun e s' => R (.error e) s') s₁) (notedBy (model mprog w) A env fun e s' => R (.error e) s') s)
    (n : Nat) (h : I n s) : codeAny (model mprog w) A (.compLoop (lc2 elt x₀ x₁ p₀ p₁ i₀ i₁ scope pos) 0 it acc env) R s := by
  refine codeAny_loop rfl I (fun n s hI => ?_) n h
  show wpAny _ _ ((compTurn (lc2 elt x₀ x₁ p₀ p₁ i₀ i₁ scope pos) 0 it acc env).onRaise (fun x => do noteFrame x env; theTreesLotGoes x)) _ _ s
  refine wpAny_noted ?_
  rw [compTurn2_0]
  refine wpAny_bind (wpAny_standAt (wpAny_bind (wpAny_mono (turn n s hI) (fun r s₁ h₁ => ?_) fun _ _ h' => h')))
  cases r with
  | none => exact wpAny_pure h₁
  | some v =>
    refine wpAny_bind (wpAny_of_eq (rfl : letOwnedTupleGo (.Name x₀ p₀) it v = pure ()) ?_)
    refine wpAny_bind (wpAny_mono h₁ (fun _ s₂ h₂ => wpAny_bind (wpAny_mono h₂ (fun x s₃ h₃ => ?_) fun _ _ h' => h')) fun _ _ h' => h')
    refine wpAny_bind (wpAny_standAt (wpAny_bind (wpAny_of_eq (hs x) (wpAny_bind (wpAny_holding (wpAny_mono h₃ (fun it1 s₄ h₄ => ?_) fun _ _ h' => h'))))))
    refine wpAny_bind (wpAny_runOwn (codeAny_mono h₄ fun r s₅ h₅ => ?_))
    cases r with
    | ok f => exact wpAny_pure ⟨rfl, h₅⟩
    | error e => exact h₅.elim
end
section
variable {w : World} {A : Around} {E : Value → Shared → Prop} {s : Shared} {h₀ : Heap} {L : Addr} {m : Str → Option Value} {env : Env}
noncomputable def Inner (w : World) (A : Around) (h₀ : Heap) (L : Addr) (m : Str → Option Value) (env : Env) (elt : Expr) (x₁ : Str) (scope : Scope) (cl : List (Str × Addr)) (s₁ : Shared) (I₀ : Addr) (oI₀ : Obj) (C D : Addr) (news : List (Addr × Obj)) (n : Nat) (P : Nat → Value → Prop) (J : Nat → List Value → Prop) : Prop :=
  ∀ j ys v I oI oC m₂ h tk (E' : Value → Shared → Prop), j < n → P j v → J j ys → NsObj oC m₂ → m₂ x₁ = some v → Fr h₀ L h m → News h₀ L h ((I, oI) :: (I₀, oI₀) :: (C, oC) :: (D, lst ys) :: news) →
    wpAny (model mprog w) A (eval elt (compEnvC scope cl C env)) (TurnEnd h₀ L m s₁ ((I, oI) :: (I₀, oI₀) :: (C, oC) :: (D, lst ys) :: news) (fun y => J (j + 1) (ys ++ [y]))) E' { s₁ with heap := h, toks := tk }
inductive Inn2 (h₀ : Heap) (L : Addr) (m : Str → Option Value) (C : Addr) (nw : List Value → List (Addr × Obj)) (n : Nat) (St : Nat → Heap → Prop) (J : Nat → List Value → Prop) (s : Shared) : Nat → Shared → Prop where
  | mk {h' : Heap} {tk j : Nat} {ys : List Value} {m' : Str → Option Value} (hjn : j ≤ n) (hst : St j h') (F : Fr h₀ L h' m) (hn : h'.Ns C m') (N : News h₀ L h' (nw ys)) (J' : J j ys) : Inn2 h₀ L m C nw n St J s (n + 1 - j) { s with heap := h', toks := tk }
theorem inner2 {elt i₀ i₁ : Expr} {x₀ x₁ : Str} {p₀ p₁ : Pos} {scope : Scope} {cl : List (Str × Addr)} {pos : Pos} {I I₀ C D : Addr} {oI₀ : Obj} {fp : List Addr} {n : Nat} {P : Nat → Value → Prop} {St : Nat → Heap → Prop} {J : Nat → List Value → Prop} {news : List (Addr × Obj)} {ys₀ : List Value} {m₀ : Str → Option Value} {R : Result → Shared → Prop} {h2 : Heap} {tk0 : Nat}
    (W : PySem.Walks mprog w A I fp [I] n P St) (hIo : ∀ i h, St i h → ∃ o, h.get? I = some o)
    (hSt : ∀ i h h' o, St i h → h.get? I = some o → h'.get? I = some o → (∀ b o, h₀.get? b = some o → h'.get? b = some o) → News h₀ L h' news → St i h')
    (hkind : scope.kind = .function) (hx : scope.names.lookup x₁ = some .local) (hst : St 0 h2)
    (F : Fr h₀ L h2 m) (N : News h₀ L h2 ((I₀, oI₀) :: (D, lst ys₀) :: news)) (hC : h2.Ns C m₀) (hCL : C ≠ L) (hC₀ : h₀.get? C = none) (hI₀ : h₀.get? I = none) (hIL : I ≠ L) (hIC : I ≠ C) (hII : I ≠ I₀) (hID : I ≠ D) (hCD : C ≠ D) (hCI : C ≠ I₀) (hDI : I₀ ≠ D)
    (off : ∀ p ∈ news, p.1 ≠ I ∧ p.1 ≠ C ∧ p.1 ≠ D) (hj : J 0 ys₀) (hsz : ∀ j ys, J j ys → j < n → ys.length ≤ sizeLine) (inn : Inner w A h₀ L m env elt x₁ scope cl s I₀ oI₀ C D news n P J)
    (hR : ∀ h tk ys m', Fr h₀ L h m → News h₀ L h ((I₀, oI₀) :: (D, lst ys) :: news) → h.Ns C m' → J n ys → R (.ok .next) { s with heap := h, toks := tk }) :
    codeAny (model mprog w) A (.compLoop (lc2 elt x₀ x₁ p₀ p₁ i₀ i₁ scope pos) 1 (.ref I) (.ref D) (compEnvC scope cl C env)) R { s with heap := h2, toks := tk0 } := by
  refine loop2_1 (Inn2 h₀ L m C (fun ys => (I₀, oI₀) :: (D, lst ys) :: news) n St J s) ?_ (n + 1) (.mk (j := 0) (Nat.zero_le _) hst F hC N hj)
  intro k s' H
  cases H with | @mk h' tk j ys m' hjn hst' F' hn' N' J' => ?_
  have nnews : ∀ {g : Heap} {ys : List Value}, News h₀ L g ((I₀, oI₀) :: (D, lst ys) :: news) → News h₀ L g news := fun N p hp => N p (.tail _ (.tail _ hp))
  have hDL : D ≠ L := (N (D, lst ys₀) (.tail _ (.head _))).2.1
  have hD₀ : h₀.get? D = none := (N (D, lst ys₀) (.tail _ (.head _))).2.2
  by_cases hlt : j < n
  · refine W.item j _ _ _ hlt hst' fun v h₂ tk₂ hPv hst₂ hk₂ => ?_
    have hk : ∀ b o, b ≠ I → h'.get? b = some o → h₂.get? b = some o := fun b o hb e => hk₂ b o (by simpa using hb) e
    have F₂ : Fr h₀ L h₂ m := ⟨F'.ns.at' fun o e => hk L o (Ne.symm hIL) e, fun b o e => hk b o (fun q => by rw [q, hI₀] at e; cases e) (F'.keep b o e), F'.above⟩
    have N₂ : News h₀ L h₂ ((I₀, oI₀) :: (D, lst ys) :: news) := fun p hp => ⟨hk _ _ (by
      rcases List.mem_cons.mp hp with rfl | hp
      · exact Ne.symm hII
      · rcases List.mem_cons.mp hp with rfl | hp
        · exact Ne.symm hID
        · exact (off p hp).1) (N' p hp).1, (N' p hp).2⟩
    have hn₂ : h₂.Ns C m' := hn'.at' fun o e => hk C o (Ne.symm hIC) e
    refine wpAny_assign_Name (wpAny_storeName_local (lookup_relabel_local hx) hn₂ (fun h₃ hn₃ hs₃ => ?_) (by simp [compEnvC, relabel, hkind]))
    obtain ⟨oI, heI₂⟩ := hIo _ _ hst₂
    have heI : h₃.get? I = some oI := hs₃.extBut _ _ hIC heI₂
    obtain ⟨oC, heC, hoC⟩ := ns_obj hn₃
    have F₃ : Fr h₀ L h₃ m := F₂.change hs₃ hCL hC₀
    have N₃ : News h₀ L h₃ ((I, oI) :: (I₀, oI₀) :: (C, oC) :: (D, lst ys) :: news) := fun p hp => by
      rcases List.mem_cons.mp hp with rfl | hp
      · exact ⟨heI, hIL, hI₀⟩
      rcases List.mem_cons.mp hp with rfl | hp
      · have z := N₂ (I₀, oI₀) (.head _)
        exact ⟨hs₃.extBut _ _ (Ne.symm hCI) z.1, z.2⟩
      rcases List.mem_cons.mp hp with rfl | hp
      · exact ⟨heC, hCL, hC₀⟩
      · have z := N₂ p (.tail _ hp)
        refine ⟨hs₃.extBut _ _ ?_ z.1, z.2⟩
        rcases List.mem_cons.mp hp with rfl | hp
        · exact Ne.symm hCD
        · exact (off p hp).2.1
    refine wpAny_mono (inn j ys v I oI oC _ h₃ _ _ hlt hPv J' hoC (by simp) F₃ N₃) (fun y s₄ h₄ => ?_) fun _ _ e => e
    cases h₄ with
    | @mk h₄ tk₄ F₄ N₄ J₄ =>
      have zI := (N₄ (I, oI) (.head _)).1
      have zC := (N₄ (C, oC) (.tail _ (.tail _ (.head _)))).1
      have zD := (N₄ (D, lst ys) (.tail _ (.tail _ (.tail _ (.head _))))).1
      have N₄' : News h₀ L h₄ news := fun p hp => N₄ p (.tail _ (.tail _ (.tail _ (.tail _ hp))))
      refine append_at (hsz := by show ys.toArray.size ≤ sizeLine; rw [List.size_toArray]; exact hsz j ys J' hlt) zD fun h₅ hs₅ hD₅ => ?_
      have N₅ : News h₀ L h₅ ((I₀, oI₀) :: (D, lst (ys ++ [y])) :: news) := fun p hp => by
        rcases List.mem_cons.mp hp with rfl | hp
        · have z := N₄ (I₀, oI₀) (.tail _ (.head _))
          exact ⟨hs₅.extBut _ _ hDI z.1, z.2⟩
        rcases List.mem_cons.mp hp with rfl | hp
        · exact ⟨hD₅.trans (congrArg some (lst_snoc ys y)), hDL, hD₀⟩
        · exact ⟨hs₅.extBut _ _ (off p hp).2.2 (N₄' p hp).1, (N₄' p hp).2⟩
      have F₅ := F₄.change hs₅ hDL hD₀
      have heI₅ : h₅.get? I = some oI := hs₅.extBut _ _ hID zI
      exact ⟨_, turn_lt hlt, .mk hlt (hSt _ _ _ _ hst₂ heI₂ heI₅ F₅.keep (nnews N₅)) F₅ ((hoC.ns zC).sameBut hs₅ hCD) N₅ J₄⟩
  · obtain rfl : j = n := Nat.le_antisymm hjn (Nat.not_lt.mp hlt)
    refine W.done _ _ _ hst' fun h₂ tk₂ hk₂ => ?_
    have hk : ∀ b o, b ≠ I → h'.get? b = some o → h₂.get? b = some o := fun b o hb e => hk₂ b o (by simpa using hb) e
    refine hR h₂ tk₂ ys m' ⟨F'.ns.at' fun o e => hk L o (Ne.symm hIL) e, fun b o e => hk b o (fun q => by rw [q, hI₀] at e; cases e) (F'.keep b o e), F'.above⟩ (fun p hp => ⟨hk _ _ (by
      rcases List.mem_cons.mp hp with rfl | hp
      · exact Ne.symm hII
      · rcases List.mem_cons.mp hp with rfl | hp
        · exact Ne.symm hID
        · exact (off p hp).1) (N' p hp).1, (N' p hp).2⟩) (hn'.at' fun o e => hk C o (Ne.symm hIC) e) J'
inductive In2 (w : World) (A : Around) (h₀ : Heap) (L : Addr) (m : Str → Option Value) (env : Env) (elt : Expr) (x₁ : Str) (scope : Scope) (cl : List (Str × Addr)) (s₁ : Shared) (I : Addr) (oI : Obj) (C : Addr) (oC : Obj) (D : Addr) (news : List (Addr × Obj)) (ys : List Value) (Jn : List Value → Prop) (xv : Value) (s' : Shared) : Prop where
  | mk (h' : Heap) (tk' n₁ : Nat) (P₁ : Nat → Value → Prop) (J₁ : Nat → List Value → Prop) (e : s' = { s₁ with heap := h', toks := tk' }) (F : Fr h₀ L h' m) (N : News h₀ L h' (inTurn I oI C oC D ys news)) (src : SrcG A w h₀ L s' news xv n₁ P₁)
    (j0 : J₁ 0 ys) (sz : ∀ j ys, J₁ j ys → j < n₁ → ys.length ≤ sizeLine) (fin : ∀ ys, J₁ n₁ ys → Jn ys) (inn : Inner w A h₀ L m env elt x₁ scope cl s₁ I oI C D news n₁ P₁ J₁)
structure Comp2 (w : World) (A : Around) (h₀ : Heap) (L : Addr) (m : Str → Option Value) (env : Env) (elt i₁ : Expr) (x₀ x₁ : Str) (scope : Scope) (cl : List (Str × Addr)) (s₁ : Shared) (news : List (Addr × Obj)) (n : Nat) (P : Nat → Value → Prop) (J : Nat → List Value → Prop) : Prop where
  start : J 0 []
  turn : ∀ i ys v I oI C oC D m₂ h tk (E' : Value → Shared → Prop), i < n → P i v → J i ys → NsObj oC m₂ → m₂ x₀ = some v → Fr h₀ L h m → News h₀ L h (inTurn I oI C oC D ys news) →
    wpAny (model mprog w) A (eval i₁ (compEnvC scope cl C env)) (In2 w A h₀ L m env elt x₁ scope cl s₁ I oI C oC D news ys (J (i + 1))) E' { s₁ with heap := h, toks := tk }
inductive Lc2Src (w : World) (A : Around) (h₀ : Heap) (L : Addr) (env : Env) (elt i₁ : Expr) (x₀ x₁ : Str) (scope : Scope) (cl : List (Str × Addr)) (Q : Value → Shared → Prop) (xv : Value) (s₁ : Shared) : Prop where
  | mk (m : Str → Option Value) (news : List (Addr × Obj)) (n : Nat) (P : Nat → Value → Prop) (J : Nat → List Value → Prop) (F : Fr h₀ L s₁.heap m) (N : News h₀ L s₁.heap news) (src : SrcG A w h₀ L s₁ news xv n P) (c : Comp2 w A h₀ L m env elt i₁ x₀ x₁ scope cl s₁ news n P J)
    (fin : ∀ D h tk ys, J n ys → Fr h₀ L h m → News h₀ L h ((D, lst ys) :: news) → Q (.ref D) { s₁ with heap := h, toks := tk })
theorem lc2_eval {elt i₀ i₁ : Expr} {x₀ x₁ : Str} {p₀ p₁ : Pos} {scope : Scope} {cl : List (Str × Addr)} {pos : Pos} {Q : Value → Shared → Prop} {m₀ : Str → Option Value} (_ : Fr h₀ L s.heap m₀)
    (hclos : closureFor scope env = pure cl) (hcell : ∀ y ∈ scope.names, y.2 ≠ .cell) (hkind : scope.kind = .function)
    (hnames : ∀ y ∈ scope.names, y.2 = .local → scope.names.lookup y.1 = some .local) (hx₀ : scope.names.lookup x₀ = some .local) (hx₁ : scope.names.lookup x₁ = some .local)
    (hs : ∀ x, foldedSetIterable i₀ env x = pure x) (hs₁ : ∀ env x, foldedSetIterable i₁ env x = pure x)
    (h : wpAny (model mprog w) A (eval i₀ env) (Lc2Src w A h₀ L env elt i₁ x₀ x₁ scope cl Q) E s) :
    wpAny (model mprog w) A (eval (lc2 elt x₀ x₁ p₀ p₁ i₀ i₁ scope pos) env) Q E s := by
  rw [eval_ListComp]
  refine wpAny_comprehension_free (use := none) rfl hs hclos hkind hnames (wpAny_mono h (fun xv s₁ h₁ => ?_) fun _ _ e => e)
  obtain ⟨m, news, n, P, J, F, N, src, c, fin⟩ := h₁
  refine src _ _ fun I fp St h2 W hIo hSt st hfp up hI => ?_
  have fresh0 : ∀ a, s₁.heap.objs.size ≤ a → h₀.get? a = none := fun a ha => by
    cases e : h₀.get? a with
    | none => rfl
    | some o => exact absurd (Heap.lt_size (F.keep a o e)) (Nat.not_lt.mpr ha)
  have hIL : I ≠ L := Ne.symm (Nat.ne_of_lt (Nat.lt_of_lt_of_le F.ns.lt hI))
  have hI₀ : h₀.get? I = none := fresh0 I hI
  have F2 : Fr h₀ L h2 m := F.keeps up
  have N2 : News h₀ L h2 news := N.grown up
  have hIlt : I < h2.objs.size := hfp I (W.sub I (.head _))
  refine wpAny_newObj_type (wpAny_newFunctionEnv hcell (by intro y hy; simp at hy) (fun h₁ hns₁ hsb₁ => ?_) hkind)
  dsimp only at hns₁ hsb₁ ⊢
  generalize hH2 : h2.push { cls := .type "list", dict := none, data := .seq ([] : List Value).toArray } = H2 at hns₁ hsb₁ ⊢
  have hC : H2.objs.size = h2.objs.size + 1 := by rw [← hH2, Heap.size_push]
  have hDC : h2.objs.size ≠ H2.objs.size := by rw [hC]; exact Nat.ne_of_lt (Nat.lt_succ_self _)
  have below : ∀ b, b < h2.objs.size → b ≠ H2.objs.size ∧ b ≠ h2.objs.size := fun b hb => ⟨by rw [hC]; exact Nat.ne_of_lt (Nat.lt_succ_of_lt hb), Nat.ne_of_lt hb⟩
  have hCf : H2.objs.size ∉ fp := fun hm => by have := hfp _ hm; rw [hC] at this; exact Nat.lt_irrefl _ (Nat.lt_of_succ_lt this)
  have old : ∀ b o, h2.get? b = some o → h₁.get? b = some o := fun b o e => hsb₁.extBut b o (below b (Heap.lt_size e)).1 (Heap.get?_push_of_some _ (hH2 ▸ Heap.get?_push_of_some _ e))
  have hacc : h₁.get? h2.objs.size = some (lst []) := hsb₁.extBut _ _ hDC (Heap.get?_push_of_some _ (hH2 ▸ Heap.get?_push_size _ rfl))
  have hle : s₁.heap.objs.size ≤ h2.objs.size := Nat.le_of_lt (Nat.lt_of_le_of_lt hI hIlt)
  have hD₀ : h₀.get? h2.objs.size = none := fresh0 _ hle
  have hC₀ : h₀.get? H2.objs.size = none := fresh0 _ (by rw [hC]; exact Nat.le_succ_of_le hle)
  have hLlt : L < h2.objs.size := F2.ns.lt
  have hDL : h2.objs.size ≠ L := Ne.symm (below L hLlt).2
  have hCL : H2.objs.size ≠ L := Ne.symm (below L hLlt).1
  have hCI : I ≠ H2.objs.size := (below I hIlt).1
  have hDI : I ≠ h2.objs.size := (below I hIlt).2
  have off : ∀ p ∈ news, p.1 ≠ I ∧ p.1 ≠ H2.objs.size ∧ p.1 ≠ h2.objs.size := fun p hp => ⟨Nat.ne_of_lt (Nat.lt_of_lt_of_le (Heap.lt_size (N p hp).1) hI), (below _ (Heap.lt_size (N2 p hp).1)).1, (below _ (Heap.lt_size (N2 p hp).1)).2⟩
  have stf : ∀ i g g', St i g → (∀ b, b ≠ H2.objs.size → ∀ o, g.get? b = some o → g'.get? b = some o) → St i g' := fun i g g' st k => W.frame i g g' st fun b hb o e => k b (fun q => hCf (q ▸ hb)) o e
  have hst₁ : St 0 h₁ := W.frame _ _ _ st fun b _ o e => old b o e
  have loop : codeAny (model mprog w) A (.compLoop (lc2 elt x₀ x₁ p₀ p₁ i₀ i₁ scope pos) 0 (.ref I) (.ref h2.objs.size) (compEnvC scope cl H2.objs.size env)) (compPost (model mprog w) A E none Q (.ref h2.objs.size) H2.objs.size)
      { s₁ with heap := h₁, toks := s₁.toks + ([] : List (Str × Value)).length } := by
    refine loop2_0 (Inn2 h₀ L m H2.objs.size (fun ys => (h2.objs.size, lst ys) :: news) n St J s₁) (hs₁ _) ?_ (n + 1)
      (.mk (j := 0) (Nat.zero_le _) hst₁ (F2.keeps old) hns₁ (fun p hp => ?_) c.start)
    · intro k s' H
      cases H with | @mk h' tk i ys m' hin hst' F' hn' N' J' => ?_
      by_cases hlt : i < n
      · refine W.item i _ _ _ hlt hst' fun v h₂ tk₂ hPv hst₂ hk₂ => ?_
        have hk : ∀ b o, b ≠ I → h'.get? b = some o → h₂.get? b = some o := fun b o hb e => hk₂ b o (by simpa using hb) e
        have F₂ : Fr h₀ L h₂ m := ⟨F'.ns.at' fun o e => hk L o (Ne.symm hIL) e, fun b o e => hk b o (fun q => by rw [q, hI₀] at e; cases e) (F'.keep b o e), F'.above⟩
        have N₂ : News h₀ L h₂ ((h2.objs.size, lst ys) :: news) := fun p hp => ⟨hk _ _ (by
          rcases List.mem_cons.mp hp with rfl | hp
          · exact Ne.symm hDI
          · exact (off p hp).1) (N' p hp).1, (N' p hp).2⟩
        have hn₂ : h₂.Ns H2.objs.size m' := hn'.at' fun o e => hk _ o (Ne.symm hCI) e
        refine wpAny_assign_Name (wpAny_storeName_local (lookup_relabel_local hx₀) hn₂ (fun h₃ hn₃ hs₃ => ?_) (by simp [compEnvC, relabel, hkind]))
        have hst₃ : St (i + 1) h₃ := stf _ _ _ hst₂ fun b hb o e => hs₃.extBut b o hb e
        obtain ⟨oI, heI⟩ := hIo _ _ hst₃
        obtain ⟨oC, heC, hoC⟩ := ns_obj hn₃
        have F₃ : Fr h₀ L h₃ m := F₂.change hs₃ hCL hC₀
        have N₃ : News h₀ L h₃ (inTurn I oI H2.objs.size oC h2.objs.size ys news) := fun p hp => by
          rcases List.mem_cons.mp hp with rfl | hp
          · exact ⟨heI, hIL, hI₀⟩
          rcases List.mem_cons.mp hp with rfl | hp
          · exact ⟨heC, hCL, hC₀⟩
          · have z := N₂ p hp
            refine ⟨hs₃.extBut _ _ ?_ z.1, z.2⟩
            rcases List.mem_cons.mp hp with rfl | hp
            · exact hDC
            · exact (off p hp).2.1
        refine wpAny_mono (c.turn i ys v I oI H2.objs.size oC h2.objs.size _ h₃ _ _ hlt hPv J' hoC (by simp) F₃ N₃) (fun x s₄ h₄ => ?_) fun _ _ e => e
        obtain ⟨h₄, tk₄, n₁, P₁, J₁, rfl, F₄, N₄, src₁, hj0, hjz, hjn, inn⟩ := h₄
        refine src₁ _ _ fun I₁ fp₁ St₁ h₅ W₁ hIo₁ hSt₁ st₁ hfp₁ up₁ hI₁ => ?_
        have F₅ : Fr h₀ L h₅ m := F₄.keeps up₁
        have N₅ : News h₀ L h₅ (inTurn I oI H2.objs.size oC h2.objs.size ys news) := N₄.grown up₁
        have lt4 : ∀ p ∈ inTurn I oI H2.objs.size oC h2.objs.size ys news, p.1 ≠ I₁ := fun p hp => Nat.ne_of_lt (Nat.lt_of_lt_of_le (Heap.lt_size (N₄ p hp).1) hI₁)
        have hI₁L : I₁ ≠ L := Ne.symm (Nat.ne_of_lt (Nat.lt_of_lt_of_le F₄.ns.lt hI₁))
        have hI₁₀ : h₀.get? I₁ = none := by
          cases e : h₀.get? I₁ with
          | none => rfl
          | some o => exact absurd (Heap.lt_size (F₄.keep _ o e)) (Nat.not_lt.mpr hI₁)
        have zC₅ := (N₅ (H2.objs.size, oC) (.tail _ (.head _))).1
        have hst₄ : St (i + 1) h₅ := hSt _ _ _ _ hst₃ heI (N₅ (I, oI) (.head _)).1 F₅.keep (fun p hp => N₅ p (.tail _ (.tail _ (.tail _ hp))))
        have inner : codeAny (model mprog w) A (.compLoop (lc2 elt x₀ x₁ p₀ p₁ i₀ i₁ scope pos) 1 (.ref I₁) (.ref h2.objs.size) (compEnvC scope cl H2.objs.size env))
            (fun r s₅ => match r with
              | .ok _ => ∃ m_1, m_1 < n + 1 - i ∧ Inn2 h₀ L m H2.objs.size (fun ys => (h2.objs.size, lst ys) :: news) n St J s₁ m_1 s₅
              | .error _ => False) { s₁ with heap := h₅, toks := tk₄ } := by
          refine inner2 (s := s₁) (I₀ := I) (oI₀ := oI) (news := news) (ys₀ := ys) (m₀ := _) W₁ hIo₁ hSt₁ hkind hx₁ st₁ F₅ (fun p hp => ?_) (hoC.ns zC₅) hCL hC₀ hI₁₀ hI₁L ?_ ?_ ?_ (Ne.symm hDC) (Ne.symm hCI) hDI ?_ hj0 hjz inn ?_
          · rcases List.mem_cons.mp hp with rfl | hp
            · exact N₅ _ (.head _)
            · exact N₅ p (.tail _ (.tail _ hp))
          · exact Ne.symm (lt4 (H2.objs.size, oC) (.tail _ (.head _)))
          · exact Ne.symm (lt4 (I, oI) (.head _))
          · exact Ne.symm (lt4 (h2.objs.size, lst ys) (.tail _ (.tail _ (.head _))))
          · exact fun p hp => ⟨lt4 p (.tail _ (.tail _ (.tail _ hp))), (off p hp).2⟩
          · intro h₆ tk₆ ys₆ m₆ F₆ N₆ hn₆ J₆
            exact ⟨_, turn_lt hlt, .mk hlt (hSt _ _ _ _ hst₄ (N₅ (I, oI) (.head _)).1 (N₆ (I, oI) (.head _)).1 F₆.keep (fun p hp => N₆ p (.tail _ (.tail _ hp)))) F₆ hn₆ (fun p hp => N₆ p (.tail _ hp)) (hjn _ J₆)⟩
        exact start2_1 inner (W₁.self 0 _ _ _ st₁ inner)
      · obtain rfl : i = n := Nat.le_antisymm hin (Nat.not_lt.mp hlt)
        refine W.done _ _ _ hst' fun h₂ tk₂ hk₂ => ?_
        have hk : ∀ b o, b ≠ I → h'.get? b = some o → h₂.get? b = some o := fun b o hb e => hk₂ b o (by simpa using hb) e
        have F₂ : Fr h₀ L h₂ m := ⟨F'.ns.at' fun o e => hk L o (Ne.symm hIL) e, fun b o e => hk b o (fun q => by rw [q, hI₀] at e; cases e) (F'.keep b o e), F'.above⟩
        refine ⟨m', hn'.at' fun o e => hk _ o (Ne.symm hCI) e, fun h'' hs'' => fin _ h'' tk₂ ys J' (F₂.change hs'' hCL hC₀) fun p hp => ?_⟩
        refine ⟨hs''.extBut _ _ ?_ (hk _ _ ?_ (N' p hp).1), (N' p hp).2⟩
        · rcases List.mem_cons.mp hp with rfl | hp
          · exact hDC
          · exact (off p hp).2.1
        · rcases List.mem_cons.mp hp with rfl | hp
          · exact Ne.symm hDI
          · exact (off p hp).1
    · rcases List.mem_cons.mp hp with rfl | hp
      · exact ⟨hacc, hDL, hD₀⟩
      · exact ⟨old _ _ (N2 p hp).1, (N2 p hp).2⟩
  exact codeAny_compStart_list loop (W.self 0 _ _ _ hst₁ loop)
end
open PyProof.Rows.LCg
theorem made_str {w : World} {h₀ : Heap} {L d : Addr} {m : Str → Option Value} {news : List (Addr × Obj)} {g : Obj → List (Addr × Obj)} {o : Obj} {Q : Value → Shared → Prop} {s : Shared} {vs : List (Value × Value)}
    (F : Fr h₀ L s.heap m) (N : News h₀ L s.heap news) (U : W.UpdF d o news g) (hd : o.IsDictOf (PySem.strKind mprog w) []) (hk : allStrKeys vs = true) (hn : ((strPairs vs).map (·.1)).Nodup)
    (h : ∀ h' o', Fr h₀ L h' m → News h₀ L h' (g o') → o'.IsDictOf (PySem.strKind mprog w) (strPairs vs) → Q (.ref d) { s with heap := h', toks := s.toks + vs.length }) : W.KdnMade mprog w (PySem.strKind mprog w) d Q vs s := W.kdn_made_str F N U hd hk hn h
theorem zw48 : True := by
  k_with "@eval Dict" => (case fT => (((with_reducible show wpAny _ _ (eval (Expr.Dict (some (Expr.Constant (Const.str _) _ _) :: _) _ _) _) _ _ _); k_dflt (refine' W.kdn_eval (knd := PySem.strKind _ _) ?F ?N ?b ?a ?l ?e ?n ?_; (case F => k_extra "A"); (case N => k_extra "A"); (case b => exact Top.nolimit (by k_extra "A")); (case a => rfl); (case l => rfl); (case e => exact List.cons_ne_nil _ _); (case n => exact Nat.le_of_ble_eq_true rfl)); intro d' h' o' F' N' l1 lo' hd'; (try k_lt l1))))
  k_with "@KdnMade" => (case fT => ((k_dflt (refine' Mine.made_str ?F ?N ?U ?d ?k ?n ?_; (case F => k_extra "A"); (case N => k_extra "A"); (case U => k_updF); (case d => k_extra "A"); (case k => rfl); (case n => exact of_decide_eq_true (by first | rfl | kernel_rfl!)); intro h' o' F' N' hd'))))
  k_with "@eval ListComp" => (case fT => (((with_reducible show wpAny _ _ (eval (Expr.ListComp _ [Comprehension.mk _ _ [] _, Comprehension.mk _ _ [] _] _ _) _) _ _ _); k_dflt (refine' Mine.lc2_eval ?z0 ?z1 ?z2 ?z3 ?z4 ?z5 ?z7 ?z6 ?z8 ?_; (case z0 => k_extra "A"); (case z1 => first | exact rfl | with_unfolding_all rfl); (case z2 => decide); (case z3 => exact rfl); (case z4 => decide); (case z5 => exact rfl); (case z7 => exact rfl); (case z6 => (intro _; exact rfl)); (case z8 => (intro _ _; exact rfl))))))
  exact True.intro
noncomputable def strIs (k : Str) : V → Bool
  | .str t => t == k
  | _ => false
noncomputable def nameIs (k : Str) : V → Bool
  | .obj _ (c :: _) => c.name == k
  | _ => false
theorem LineAt.append {w : World} {wa : Addr} {h : Heap} {vs vs' : List Value} {l l' : List CI} (C : LineAt w wa h vs l) (C' : LineAt w wa h vs' l') : LineAt w wa h (vs ++ vs') (l ++ l') := by
  induction C with
  | nil => exact C'
  | cons j _ ih => exact .cons j ih
section
variable {A : Around} {E : Value → Shared → Prop} {s : Shared} {w : PySem.World}
theorem rep_eq_str {wa : Addr} {h : Heap} {x : V} {v : Value} {b : Str} {u : Tok} {Q : Value → Shared → Prop} (R : Rep w wa h x v) (e : (lkindS x == Str.ofString "string") = true) (q : Q (.bool (strIs b x)) s) : wpAny (model mprog w) A (compareOp .Eq v (.str b u)) Q E s := by
  cases x with
  | str c => obtain ⟨t, rfl⟩ := R; exact SeqAt.RcAt.str_str c t b u _ _ E Q q
  | null => exact absurd e (by decide)
  | bool n => exact absurd e (by cases n <;> decide)
  | int n => exact absurd e (by rw [lk4]; decide)
  | arr n => exact absurd e (by rw [lk6]; decide)
  | obj n l => exact absurd e (by rw [lk7]; decide)
end
theorem getI_led {A : Around} {E : Value → Shared → Prop} {s : Shared} {w : PySem.World} {h₀ : Heap} {L d : Addr} {news : List (Addr × Obj)} {o : Obj} {kvs : List (Str × Value)} {k : Str} {t : Tok} {v : Value} {Q : Value → Shared → Prop}
    (N : News h₀ L s.heap news) (hm : (d, o) ∈ news) (hd : o.IsDictOf (PySem.strKind mprog w) kvs) (hv : valueAt kvs k = some v) (h : Q v { s with toks := s.toks + 1 }) :
    wpAny (model mprog w) A (getItem (.ref d) (.str k t)) Q E s := by
  have D' : s.heap.DictOf (PySem.strKind mprog w) d kvs := Heap.dictOf_iff.mpr ⟨o, (N _ hm).1, hd⟩
  exact wpAny_getItem_of (strKind_is _ _ _ _) D'.mapOf hv h
theorem flat_len {α β : Type} {l : List α} {f : α → List β} (h : ∀ c, (f c).length ≤ 1) : (l.flatMap f).length ≤ l.length := by
  induction l with
  | nil => simp
  | cons a r ih => have := h a; simp only [List.flatMap_cons, List.length_append, List.length_cons]; omega
theorem any_flat (l : List CI) : (l.flatMap fun c => if c.walks then [true] else []).any id = l.any (·.walks) := by
  induction l with
  | nil => rfl
  | cons a r ih => rw [List.flatMap_cons, List.any_append, ih, List.any_cons]; cases a.walks <;> rfl
structure TkF (ah : Addr) (nm : Str) (qn : Tok) (v hv sv : Value) (x : V) (m : Str → Option Value) : Prop where
  host : m "host" = some (.ref ah)
  name : m "name" = some (.str nm qn)
  value : m "value" = some v
  here : m "here" = some hv
  static : m "static" = some sv
  what : ∃ u, m "what" = some (.str (lkindS x) u)
theorem zw49 : True := by
  k_with "tkf" => (case fT => (exact ⟨by k_extra "look", by k_extra "look", by k_extra "look", by k_extra "look", by k_extra "look", _, by k_extra "look"⟩))
  k_with "@compareOp Eq" => (case fT => (k_dflt (refine' Mine.rep_eq_str ?g1 ?g2 ?_; (case g1 => k_extra "A"); (case g2 => k_extra "A"))))
  exact True.intro
noncomputable def plainW : List Str := [Str.ofString "int", Str.ofString "string", Str.ofString "array", Str.ofString "object", Str.ofString "null", Str.ofString "true", Str.ofString "false"]
noncomputable def dictW : List Str := [Str.ofString "bool", Str.ofString "void", Str.ofString "mixed", Str.ofString "never"]
noncomputable def selfW : List Str := [Str.ofString "self", Str.ofString "parent", Str.ofString "static"]
noncomputable def takesCall (hasC : Bool) (x : V) : Bool :=
  if hasC then lkindS x == Str.ofString "array" || (lkindS x == Str.ofString "string" && strIs (Str.ofString "x") x)
  else lkindS x == Str.ofString "string" || (lkindS x == Str.ofString "object" && nameIs (Str.ofString "Closure") x)
noncomputable def takesDict (nm : Str) (k : Str) : Bool :=
  nm == Str.ofString "mixed" || (if nm == Str.ofString "bool" then [Str.ofString "true", Str.ofString "false"].any fun z => z == k else if nm == Str.ofString "void" then [Str.ofString "null"].any fun z => z == k else false)
noncomputable def withIfs (l : List CI) : List CI := l ++ l.flatMap fun c => if c.walks then [trav] else []
noncomputable def takesObj (nm : Str) (lh ls : List CI) : V → Bool
  | .obj _ l =>
    if nm == Str.ofString "iterable" then l.any (·.walks)
    else if selfW.any fun z => z == nm then belowV l (if nm == Str.ofString "self" then lh else if nm == Str.ofString "parent" then lh.tail else ls)
    else ((withIfs l).map fun c => Txt.lower c.name).any fun z => z == Txt.lower nm
  | _ => false
noncomputable def lawTakes (hasC : Bool) (nm : Str) (x : V) (lh ls : List CI) : Bool :=
  if plainW.any fun z => z == nm then lkindS x == nm
  else if nm == Str.ofString "callable" then takesCall hasC x
  else if dictW.any fun z => z == nm then takesDict nm (lkindS x)
  else if nm == Str.ofString "iterable" && lkindS x == Str.ofString "array" then true
  else takesObj nm lh ls x
theorem flat_line {w : World} {wa : Addr} {h : Heap} {p : Value} (WT : IsCls w wa h wa trav p) : ∀ l : List CI, LineAt w wa h (l.flatMap fun c => if c.walks then [Value.ref wa] else []) (l.flatMap fun c => if c.walks then [trav] else [])
  | [] => .nil
  | c :: r => by
    rw [List.flatMap_cons, List.flatMap_cons]
    refine LineAt.append ?_ (flat_line WT r)
    cases c.walks
    · exact .nil
    · exact .cons WT .nil
theorem self_cases {nm : Str} (h : (selfW.any fun z => z == nm) = true) : nm = Str.ofString "self" ∨ nm = Str.ofString "parent" ∨ nm = Str.ofString "static" := by
  simp only [selfW, List.any_cons, List.any_nil, Bool.or_eq_true, beq_iff_eq, Bool.false_eq_true, or_false] at h
  rcases h with h | h | h
  · exact .inl h.symm
  · exact .inr (.inl h.symm)
  · exact .inr (.inr h.symm)
theorem dict_cases {nm : Str} (h : (dictW.any fun z => z == nm) = true) (h2 : (nm == Str.ofString "mixed") = false) : nm = Str.ofString "bool" ∨ nm = Str.ofString "void" ∨ nm = Str.ofString "never" := by
  simp only [dictW, List.any_cons, List.any_nil, Bool.or_eq_true, beq_iff_eq, Bool.false_eq_true, or_false] at h
  rcases h with h | h | h | h
  · exact .inl h.symm
  · exact .inr (.inl h.symm)
  · rw [← h] at h2; simp at h2
  · exact .inr (.inr h.symm)
theorem law_takes_c {w : World} {mean mg mb} (wa ah : Addr) (hasC : Bool) (nm : Str) (qn : Tok) (x : V) (v hv sv : Value) (lh ls : List CI) (hx : x.ok) (hn : nm.length ≤ 100) (hnl : ∀ a l, x = .obj a l → ∀ c ∈ l, c.name.length ≤ 100) :
    Pure w mean mg mb 900 910 714 [.ref ah, .str nm qn, v, hv, sv] (fun h => Rep w wa h x v ∧ HostAt w h ah hasC ∧ Chain w wa h hv lh ∧ Chain w wa h sv ls ∧ IsCls w wa h wa trav .none) (fun _ r _ => r = .bool (lawTakes hasC nm x lh ls)) := by
  k_extra "E0"
  refine in_mono (A' := ⟨none, 900, A.frames, A.guards, 910⟩) ?_ e1 e2 rfl rfl e3
  k_extra "E1"
  refine' enterZ (binds := [("host", .ref ah), ("name", .str nm qn), ("value", v), ("here", hv), ("static", sv)]) W ?k1 ?kf1 ?kf2 ?kf3 ?k2 ?k3 ?k4 ?k5 ?_ ?k6 ?k7 ?k8 ?k9
  k_extra "E5"
  obtain ⟨R, H, C1, C2, WT⟩ := R
  obtain ⟨td, kvs, h1, h2, h3, h4, h5⟩ := H.tools
  k_extra "goIf"
  refine cutZF (fun m => TkF ah nm qn v hv sv x m ∧ (plainW.any fun z => z == nm) = false) ?_ ?_ (L := L') (h₀ := s.heap)
  · intro Z mk rt
    k_extra "go"
    · rename (List.any _ _ = true) => e
      exact rt _ _ (hQ _ _ _ (Fr.keep (by assumption)) (ex_bool (by unfold lawTakes; rw [if_pos (show (plainW.any fun z => z == nm) = true from e)])))
    · refine mk (by k_extra "A") ?_
      exact ⟨by k_extra "tkf", by assumption⟩
  intro h2' tk3 m2 F2 N2 ⟨⟨f1, f2, f3, f4, f5, u6, f6⟩, hno1⟩
  k_extra "goIf"
  refine cutZF (fun m => TkF ah nm qn v hv sv x m ∧ (nm == Str.ofString "callable") = false) ?_ ?_ (L := L') (h₀ := s.heap)
  · intro Z mk rt
    by_cases e : (nm == Str.ofString "callable") = true
    · have ev : lawTakes hasC nm x lh ls = takesCall hasC x := by unfold lawTakes; rw [hno1, e]; rfl
      cases hasC with
      | true =>
        have h6 : (valueAt kvs (Str.ofString "callable")).isSome = true := by rw [h5]; rfl
        k_extra "go"
        all_goals exact rt _ _ (hQ _ _ _ (Fr.keep (by assumption)) (ex_bool (by rw [ev]; simp only [takesCall, if_true, Bool.false_eq_true, if_false, *, Bool.true_or, Bool.false_or, Bool.true_and, Bool.false_and])))
      | false =>
        have h6 : (valueAt kvs (Str.ofString "callable")).isSome = false := by rw [h5]; rfl
        k_extra "go"
        · exact rt _ _ (hQ _ _ _ (Fr.keep (by assumption)) (ex_bool (by rw [ev]; simp only [takesCall, if_true, Bool.false_eq_true, if_false, *, Bool.true_or, Bool.false_or, Bool.true_and, Bool.false_and])))
        · rename ((_ == Str.ofString "object") = true) => eo
          rename ((_ == Str.ofString "string") = false) => es
          have hob : ∃ a l, x = .obj a l := by
            cases x with
            | obj a l => exact ⟨a, l, rfl⟩
            | null => exact absurd eo (by decide)
            | bool n => exact absurd eo (by cases n <;> decide)
            | int n => exact absurd eo (by rw [lk4]; decide)
            | arr n => exact absurd eo (by rw [lk6]; decide)
            | str n => exact absurd eo (by rw [lk5]; decide)
          obtain ⟨a, l, rfl⟩ := hob
          obtain ⟨rfl, hl, cv, I, Cx, hc⟩ := R
          cases Cx with
          | nil => exact absurd rfl hl.1
          | cons i r =>
            obtain ⟨tk', ak⟩ := i.name
            k_extra "go"
            exact rt _ _ (hQ _ _ _ (Fr.keep (by assumption)) (ex_bool (by rw [ev]; simp only [takesCall, Bool.false_eq_true, if_false, es, eo, Bool.false_or, Bool.true_and]; rfl)))
        · exact rt _ _ (hQ _ _ _ (Fr.keep (by assumption)) (ex_bool (by rw [ev]; simp only [takesCall, if_true, Bool.false_eq_true, if_false, *, Bool.true_or, Bool.false_or, Bool.true_and, Bool.false_and])))
    · have e : (nm == Str.ofString "callable") = false := by simpa using e
      k_extra "go"
      refine mk (by k_extra "A") ?_
      exact ⟨by k_extra "tkf", e⟩
  intro h2' tk3 m2 F2 N2 ⟨⟨f1, f2, f3, f4, f5, u6, f6⟩, hno2⟩
  k_extra "goIf"
  refine cutZF (fun m => TkF ah nm qn v hv sv x m ∧ (dictW.any fun z => z == nm) = false) ?_ ?_ (L := L') (h₀ := s.heap)
  · intro Z mk rt
    k_extra "go"
    · rename (List.any _ _ = true) => e
      rename ((_ == _) = true) => e2
      exact rt _ _ (hQ _ _ _ (Fr.keep (by assumption)) (ex_bool (by unfold lawTakes takesDict; rw [hno1, hno2, show (dictW.any fun z => z == nm) = true from e, e2]; rfl)))
    · rename (List.any _ _ = true) => e
      rename ((_ == Str.ofString "mixed") = false) => e2
      have e : (dictW.any fun z => z == nm) = true := e
      have ev : lawTakes hasC nm x lh ls = takesDict nm (lkindS x) := by unfold lawTakes; rw [hno1, hno2, e]; rfl
      rename_i hd'
      rename News _ _ _ _ => N5
      rcases dict_cases e e2 with en | en | en
      all_goals (
        refine getI_led N5 (by k_extra "mem") hd' (by rw [en]; rfl) ?_
        k_extra "go"
        exact rt _ _ (hQ _ _ _ (Fr.keep (by assumption)) (ex_bool (by rw [ev, en]; rfl))))
    · refine mk (by k_extra "A") ?_
      exact ⟨by k_extra "tkf", by assumption⟩
  intro h2' tk3 m2 F2 N2 ⟨⟨f1, f2, f3, f4, f5, u6, f6⟩, hno3⟩
  k_extra "goIf"
  refine cutZF (fun m => TkF ah nm qn v hv sv x m ∧ (nm == Str.ofString "iterable" && lkindS x == Str.ofString "array") = false) ?_ ?_ (L := L') (h₀ := s.heap)
  · intro Z mk rt
    k_extra "go"
    · rename ((_ == Str.ofString "array") = true) => e1
      rename ((_ == Str.ofString "iterable") = true) => e2
      exact rt _ _ (hQ _ _ _ (Fr.keep (by assumption)) (ex_bool (by unfold lawTakes; rw [hno1, hno2, hno3, e1, e2]; rfl)))
    all_goals (refine mk (by k_extra "A") ?_; exact ⟨by k_extra "tkf", by simp only [*, Bool.and_false, Bool.false_and]⟩)
  intro h2' tk3 m2 F2 N2 ⟨⟨f1, f2, f3, f4, f5, u6, f6⟩, hno4⟩
  have ev : lawTakes hasC nm x lh ls = takesObj nm lh ls x := by unfold lawTakes; rw [hno1, hno2, hno3, hno4]; rfl
  cases x with
  | obj a l => 
    have hlen : l.length ≤ 50 := hx
    have hnl := hnl a l rfl
    obtain ⟨rfl, _⟩ := id R
    k_extra "goIf"
    refine cutZF (fun m => TkF ah nm qn (.ref a) hv sv (.obj a l) m) ?_ ?_ (L := L') (h₀ := s.heap)
    · intro Z mk rt
      have f6' := f6
      simp only [lk7] at f6
      k_extra "go"
      · rename ((_ != _) = true) => e9
        exact absurd e9 (by rw [lk7]; decide)
      refine mk (by k_extra "A") ?_
      exact ⟨f1, f2, f3, f4, f5, u6, f6'⟩
    intro h2' tk3 m2 F2 N2 ⟨f1, f2, f3, f4, f5, u6, f6⟩
    k_extra "goIf"
    refine cutZF (fun m => TkF ah nm qn (.ref a) hv sv (.obj a l) m ∧ (nm == Str.ofString "iterable") = false) ?_ ?_ (L := L') (h₀ := s.heap)
    · intro Z mk rt
      by_cases e : (nm == Str.ofString "iterable") = true
      · k_extra "go"
        rename Fr _ _ _ _ => F3
        rename News _ _ _ _ => N3
        rename LineAt _ _ _ _ _ => hL
        refine ⟨_, _, _, _, fun i ys => LSm.BoolsAre ys ((l.take i).flatMap fun c => if c.walks then [true] else []), F3, N3, srcG_list rfl F3 N3 (src_led_list (.head _)), ⟨.nil, ?_⟩, ?_⟩
        · clear F3 N3
          intro i ys v I oI C oC D m₂ h tk E' hi hv hj hO hx F4 N4
          obtain ⟨ac, c, p, rfl, hc, ic⟩ := hL.get (i := i) (by simpa using hv)
          obtain ⟨li, Ai, Li⟩ := ic.ifs
          k_extra "go"
          refine ⟨_, _, _, _, fun j ys' => LSm.BoolsAre ys' (((l.take i).flatMap fun c => if c.walks then [true] else []) ++ (if c.walks then [true] else []).take j), rfl, F4, N4,
            srcG_list rfl F4 (fun p hp => N4 p (.tail _ (.tail _ (.tail _ hp)))) (src_base_list Li), by simpa using hj, ?_, ?_, ?_⟩
          · intro j ys' hb hlt
            have e1 := hb.length
            have e2 := flat_len (l := l.take i) (f := fun c : CI => if c.walks then [true] else []) (fun c => by split <;> simp)
            have e3 : ((if c.walks then [true] else []).take j).length ≤ 1 := by rw [List.length_take]; split <;> simp <;> omega
            simp only [List.length_append, List.length_take] at e1 e2 e3
            rw [sizeLine_eq]
            omega
          · intro ys' hb
            rw [List.take_add_one, hc, List.flatMap_append]
            cases hw : c.walks <;> simpa [hw] using hb
          · intro j ys' v' I' oI' oC' m' h' tk' E9 hj' hv' hJ hO' hx' F5 N5
            cases hw : c.walks with
            | false => simp [hw] at hj'
            | true =>
              simp only [hw, if_true, List.size_toArray, List.length_singleton] at hj'
              have hj0 : j = 0 := by omega
              rw [hj0] at hv' hJ ⊢
              simp only [hw, if_true, List.getElem?_toArray, List.getElem?_cons_zero, Option.some.injEq] at hv'
              subst hv'
              obtain ⟨tw, aw⟩ := WT.name
              k_extra "go"
              refine .mk (by k_extra "A") (by k_extra "A") ?_
              simp only [hw, if_true, List.take_zero, List.append_nil] at hJ
              have := bools_append hJ (.cons true .nil)
              exact this
        · intro D h tk ys hj F4 N4
          k_extra "go"
          refine rt _ _ (hQ _ _ _ (Fr.keep (by assumption)) (ex_bool ?_))
          have e' := hL.len
          simp only [Array.length_toList] at e'
          rw [ev, e', List.take_length, any_flat]
          unfold takesObj
          rw [e]
          rfl
      · have e : (nm == Str.ofString "iterable") = false := by simpa using e
        k_extra "go"
        refine mk (by k_extra "A") ?_
        exact ⟨by k_extra "tkf", e⟩
    intro h2' tk3 m2 F2 N2 ⟨⟨f1, f2, f3, f4, f5, u6, f6⟩, hno5⟩
    k_extra "goIf"
    refine cutZF (fun m => TkF ah nm qn (.ref a) hv sv (.obj a l) m ∧ (selfW.any fun z => z == nm) = false) ?_ ?_ (L := L') (h₀ := s.heap)
    · intro Z mk rt
      cases C1 with
      | nil =>
        have C0 : Chain w wa s.heap .none [] := .nil
        k_extra "go"
        · rename (List.any _ _ = true) => e
          rename_i hd'
          rename News _ _ _ _ => N5
          rcases self_cases e with en | en | en
          all_goals (
            refine getI_led N5 (by k_extra "mem") hd' (by rw [en]; rfl) ?_
            k_extra "go"
            exact rt _ _ (hQ _ _ _ (Fr.keep (by assumption)) (ex_bool (by rw [ev, en]; rfl))))
        · refine mk (by k_extra "A") ?_
          exact ⟨by k_extra "tkf", by assumption⟩
      | cons i1 r1 =>
        have C0 := Chain.cons i1 r1
        have ap := i1.parent
        have hp := r1.handed
        k_extra "go"
        · rename (List.any _ _ = true) => e
          rename_i hd'
          rename News _ _ _ _ => N5
          rcases self_cases e with en | en | en
          all_goals (
            refine getI_led N5 (by k_extra "mem") hd' (by rw [en]; rfl) ?_
            k_extra "go"
            exact rt _ _ (hQ _ _ _ (Fr.keep (by assumption)) (ex_bool (by rw [ev, en]; rfl))))
        · refine mk (by k_extra "A") ?_
          exact ⟨by k_extra "tkf", by assumption⟩
    intro h2' tk3 m2 F2 N2 ⟨⟨f1, f2, f3, f4, f5, u6, f6⟩, hno6⟩
    k_extra "go"
    rename Fr _ _ _ _ => F3
    rename News _ _ _ _ => N3
    rename LineAt _ _ _ _ _ => hL
    have hll := hL.len
    simp only [Array.length_toList] at hll
    have hfl := flat_len (l := l) (f := fun c : CI => if c.walks then [Value.ref wa] else []) (fun c => by split <;> simp)
    refine ⟨_, _, _, _, fun i ys => ys = (l.take i).flatMap fun c => if c.walks then [Value.ref wa] else [], F3, N3, srcG_list rfl F3 N3 (src_led_list (.head _)), ⟨rfl, ?_⟩, ?_⟩
    · clear F3 N3
      intro i ys v I oI C oC D m₂ h tk E' hi hv hj hO hx F4 N4
      obtain ⟨ac, c, p, rfl, hc, ic⟩ := hL.get (i := i) (by simpa using hv)
      obtain ⟨li, Ai, Li⟩ := ic.ifs
      k_extra "go"
      refine ⟨_, _, _, _, fun j ys' => ys' = ((l.take i).flatMap fun c => if c.walks then [Value.ref wa] else []) ++ (if c.walks then [Value.ref wa] else []).take j, rfl, F4, N4,
        srcG_list rfl F4 (fun p hp => N4 p (.tail _ (.tail _ (.tail _ hp)))) (src_base_list Li), by simpa using hj, ?_, ?_, ?_⟩
      · intro j ys' hb hlt
        have e1 := congrArg List.length hb
        have e2 := flat_len (l := l.take i) (f := fun c : CI => if c.walks then [Value.ref wa] else []) (fun c => by split <;> simp)
        have e3 : ((if c.walks then [Value.ref wa] else []).take j).length ≤ 1 := by rw [List.length_take]; split <;> simp <;> omega
        simp only [List.length_append, List.length_take] at e1 e2 e3
        rw [sizeLine_eq]
        omega
      · intro ys' hb
        rw [List.take_add_one, hc, List.flatMap_append]
        cases hw : c.walks <;> simpa [hw] using hb
      · intro j ys' v' I' oI' oC' m' h' tk' E9 hj' hv' hJ hO' hx' F5 N5
        cases hw : c.walks with
        | false => simp [hw] at hj'
        | true =>
          simp only [hw, if_true, List.size_toArray, List.length_singleton] at hj'
          have hj0 : j = 0 := by omega
          rw [hj0] at hv' hJ ⊢
          simp only [hw, if_true, List.getElem?_toArray, List.getElem?_cons_zero, Option.some.injEq] at hv'
          subst hv'
          k_extra "go"
          refine .mk (by k_extra "A") (by k_extra "A") ?_
          simp only [hw, if_true, List.take_zero, List.append_nil] at hJ
          rw [hJ]
          simp [hw]
    · intro D h tk ys hj F4 N4
      have hj : ys = l.flatMap fun c => if c.walks then [Value.ref wa] else [] := by
        rw [hj, hll, List.take_length]
      have hLw : LineAt w wa s.heap ys (l.flatMap fun c => if c.walks then [trav] else []) := by
        rw [hj]
        exact flat_line WT l
      have hL2 := hL.append hLw
      refine add_arrays F4 N4 (News.isList N4 (by k_extra "mem")) (News.isList N4 (by k_extra "mem")) (fun h' F5 N5 => ?_) ?_
      · clear F4 N4
        refine ⟨_, _, _, _, fun i ys => StrsAre ys (((withIfs l).take i).map fun c => Txt.lower c.name), F5, N5, srcG_list rfl F5 N5 (src_led_list (.head _)), ?_, ⟨.nil, ?_⟩, ?_⟩
        · have e5 := congrArg List.length hj
          rw [sizeLine_eq]; simp at e5 hfl ⊢; omega
        · clear F5 N5
          intro i ys' v I oI C oC D' m₂ h tk E' hi hv hj' hO hx F6 N6
          obtain ⟨ac, c, p, rfl, hc, ic⟩ := hL2.get (i := i) (by simpa using hv)
          obtain ⟨tk9, an9⟩ := ic.name
          have hcn : c.name.length ≤ 100 := by
            have hm := List.mem_of_getElem? hc
            rcases List.mem_append.mp hm with hm | hm
            · exact hnl c hm
            · obtain ⟨c', _, hm⟩ := List.mem_flatMap.mp hm
              cases hw : c'.walks <;> simp [hw] at hm
              rw [hm]; decide
          k_extra "go"
          exact .mk (by k_extra "A") (by k_extra "A") (strs_snoc hj' hc)
        · intro D' h tk ys' hj' F6 N6
          have e5 := hL2.len
          have hj' : StrsAre ys' ((withIfs l).map fun c => Txt.lower c.name) := by
            rw [show ((withIfs l).take _) = withIfs l from List.take_of_length_le (by simp at e5 ⊢; unfold withIfs; simp; omega)] at hj'
            exact hj'
          k_extra "go"
          refine hQ _ _ _ (Fr.keep (by assumption)) (ex_bool ?_)
          rw [ev]
          unfold takesObj
          rw [hno5, hno6]
          rfl
      · have e5 := congrArg List.length hj
        rw [sizeLine_eq]; simp at e5 hfl ⊢; omega
  | bool b =>
    cases b <;> simp only [lk2, lk3] at f6
    all_goals k_extra "go"
    all_goals exact hQ _ _ _ (Fr.keep (by assumption)) (ex_bool (by rw [ev]; rfl))
  | _ => 
    simp only [lk1, lk4, lk5, lk6] at f6
    k_extra "go"
    exact hQ _ _ _ (Fr.keep (by assumption)) (ex_bool (by rw [ev]; rfl))
theorem zw50 : True := by
  k_with "@call ref" => (case fT => ((k_dflt (refine' Mine.use1 (law_takes_c _ _ _ _ _ _ _ _ _ _ _ ?k0 ?k1 ?k2) ?u1 ?u2 ?u3 ?u4 ?u5 ?u6 ?u7 ?u8 ?_; k_extra "uup"; (case k0 => k_extra "AS"); (case k1 => k_extra "AS"); (case k2 => k_extra "AS")); intro h' tk' F' N'; k_extra "ut")))
  k_with "con" => (case fT => ((refine' law_takes_c _ _ _ _ _ _ _ _ _ _ _ ?k0 ?k1 ?k2)))
  exact True.intro
open PyProof.Rows.LCg PyProof.Rows.LCt
section
variable {w : World} {A : Around} {E : Value → Shared → Prop} {s : Shared} {h₀ : Heap} {L : Addr} {m : Str → Option Value} {env : Env}
structure CompT (w : World) (A : Around) (h₀ : Heap) (L : Addr) (m : Str → Option Value) (env : Env) (ct elt : Expr) (x : Str) (scope : Scope) (cl : List (Str × Addr)) (s₁ : Shared) (news : List (Addr × Obj)) (n : Nat) (P : Nat → Value → Prop) (J : Nat → List Value → Prop) : Prop where
  start : J 0 []
  turn : ∀ i ys v I oI C oC D m₂ h tk (E' : Value → Shared → Prop), i < n → P i v → J i ys → NsObj oC m₂ → m₂ x = some v → Fr h₀ L h m → News h₀ L h (inTurn I oI C oC D ys news) →
    wpAny (model mprog w) A (isTrue ct (compEnvC scope cl C env) (eval ct (compEnvC scope cl C env))) (fun ok s' => if ok = true then
      wpAny (model mprog w) A (eval elt (compEnvC scope cl C env)) (TurnEnd h₀ L m s₁ (inTurn I oI C oC D ys news) (fun y => J (i + 1) (ys ++ [y]))) E' s'
      else TurnEnd h₀ L m s₁ (inTurn I oI C oC D ys news) (fun _ => J (i + 1) ys) Value.none s') E' { s₁ with heap := h, toks := tk }
theorem rest_ofT {ct elt : Expr} {x : Str} {scope : Scope} {cl : List (Str × Addr)} {s₁ : Shared} {h2 : Heap} {news : List (Addr × Obj)} {n : Nat} {P : Nat → Value → Prop} {J : Nat → List Value → Prop} (c : CompT w A h₀ L m env ct elt x scope cl s₁ news n P J) :
    ∀ k i ys, i + k = n → J i ys → CompRestT mprog w A h₀ L m env ct elt x scope cl { s₁ with heap := h2 } (fun nw => nw = news) P (fun ys nw => J n ys ∧ nw = news) k i ys news := by
  intro k
  induction k with
  | zero =>
    intro i ys hi j
    obtain rfl : i = n := hi
    exact CompRestT.zero ⟨j, rfl⟩
  | succ k ih =>
    intro i ys hi j
    refine CompRestT.succ fun v I oI C oC D m₂ h tk E' hP hO hx F N off ne => ?_
    refine wpAny_mono (c.turn i ys v I oI C oC D m₂ h tk E' (by omega) hP j hO hx F N) (fun ok s' z => ?_) fun _ _ z => z
    cases ok with
    | true =>
      simp only [if_true] at z ⊢
      refine wpAny_mono z (fun y s' z => ?_) fun _ _ z => z
      cases z with
      | mk F' N' j' => exact ⟨_, _, news, rfl, F', N', off, rfl, ih (i + 1) _ (by omega) j'⟩
    | false =>
      simp only [Bool.false_eq_true, if_false] at z ⊢
      cases z with
      | mk F' N' j' => exact ⟨_, _, news, rfl, F', N', off, rfl, ih (i + 1) _ (by omega) j'⟩
inductive LtSrc (w : World) (A : Around) (h₀ : Heap) (L : Addr) (env : Env) (ct elt : Expr) (x y : Str) (scope : Scope) (cl : List (Str × Addr)) (Q : Flow → Shared → Prop) (xv : Value) (s₁ : Shared) : Prop where
  | mk (m : Str → Option Value) (news : List (Addr × Obj)) (n : Nat) (P : Nat → Value → Prop) (J : Nat → List Value → Prop) (F : Fr h₀ L s₁.heap m) (N : News h₀ L s₁.heap news) (src : SrcG A w h₀ L s₁ news xv n P) (hsz : n ≤ sizeLine) (c : CompT w A h₀ L m env ct elt x scope cl s₁ news n P J)
    (fin : ∀ D h tk ys, J n ys → Fr h₀ L h (fun z => if z = y then some (.ref D) else m z) → News h₀ L h ((D, lst ys) :: news) → Q .next { s₁ with heap := h, toks := tk })
theorem lcT_assign {ct elt iter : Expr} {x y : Str} {px py : Pos} {scope : Scope} {cl : List (Str × Addr)} {pos spos : Pos} {Q : Flow → Shared → Prop} {m₀ : Str → Option Value} (_ : Fr h₀ L s.heap m₀) (hLe : env.locals = L)
    (hsw : swapsWith (.ListComp elt [⟨.Name x px, iter, [ct], 0⟩] scope pos) (some (.Name y py)) spos.line env = pure true)
    (hclos : closureFor scope env = pure cl) (hcell : ∀ z ∈ scope.names, z.2 ≠ .cell) (hkind : scope.kind = .function)
    (hnames : ∀ z ∈ scope.names, z.2 = .local → scope.names.lookup z.1 = some .local) (hx : scope.names.lookup x = some .local)
    (hy : env.kindOf y = some .local) (hp : (env.scope.kind == .class || (env.scope.kind == .module && env.locals != env.globals)) = false) (hs : ∀ x, foldedSetIterable iter env x = pure x)
    (h : wpAny (model mprog w) A (eval iter env) (LtSrc w A h₀ L env ct elt x y scope cl Q) E s) :
    wpAny (model mprog w) A (exec (.Assign [.Name y py] (.ListComp elt [⟨.Name x px, iter, [ct], 0⟩] scope pos) spos) env) Q E s := by
  subst hLe
  rw [exec_Assign_Name_used _ _ _ _ hsw]
  refine wpAny_bind (wpAny_standAt (wpAny_bind ?_))
  show wpAny _ A (do let _ ← comprehension (.ListComp elt [⟨.Name x px, iter, [ct], 0⟩] scope pos) scope env _ (newList []) false (eval iter env) (some (assign (.Name y py) env))) _ _ s
  refine wpAny_bind (wpAny_mono (wpAny_comprehension_free (use := some (assign (.Name y py) env)) (Q := fun _ s' => Q .next s') rfl hs hclos hkind hnames
    (wpAny_mono h (fun xv s₁ h₁ => ?_) fun _ _ e => e)) (fun _ s' hq => wpAny_pure (wpAny_pure hq)) fun _ _ e => e)
  obtain ⟨m, news, n, P, J, F, N, src, hsz, c, fin⟩ := h₁
  refine src _ _ fun I fp St h2 W hIo hSt st hfp up hI => ?_
  have hnew : ∀ b, h₀.get? b = none ∨ b < s₁.heap.objs.size := fun b => by
    cases q : h₀.get? b with
    | none => exact .inl rfl
    | some o => exact .inr (Heap.lt_size (F.keep b o q))
  refine block_T W hsz hIo (S := fun nw => nw = news) (fun i h h' o nw st e e' kp N' hS => hSt i h h' o st e e' kp (hS ▸ N')) hcell hkind hx st hfp (F.keeps up) (N.grown up) (Nat.ne_of_lt (Nat.lt_of_lt_of_le F.ns.lt hI)) ((hnew I).resolve_right (Nat.not_lt.mpr hI)) (fun p hp => Nat.ne_of_lt (Nat.lt_of_lt_of_le (Heap.lt_size (N p hp).1) hI)) rfl (rest_ofT c n 0 [] (by omega) c.start) ?_
  intro D C h tk m' ys news' F' N' o1 hn hC₀ hD₀ hCL hDL hCD offC fn
  obtain ⟨j, rfl⟩ := fn
  refine wpAny_assign_Name (wpAny_storeName_local hy F'.ns (fun h₂ hn₂ hs₂ => ?_) hp)
  have hL₀ : h₀.get? env.locals = none := Heap.get?_none_of_le F'.above
  have F₂ : Fr h₀ env.locals h₂ (fun z => if z = y then some (.ref D) else m z) := ⟨hn₂, fun b o e => hs₂.extBut b o (fun q => by rw [q, hL₀] at e; cases e) (F'.keep b o e), F'.above⟩
  refine ⟨m', hn.sameBut hs₂ hCL, fun h'' hs'' => fin D h'' _ ys j (F₂.change hs'' hCL hC₀) (fun p hp => ?_)⟩
  have z : h₂.get? p.1 = some p.2 := hs₂.extBut _ _ (N' p hp).2.1 (N' p hp).1
  refine ⟨hs''.extBut _ _ ?_ z, (N' p hp).2⟩
  rcases List.mem_cons.mp hp with rfl | hp
  · exact Ne.symm hCD
  · exact offC p hp
end
open PyProof.Rows.LCg
theorem zw51 : True := by
  k_with "@exec Assign cons ListComp" => (case fT => (((with_reducible show wpAny _ _ (exec (Stmt.Assign _ (Expr.ListComp _ [Comprehension.mk _ _ [_] _] _ _) _) _) _ _ _); k_dflt (refine' Mine.lcT_assign ?z0 ?z9 ?zs ?z1 ?z2 ?z3 ?z4 ?z5 ?za ?zb ?z6 ?_; (case z0 => k_extra "A"); (case z9 => exact rfl); (case zs => first | exact rfl | with_unfolding_all rfl); (case z1 => first | exact rfl | with_unfolding_all rfl); (case z2 => decide); (case z3 => exact rfl); (case z4 => decide); (case z5 => exact rfl); (case za => exact rfl); (case zb => exact rfl); (case z6 => (intro _; exact rfl))))))
  exact True.intro
noncomputable def notNull (ns : List Str) : List Str := ns.filter fun n => !(n == Str.ofString "null")
theorem at0_led {w : PySem.World} {A : Around} {E : Value → Shared → Prop} {s : Shared} {h₀ : Heap} {L la : Addr} {news : List (Addr × Obj)} {vs : Array Value} {k : Nat} {x : Value} {u : Tok} {value : Expr} {c : Const} {n : Nat} {p : Pos} {Q : Value → Shared → Prop}
    (N : News h₀ L s.heap news) (hm : (la, W.listOf vs k) ∈ news) (hx : vs[0]? = some x) (h : Q x s) :
    wpAny (model mprog w) A (subscriptTail value (.Constant c n p) (.ref la) (.int 0 u)) Q E s := by
  have hl := News.isList N hm
  exact tail_any hl.typeIs slot_list_getitem.lookup (wpAny_getItem_list hl (by omega) (by omega) hx h) rfl
theorem notNull2 (a b : Str) : notNull [a, b] = (if (!(a == Str.ofString "null")) = true then [a] else []) ++ (if (!(b == Str.ofString "null")) = true then [b] else []) := by
  unfold notNull
  cases h1 : (!(a == Str.ofString "null")) <;> cases h2 : (!(b == Str.ofString "null")) <;> simp [List.filter_cons, h1, h2]
theorem typeText2 (a b : Str) : typeTextV [a, b] = if (a == Str.ofString "null" || b == Str.ofString "null") = true then (if (a == Str.ofString "null") = true then Str.ofString "?" ++ b else Str.ofString "?" ++ a) else Txt.join (Str.ofString "|") [a, b] := by
  unfold typeTextV
  have e : (([a, b].length : Int) = 2 ∧ ([a, b].any fun z => z == Str.ofString "null") = true) ↔ (a == Str.ofString "null" || b == Str.ofString "null") = true := by simp
  by_cases h : (a == Str.ofString "null" || b == Str.ofString "null") = true
  · rw [if_pos (e.mpr h), if_pos h]; rfl
  · rw [if_neg (fun z => h (e.mp z)), if_neg h]
theorem tt_one {ns : List Str} {o : Str} (h : ns.length = 2) (ho : notNull ns = [o]) : typeTextV ns = Str.ofString "?" ++ o := by
  match ns, h with
  | [a, b], _ =>
    rw [notNull2] at ho
    rw [typeText2]
    cases h1 : a == Str.ofString "null" <;> cases h2 : b == Str.ofString "null" <;> simp [h1, h2] at ho ⊢ <;> rw [ho]
theorem tt_many {ns : List Str} (h : ns.length = 2) (ho : ¬ (notNull ns).length < 2) : typeTextV ns = Txt.join (Str.ofString "|") ns := by
  match ns, h with
  | [a, b], _ =>
    rw [notNull2] at ho
    rw [typeText2]
    cases h1 : a == Str.ofString "null" <;> cases h2 : b == Str.ofString "null" <;> simp [h1, h2] at ho ⊢
theorem law_type_text_c {w : World} {mean mg mb} (na : Addr) (ns : List Str) (hns : ∀ n ∈ ns, n.length ≤ 100) (hn : ns.length ≤ 4) (hn0 : 0 < ns.length) (hnn : notNull ns ≠ []) :
    Pure w mean mg mb 940 950 778 [.ref na] (fun h => TupStrs h na ns) (fun _ r _ => ∃ u, r = .str (typeTextV ns) u) := by
  k_extra "E0"
  refine in_mono (A' := ⟨none, 940, A.frames, A.guards, 950⟩) ?_ e1 e2 rfl rfl e3
  k_extra "E1"
  refine' enterZ (binds := [("names", .ref na)]) W ?k1 ?kf1 ?kf2 ?kf3 ?k2 ?k3 ?k4 ?k5 ?_ ?k6 ?k7 ?k8 ?k9
  k_extra "E5"
  have hw : (ns.map (·.length)).sum + ns.length ≤ 1048576 := by have := sum_small hns; omega
  obtain ⟨vs, hvs, hss⟩ := id R
  k_extra "go"
  have hl := strsAre_len hss
  refine ⟨_, _, _, _, fun i ys => StrsAre ys (notNull (ns.take i)), F', N', srcG_tuple rfl F' N' (src_base_tuple hvs), ?_, ⟨.nil, ?_⟩, ?_⟩
  · rw [sizeLine_eq]; simp; omega
  · clear F' N'
    intro i ys v I oI C oC D m₂ h tk E' hi hv hj hO hx F4 N4
    obtain ⟨nm, qn, hn1, rfl⟩ := strsAre_get hss (i := i) (by simpa using hv)
    have et : notNull (ns.take (i + 1)) = notNull (ns.take i) ++ notNull [nm] := by
      unfold notNull; rw [List.take_add_one, hn1, List.filter_append]; rfl
    k_extra "go"
    · rename ((_ != _) = true) => e
      refine .mk (by k_extra "A") (by k_extra "A") ?_
      rw [et]
      refine strsAre_append0 hj ?_
      have e : (!(nm == Str.ofString "null")) = true := e
      unfold notNull
      rw [List.filter_cons, if_pos e]
      exact .cons _ _ .nil
    · rename ((_ != _) = false) => e
      refine .mk (by k_extra "A") (by k_extra "A") ?_
      rw [et]
      have e : (!(nm == Str.ofString "null")) = false := e
      have e3 : notNull [nm] = [] := by unfold notNull; rw [List.filter_cons, if_neg (by rw [e]; simp)]; rfl
      rw [e3, List.append_nil]
      exact hj
  · clear F' N'
    intro D h tk ys hj F4 N4
    have hj2 : StrsAre ys (notNull ns) := by simpa [hl] using hj
    clear hj
    have hol := strsAre_len hj2
    have hk2 : StrsAre ys (notNull ns) ∧ True := ⟨hj2, True.intro⟩
    have hnl : (notNull ns).length ≤ ns.length := List.length_filter_le _ _
    k_extra "go"
    · rename ((_ : Int) < _) => e1'
      rename ((_ : Int) = _) => e2'
      obtain ⟨o, ho⟩ : ∃ o, notNull ns = [o] := by
        cases q : notNull ns with
        | nil => exact absurd q hnn
        | cons o r =>
          cases r with
          | nil => exact ⟨o, rfl⟩
          | cons a b => rw [q] at e1'; simp at e1'; omega
      have hom : o ∈ notNull ns := by rw [ho]; exact .head _
      have hlo : o.length ≤ 100 := hns o (List.mem_filter.mp hom).1
      rw [ho] at hk2
      obtain ⟨hj2, _⟩ := hk2
      cases hj2 with
      | cons o t hr =>
        cases hr with
        | nil =>
          rename News _ _ _ _ => N5
          refine at0_led (x := .str o t) N5 (.head _) rfl ?_
          k_extra "go"
          exact hQ _ _ _ (Fr.keep (by assumption)) (ex_str' (tt_one (by omega) ho).symm)
    · rename (¬ (_ : Int) < _) => e1'
      rename ((_ : Int) = _) => e2'
      exact hQ _ _ _ (Fr.keep (by assumption)) (ex_str' (tt_many (by omega) (by omega)).symm)
    · rename ((_ : Int) ≠ _) => e2'
      exact hQ _ _ _ (Fr.keep (by assumption)) (ex_str' (by unfold typeTextV; rw [if_neg (fun z => e2' z.1)]))
theorem zw52 : True := by
  k_with "@call ref" => (case fT => ((k_dflt (refine' Mine.use2 (law_type_text_c _ _ ?k0 ?k1 ?k2 ?k3) ?u1 ?u2 ?u3 ?u4 ?u5 ?u6 ?u7 ?u8 ?_; k_extra "uup"; (case k0 => k_extra "AS"); (case k1 => k_extra "AS"); (case k2 => k_extra "AS"); (case k3 => k_extra "AS")); intro tv' h' tk' F' N'; k_extra "ut")))
  k_with "con" => (case fT => ((refine' law_type_text_c _ _ ?k0 ?k1 ?k2 ?k3)))
  exact True.intro
open W
noncomputable abbrev fsOf (outer : List Env) : List Addr := outer.filterMap (·.frame)
structure Turned (fs : List Addr) (h h' : Heap) : Prop where
  other : ∀ b o, h.get? b = some o → b ∉ fs → h'.get? b = some o
  frame : ∀ b o, h.get? b = some o → b ∈ fs → ∃ sl, h'.get? b = some { o with slots := sl }
theorem Turned.of_stays {fs : List Addr} {h h' : Heap} (k : h.StaysIn h') : Turned fs h h' := ⟨fun b o e _ => k b o e, fun b o e _ => ⟨o.slots, k b o e⟩⟩
theorem Turned.of_turn {fs : List Addr} {h g h' : Heap} (T : KtsTurn fs h g) (k : g.StaysIn h') : Turned fs h h' :=
  ⟨fun b o e m => k b o (T.other b o e m), fun b o e m => let ⟨sl, z⟩ := T.frame b o e m; ⟨sl, k _ _ z⟩⟩
noncomputable def PureT (w : World) (mean : ExcName → Option Value) (mg mb : Str → Option Value) (d u : Nat) (f : Addr) (vs : List Value) (Pre : Heap → Prop) (Post : Heap → Value → Heap → Prop) : Prop :=
  ∀ (A : Around) (base : Heap) (outer : List Env) (s : Shared) (Gf : Heap) (Q E : Value → Shared → Prop), A.handled = none → A.depth ≤ d → A.units ≤ u → Below A base outer s.heap → Wd w mean mg mb base → KtsDicts (fsOf outer) s.heap →
    Gf.StaysIn s.heap → (∀ a ∈ fsOf outer, Gf.get? a = none) → Pre Gf →
    (∀ v h' tk, Turned (fsOf outer) s.heap h' → Post s.heap v h' → Q v { s with heap := h', toks := tk }) →
    wpAny (model Challenge.rw_pq0857_01.row.prog w) A (call (.ref f) vs) Q E s
theorem useRX {w : World} {mean : ExcName → Option Value} {mg mb : Str → Option Value} {d u : Nat} {f : Addr} {vs : List Value} {Pre : Heap → Prop} {Post : Heap → Value → Heap → Prop} {Bad : Prop} {A : Around} {s : Shared} {Q E : Value → Shared → Prop}
    {name : Str} {scope : Scope} {L a : Addr} {cd : Value} {base g : Heap} {outer : List Env} {m : Str → Option Value} {news : List (Addr × Obj)} (P : PureR w mean mg mb d u f vs Pre Post Bad) (B : Below A base outer g) (F : Fr g L s.heap m) (N : News g L s.heap news) (W0 : Wd w mean mg mb base)
    (e1 : (A.deeper (envOf name scope L a cd)).handled = none) (e2 : (A.deeper (envOf name scope L a cd)).depth ≤ d) (e3 : (A.deeper (envOf name scope L a cd)).units ≤ u) (hp : Pre s.heap) (hk : scope.kind = .function)
    (k : ∀ v h' tk, Fr g L h' m → News g L h' news → s.heap.StaysIn h' → Post s.heap v h' → Q v { s with heap := h', toks := tk })
    (kE : ∀ e s', Bad → Exc base s.heap (envOf name scope L a cd :: outer) s e s' → E e s') :
    wpAny (model Challenge.rw_pq0857_01.row.prog w) (A.deeper (envOf name scope L a cd)) (call (.ref f) vs) Q E s :=
  P _ base (envOf name scope L a cd :: outer) s Q _ e1 e2 e3 (B.push F hk) W0 hp (fun v h' tk st po => k v h' tk (F.keeps st) (N.grown st) st po) kE
theorem caughtLO {w : World} {mean : ExcName → Option Value} {mg mb : Str → Option Value} {A : Around} {s s' : Shared} {e : Value} {Q : Flow → Shared → Prop}
    {name : Str} {scope : Scope} {L a : Addr} {cd : Value} {base g : Heap} {outer : List Env} {m : Str → Option Value} {b₀ : Stmt} {suite : List Stmt} {pos np : Pos} {rest : List ExceptHandler}
    (x : Exc base s.heap (envOf name scope L a cd :: outer) s e s') (B : Below A base outer g) (F : Fr g L s.heap m) (W0 : Wd w mean mg mb base) (D : KtsDicts (fsOf outer) g)
    (hk : scope.kind = .function) (hx : (envOf name scope L a cd).kindOf "LeftOut" = some .globalImplicit)
    (k : ∀ ea h' tk g', KtsTurn (fsOf outer) g g' → Fr g' L h' m →
      wpAny (model Challenge.rw_pq0857_01.row.prog w) ((A.deeper (envOf name scope L a cd)).mark (some (.ref ea))) (execs (b₀ :: suite) (envOf name scope L a cd)) Q (fun _ _ => False) { s with heap := h', toks := tk }) :
    wpAny (model Challenge.rw_pq0857_01.row.prog w) (A.deeper (envOf name scope L a cd)) (noteFrame e (envOf name scope L a cd)) (fun _ s₂ => wpAny (model Challenge.rw_pq0857_01.row.prog w) (A.deeper (envOf name scope L a cd)) (setFlight e none) (fun _ s₃ =>
      wpAny (model Challenge.rw_pq0857_01.row.prog w) (A.deeper (envOf name scope L a cd)) (handleBy e (envOf name scope L a cd) (.ExceptHandler (some (.Name "LeftOut" np)) none (b₀ :: suite) pos :: rest)) Q (fun _ _ => False) s₃) (fun _ _ => False) s₂) (fun _ _ => False) s' := by
  obtain ⟨ea, h', tk, rfl, rfl, R, hu⟩ := x
  refine kts_lookSN R F B hu D fun h₁ R₁ hu₁ => ?_
  refine hit_SN0 (KF := Hd.K w.params) (g₀ := g) (mean := mean) R₁ F B hu₁ W0.X W0.T D KtsTurn.refl (test_name (.inl (nLeftOut _)) (by kernel_rfl) hk hx (by rfl)) (fun h₂ g' T₂ F₂ N₂ _ _ _ _ => k ea h₂ tk g' T₂ F₂) ?_
  exact PassesOwnAt.never
open W
noncomputable def toldV (o : Option Bool) (r : Value) : Prop := match o with | none => ∃ t, r = .str (Str.ofString "left") t | some b => r = .bool b
noncomputable def AskAt (w : World) (wa ah na : Addr) (hasC : Bool) (ns : List Str) (x : V) (v hv sv : Value) (lh ls : List CI) (h : Heap) : Prop :=
  TupStrs h na ns ∧ Rep w wa h x v ∧ HostAt w h ah hasC ∧ Chain w wa h hv lh ∧ Chain w wa h sv ls ∧ IsCls w wa h wa trav .none
theorem AskAt.keeps {w : World} {wa ah na : Addr} {hasC : Bool} {ns : List Str} {x : V} {v hv sv : Value} {lh ls : List CI} {h h' : Heap} (a : AskAt w wa ah na hasC ns x v hv sv lh ls h) (k : h.StaysIn h') : AskAt w wa ah na hasC ns x v hv sv lh ls h' :=
  ⟨a.1.keeps k, a.2.1.keeps k, a.2.2.1.keeps k, a.2.2.2.1.keeps k, a.2.2.2.2.1.keeps k, a.2.2.2.2.2.keeps k⟩
theorem Fr.none_of {h₀ h : Heap} {L a : Addr} {m : Str → Option Value} (F : Fr h₀ L h m) (e : h.get? a = none) : h₀.get? a = none := by
  cases q : h₀.get? a with
  | none => rfl
  | some o => rw [F.keep a o q] at e; cases e
theorem law_accepts_c {w : World} {mean mg mb} (wa ah na : Addr) (hasC : Bool) (ns : List Str) (x : V) (v hv sv : Value) (lh ls : List CI) (hx : x.ok) (hns : ∀ n ∈ ns, n.length ≤ 100) :
    PureT w mean mg mb 840 850 752 [.ref ah, .ref na, v, hv, sv] (AskAt w wa ah na hasC ns x v hv sv lh ls) (fun _ r _ => toldV (acceptsV hasC ns x lh ls) r) := by
  intro A base outer s Gf Q E e1 e2 e3 B0 W0 D0 gs gn R hQ
  have W : Wd w mean mg mb s.heap := W0.keeps B0.stays
  refine in_mono (A' := ⟨none, 840, some outer, A.guards, 850⟩) ?_ e1 e2 B0.stack rfl e3
  have B1 : Below ⟨none, 840, some outer, A.guards, 850⟩ base outer s.heap := ⟨rfl, B0.stays, B0.frames⟩
  k_extra "E4"
  refine' enterP (binds := [("host", .ref ah), ("names", .ref na), ("value", v), ("here", hv), ("static", sv)]) W ?k1 ?kf1 ?kf2 ?kf3 ?k2 ?k3 ?k4 ?k5 ?_ ?k6 ?k7 ?k8 ?k9
  k_extra "E2"
  walk1
  refine wpAny_Try_except ?_
  iterate 30 (first | (with_reducible show wpAny _ _ (call (Value.ref 491) _) _ _ _) | ((try dsimp only); walk1))
  refine useRX (accepts_c wa ah na hasC ns x v hv sv lh ls hx hns) B1 F' N' W0 rfl (Nat.le_of_ble_eq_true rfl) (Nat.le_of_ble_eq_true rfl) ((R.keeps gs).keeps F'.keep) rfl ?_ ?_
  · intro v' h' tk F2 N2 st hv'
    obtain ⟨b, hb, rfl⟩ := hv'
    k_extra "go"
    exact hQ _ _ _ (.of_stays F2.keep) (by show toldV _ _; rw [hb]; rfl)
  · intro e s' bad x
    refine caughtLO x B1 F' W0 D0 rfl rfl fun ea h' tk g' T2 F2 => ?_
    k_extra "go"
    exact hQ _ _ _ (.of_turn T2 F2.keep) (by show toldV _ _; rw [bad]; exact ⟨_, rfl⟩)
noncomputable def toldC (w : World) (wa : Addr) (o : Option (Bool × V)) (r : Value) (h : Heap) : Prop := match o with | none => ∃ t, r = .str (Str.ofString "left") t | some p => Pair w wa h r p.1 p.2
noncomputable def toldF (w : World) (wa : Addr) (o : Option (Bool × V)) (h₀ : Heap) (r : Value) (h : Heap) : Prop := match o with | none => ∃ t, r = .str (Str.ofString "left") t | some p => PairN w wa h₀ h r p.1 p.2
theorem law_coerced_c {w : World} {mean mg mb} (wa ah na : Addr) (hasC : Bool) (ns : List Str) (x : V) (v : Value) (st : Bool) (hv sv : Value) (lh ls : List CI) (hx : x.ok) (hns : ∀ n ∈ ns, n.length ≤ 100) (hnm : ∀ a c l, x = .obj a (c :: l) → c.name.length ≤ 100) :
    PureT w mean mg mb 840 850 759 [.ref ah, .ref na, v, .bool st, hv, sv] (AskAt w wa ah na hasC ns x v hv sv lh ls) (fun h₀ r h' => toldF w wa (coerceV hasC ns x st lh ls) h₀ r h') := by
  intro A base outer s Gf Q E e1 e2 e3 B0 W0 D0 gs gn R hQ
  have W : Wd w mean mg mb s.heap := W0.keeps B0.stays
  refine in_mono (A' := ⟨none, 840, some outer, A.guards, 850⟩) ?_ e1 e2 B0.stack rfl e3
  have B1 : Below ⟨none, 840, some outer, A.guards, 850⟩ base outer s.heap := ⟨rfl, B0.stays, B0.frames⟩
  k_extra "E4"
  refine' enterP (binds := [("host", .ref ah), ("names", .ref na), ("value", v), ("is_strict", .bool st), ("here", hv), ("static", sv)]) W ?k1 ?kf1 ?kf2 ?kf3 ?k2 ?k3 ?k4 ?k5 ?_ ?k6 ?k7 ?k8 ?k9
  k_extra "E2"
  walk1
  refine wpAny_Try_except ?_
  iterate 30 (first | (with_reducible show wpAny _ _ (call (Value.ref 505) _) _ _ _) | ((try dsimp only); walk1))
  refine useRX (coerce_c wa ah na hasC ns x v st hv sv lh ls hx hns hnm) B1 F' N' W0 rfl (Nat.le_of_ble_eq_true rfl) (Nat.le_of_ble_eq_true rfl) ((R.keeps gs).keeps F'.keep) rfl ?_ ?_
  · intro v' h' tk F2 N2 st hv'
    obtain ⟨ok, y, hb, hp⟩ := hv'
    k_extra "go"
    exact hQ _ _ _ (.of_stays F2.keep) (by show toldF _ _ _ _ _ _; rw [hb]; obtain ⟨a, v2, q1, q2, q3, q4⟩ := hp; exact ⟨a, v2, q1, q2, Mine.Fr.none_of F' q3, q4⟩)
  · intro e s' bad x
    refine caughtLO x B1 F' W0 D0 rfl rfl fun ea h' tk g' T2 F2 => ?_
    k_extra "go"
    exact hQ _ _ _ (.of_turn T2 F2.keep) (by show toldF _ _ _ _ _ _; rw [bad]; exact ⟨_, rfl⟩)
theorem useT {w : World} {mean : ExcName → Option Value} {mg mb : Str → Option Value} {d u : Nat} {f : Addr} {vs : List Value} {Pre : Heap → Prop} {Post : Heap → Value → Heap → Prop} {A : Around} {s : Shared} {Q E : Value → Shared → Prop}
    {name : Str} {scope : Scope} {L a : Addr} {cd : Value} {base g Gf : Heap} {outer : List Env} {m : Str → Option Value} {news : List (Addr × Obj)} (P : PureT w mean mg mb d u f vs Pre Post) (B : Below A base outer g) (F : Fr g L s.heap m) (N : News g L s.heap news) (W0 : Wd w mean mg mb base) (D : KtsDicts (fsOf outer) g)
    (gs : Gf.StaysIn g) (gn : ∀ a ∈ fsOf outer, Gf.get? a = none)
    (e1 : (A.deeper (envOf name scope L a cd)).handled = none) (e2 : (A.deeper (envOf name scope L a cd)).depth ≤ d) (e3 : (A.deeper (envOf name scope L a cd)).units ≤ u) (hp : Pre Gf) (hk : scope.kind = .function)
    (k : ∀ v h' tk g', KtsTurn (fsOf outer) g g' → Fr g' L h' m → News g' L h' news → Below A base outer g' → KtsDicts (fsOf outer) g' → Gf.StaysIn g' → Wd w mean mg mb g' → Post s.heap v h' → Q v { s with heap := h', toks := tk }) :
    wpAny (model Challenge.rw_pq0857_01.row.prog w) (A.deeper (envOf name scope L a cd)) (call (.ref f) vs) Q E s := by
  have nL : g.get? L = none := kts_self F
  refine P _ base (envOf name scope L a cd :: outer) s Gf Q E e1 e2 e3 (B.push F hk) W0 ?_ (fun b o e => F.keep b o (gs b o e)) ?_ hp ?_
  · intro b hb
    rcases kts_mem hb with rfl | hb
    · obtain ⟨o, es, ep, ho, hd, _⟩ := F.ns
      exact ⟨o, es, ep, ho, hd⟩
    · obtain ⟨o, es, n, ho, hd⟩ := D b hb
      exact ⟨o, es, n, F.keep _ _ ho, hd⟩
  · intro b hb
    rcases kts_mem hb with rfl | hb
    · cases q : Gf.get? b with
      | none => rfl
      | some o => rw [gs _ _ q] at nL; cases nL
    · exact gn b hb
  · intro v h' tk T po
    have inL : L ∈ fsOf (envOf name scope L a cd :: outer) := List.mem_filterMap.mpr ⟨_, .head _, rfl⟩
    have up : ∀ b ∈ fsOf outer, b ∈ fsOf (envOf name scope L a cd :: outer) := fun b hb => by
      obtain ⟨e, he, hf⟩ := List.mem_filterMap.mp hb
      exact List.mem_filterMap.mpr ⟨e, .tail _ he, hf⟩
    obtain ⟨T1, S⟩ := kts_turn_at (h := h') (fs := fsOf outer) (g := g) (fun b hb => by obtain ⟨o, _, _, ho, _⟩ := D b hb; exact ⟨o, ho⟩)
      (fun b o e nm => T.other b o (F.keep b o e) (fun hm => by
        rcases kts_mem hm with z | z
        · rw [z, nL] at e; cases e
        · exact nm z))
      (fun b o e hm => T.frame b o (F.keep b o e) (up b hm))
    have nsL : h'.Ns L m := by
      obtain ⟨o, es, ep, ho, hd, r⟩ := F.ns
      obtain ⟨sl, z⟩ := T.frame L o ho inL
      exact ⟨_, es, ep, z, hd, r⟩
    have F' : Fr (ktsHeap h' (fsOf outer) g) L h' m := ⟨nsL, S, by rw [T1.size]; exact F.above⟩
    have st' : base.StaysIn (ktsHeap h' (fsOf outer) g) := fun b o e => T1.other b o (B.stays b o e) fun hm => by rw [(B.frames.mem hm).1] at e; cases e
    refine k v h' tk _ T1 F' (fun p hp => ?_) ⟨B.stack, st', B.frames.of_keeps fun b o e _ => ?_⟩ (D.turn T1) (fun b o e => T1.other b o (gs b o e) fun m => by rw [gn b m] at e; cases e) (W0.keeps st') po
    · obtain ⟨z1, z2, z3⟩ := N p hp
      refine ⟨T.other _ _ z1 fun hm => ?_, z2, T1.none_ _ z3⟩
      rcases kts_mem hm with z | z
      · exact z2 z
      · obtain ⟨o, _, _, ho, _⟩ := D _ z
        rw [z3] at ho; cases ho
    · obtain ⟨sl, hs⟩ := T1.up e
      exact ⟨_, hs, rfl⟩
open PyProof.Rows.LCg
theorem enterC {w : World} {mean : ExcName → Option Value} {mg mb : Str → Option Value} {A : Around} {s : Shared} {Q E : Value → Shared → Prop} {f : Addr} {vs : List Value} {binds : List (Str × Value)}
    {name qual : Str} {p params : Arguments} {b body : List Stmt} {sc scope : Scope} {dV kV doc pm cdv ct oc : Value} {an od : Option Addr} {osl : Array (Option Value)}
    (W : Wd w mean mg mb s.heap) (ho : (Hd.K w.params).lookup f = some ⟨oc, od, .func (fdOf name qual p b sc dV kV doc pm an cdv ct), osl⟩) (he1 : p = params) (he2 : b = body) (he3 : sc = scope) (hcd : codeIn (Hd.K w.params) cdv qual = true) (hroom : A.depth < recursionLimit)
    (hbind : BindsTo s (fnOf name qual params body scope dV kV doc pm an cdv ct) ⟨vs, []⟩ binds) (hkind : ∀ n, KindsOk scope n binds) (hnd : ((cellsFrom 0 scope.names []).map (·.1)).Nodup)
    (h : ∀ L' h₁ tk cells, Fr s.heap L' h₁ (bindL (envOfC qual scope L' f cdv).kindOf binds fun _ => none) → News s.heap L' h₁ cells →
      CellsAre (bindC (envOfC qual scope L' f cdv).kindOf binds fun _ => none) (cellsFrom (L' + 1) scope.names []) cells →
      wpAny (model Challenge.rw_pq0857_01.row.prog w) (A.deeper (envOfC qual scope L' f cdv)) (execs body (envOfC qual scope L' f cdv))
        (fun fl s' => Q (match fl with | .ret v => v | _ => .none) s') (fun _ _ => False) { s with heap := h₁, toks := tk })
    (hco : scope.isCoroutine = false) (hgen : scope.isGenerator = false) (hk : scope.kind = .function) :
    wpAny (model Challenge.rw_pq0857_01.row.prog w) A (call (.ref f) vs) Q E s := by
  subst he1 he2 he3
  refine wpAny_call (codeAny_call_function hroom (W.X _ _ ho) rfl hco hgen rfl (codeRec_of W.X hcd) (hbind _ _ _ _ ?_))
  refine wpAny_newFunctionEnv_cells hk (fun x hx => kinds_of (hkind _) x hx) fun env' he s' x => ?_
  subst he
  refine ⟨W.T.nolimit.keeps x.toInCall.keep, codeAny_func ?_⟩
  obtain ⟨h₁, tk, rfl, _⟩ := x.done
  obtain ⟨cells, NC, Y⟩ := Cl.news (h₀ := s.heap) (Nat.le_refl _) fun n c hm => ⟨x.cell n c (lookup_of_mem_nodup (cellsFrom_names sc.names 0 (s.heap.objs.size + 1) [] [] rfl ▸ hnd) hm), x.above n c hm⟩
  exact wpAny_mono (h _ h₁ tk cells ⟨x.toInCall.ns, x.toInCall.keep, x.toInCall.fresh⟩ NC Y) (fun _ _ z => z) fun _ _ z => z.elim
section
variable {w : World} {A : Around} {E : Value → Shared → Prop} {s : Shared} {P : Params} {h₀ : Heap} {L C c a : Addr} {m mg mb : Str → Option Value} {news : List (Addr × Obj)} {scope cs : Scope} {cl : List (Str × Addr)} {env : Env} {p : Program} {loose : List Str} {mean : ExcName → Option Value} {x cn : Str} {ccd : Value} {pos : Pos} {v : Value} {o : Obj} {Q : Value → Shared → Prop} {M : Model}
theorem cxL (F : Fr h₀ L s.heap m) (hv : m x = some v) (h : Q v s) (hk : cs.kind = .function) (hl : (envOfC cn cs L a ccd).kindOf x = some .local) (hd : (x == ("__debug__" : Str)) = false) :
    wpAny M A (eval (.Name x pos) (envOfC cn cs L a ccd)) Q E s := ldLoc F hv h hk hl hd
theorem cxC (N : News h₀ L s.heap news) (hc : (cellsFrom (L + 1) cs.names []).lookup x = some c) (hm : (c, o) ∈ news) (hd : o.data = .cell (some v)) (h : Q v s) (hk : cs.kind = .function) (hl : (envOfC cn cs L a ccd).kindOf x = some .cell) (hb : (x == ("__debug__" : Str)) = false) :
    wpAny M A (eval (.Name x pos) (envOfC cn cs L a ccd)) Q E s := ldCN N hc hm hd h hk hl hb
theorem cxK (F : Fr h₀ L s.heap m) (X : (Hd.K P).In h₀) (T : Top p loose mean mg mb h₀) (e : nsIn (Hd.K P) mainGlobals x = some (some v)) (h : Q v s) (hk : cs.kind = .function) (hx : (envOfC cn cs L a ccd).kindOf x = some .globalImplicit) (hd : (x == ("__debug__" : Str)) = false) :
    wpAny M A (eval (.Name x pos) (envOfC cn cs L a ccd)) Q E s := W.nameX_K (cl := cellsFrom (L + 1) cs.names []) F X (topRead_of T) e h hk hx hd
theorem cxB (F : Fr h₀ L s.heap m) (X : (Hd.K P).In h₀) (T : Top p loose mean mg mb h₀) (e : nsIn (Hd.K P) mainGlobals x = some none ∧ bootBuiltins x = some v) (hn : x ≠ "__name__") (h : Q v s) (hk : cs.kind = .function) (hx : (envOfC cn cs L a ccd).kindOf x = some .globalImplicit) (hd : (x == ("__debug__" : Str)) = false) :
    wpAny M A (eval (.Name x pos) (envOfC cn cs L a ccd)) Q E s := W.nameX_B (cl := cellsFrom (L + 1) cs.names []) F X (topRead_of T) e.1 e.2 hn h hk hx hd
theorem lcC (N : News h₀ L s.heap news) (hc : cl.lookup x = some c) (hm : (c, o) ∈ news) (hd : o.data = .cell (some v)) (h : Q v s) (hk : (compEnvC scope cl C env).scope.kind = .function) (hx : (compEnvC scope cl C env).kindOf x = some .cell) (hb : (x == ("__debug__" : Str)) = false) :
    wpAny M A (eval (.Name x pos) (compEnvC scope cl C env)) Q E s := W.lcf_cell N hc hm hd h hk hx hb
end
theorem zw53 : True := by
  k_with "enterC" => (case fT => ((
  (case k1 => k_is); (case kf1 => (conv => lhs; whnf)); (case kf2 => (conv => lhs; whnf)); (case kf3 => (conv => lhs; whnf)); (case k2 => k_is); (case k3 => exact Nat.le_of_ble_eq_true rfl); (case k4 => exact BindsTo.of_eq rfl); (case k5 => (intro _; repeat (first | exact True.intro | refine And.intro (.inl rfl) ?_ | refine And.intro (.inr ⟨rfl, rfl⟩) ?_))); (case kn => decide); (case k7 => rfl); (case k8 => rfl); (case k9 => rfl))))
  k_with "@eval Name" => (case fT => (((with_reducible show wpAny _ _ (eval (Expr.Name _ _) (envOfC _ _ _ _ _)) _ _ _); k_dflt (first
  | (refine' Mine.cxL ?n1 ?n2 ?_ ?n5 ?n6 ?n7; (case n1 => k_extra "A"); (case n6 => exact rfl); (case n2 => k_extra "look"); (case n5 => exact rfl); (case n7 => exact rfl))
  | (refine' Mine.cxC ?n1 ?n2 ?n3 ?n4 ?_ ?n5 ?n6 ?n7; (case n1 => k_extra "A"); (case n6 => exact rfl); (case n2 => exact rfl); (case n3 => k_extra "mem"); (case n4 => k_extra "A"); (case n5 => exact rfl); (case n7 => exact rfl))
  | (refine' Mine.cxK ?n1 ?n2 ?n3 ?n4 ?_ ?n5 ?n6 ?n7; (case n1 => k_extra "A"); (case n2 => k_extra "A"); (case n4 => k_extra "nmK"); (case n3 => k_extra "A"); (case n5 => exact rfl); (case n6 => exact rfl); (case n7 => exact rfl))
  | (refine' Mine.cxB ?n1 ?n2 ?n3 ?n4 ?na ?_ ?n5 ?n6 ?n7; (case n1 => k_extra "A"); (case n2 => k_extra "A"); (case n4 => k_extra "nmB"); (case n3 => k_extra "A"); (case na => decide); (case n5 => exact rfl); (case n6 => exact rfl); (case n7 => exact rfl))))))
  k_with "@eval Name" => (case fT => (((with_reducible show wpAny _ _ (eval (Expr.Name _ _) (compEnvC _ _ _ (envOfC _ _ _ _ _))) _ _ _); k_dflt (refine' Mine.lcC ?n1 ?n2 ?n3 ?n4 ?_ ?n5 ?n6 ?n7; (case n1 => k_extra "A"); (case n6 => exact rfl); (case n2 => exact rfl); (case n3 => k_extra "mem"); (case n4 => k_extra "A"); (case n5 => exact rfl); (case n7 => exact rfl)))))
  exact True.intro
open PyProof.Rows.LCg
noncomputable def acceptedV (hasC : Bool) (ns : List Str) (x : V) (lh ls : List CI) : Option Bool :=
  if (ns.any fun n => !(n == Str.ofString "float") && lawTakes hasC n x lh ls) = true then some true else if isLeft ns = true then none else some false
theorem law_accepted_c {w : World} {mean mg mb} (wa ah na : Addr) (hasC : Bool) (ns : List Str) (x : V) (v hv sv : Value) (lh ls : List CI) (hx : x.ok) (hns : ∀ n ∈ ns, n.length ≤ 100) (hnl : ∀ a l, x = .obj a l → ∀ c ∈ l, c.name.length ≤ 100) (hlen : ns.length ≤ 100) :
    Pure w mean mg mb 880 890 719 [.ref ah, .ref na, v, hv, sv] (fun h => AskAt w wa ah na hasC ns x v hv sv lh ls h) (fun _ r _ => toldV (acceptedV hasC ns x lh ls) r) := by
  k_extra "E0"
  refine in_mono (A' := ⟨none, 880, A.frames, A.guards, 890⟩) ?_ e1 e2 rfl rfl e3
  k_extra "E1"
  refine' enterC (binds := [("host", .ref ah), ("names", .ref na), ("value", v), ("here", hv), ("static", sv)]) W ?k1 ?kf1 ?kf2 ?kf3 ?k2 ?k3 ?k4 ?k5 ?kn ?_ ?k7 ?k8 ?k9
  k_extra "enterC"
  have X' := W.X
  have T' := W.T
  clear W
  intro L' h₁ tk2 cells F0 N0 Y0
  obtain ⟨o1, o2, o3, o4, rfl, c1, c2, c3, c4⟩ := CellsAre.four Y0
  clear Y0
  replace c1 : o1.data = .cell (some sv) := c1
  replace c2 : o2.data = .cell (some hv) := c2
  replace c3 : o3.data = .cell (some v) := c3
  replace c4 : o4.data = .cell (some (.ref ah)) := c4
  replace F0 : Fr s.heap L' h₁ (fun y => if y = Str.ofString "names" then some (.ref na) else none) := F0
  obtain ⟨NS, R, H, C1, C2, WT⟩ := R
  obtain ⟨vs, hvs, hss⟩ := id NS
  have hl := strsAre_len hss
  k_extra "go"
  refine ⟨_, _, _, _, fun i ys => LSm.BoolsAre ys ((ns.take i).map fun n => !(n == Str.ofString "float") && lawTakes hasC n x lh ls), F0, N0, srcG_tuple rfl F0 N0 (src_base_tuple hvs), ?_, ⟨.nil, ?_⟩, ?_⟩
  · rw [sizeLine_eq]; simp; omega
  · clear F0 N0
    intro i ys v' I oI C oC D m₂ h tk E' hi hv' hj hO hx' F4 N4
    obtain ⟨nm, qn, hn1, rfl⟩ := strsAre_get hss (i := i) (by simpa using hv')
    have hn := hns nm (List.mem_of_getElem? hn1)
    k_extra "go"
    · rename ((_ != _) = true) => e
      have e : (!(nm == Str.ofString "float")) = true := e
      refine .mk (by k_extra "A") (by k_extra "A") ?_
      have := bools_snoc (f := fun n => !(n == Str.ofString "float") && lawTakes hasC n x lh ls) hj hn1
      simp only [e, Bool.true_and] at this
      exact this
    · rename ((_ != _) = false) => e
      rw [e]
      have e : (!(nm == Str.ofString "float")) = false := e
      refine .mk (by k_extra "A") (by k_extra "A") ?_
      have := bools_snoc (f := fun n => !(n == Str.ofString "float") && lawTakes hasC n x lh ls) hj hn1
      simp only [e, Bool.false_and] at this
      exact this
  · clear F0 N0
    intro D h tk ys hj F4 N4
    have hj2 : LSm.BoolsAre ys (ns.map fun n => !(n == Str.ofString "float") && lawTakes hasC n x lh ls) := by simpa [hl] using hj
    clear hj
    have ea : ((ns.map fun n => !(n == Str.ofString "float") && lawTakes hasC n x lh ls).any id) = ns.any fun n => !(n == Str.ofString "float") && lawTakes hasC n x lh ls := by rw [List.any_map]; rfl
    k_extra "go"
    · rename (List.any _ _ = true) => e
      rw [ea] at e
      exact hQ _ _ _ (Fr.keep (by assumption)) (by show toldV _ _; unfold acceptedV; rw [if_pos e]; rfl)
    · rename (List.any _ _ = true) => e
      rename (List.any (List.map _ _) _ = false) => e2
      rw [ea] at e2
      exact hQ _ _ _ (Fr.keep (by assumption)) (by show toldV _ _; unfold acceptedV; rw [if_neg (by rw [e2]; simp), if_pos (show isLeft ns = true from e)]; exact ⟨_, rfl⟩)
    · rename (List.any (List.map _ _) _ = false) => e2
      rename (List.any _ _ = false) => e
      rw [ea] at e2
      exact hQ _ _ _ (Fr.keep (by assumption)) (by show toldV _ _; unfold acceptedV; rw [if_neg (by rw [e2]; simp), if_neg (by unfold isLeft; rw [e]; simp)]; rfl)
open PyProof.Rows.LCg
inductive LNum where
  | no
  | left
  | num (n : Int)
noncomputable def lawNum (t : Str) : LNum := if (numericV t).sort = 2 then (match (numericV t).value with | some n => .num n | none => .left) else .no
noncomputable def lnumV (o : LNum) (r : Value) : Prop := match o with | .no => r = .none | .left => ∃ t, r = .str (Str.ofString "left") t | .num n => ∃ t, r = .int n t
section
variable {w : World} {A : Around} {E : Value → Shared → Prop} {s : Shared} {h₀ : Heap} {L c a : Addr} {m : Str → Option Value} {news : List (Addr × Obj)} {cs : Scope} {x cn : Str} {ccd v : Value} {v₀ : Option Value} {o : Obj} {g : Obj → List (Addr × Obj)} {Q : Unit → Shared → Prop} {M : Model}
theorem csL (F : Fr h₀ L s.heap m) (N : News h₀ L s.heap news) (h : ∀ h', Fr h₀ L h' (fun y => if y = x then some v else m y) → News h₀ L h' news → Q () { s with heap := h', toks := s.toks + 1 })
    (hk : cs.kind = .function) (hx : (envOfC cn cs L a ccd).kindOf x = some .local) : wpAny M A (storeName (envOfC cn cs L a ccd) x v) Q E s := stLocN F N h hk hx
theorem csC (F : Fr h₀ L s.heap m) (N : News h₀ L s.heap news) (hc : (cellsFrom (L + 1) cs.names []).lookup x = some c) (U : W.UpdF c o news g) (hd : o.data = .cell v₀)
    (h : ∀ h' o', Fr h₀ L h' m → News h₀ L h' (g o') → o'.data = .cell (some v) → Q () { s with heap := h' })
    (hk : cs.kind = .function) (hx : (envOfC cn cs L a ccd).kindOf x = some .cell) : wpAny M A (storeName (envOfC cn cs L a ccd) x v) Q E s := W.storeX_C (cl := cellsFrom (L + 1) cs.names []) F N hc U hd h hk hx
end
theorem zw54 : True := by
  k_with "@storeName" => (case fT => (((with_reducible show wpAny _ _ (storeName (envOfC _ _ _ _ _) _ _) _ _ _); (first
  | (k_dflt (refine' Mine.csL ?n1 ?n2 ?_ ?n5 ?n6; (case n1 => k_extra "A"); (case n6 => exact rfl); (case n2 => k_extra "A"); (case n5 => exact rfl)); intro h' F' N')
  | (k_dflt (refine' Mine.csC ?n1 ?n2 ?n3 ?n4 ?n7 ?_ ?n5 ?n6; (case n1 => k_extra "A"); (case n6 => exact rfl); (case n2 => k_extra "A"); (case n3 => exact rfl); (case n4 => k_updF); (case n7 => k_extra "A"); (case n5 => exact rfl)); intro h' o' F' N' hd')); (try k_sweep))))
  exact True.intro
inductive CutEndN (h₀ : Heap) (L : Addr) (s : Shared) (J : (Str → Option Value) → List (Addr × Obj) → Prop) (K : Flow → Shared → Prop) : Flow → Shared → Prop where
  | make {h' : Heap} {tk : Nat} {m' : Str → Option Value} {nw : List (Addr × Obj)} (F : Fr h₀ L h' m') (N : News h₀ L h' nw) (j : J m' nw) : CutEndN h₀ L s J K .next { s with heap := h', toks := tk }
  | ret {v : Value} {s' : Shared} (h : K (.ret v) s') : CutEndN h₀ L s J K (.ret v) s'
theorem cutN {M : Model} {A : Around} {E : Value → Shared → Prop} {s : Shared} {h₀ : Heap} {L : Addr} {t : Sem Flow} {K : Flow → Shared → Prop} (J : (Str → Option Value) → List (Addr × Obj) → Prop)
    (h1 : wpAny M A t (CutEndN h₀ L s J K) (fun _ _ => False) s)
    (h2 : ∀ h' tk m' nw, Fr h₀ L h' m' → News h₀ L h' nw → J m' nw → K .next { s with heap := h', toks := tk }) : wpAny M A t K E s :=
  wpAny_mono h1 (fun _ _ x => by cases x with
    | make F N j => exact h2 _ _ _ _ F N j
    | ret h => exact h) fun _ _ x => x.elim
theorem cutZN {M : Model} {A : Around} {E : Value → Shared → Prop} {s : Shared} {h₀ : Heap} {L : Addr} {t : Sem Flow} {K : Flow → Shared → Prop} (J : (Str → Option Value) → List (Addr × Obj) → Prop)
    (h1 : ∀ Z : Flow → Shared → Prop, (∀ {h' tk m' nw}, Fr h₀ L h' m' → News h₀ L h' nw → J m' nw → Z .next { s with heap := h', toks := tk }) → (∀ v s', K (.ret v) s' → Z (.ret v) s') → wpAny M A t Z (fun _ _ => False) s)
    (h2 : ∀ h' tk m' nw, Fr h₀ L h' m' → News h₀ L h' nw → J m' nw → K .next { s with heap := h', toks := tk }) : wpAny M A t K E s :=
  cutN J (h1 _ (fun F N j => .make F N j) fun _ _ x => .ret x) h2
noncomputable def OneCell (c : Addr) (v : Option Value) (nw : List (Addr × Obj)) : Prop := ∃ o, nw = [(c, o)] ∧ o.data = .cell v
theorem digs : inS (Str.ofString "0123456789") = isD := by
  funext c
  have e : (Str.ofString "0123456789").cps.toList = [48, 49, 50, 51, 52, 53, 54, 55, 56, 57] := by decide +kernel
  unfold inS isD
  rw [e, show [48, 49, 50, 51, 52, 53, 54, 55, 56, 57] = List.range' 48 10 from rfl, Bool.eq_iff_iff, decide_eq_true_eq, Bool.and_eq_true, decide_eq_true_eq, decide_eq_true_eq, List.mem_range'_1]
  exact ⟨fun h => ⟨h.1, Nat.le_of_lt_succ h.2⟩, fun h => ⟨h.1, Nat.lt_succ_of_le h.2⟩⟩
theorem blks : inS (Str.ofString " \t\n\x0d\x0b\x0c") = isB := by
  funext c
  have e : (Str.ofString " \t\n\x0d\x0b\x0c").cps.toList = [32, 9, 10, 13, 11, 12] := by decide +kernel
  unfold inS isB
  rw [e]
theorem pm {t : Str} {i : Int} : ([Str.ofString "-", Str.ofString "+"].any fun x => x == Txt.slice t (some i) (some (i + 1))) = oneOf ["+", "-"] t i := by
  unfold oneOf
  simp only [List.any_cons, List.any_nil, Bool.or_false]
  exact Bool.or_comm _ _
noncomputable def lnEnd0 (t : Str) : Int := if (Txt.slice t (some (numBehind t)) (some (numBehind t + 1)) == Str.ofString ".") = true then scan isD t (numBehind t + 1).toNat else numBehind t
theorem dot_lt {t : Str} {i : Int} (h0 : 0 ≤ i) (h : (Txt.slice t (some i) (some (i + 1)) == Str.ofString ".") = true) : i < t.length :=
  oneOf_lt (l := [Str.ofString "."]) h0 (by decide) (by unfold oneOf; rw [List.any_cons, Bool.or_eq_true]; left; rw [beq_iff_eq] at h ⊢; exact h.symm)
theorem slice_len {t : Str} {i j : Int} (h0 : 0 ≤ i) (h1 : i ≤ j) (h2 : j ≤ t.length) : (Txt.slice t (some i) (some j)).length = (j - i).toNat := by
  obtain ⟨a, rfl⟩ := Int.eq_ofNat_of_zero_le h0
  obtain ⟨n, rfl⟩ := Int.le.dest h1
  rw [slice_at h0 h1]
  show (List.take (((a : Int) + n - a).toNat) (t.cps.toList.drop a)).length = _
  rw [List.length_take, List.length_drop, Array.length_toList, add_sub_l]
  exact Nat.min_eq_left (Nat.le_sub_of_add_le' (Int.ofNat_le.mp h2))
theorem whole_nil {t : Str} : (Txt.slice t (some (numSign t)) (some (numBehind t)) == Str.ofString "") = true ↔ numBehind t = numSign t := by
  obtain ⟨n1, n2, n3, n4, n5⟩ := numeric_bounds t
  have e := slice_len (Int.le_trans n1 n2) n4 n5
  rw [beq_iff_eq, show Str.ofString "" = ⟨#[]⟩ by decide +kernel]
  constructor
  · intro h
    rw [h] at e
    exact Int.le_antisymm (Int.le_of_sub_nonpos (Int.toNat_eq_zero.mp e.symm)) n4
  · intro h
    rw [h, slice_at (Int.le_trans n1 n2) (Int.le_refl _), Int.sub_self]
    rfl
structure LnWord (t : Str) (a n : Nat) (W : Str) : Prop where
  ea : (numSign t).toNat = a
  eb : (numBehind t).toNat = a + n
  small : n ≤ 900
  fits : a + n ≤ t.cps.size
  dig : ∀ k, a ≤ k → k < a + n → isD (t.cps.getD k 0) = true
  len : W.length = n
  at_ : ∀ j, j < n → W.cps.getD j 0 = t.cps.getD (a + j) 0
theorem ln_word {t : Str} (ht : t.length ≤ 900) : ∃ a n, LnWord t a n (Txt.slice t (some (numSign t)) (some (numBehind t))) := by
  obtain ⟨n1, n2, n3, n4, n5⟩ := numeric_bounds t
  have n0 := Int.le_trans n1 n2
  have hd : ∀ k, (numSign t).toNat ≤ k → k < (numBehind t).toNat → isD (t.cps.getD k 0) = true := fun k k1 k2 => scan_all k1 (by rw [numBehind, Int.toNat_natCast] at k2; exact k2)
  obtain ⟨a, ea⟩ := Int.eq_ofNat_of_zero_le n0
  obtain ⟨n, eb⟩ := Int.le.dest n4
  rw [ea] at eb n0
  rw [← eb] at n4 n5 hd ⊢
  rw [ea] at n4 hd ⊢
  have hs : a + n ≤ t.cps.size := Int.ofNat_le.mp n5
  refine ⟨a, n, by rw [ea]; rfl, by rw [← eb]; rfl, Nat.le_trans (Nat.le_add_left _ _) (Nat.le_trans hs ht), hs, hd, ?_, fun j hj => ?_⟩
  · rw [slice_len n0 n4 n5, add_sub_l]; rfl
  · rw [slice_at n0 n4, add_sub_l]
    show (((t.cps.toList.drop a).take n).toArray).getD j 0 = _
    simp only [Array.getD_eq_getD_getElem?, List.getElem?_toArray, List.getElem?_take, List.getElem?_drop, hj, if_true, Array.getElem?_toList]
theorem ln_pointed {t : Str} (h : ¬ ((Txt.slice t (some (numSign t)) (some (numBehind t)) == Str.ofString "") = true ∧ lnEnd0 t < numBehind t + 2)) :
    numPointed t = (Txt.slice t (some (numBehind t)) (some (numBehind t + 1)) == Str.ofString ".") := by
  have nb := numeric_bounds t
  unfold numPointed
  cases q : (Txt.slice t (some (numBehind t)) (some (numBehind t + 1)) == Str.ofString ".") with
  | false => rfl
  | true =>
    rw [Bool.true_and, Bool.or_eq_true, decide_eq_true_eq]
    by_cases e : numSign t < numBehind t
    · exact .inl e
    · right
      have e0 : numBehind t = numSign t := by omega
      have h1 : ¬ lnEnd0 t < numBehind t + 2 := fun z => h ⟨whole_nil.mpr e0, z⟩
      unfold lnEnd0 at h1
      rw [if_pos q] at h1
      cases d : isDig t (numBehind t + 1).toNat with
      | true => rfl
      | false =>
        have := @scan_end isD t (numBehind t + 1).toNat (by unfold isDig at d; simpa using d)
        omega
theorem ln_no1 {t : Str} (h : (Txt.slice t (some (numSign t)) (some (numBehind t)) == Str.ofString "") = true) (h2 : lnEnd0 t < numBehind t + 2) : lawNum t = .no := by
  have nb := numeric_bounds t
  have e := whole_nil.mp h
  have hp : numPointed t = false := by
    unfold numPointed
    cases q : (Txt.slice t (some (numBehind t)) (some (numBehind t + 1)) == Str.ofString ".") with
    | false => rfl
    | true =>
      rw [Bool.true_and, Bool.or_eq_false_iff]
      refine ⟨by simp; omega, ?_⟩
      unfold lnEnd0 at h2
      rw [if_pos q] at h2
      cases d : isDig t (numBehind t + 1).toNat with
      | false => rfl
      | true =>
        simp only [isDig, Bool.and_eq_true, decide_eq_true_eq] at d
        have a := @scan_go isD t (numBehind t + 1).toNat d.1 d.2
        have b := scan_ge isD t ((numBehind t + 1).toNat + 1)
        omega
  have e2 : numericV t = ⟨0, some 0⟩ := by unfold numericV; rw [if_pos ⟨e, hp⟩]
  unfold lawNum
  rw [e2]
  rfl
theorem ln_far {t : Str} (h : ¬ ((Txt.slice t (some (numSign t)) (some (numBehind t)) == Str.ofString "") = true ∧ lnEnd0 t < numBehind t + 2)) : expB t (lnEnd0 t) = numFar t := by
  unfold numFar lnEnd0
  rw [ln_pointed h]
theorem ln_some {t : Str} (h : ¬ ((Txt.slice t (some (numSign t)) (some (numBehind t)) == Str.ofString "") = true ∧ lnEnd0 t < numBehind t + 2)) : ¬ (numBehind t = numSign t ∧ numPointed t = false) := by
  rintro ⟨e, hp⟩
  refine h ⟨whole_nil.mpr e, ?_⟩
  rw [ln_pointed h] at hp
  unfold lnEnd0
  rw [if_neg (by rw [hp]; simp)]
  omega
theorem ln_no2 {t : Str} (h : ¬ (numBehind t = numSign t ∧ numPointed t = false)) (h2 : (scan isB t (numFar t).toNat : Int) ≠ t.length) : lawNum t = .no := by
  have e2 : numericV t = ⟨1, numValue t⟩ := by unfold numericV; rw [if_neg h, if_neg h2]
  unfold lawNum
  rw [e2]
  rfl
theorem ln_left {t : Str} (h : ¬ (numBehind t = numSign t ∧ numPointed t = false)) (h2 : (scan isB t (numFar t).toNat : Int) = t.length) (h3 : numFar t ≠ numBehind t) : lawNum t = .left := by
  have e2 : numericV t = ⟨2, numValue t⟩ := by unfold numericV; rw [if_neg h, if_pos h2]
  have e3 : numValue t = none := by unfold numValue; rw [if_neg h3]
  unfold lawNum
  rw [e2, e3]
  rfl
theorem ln_num {t : Str} (h : ¬ (numBehind t = numSign t ∧ numPointed t = false)) (h2 : (scan isB t (numFar t).toNat : Int) = t.length) (h3 : numFar t = numBehind t) :
    lawNum t = match signedV (Txt.slice t (some (numFirst t)) (some (numFirst t + 1)) == Str.ofString "-") (sat (dfold 0 (cut t (numSign t).toNat (numBehind t).toNat))) with | some n => .num n | none => .left := by
  have e2 : numericV t = ⟨2, numValue t⟩ := by unfold numericV; rw [if_neg h, if_pos h2]
  have e3 : numValue t = signedV (Txt.slice t (some (numFirst t)) (some (numFirst t + 1)) == Str.ofString "-") (sat (dfold 0 (cut t (numSign t).toNat (numBehind t).toNat))) := by unfold numValue; rw [if_pos h3]
  unfold lawNum
  rw [e2, e3]
  rfl
theorem dig_scan {t : Str} {j : Int} (h0 : 0 ≤ j) : isDig t j.toNat = true ↔ j < scan isD t j.toNat := by
  obtain ⟨b, rfl⟩ := Int.eq_ofNat_of_zero_le h0
  refine ⟨fun h => Int.ofNat_lt.mpr ?_, fun h => ?_⟩
  · rw [Int.toNat_natCast, isDig, Bool.and_eq_true, decide_eq_true_eq] at h
    show b < scan isD t b
    rw [scan_go h.1 h.2]
    exact scan_ge _ _ _
  · cases q : isDig t (b : Int).toNat with
    | true => rfl
    | false =>
      rw [scan_end (by unfold isDig at q; simpa using q)] at h
      exact absurd h (Int.lt_irrefl _)
theorem exp_go {t : Str} {i j : Int} (he : oneOf ["e", "E"] t i = true) (hj : j = if oneOf ["+", "-"] t (i + 1) = true then i + 1 + 1 else i + 1) (h0 : 0 ≤ j) (h : j < scan isD t j.toNat) : expB t i = scan isD t j.toNat := by
  unfold expB
  rw [if_pos he]
  dsimp only
  rw [← hj, if_pos ((dig_scan h0).mpr h)]
theorem exp_stay {t : Str} {i j : Int} (he : oneOf ["e", "E"] t i = true) (hj : j = if oneOf ["+", "-"] t (i + 1) = true then i + 1 + 1 else i + 1) (h0 : 0 ≤ j) (h : ¬ j < scan isD t j.toNat) : expB t i = i := by
  unfold expB
  rw [if_pos he]
  dsimp only
  rw [← hj, if_neg (fun z => h ((dig_scan h0).mp z))]
theorem find_all : ∀ k : Fin 10, Txt.find (Str.ofString "0123456789") ⟨#[48 + k.1]⟩ = ((48 + k.1 : Nat) : Int) - 48 := by decide +kernel
theorem find_dig {c : Nat} (h : isD c = true) : Txt.find (Str.ofString "0123456789") ⟨#[c]⟩ = (c : Int) - 48 := by
  rw [isD, Bool.and_eq_true, decide_eq_true_eq, decide_eq_true_eq] at h
  obtain ⟨k, rfl⟩ := Nat.le.dest h.1
  exact find_all ⟨k, Nat.lt_of_add_lt_add_left (Nat.lt_succ_of_le h.2)⟩
noncomputable def digT (t : Str) (a n k : Nat) : Int := ((t.cps.getD (a + (n - 1 - k)) 0 : Nat) - 48 : Int) * 10 ^ k
theorem sum_ten (f g : Nat → Int) : ∀ l : List Nat, (∀ k ∈ l, f k = g k * 10) → (l.map f).sum = (l.map g).sum * 10
  | [], _ => rfl
  | k :: r, h => by rw [List.map_cons, List.map_cons, List.sum_cons, List.sum_cons, sum_ten f g r (fun k hk => h k (.tail _ hk)), h k (.head _), Int.add_mul]
theorem sum_digs (t : Str) (a : Nat) : ∀ n, a + n ≤ t.cps.size → ((List.range n).map (digT t a n)).sum = dfold 0 (cut t a (a + n))
  | 0, _ => by
    show _ = dfold 0 (List.drop a (List.take a _))
    rw [List.drop_of_length_le (List.length_take_le _ _)]
    rfl
  | n + 1, h => by
    have hl := Nat.lt_of_succ_le h
    rw [List.range_succ_eq_map, List.map_cons, List.sum_cons, List.map_map, sum_ten _ (digT t a n) _ ?_, sum_digs t a n (Nat.le_of_lt hl), ← Nat.add_assoc, cut_snoc _ _ _ (Nat.le_add_right _ _) hl]
    · unfold dfold digT
      rw [List.foldl_append, Int.pow_zero, Int.mul_one, Int.add_comm, ← Int.add_sub_assoc]
      rfl
    · intro k hk
      unfold digT Function.comp
      dsimp only
      rw [Nat.add_sub_cancel, Nat.sub_sub, Nat.add_comm 1, Int.pow_succ, Int.mul_assoc]
theorem LnWord.item {t W : Str} {a n i : Nat} (K : LnWord t a n W) (hi : i < n) : Txt.item W ((W.length : Int) - 1 - (0 + (i : Int))) = ⟨#[t.cps.getD (a + (n - 1 - i)) 0]⟩ := by
  have h1 := Nat.sub_one_sub_lt hi
  have e : (W.length : Int) - 1 - (0 + (i : Int)) = ((n - 1 - i : Nat) : Int) := by rw [K.len]; omega
  rw [e, item_nat W (by rw [show W.cps.size = n from K.len]; exact h1), K.at_ _ h1]
theorem LnWord.isD {t W : Str} {a n i : Nat} (K : LnWord t a n W) (hi : i < n) : isD (t.cps.getD (a + (n - 1 - i)) 0) = true := K.dig _ (Nat.le_add_right _ _) (Nat.add_lt_add_left (Nat.sub_one_sub_lt hi) a)
theorem digT_is {t : Str} {a n i : Nat} : ((t.cps.getD (a + (n - 1 - i)) 0 : Nat) - 48 : Int) * 10 ^ (0 + (i : Int)).toNat = digT t a n i := by
  unfold digT
  rw [Int.zero_add, Int.toNat_natCast]
theorem dig_mul {c : Nat} {x : Int} (h : Mine.isD c = true) : IntMulOk ((c : Int) - 48) x := by
  rw [Mine.isD, Bool.and_eq_true, decide_eq_true_eq, decide_eq_true_eq] at h
  exact IntMulOk.of_left (intBits_le_64 (by omega) (by omega))
theorem ln_end {t : Str} (ht : t.length ≤ 900) : 0 ≤ lnEnd0 t ∧ lnEnd0 t ≤ 900 ∧ numBehind t ≤ lnEnd0 t := by
  obtain ⟨n1, n2, n3, n4, n5⟩ := numeric_bounds t
  have n0 := Int.le_trans (Int.le_trans n1 n2) n4
  have n6 : numBehind t ≤ 900 := Int.le_trans n5 (Int.ofNat_le.mpr ht)
  unfold lnEnd0
  split
  · rename_i q
    have hlt := dot_lt n0 q
    generalize numBehind t = y at *
    obtain ⟨b, rfl⟩ := Int.eq_ofNat_of_zero_le n0
    refine ⟨Int.natCast_nonneg _, Int.ofNat_le.mpr (Nat.le_trans (scan_le isD t (b + 1)) (Nat.max_le.mpr ⟨?_, ht⟩)), Int.ofNat_le.mpr (Nat.le_trans (Nat.le_succ b) (scan_ge isD t (b + 1)))⟩
    exact Nat.le_trans (Int.ofNat_lt.mp hlt) ht
  · exact ⟨n0, n6, Int.le_refl _⟩
theorem ln_first {t : Str} (h : ¬ ((Txt.slice t (some (numSign t)) (some (numBehind t)) == Str.ofString "") = true ∧ lnEnd0 t < numBehind t + 2)) (hf : lnEnd0 t ≤ numFar t) (e : numFar t = numBehind t) : numFirst t < t.length := by
  obtain ⟨n1, n2, n3, n4, n5⟩ := numeric_bounds t
  rcases Int.lt_or_eq_of_le n4 with q | q
  · exact Int.lt_of_le_of_lt n2 (Int.lt_of_lt_of_le q n5)
  · exact absurd ⟨whole_nil.mpr q.symm, Int.lt_of_le_of_lt (e ▸ hf) (by omega)⟩ h
theorem cut_ge {t : Str} {a b : Nat} (hd : ∀ k, a ≤ k → k < b → isD (t.cps.getD k 0) = true) : 0 ≤ dfold 0 (cut t a b) :=
  dfold_ge (fun c hc => by obtain ⟨k, k1, k2, _, rfl⟩ := cut_mem hc; exact dig_48 (hd k k1 k2)) (Int.le_refl 0)
theorem ln_in {b : Bool} {n v : Int} (h0 : 0 ≤ n) (hv : v = if b then -n else n) (h1 : -2 ^ Int.toNat 63 ≤ v) (h2 : v < 2 ^ Int.toNat 63) : signedV b (sat n) = some v := by
  have p63 : (2 : Int) ^ Int.toNat 63 = 9223372036854775808 := by decide
  unfold signedV sat
  rw [p63] at h1 h2
  cases b
  all_goals (simp only [if_true, Bool.false_eq_true, if_false] at hv ⊢; rw [hv] at h1 h2 ⊢; rw [if_neg (by omega), if_neg (by omega)])
theorem ln_out {b : Bool} {n v : Int} (h0 : 0 ≤ n) (hv : v = if b then -n else n) (h : ¬ -2 ^ Int.toNat 63 ≤ v ∨ ¬ v < 2 ^ Int.toNat 63) : signedV b (sat n) = none := by
  have p63 : (2 : Int) ^ Int.toNat 63 = 9223372036854775808 := by decide
  unfold signedV sat
  rw [p63] at h
  cases b
  all_goals (simp only [if_true, Bool.false_eq_true, if_false] at hv ⊢; rw [hv] at h; rw [if_pos]; split <;> omega)
theorem item_one {t : Str} {i : Int} (h0 : 0 ≤ i) (h : i < t.length) : Txt.item t i = Txt.slice t (some i) (some (i + 1)) := by
  have hl : t.length = t.cps.size := rfl
  rw [item_at t i h0 h, slice_at h0 (by omega), show (i + 1 - i).toNat = 1 by omega, List.drop_eq_getElem_cons (by simp; omega)]
  simp only [List.take_succ_cons, List.take_zero]
  congr 2
  have : i.toNat < t.cps.size := by omega
  simp [Array.getD, this]
open PyProof.Rows.LCg
inductive Ln (c : Addr) (wv : Tok → Option Value) (t : Str) (qt : Tok) (x1 : Str) (i1 : Int) (x2 : Str) (i2 : Int) (x3 : Str) (i3 : Int) (X : Prop) (m : Str → Option Value) (nw : List (Addr × Obj)) : Prop
  | mk (u : Tok) (o : Obj) (u1 u2 u3 : Tok) : nw = [(c, o)] → o.data = .cell (wv u) → m "text" = some (.str t qt) → m x1 = some (.int i1 u1) → m x2 = some (.int i2 u2) → m x3 = some (.int i3 u3) → X → Ln c wv t qt x1 i1 x2 i2 x3 i3 X m nw
theorem Ln.of {c : Addr} {wv : Tok → Option Value} {t : Str} {qt : Tok} {x1 x2 x3 : Str} {i1 i2 i3 a1 a2 a3 : Int} {X : Prop} {m : Str → Option Value} {nw : List (Addr × Obj)} {u1 u2 u3 : Tok} (u : Tok) {o : Obj} (en : nw = [(c, o)]) (hc : o.data = .cell (wv u)) (h0 : m "text" = some (.str t qt)) (h1 : m x1 = some (.int a1 u1)) (h2 : m x2 = some (.int a2 u2)) (h3 : m x3 = some (.int a3 u3)) (hX : X) (e1 : a1 = i1) (e2 : a2 = i2) (e3 : a3 = i3) : Ln c wv t qt x1 i1 x2 i2 x3 i3 X m nw := by
  subst e1 e2 e3
  exact ⟨u, o, u1, u2, u3, en, hc, h0, h1, h2, h3, hX⟩
theorem law_number_c {w : World} {mean mg mb} (t : Str) (qt : Tok) (ht : t.length ≤ 900) :
    Pure w mean mg mb 920 930 676 [.str t qt] (fun _ => True) (fun _ r _ => lnumV (lawNum t) r) := by
  k_extra "E0"
  refine in_mono (A' := ⟨none, 920, A.frames, A.guards, 930⟩) ?_ e1 e2 rfl rfl e3
  k_extra "E1"
  refine' enterC (binds := [("text", .str t qt)]) W ?k1 ?kf1 ?kf2 ?kf3 ?k2 ?k3 ?k4 ?k5 ?kn ?_ ?k7 ?k8 ?k9
  k_extra "enterC"
  have X' := W.X
  have T' := W.T
  clear W
  intro L' h₁ tk2 cells F0 N0 Y0
  obtain ⟨o1, rfl, c1⟩ := CellsAre.one Y0
  clear Y0
  replace c1 : o1.data = .cell none := c1
  replace F0 : Fr s.heap L' h₁ (fun y => if y = Str.ofString "text" then some (.str t qt) else none) := F0
  have hl : t.length = t.cps.size := rfl
  have nb := numeric_bounds t
  have nf : (scan isB t 0 : Int) = numFirst t := rfl
  walk1
  refine cutZN (Ln (L' + 1) (fun _ => none) t qt "first" (numFirst t) "first" (numFirst t) "first" (numFirst t) (True)) ?_ ?_ (L := L') (h₀ := s.heap)
  · intro Z mk rt
    k_extra "go"
    exact mk (by k_extra "A") (by k_extra "A") (.of 0 rfl c1 (by k_extra "look") (by k_extra "look") (by k_extra "look") (by k_extra "look") trivial (by rw [blks]; rfl) (by rw [blks]; rfl) (by rw [blks]; rfl))
  clear nf F0 N0 c1
  rintro h2 tk3 m2 _ F2 N2 ⟨_, o1, u1, _, _, rfl, c1, hm1, hm2, _, _, _⟩
  walk1
  refine cutZN (Ln (L' + 1) (fun _ => none) t qt "first" (numFirst t) "begin" (numSign t) "begin" (numSign t) (True)) ?_ ?_ (L := L') (h₀ := s.heap)
  · intro Z mk rt
    k_extra "go"
    · rename (List.any _ _ = true) => hb
      rw [pm] at hb
      rename News _ _ _ _ => N5
      exact mk (by k_extra "A") (nw := [(L' + 1, o1)]) N5 (.of 0 rfl c1 (by k_extra "look") (by k_extra "look") (by k_extra "look") (by k_extra "look") trivial rfl (by unfold numSign; rw [if_pos hb]) (by unfold numSign; rw [if_pos hb]))
    · rename (List.any _ _ = false) => hb
      rw [pm] at hb
      rename News _ _ _ _ => N5
      exact mk (by k_extra "A") (nw := [(L' + 1, o1)]) N5 (.of 0 rfl c1 (by k_extra "look") (by k_extra "look") (by k_extra "look") (by k_extra "look") trivial rfl (by unfold numSign; rw [if_neg (by rw [hb]; simp)]) (by unfold numSign; rw [if_neg (by rw [hb]; simp)]))
  clear F2 N2 c1 hm1 hm2
  rintro h2 tk3 m2 _ F2 N2 ⟨_, o1, u1, u2, _, rfl, c1, hm1, hm2, hm3, _, _⟩
  walk1
  refine cutZN (Ln (L' + 1) (fun _ => none) t qt "first" (numFirst t) "begin" (numSign t) "behind" (numBehind t) (True)) ?_ ?_ (L := L') (h₀ := s.heap)
  · intro Z mk rt
    k_extra "go"
    exact mk (by k_extra "A") (by k_extra "A") (.of 0 rfl c1 (by k_extra "look") (by k_extra "look") (by k_extra "look") (by k_extra "look") trivial rfl rfl (by rw [digs]; rfl))
  clear F2 N2 c1 hm1 hm2 hm3
  rintro h2 tk3 m2 _ F2 N2 ⟨_, o1, u1, u2, u3, rfl, c1, hm1, hm2, hm3, hm4, _⟩
  walk1
  refine cutZN (Ln (L' + 1) (fun u => some (.str (Txt.slice t (some (numSign t)) (some (numBehind t))) u)) t qt "first" (numFirst t) "behind" (numBehind t) "end" (numBehind t) (True)) ?_ ?_ (L := L') (h₀ := s.heap)
  · intro Z mk rt
    k_extra "go"
    rename News _ _ _ _ => N5
    refine mk (by k_extra "A") (nw := [(L' + 1, _)]) (fun p hp => N5 p (.tail _ ?_)) (.of _ rfl (by k_extra "A") (by k_extra "look") (by k_extra "look") (by k_extra "look") (by k_extra "look") trivial rfl rfl rfl)
    exact hp
  clear F2 N2 c1 hm1 hm2 hm3 hm4
  rintro h2 tk3 m2 _ F2 N2 ⟨u4, o1, u1, u2, u3, rfl, c1, hm1, hm2, hm3, hm4, _⟩
  have hb1 := ln_end ht
  k_extra "goIf"
  refine cutZN (Ln (L' + 1) (fun u => some (.str (Txt.slice t (some (numSign t)) (some (numBehind t))) u)) t qt "first" (numFirst t) "behind" (numBehind t) "end" (lnEnd0 t) (True)) ?_ ?_ (L := L') (h₀ := s.heap)
  · intro Z mk rt
    k_extra "go"
    · rename ((_ == Str.ofString ".") = true) => e
      refine mk (by k_extra "A") (by k_extra "A") (.of _ rfl (by k_extra "A") (by k_extra "look") (by k_extra "look") (by k_extra "look") (by k_extra "look") trivial rfl rfl ?_)
      unfold lnEnd0; rw [if_pos e, digs]
    · rename ((_ == Str.ofString ".") = false) => e
      refine mk (by k_extra "A") (by k_extra "A") (.of _ rfl (by k_extra "A") (by k_extra "look") (by k_extra "look") (by k_extra "look") (by k_extra "look") trivial rfl rfl ?_)
      unfold lnEnd0; rw [if_neg (by rw [e]; simp)]
  clear F2 N2 c1 hm1 hm2 hm3 hm4
  rintro h2 tk3 m2 _ F2 N2 ⟨u4, o1, u1, u2, u3, rfl, c1, hm1, hm2, hm3, hm4, _⟩
  k_extra "goIf"
  refine cutZN (Ln (L' + 1) (fun u => some (.str (Txt.slice t (some (numSign t)) (some (numBehind t))) u)) t qt "first" (numFirst t) "behind" (numBehind t) "end" (lnEnd0 t) (¬ ((Txt.slice t (some (numSign t)) (some (numBehind t)) == Str.ofString "") = true ∧ lnEnd0 t < numBehind t + 2))) ?_ ?_ (L := L') (h₀ := s.heap)
  · intro Z mk rt
    k_extra "go"
    · rename ((_ == Str.ofString "") = true) => e
      rename (lnEnd0 t < _) => e2
      refine rt _ _ (hQ _ _ _ (Fr.keep (by assumption)) ?_)
      show lnumV _ _
      rw [ln_no1 e e2]
      rfl
    · rename (¬ lnEnd0 t < _) => e2
      exact mk (by k_extra "A") (by k_extra "A") (.of _ rfl (by k_extra "A") (by k_extra "look") (by k_extra "look") (by k_extra "look") (by k_extra "look") (fun q => e2 q.2) rfl rfl rfl)
    · rename ((_ == Str.ofString "") = false) => e
      exact mk (by k_extra "A") (by k_extra "A") (.of _ rfl (by k_extra "A") (by k_extra "look") (by k_extra "look") (by k_extra "look") (by k_extra "look") (fun q => by rw [e] at q; exact absurd q.1 (by simp)) rfl rfl rfl)
  clear F2 N2 c1 hm1 hm2 hm3 hm4
  rintro h2 tk3 m2 _ F2 N2 ⟨u4, o1, u1, u2, u3, rfl, c1, hm1, hm2, hm3, hm4, hno⟩
  have hfar := ln_far hno
  have hfb := expB_bounds t (lnEnd0 t) hb1.1
  k_extra "goIf"
  refine cutZN (Ln (L' + 1) (fun u => some (.str (Txt.slice t (some (numSign t)) (some (numBehind t))) u)) t qt "first" (numFirst t) "behind" (numBehind t) "end" (numFar t) (True)) ?_ ?_ (L := L') (h₀ := s.heap)
  · intro Z mk rt
    k_extra "go"
    · have he0 : ([Str.ofString "e", Str.ofString "E"].any fun x => x == Txt.slice t (some (lnEnd0 t)) (some (lnEnd0 t + 1))) = true := by k_extra "A"
      have he : oneOf ["e", "E"] t (lnEnd0 t) = true := he0
      have hs : oneOf ["+", "-"] t (lnEnd0 t + 1) = true := by rw [← pm, show lnEnd0 t + 1 + 1 = lnEnd0 t + 2 by omega]; k_extra "A"
      rename (lnEnd0 t + 2 < _) => e3
      rw [digs] at e3
      rename News _ _ _ _ => N5
      refine mk (by k_extra "A") (nw := [(L' + 1, o1)]) (fun p hp => N5 p (by rw [List.mem_singleton.mp hp]; k_extra "mem")) (.of _ rfl c1 (by k_extra "look") (by k_extra "look") (by k_extra "look") (by k_extra "look") trivial rfl rfl ?_)
      rw [← hfar, digs]
      exact (exp_go he (j := lnEnd0 t + 2) (by rw [hs]; simp; omega) (by omega) e3).symm
    · have he0 : ([Str.ofString "e", Str.ofString "E"].any fun x => x == Txt.slice t (some (lnEnd0 t)) (some (lnEnd0 t + 1))) = true := by k_extra "A"
      have he : oneOf ["e", "E"] t (lnEnd0 t) = true := he0
      have hs : oneOf ["+", "-"] t (lnEnd0 t + 1) = true := by rw [← pm, show lnEnd0 t + 1 + 1 = lnEnd0 t + 2 by omega]; k_extra "A"
      rename (¬ lnEnd0 t + 2 < _) => e3
      rw [digs] at e3
      rename News _ _ _ _ => N5
      refine mk (by k_extra "A") (nw := [(L' + 1, o1)]) (fun p hp => N5 p (by rw [List.mem_singleton.mp hp]; k_extra "mem")) (.of _ rfl c1 (by k_extra "look") (by k_extra "look") (by k_extra "look") (by k_extra "look") trivial rfl rfl ?_)
      rw [← hfar]
      exact (exp_stay he (j := lnEnd0 t + 2) (by rw [hs]; simp; omega) (by omega) e3).symm
    · have he0 : ([Str.ofString "e", Str.ofString "E"].any fun x => x == Txt.slice t (some (lnEnd0 t)) (some (lnEnd0 t + 1))) = true := by k_extra "A"
      have he : oneOf ["e", "E"] t (lnEnd0 t) = true := he0
      have hs : oneOf ["+", "-"] t (lnEnd0 t + 1) = false := by rw [← pm, show lnEnd0 t + 1 + 1 = lnEnd0 t + 2 by omega]; k_extra "A"
      rename (lnEnd0 t + 1 < _) => e3
      rw [digs] at e3
      rename News _ _ _ _ => N5
      refine mk (by k_extra "A") (nw := [(L' + 1, o1)]) (fun p hp => N5 p (by rw [List.mem_singleton.mp hp]; k_extra "mem")) (.of _ rfl c1 (by k_extra "look") (by k_extra "look") (by k_extra "look") (by k_extra "look") trivial rfl rfl ?_)
      rw [← hfar, digs]
      exact (exp_go he (j := lnEnd0 t + 1) (by rw [hs]; simp) (by omega) e3).symm
    · have he0 : ([Str.ofString "e", Str.ofString "E"].any fun x => x == Txt.slice t (some (lnEnd0 t)) (some (lnEnd0 t + 1))) = true := by k_extra "A"
      have he : oneOf ["e", "E"] t (lnEnd0 t) = true := he0
      have hs : oneOf ["+", "-"] t (lnEnd0 t + 1) = false := by rw [← pm, show lnEnd0 t + 1 + 1 = lnEnd0 t + 2 by omega]; k_extra "A"
      rename (¬ lnEnd0 t + 1 < _) => e3
      rw [digs] at e3
      rename News _ _ _ _ => N5
      refine mk (by k_extra "A") (nw := [(L' + 1, o1)]) (fun p hp => N5 p (by rw [List.mem_singleton.mp hp]; k_extra "mem")) (.of _ rfl c1 (by k_extra "look") (by k_extra "look") (by k_extra "look") (by k_extra "look") trivial rfl rfl ?_)
      rw [← hfar]
      exact (exp_stay he (j := lnEnd0 t + 1) (by rw [hs]; simp) (by omega) e3).symm
    · have he0 : ([Str.ofString "e", Str.ofString "E"].any fun x => x == Txt.slice t (some (lnEnd0 t)) (some (lnEnd0 t + 1))) = false := by k_extra "A"
      have he : oneOf ["e", "E"] t (lnEnd0 t) = false := he0
      rename News _ _ _ _ => N5
      refine mk (by k_extra "A") (nw := [(L' + 1, o1)]) (fun p hp => N5 p (by rw [List.mem_singleton.mp hp]; k_extra "mem")) (.of _ rfl c1 (by k_extra "look") (by k_extra "look") (by k_extra "look") (by k_extra "look") trivial rfl rfl ?_)
      rw [← hfar]
      unfold expB
      rw [if_neg (by rw [he]; simp)]
  clear F2 N2 c1 hm1 hm2 hm3 hm4
  rintro h2 tk3 m2 _ F2 N2 ⟨u4, o1, u1, u2, u3, rfl, c1, hm1, hm2, hm3, hm4, _⟩
  rw [hfar] at hfb
  clear hfar
  k_extra "goIf"
  refine cutZN (Ln (L' + 1) (fun u => some (.str (Txt.slice t (some (numSign t)) (some (numBehind t))) u)) t qt "first" (numFirst t) "behind" (numBehind t) "end" (numFar t) ((scan isB t (numFar t).toNat : Int) = t.length)) ?_ ?_ (L := L') (h₀ := s.heap)
  · intro Z mk rt
    k_extra "go"
    · rename ((_ : Int) ≠ _) => e
      rw [blks] at e
      exact rt _ _ (hQ _ _ _ (Fr.keep (by assumption)) (by show lnumV _ _; rw [ln_no2 (ln_some hno) e]; rfl))
    · rename ((_ : Int) = _) => e
      rw [blks] at e
      exact mk (by k_extra "A") (by k_extra "A") (.of _ rfl (by k_extra "A") (by k_extra "look") (by k_extra "look") (by k_extra "look") (by k_extra "look") e rfl rfl rfl)
  clear F2 N2 c1 hm1 hm2 hm3 hm4
  rintro h2 tk3 m2 _ F2 N2 ⟨u4, o1, u1, u2, u3, rfl, c1, hm1, hm2, hm3, hm4, hall⟩
  k_extra "goIf"
  refine cutZN (Ln (L' + 1) (fun u => some (.str (Txt.slice t (some (numSign t)) (some (numBehind t))) u)) t qt "first" (numFirst t) "first" (numFirst t) "first" (numFirst t) (numFar t = numBehind t)) ?_ ?_ (L := L') (h₀ := s.heap)
  · intro Z mk rt
    k_extra "go"
    · rename ((_ : Int) ≠ _) => e
      exact rt _ _ (hQ _ _ _ (Fr.keep (by assumption)) (by show lnumV _ _; rw [ln_left (ln_some hno) hall e]; exact ⟨_, rfl⟩))
    · rename ((_ : Int) = _) => e
      exact mk (by k_extra "A") (by k_extra "A") (.of _ rfl (by k_extra "A") (by k_extra "look") (by k_extra "look") (by k_extra "look") (by k_extra "look") e rfl rfl rfl)
  clear F2 N2 c1 hm1 hm2 hm3 hm4
  rintro h2 tk3 m2 _ F2 N2 ⟨u4, o1, u1, _, _, rfl, c1, hm1, hm2, _, _, hfeq⟩
  walk1
  obtain ⟨a, n, K⟩ := ln_word ht
  have hsome := ln_some hno
  have hlt := ln_first hno hfb.1 hfeq
  have hone : Txt.item t (numFirst t) = Txt.slice t (some (numFirst t)) (some (numFirst t + 1)) := item_one nb.1 hlt
  have hln := ln_num hsome hall hfeq
  rw [K.ea, K.eb] at hln
  have hf0 := nb.1
  clear hno hsome hall hfeq hfb hb1 nb
  generalize Txt.slice t (some (numSign t)) (some (numBehind t)) = Wh at *
  have hwn := K.len
  have hn9 := K.small
  refine cutZN (fun m nw => m "text" = some (.str t qt) ∧ (∃ u, m "first" = some (.int (numFirst t) u)) ∧ ∃ u, m "number" = some (.int (dfold 0 (cut t a (a + n))) u)) ?_ ?_ (L := L') (h₀ := s.heap)
  · intro Z mk rt
    k_extra "go"
    rename Fr _ _ _ _ => F5
    rename News _ _ _ _ => N5
    rename IsRange _ _ _ _ _ _ _ _ => hr
    rw [hwn] at hr
    refine ⟨_, _, n, _, fun i ys => IntsAre ys ((List.range i).map (digT t a n)), F5, N5, srcG_range rfl hr (small_one (Int.le_refl 0) (Int.natCast_nonneg n) (Int.ofNat_le.mpr (Nat.le_trans hn9 (by decide)))) ((size_one (Int.natCast_nonneg n)).trans (Int.sub_zero _)), ?_, ⟨.nil, ?_⟩, ?_⟩
    · rw [sizeLine_eq]; omega
    · clear F5 N5
      rintro i ys v I oI C oC D m₂ h tk E' hi ⟨uk, rfl⟩ hj hO hx F6 N6
      have hc := K.isD hi
      have hit := K.item hi
      k_extra "go"
      all_goals rw [hit] at *
      · rename (List.isEmpty _ = true) => e
        have e2 := found_no e
        rw [digs, hc] at e2
        cases e2
      · rw [find_dig hc]
        refine mul_int ?_ (dig_mul hc)
        refine .mk (by k_extra "A") (by k_extra "A") ?_
        rw [List.range_succ, List.map_append, digT_is]
        exact intsAre_append hj (.cons _ _ .nil)
    · clear F5 N5
      intro D h tk ys hj F6 N6
      k_extra "go"
      rename News _ _ _ _ => N7
      exact mk (by k_extra "A") N7 ⟨by k_extra "look", ⟨_, by k_extra "look"⟩, int_is (by k_extra "look") (sum_digs _ _ _ K.fits)⟩
  clear F2 N2 c1 hm1 hm2
  rintro h2 tk3 m2 nw2 F2 N2 ⟨hm1, ⟨u1, hm2⟩, u3, hm3⟩
  have hge := cut_ge K.dig
  generalize dfold 0 (cut t a (a + n)) = v at hm3 hge hln
  generalize Txt.slice t (some (numFirst t)) (some (numFirst t + 1)) = sl at hone hln
  clear K hwn hn9 Wh
  walk1
  k_extra "go"
  all_goals refine hQ _ _ _ (Fr.keep (by assumption)) ?_
  all_goals show lnumV (lawNum t) _
  all_goals rename ((Txt.item t _ == _) = _) => e
  all_goals rw [hln, ← hone, e]
  · rw [ln_in (v := -v) hge rfl (by k_extra "A") (by k_extra "A")]; exact ⟨_, rfl⟩
  · rw [ln_out (v := -v) hge rfl (.inr (by k_extra "A"))]; exact ⟨_, rfl⟩
  · rw [ln_out (v := -v) hge rfl (.inl (by k_extra "A"))]; exact ⟨_, rfl⟩
  · rw [ln_in (v := v) hge rfl (by k_extra "A") (by k_extra "A")]; exact ⟨_, rfl⟩
  · rw [ln_out (v := v) hge rfl (.inr (by k_extra "A"))]; exact ⟨_, rfl⟩
  · rw [ln_out (v := v) hge rfl (.inl (by k_extra "A"))]; exact ⟨_, rfl⟩
theorem law_worded_c {w : World} {mean mg mb} (wa : Addr) (x : V) (v : Value) (q : Tok) (hx : x.ok) (hsc : (∃ b, x = .bool b) ∨ (∃ n, x = .int n) ∨ ∃ a l, x = .obj a l) (hnm : ∀ a c l, x = .obj a (c :: l) → c.name.length ≤ 100) :
    Pure w mean mg mb 920 930 731 [v, .str (lkindS x) q] (fun h => Rep w wa h x v) (fun _ r _ => ∃ u, r = .str (toTextV x) u) := by
  k_extra "E0"
  refine in_mono (A' := ⟨none, 920, A.frames, A.guards, 930⟩) ?_ e1 e2 rfl rfl e3
  k_extra "E1"
  refine' enterZ (binds := [("value", v), ("what", .str (lkindS x) q)]) W ?k1 ?kf1 ?kf2 ?kf3 ?k2 ?k3 ?k4 ?k5 ?_ ?k6 ?k7 ?k8 ?k9
  k_extra "E5"
  rcases hsc with ⟨b, rfl⟩ | ⟨n, rfl⟩ | ⟨a, lx, rfl⟩
  · cases R
    cases b
    · rw [lk3] at *
      k_extra "go"
      all_goals exact hQ _ _ _ (Fr.keep (by assumption)) ⟨_, rfl⟩
    · rw [lk2] at *
      k_extra "go"
      all_goals exact hQ _ _ _ (Fr.keep (by assumption)) ⟨_, rfl⟩
  · obtain ⟨t, rfl⟩ := R
    obtain ⟨h1, h2⟩ : -9223372036854775808 ≤ n ∧ n ≤ 9223372036854775807 := hx
    rw [lk4] at *
    k_extra "go"
    exact hQ _ _ _ (Fr.keep (by assumption)) ⟨_, rfl⟩
  · obtain ⟨rfl, hl, cv, I, Cx, hc⟩ := R
    cases Cx with
    | nil => exact absurd rfl hl.1
    | cons i r =>
      have hn := hnm _ _ _ rfl
      obtain ⟨tk', ak⟩ := i.name
      rw [lk7] at *
      k_extra "go"
      exact hQ _ _ _ (Fr.keep (by assumption)) ⟨_, rfl⟩
theorem zw55 : True := by
  k_with "@call ref" => (case fT => ((k_dflt (refine' useP (law_number_c _ _ ?k0) ?u1 ?u2 ?u3 ?u4 ?u5 ?u6 ?u7 ?u8 ?_; k_extra "uup"; (case k0 => k_extra "AS")); intro v' h' tk' F' N' st' hv'; k_extra "ut")))
  k_with "@call ref" => (case fT => ((k_dflt (refine' Mine.use1 (law_is_shown_c _ _ _ ?k0) ?u1 ?u2 ?u3 ?u4 ?u5 ?u6 ?u7 ?u8 ?_; k_extra "uup"; (case k0 => k_extra "AS")); intro h' tk' F' N'; k_extra "ut")))
  k_with "con" => (case fT => ((refine' law_is_shown_c _ _ _ ?k0)))
  exact True.intro
noncomputable def hasN (ns : List Str) (k : Str) : Bool := ns.any fun z => z == k
noncomputable def notEmptyZero (t : Str) : Bool := !(t == Str.ofString "") && !(t == Str.ofString "0")
noncomputable def broughtV (ns : List Str) : V → Option (Bool × V)
  | .bool b => if hasN ns (Str.ofString "int") = true then some (true, .int (if b then 1 else 0)) else if hasN ns (Str.ofString "string") = true then some (true, .str (toTextV (.bool b))) else if hasN ns (Str.ofString "bool") = true then some (true, .bool true) else some (false, .bool b)
  | .int n => if hasN ns (Str.ofString "string") = true then some (true, .str (toTextV (.int n))) else if hasN ns (Str.ofString "bool") = true then some (true, .bool (!(n == 0))) else some (false, .int n)
  | .str t =>
    let rest := if hasN ns (Str.ofString "bool") = true then some (true, .bool (notEmptyZero t)) else some (false, V.str t)
    if hasN ns (Str.ofString "int") = true then (match lawNum t with | .left => none | .num n => some (true, .int n) | .no => rest) else rest
  | .obj a l => if (anyShown l && hasN ns (Str.ofString "string")) = true then some (true, .str (toTextV (.obj a l))) else some (false, .obj a l)
  | x => some (false, x)
theorem told_pair {w : World} {wa : Addr} {o : Option (Bool × V)} {h : Heap} {ok : Bool} {y : V} {D : Addr} {v2 : Value} (e : o = some (ok, y)) (t : IsTup h D #[.bool ok, v2]) (R : Rep w wa h y v2) : toldC w wa o (.ref D) h := by
  rw [e]; exact ⟨D, v2, rfl, t, R⟩
theorem law_brought_c {w : World} {mean mg mb} (wa na : Addr) (ns : List Str) (x : V) (v : Value) (hx : x.ok) (hnm : ∀ a c l, x = .obj a (c :: l) → c.name.length ≤ 100) (hs : ∀ t, x = .str t → hasN ns (Str.ofString "string") = false) :
    Pure w mean mg mb 900 910 738 [.ref na, v] (fun h => TupStrs h na ns ∧ Rep w wa h x v) (fun _ r h' => toldC w wa (broughtV ns x) r h') := by
  k_extra "E0"
  refine in_mono (A' := ⟨none, 900, A.frames, A.guards, 910⟩) ?_ e1 e2 rfl rfl e3
  k_extra "E1"
  refine' enterZ (binds := [("names", .ref na), ("value", v)]) W ?k1 ?kf1 ?kf2 ?kf3 ?k2 ?k3 ?k4 ?k5 ?_ ?k6 ?k7 ?k8 ?k9
  k_extra "E5"
  obtain ⟨NS, R⟩ := R
  have R0 := R
  have hw := fun q hb => law_worded_c (w := w) (mean := mean) (mg := mg) (mb := mb) wa x v q hx hb hnm
  rcases x with _ | b | n | t | a | ⟨a, lx⟩
  · cases R
    k_extra "go"
    exact hQ _ _ _ (Fr.keep (by assumption)) (told_pair rfl (News.isTup (by assumption) (.head _)) rfl)
  · cases R
    replace hw := fun q => hw q (.inl ⟨_, rfl⟩)
    cases b
    · rw [lk3] at hw
      k_extra "go"
      · exact hQ _ _ _ (Fr.keep (by assumption)) (told_pair (ok := true) (y := .int 0) (by simp only [broughtV, hasN, *, if_true, Bool.false_eq_true, if_false]) (News.isTup (by assumption) (.head _)) ⟨_, rfl⟩)
      · (k_dflt (refine' useP (hw _) ?u1 ?u2 ?u3 ?u4 ?u5 ?u6 ?u7 ?u8 ?_; k_extra "uup"); intro v' h' tk' F' N' st' hv'; obtain ⟨tv', hq'⟩ := hv'; subst hq'; k_extra "ut")
        k_extra "go"
        exact hQ _ _ _ (Fr.keep (by assumption)) (told_pair (ok := true) (y := .str (toTextV (.bool false))) (by simp only [broughtV, hasN, *, if_true, Bool.false_eq_true, if_false]) (News.isTup (by assumption) (.head _)) ⟨_, rfl⟩)
      · exact hQ _ _ _ (Fr.keep (by assumption)) (told_pair (ok := true) (y := .bool true) (by simp only [broughtV, hasN, *, if_true, Bool.false_eq_true, if_false]) (News.isTup (by assumption) (.head _)) rfl)
      · exact hQ _ _ _ (Fr.keep (by assumption)) (told_pair (ok := false) (y := .bool false) (by simp only [broughtV, hasN, *, if_true, Bool.false_eq_true, if_false]) (News.isTup (by assumption) (.head _)) rfl)
    · rw [lk2] at hw
      k_extra "go"
      · exact hQ _ _ _ (Fr.keep (by assumption)) (told_pair (ok := true) (y := .int 1) (by simp only [broughtV, hasN, *, if_true, Bool.false_eq_true, if_false]) (News.isTup (by assumption) (.head _)) ⟨_, rfl⟩)
      · (k_dflt (refine' useP (hw _) ?u1 ?u2 ?u3 ?u4 ?u5 ?u6 ?u7 ?u8 ?_; k_extra "uup"); intro v' h' tk' F' N' st' hv'; obtain ⟨tv', hq'⟩ := hv'; subst hq'; k_extra "ut")
        k_extra "go"
        exact hQ _ _ _ (Fr.keep (by assumption)) (told_pair (ok := true) (y := .str (toTextV (.bool true))) (by simp only [broughtV, hasN, *, if_true, Bool.false_eq_true, if_false]) (News.isTup (by assumption) (.head _)) ⟨_, rfl⟩)
      · exact hQ _ _ _ (Fr.keep (by assumption)) (told_pair (ok := true) (y := .bool true) (by simp only [broughtV, hasN, *, if_true, Bool.false_eq_true, if_false]) (News.isTup (by assumption) (.head _)) rfl)
      · exact hQ _ _ _ (Fr.keep (by assumption)) (told_pair (ok := false) (y := .bool true) (by simp only [broughtV, hasN, *, if_true, Bool.false_eq_true, if_false]) (News.isTup (by assumption) (.head _)) rfl)
  · obtain ⟨t, rfl⟩ := R
    replace hw := fun q => hw q (.inr (.inl ⟨_, rfl⟩))
    rw [lk4] at hw
    iterate 3 (
      k_extra "goIf"
      refine cutF (fun m => m "value" = some (.int n t) ∧ m "names" = some (.ref na) ∧ ∃ u, m "what" = some (.str (Str.ofString "int") u)) ?_ ?_ (L := L') (h₀ := s.heap)
      · k_extra "go"
        all_goals exact .make (by k_extra "A") ⟨by k_extra "look", by k_extra "look", _, by k_extra "look"⟩
      rename Fr _ _ _ _ => F2
      rename News _ _ _ _ => N2
      clear F2 N2
      rintro h2 tk3 m2 F2 N2 ⟨hm1, hm2, u3, hm3⟩)
    k_extra "go"
    · (k_dflt (refine' useP (hw _) ?u1 ?u2 ?u3 ?u4 ?u5 ?u6 ?u7 ?u8 ?_; k_extra "uup"); intro v' h' tk' F' N' st' hv'; obtain ⟨tv', hq'⟩ := hv'; subst hq'; k_extra "ut")
      k_extra "go"
      exact hQ _ _ _ (Fr.keep (by assumption)) (told_pair (ok := true) (y := .str (toTextV (.int n))) (by simp only [broughtV, hasN, *, if_true, Bool.false_eq_true, if_false]) (News.isTup (by assumption) (.head _)) ⟨_, rfl⟩)
    · exact hQ _ _ _ (Fr.keep (by assumption)) (told_pair (ok := true) (y := .bool (!(n == 0))) (by simp only [broughtV, hasN, *, if_true, Bool.false_eq_true, if_false]) (News.isTup (by assumption) (.head _)) rfl)
    · exact hQ _ _ _ (Fr.keep (by assumption)) (told_pair (ok := false) (y := .int n) (by simp only [broughtV, hasN, *, if_true, Bool.false_eq_true, if_false]) (News.isTup (by assumption) (.head _)) ⟨_, rfl⟩)
  · obtain ⟨u, rfl⟩ := R
    have ht : t.length ≤ 900 := hx
    have hs := hs _ rfl
    unfold hasN at hs
    iterate 2 (
      k_extra "goIf"
      refine cutF (fun m => m "value" = some (.str t u) ∧ m "names" = some (.ref na) ∧ ∃ u, m "what" = some (.str (Str.ofString "string") u)) ?_ ?_ (L := L') (h₀ := s.heap)
      · k_extra "go"
        all_goals exact .make (by k_extra "A") ⟨by k_extra "look", by k_extra "look", _, by k_extra "look"⟩
      rename Fr _ _ _ _ => F2
      rename News _ _ _ _ => N2
      clear F2 N2
      rintro h2 tk3 m2 F2 N2 ⟨hm1, hm2, u3, hm3⟩)
    k_extra "goIf"
    refine cutF (fun m => m "value" = some (.str t u) ∧ m "names" = some (.ref na) ∧ (∃ u, m "what" = some (.str (Str.ofString "string") u)) ∧ (hasN ns (Str.ofString "int") = false ∨ lawNum t = .no)) ?_ ?_ (L := L') (h₀ := s.heap)
    · k_extra "go"
      · rename lnumV _ _ => hv
        cases hq : lawNum t with
        | no =>
          rw [hq] at hv
          cases hv
          k_extra "go"
          exact .make (by k_extra "A") ⟨by k_extra "look", by k_extra "look", ⟨_, by k_extra "look"⟩, .inr rfl⟩
        | left =>
          rw [hq] at hv
          obtain ⟨u2, rfl⟩ := hv
          k_extra "go"
          exact .ret (hQ _ _ _ (Fr.keep (by assumption)) (by simp only [broughtV, hasN, *, if_true]; exact ⟨_, rfl⟩))
        | num n =>
          rw [hq] at hv
          obtain ⟨u2, rfl⟩ := hv
          k_extra "go"
          refine .ret ?_
          exact hQ _ _ _ (Fr.keep (by assumption)) (told_pair (ok := true) (y := .int n) (by simp only [broughtV, hasN, *, if_true, Bool.false_eq_true, if_false]) (News.isTup (by assumption) (.head _)) ⟨_, rfl⟩)
      · exact .make (by k_extra "A") ⟨by k_extra "look", by k_extra "look", ⟨_, by k_extra "look"⟩, .inl (by unfold hasN; k_extra "A")⟩
    rename Fr _ _ _ _ => F2
    rename News _ _ _ _ => N2
    clear F2 N2
    rintro h2 tk3 m2 F2 N2 ⟨hm1, hm2, ⟨u3, hm3⟩, hno⟩
    have hb : broughtV ns (.str t) = if hasN ns (Str.ofString "bool") = true then some (true, .bool (notEmptyZero t)) else some (false, .str t) := by
      rcases hno with e | e <;> simp only [broughtV, e, Bool.false_eq_true, if_false, ite_self]
    k_extra "go"
    · rename ((_ != _) = true) => e
      exact hQ _ _ _ (Fr.keep (by assumption)) (told_pair (ok := true) (y := .bool _) (by rw [hb, if_pos (by unfold hasN; k_extra "A"), show notEmptyZero t = (t != Str.ofString "0") from by unfold notEmptyZero; rw [show (!(t == Str.ofString "")) = true from e, Bool.true_and]; rfl]) (News.isTup (by assumption) (.head _)) rfl)
    · rename ((_ != _) = false) => e
      exact hQ _ _ _ (Fr.keep (by assumption)) (told_pair (ok := true) (y := .bool _) (by rw [hb, if_pos (by unfold hasN; k_extra "A"), show notEmptyZero t = (t != Str.ofString "") from by unfold notEmptyZero; rw [show (!(t == Str.ofString "")) = false from e, e, Bool.false_and]]) (News.isTup (by assumption) (.head _)) rfl)
    · rename (List.any _ _ = false) => e
      exact hQ _ _ _ (Fr.keep (by assumption)) (told_pair (ok := false) (y := .str t) (by rw [hb, if_neg (by unfold hasN; rw [e]; simp)]) (News.isTup (by assumption) (.head _)) ⟨_, rfl⟩)
  · obtain ⟨rfl, I⟩ := R
    k_extra "go"
    exact hQ _ _ _ (Fr.keep (by assumption)) (told_pair rfl (News.isTup (by assumption) (.head _)) (Rep.keeps R0 (Fr.keep (by assumption))))
  · obtain ⟨rfl, hl, cv, I, Cx, hc⟩ := R
    have hl2 : lx.length ≤ 50 := hx
    replace hw := fun q => hw q (.inr (.inr ⟨_, _, rfl⟩))
    rw [lk7] at hw
    k_extra "goIf"
    refine cutF (fun m => m "value" = some (.ref a) ∧ m "names" = some (.ref na) ∧ (∃ u, m "what" = some (.str (Str.ofString "object") u)) ∧ anyShown lx = true) ?_ ?_ (L := L') (h₀ := s.heap)
    · k_extra "go"
      · exact .make (by k_extra "A") ⟨by k_extra "look", by k_extra "look", ⟨_, by k_extra "look"⟩, by assumption⟩
      · refine .ret ?_
        exact hQ _ _ _ (Fr.keep (by assumption)) (told_pair (ok := false) (y := .obj a lx) (by simp only [broughtV, *, Bool.false_and, Bool.false_eq_true, if_false]) (News.isTup (by assumption) (.head _)) (Rep.keeps R0 (Fr.keep (by assumption))))
    iterate 2 (
      rename Fr _ _ _ _ => F2
      rename News _ _ _ _ => N2
      clear F2 N2
      rintro h2 tk3 m2 F2 N2 ⟨hm1, hm2, ⟨u3, hm3⟩, hsh⟩
      k_extra "goIf"
      refine cutF (fun m => m "value" = some (.ref a) ∧ m "names" = some (.ref na) ∧ (∃ u, m "what" = some (.str (Str.ofString "object") u)) ∧ anyShown lx = true) ?_ ?_ (L := L') (h₀ := s.heap)
      · k_extra "go"
        all_goals exact .make (by k_extra "A") ⟨by k_extra "look", by k_extra "look", ⟨_, by k_extra "look"⟩, hsh⟩)
    rename Fr _ _ _ _ => F2
    rename News _ _ _ _ => N2
    clear F2 N2
    rintro h2 tk3 m2 F2 N2 ⟨hm1, hm2, ⟨u3, hm3⟩, hsh⟩
    k_extra "go"
    · (k_dflt (refine' useP (hw _) ?u1 ?u2 ?u3 ?u4 ?u5 ?u6 ?u7 ?u8 ?_; k_extra "uup"); intro v' h' tk' F' N' st' hv'; obtain ⟨tv', hq'⟩ := hv'; subst hq'; k_extra "ut")
      k_extra "go"
      exact hQ _ _ _ (Fr.keep (by assumption)) (told_pair (ok := true) (y := .str (toTextV (.obj a lx))) (by simp only [broughtV, hasN, *, if_true, Bool.false_eq_true, if_false, Bool.and_self]) (News.isTup (by assumption) (.head _)) ⟨_, rfl⟩)
    · exact hQ _ _ _ (Fr.keep (by assumption)) (told_pair (ok := false) (y := .obj a lx) (by simp only [broughtV, hasN, *, if_true, Bool.false_eq_true, if_false, Bool.and_false]) (News.isTup (by assumption) (.head _)) (Rep.keeps R0 (Fr.keep (by assumption))))
    · exact hQ _ _ _ (Fr.keep (by assumption)) (told_pair (ok := false) (y := .obj a lx) (by simp only [broughtV, hasN, *, if_true, Bool.false_eq_true, if_false, Bool.and_false]) (News.isTup (by assumption) (.head _)) (Rep.keeps R0 (Fr.keep (by assumption))))
noncomputable def dueV (hasC : Bool) (ns : List Str) (x : V) (st : Bool) (lh ls : List CI) : Option (Bool × V) :=
  match acceptedV hasC ns x lh ls with
  | none => none
  | some true => some (true, x)
  | some false => if st = true then some (false, x) else broughtV ns x
theorem taken_str {hasC : Bool} {ns : List Str} {x : V} {lh ls : List CI} (h : acceptedV hasC ns x lh ls = some false) : ∀ t, x = .str t → hasN ns (Str.ofString "string") = false := by
  rintro t rfl
  cases q : hasN ns (Str.ofString "string") with
  | false => rfl
  | true =>
    obtain ⟨n, hn, e⟩ := List.any_eq_true.mp q
    have e : n = Str.ofString "string" := by simpa using e
    subst e
    unfold acceptedV at h
    rw [if_pos (List.any_eq_true.mpr ⟨_, hn, by
      rw [show (Str.ofString "string" == Str.ofString "float") = false by decide +kernel]
      have e1 : (plainW.any fun z => z == Str.ofString "string") = true := by decide +kernel
      simp only [lawTakes, e1, if_true, lkindS, Bool.not_false, Bool.true_and]
      decide +kernel⟩)] at h
    cases h
theorem law_due_c {w : World} {mean mg mb} (wa ah na : Addr) (hasC : Bool) (ns : List Str) (x : V) (v : Value) (st : Bool) (hv sv : Value) (lh ls : List CI) (hx : x.ok) (hns : ∀ n ∈ ns, n.length ≤ 100) (hnl : ∀ a l, x = .obj a l → ∀ c ∈ l, c.name.length ≤ 100) (hlen : ns.length ≤ 100) :
    Pure w mean mg mb 860 870 745 [.ref ah, .ref na, v, .bool st, hv, sv] (AskAt w wa ah na hasC ns x v hv sv lh ls) (fun _ r h' => toldC w wa (dueV hasC ns x st lh ls) r h') := by
  k_extra "E0"
  refine in_mono (A' := ⟨none, 860, A.frames, A.guards, 870⟩) ?_ e1 e2 rfl rfl e3
  k_extra "E1"
  refine' enterZ (binds := [("host", .ref ah), ("names", .ref na), ("value", v), ("is_strict", .bool st), ("here", hv), ("static", sv)]) W ?k1 ?kf1 ?kf2 ?kf3 ?k2 ?k3 ?k4 ?k5 ?_ ?k6 ?k7 ?k8 ?k9
  k_extra "E5"
  have hA := law_accepted_c (w := w) (mean := mean) (mg := mg) (mb := mb) wa ah na hasC ns x v hv sv lh ls hx hns hnl hlen
  iterate 30 (first | (with_reducible show wpAny _ _ (call (Value.ref 719) _) _ _ _) | ((try dsimp only); walk1))
  have RR := R.keeps F'.keep
  k_dflt (refine' useP hA ?u1 ?u2 ?u3 ?u4 ?u5 ?u6 ?u7 ?u8 ?_; k_extra "uup")
  intro v' h' tk' F' N' st' hv'
  cases q : acceptedV hasC ns x lh ls with
  | none =>
    rw [q] at hv'
    obtain ⟨u, rfl⟩ := hv'
    k_extra "go"
    exact hQ _ _ _ (Fr.keep (by assumption)) (by unfold dueV; rw [q]; exact ⟨_, rfl⟩)
  | some b =>
    rw [q] at hv'
    cases hv'
    cases b
    · cases st
      · k_extra "go"
        have R1 := R.1.keeps (Fr.keep (by k_extra "A"))
        have R2 := R.2.1.keeps (Fr.keep (by k_extra "A"))
        k_dflt (refine' useP (law_brought_c (w := w) (mean := mean) (mg := mg) (mb := mb) wa na ns x v hx (fun a c l e => hnl a _ e c (.head _)) (taken_str q)) ?u1 ?u2 ?u3 ?u4 ?u5 ?u6 ?u7 ?u8 ?_; k_extra "uup")
        intro v' h' tk' F' N' st' hv'
        k_extra "go"
        exact hQ _ _ _ (Fr.keep (by assumption)) (by unfold dueV; rw [q]; exact hv')
      · k_extra "go"
        exact hQ _ _ _ (Fr.keep (by assumption)) (told_pair (ok := false) (y := x) (by unfold dueV; rw [q]; rfl) (News.isTup (by assumption) (.head _)) (R.2.1.keeps (Fr.keep (by assumption))))
    · k_extra "go"
      exact hQ _ _ _ (Fr.keep (by assumption)) (told_pair (ok := true) (y := x) (by unfold dueV; rw [q]) (News.isTup (by assumption) (.head _)) (R.2.1.keeps (Fr.keep (by assumption))))
theorem tup_eq_str {w : PySem.World} {A : Around} {E : Value → Shared → Prop} {s : Shared} {h₀ : Heap} {L : Addr} {m : Str → Option Value} {a : Addr} {its : Array Value} {t : Str} {u : Tok} {Q : Value → Shared → Prop} (F : Fr h₀ L s.heap m)
    (T : IsTup h₀ a its) (hu : A.units < cLine) (h : Q (.bool false) s) : wpAny (model Challenge.rw_pq0857_01.row.prog w) A (compareOp .Eq (.ref a) (.str t u)) Q E s := PySem.SeqAt.RcAt.tuple_str t u (T.keeps F.keep) hu _ _ _ _ h
theorem zw56 : True := by
  k_with "@compareOp Eq ref str" => (case fT => (k_dflt (refine' tup_eq_str ?g1 ?g2 ?g5 ?_; (case g1 => k_extra "A"); (case g2 => k_extra "A"); (case g5 => units_room))))
  exact True.intro
theorem law_alike_c {w : World} {mean mg mb} (wa : Addr) (o : Option (Bool × V)) (d t : Value) :
    Pure w mean mg mb 920 930 766 [d, t] (fun h => toldC w wa o d h ∧ toldC w wa o t h) (fun _ r _ => r = .bool true) := by
  k_extra "E0"
  refine in_mono (A' := ⟨none, 920, A.frames, A.guards, 930⟩) ?_ e1 e2 rfl rfl e3
  k_extra "E1"
  refine' enterZ (binds := [("due", d), ("told", t)]) W ?k1 ?kf1 ?kf2 ?kf3 ?k2 ?k3 ?k4 ?k5 ?_ ?k6 ?k7 ?k8 ?k9
  k_extra "E5"
  obtain ⟨R1, R2⟩ := R
  rcases o with _ | ⟨ok, y⟩
  · obtain ⟨q1, rfl⟩ := R1
    obtain ⟨q2, rfl⟩ := R2
    k_extra "go"
    exact hQ _ _ _ (Fr.keep (by assumption)) (by rw [beq_self_eq_true])
  · obtain ⟨a1, v1, rfl, T1, P1⟩ := R1
    obtain ⟨a2, v2, rfl, T2, P2⟩ := R2
    dsimp only at T1 P1 T2 P2
    have hok : (ok != ok) = false := by simp
    have hlk : (lkindS y != lkindS y) = false := by simp
    k_extra "go"
    · rename (List.any _ _ = true) => e
      rcases y with _ | b | n | t | a | ⟨a, l⟩
      · exact absurd e (by rw [lk1]; decide +kernel)
      · cases b
        · exact absurd e (by rw [lk3]; decide +kernel)
        · exact absurd e (by rw [lk2]; decide +kernel)
      · exact absurd e (by rw [lk4]; decide +kernel)
      · exact absurd e (by rw [lk5]; decide +kernel)
      · obtain ⟨rfl, -⟩ := P1
        obtain ⟨rfl, -⟩ := P2
        k_extra "go"
        exact hQ _ _ _ (Fr.keep (by assumption)) rfl
      · obtain ⟨rfl, -⟩ := P1
        obtain ⟨rfl, -⟩ := P2
        k_extra "go"
        exact hQ _ _ _ (Fr.keep (by assumption)) rfl
    · rename (List.any _ _ = false) => e
      rcases y with _ | b | n | t | a | ⟨a, l⟩
      · cases P1
        cases P2
        k_extra "go"
        exact hQ _ _ _ (Fr.keep (by assumption)) rfl
      · cases P1
        cases P2
        k_extra "go"
        exact hQ _ _ _ (Fr.keep (by assumption)) (by simp)
      · obtain ⟨u1, rfl⟩ := P1
        obtain ⟨u2, rfl⟩ := P2
        k_extra "go"
        exact hQ _ _ _ (Fr.keep (by assumption)) (by simp)
      · obtain ⟨u1, rfl⟩ := P1
        obtain ⟨u2, rfl⟩ := P2
        k_extra "go"
        exact hQ _ _ _ (Fr.keep (by assumption)) (by simp)
      · exact absurd e (by rw [lk6]; decide +kernel)
      · exact absurd e (by rw [lk7]; decide +kernel)
open W
inductive ForSrc (J : (Str → Option Value) → Prop) (Good : Heap → Prop) (s : Shared) (L : Addr) (vs : List Value) (xv : Value) (s₁ : Shared) : Prop where
  | mk (l : Addr) (h : Heap) (tk : Nat) (g : Heap) (m : Str → Option Value) (o : Obj) (e1 : xv = .ref l) (e2 : s₁ = { s with heap := h, toks := tk }) (hg : Good g) (hj : J m) (F : Fr g L h m) (N : News g L h [(l, o)]) (ht : IsTup h l vs.toArray)
inductive ForEnd (J : (Str → Option Value) → Prop) (Good : Heap → Prop) (s : Shared) (L : Addr) (nw : List (Addr × Obj)) (s' : Shared) : Prop where
  | mk (g' h' : Heap) (tk' : Nat) (m' : Str → Option Value) (e : s' = { s with heap := h', toks := tk' }) (hg : Good g') (hj : J m') (F : Fr g' L h' m') (N : News g' L h' nw)
inductive ForInv (J : (Str → Option Value) → Prop) (Good : Heap → Prop) (s : Shared) (L : Addr) (vs : List Value) (I l : Addr) (o1 : Obj) : Nat → Shared → Prop where
  | mk {i : Nat} {h : Heap} {tk : Nat} {g : Heap} {m : Str → Option Value} {oI : Obj} (hi : i ≤ vs.length) (hg : Good g) (hj : J m) (F : Fr g L h m) (N : News g L h [(I, oI), (l, o1)]) (hst : h.IsTupleIter I l i ∧ h.IsTuple l vs.toArray) : ForInv J Good s L vs I l o1 (vs.length + 1 - i) { s with heap := h, toks := tk }
theorem for_tup {w : World} {A : Around} {s : Shared} {E : Value → Shared → Prop} {Q : Flow → Shared → Prop} {env : Env} {L : Addr} {x : Str} {px pos : Pos} {iter : Expr} {body : List Stmt} (Good : Heap → Prop) (J : (Str → Option Value) → Prop) (vs : List Value)
    (hL0 : env.locals = L) (hh : A.handled = none) (hx : env.kindOf x = some .local) (hp : (env.scope.kind == .class || (env.scope.kind == .module && env.locals != env.globals)) = false)
    (h : wpAny (model Challenge.rw_pq0857_01.row.prog w) A (eval iter env) (ForSrc J Good s L vs) E s)
    (step : ∀ (i : Nat) v g h tk m nw, vs[i]? = some v → Good g → J m → Fr g L h (fun y => if y = x then some v else m y) → News g L h nw →
      wpAny (model Challenge.rw_pq0857_01.row.prog w) A (execs body env) (fun f s' => match f with
        | .next | .cont => ForEnd J Good s L nw s'
        | .brk => Q .next s'
        | .ret v => Q (.ret v) s') E { s with heap := h, toks := tk })
    (stop : ∀ g h tk m, Good g → J m → Fr g L h m → Q .next { s with heap := h, toks := tk })
    (hs : ∀ x, foldedSetIterable iter env x = pure x) (hE : PassesOwn (model Challenge.rw_pq0857_01.row.prog w) A env E) :
    wpAny (model Challenge.rw_pq0857_01.row.prog w) A (exec (.For (.Name x px) iter body [] pos) env) Q E s := by
  subst hL0
  refine wpAny_For (wpAny_mono h (fun xv s₁ h₁ => ?_) fun _ _ e => e) hs
  obtain ⟨l, h1, tk1, g1, m1, o1, rfl, rfl, hg, hj, F, N, ht⟩ := h₁
  obtain ⟨hl, hlL, hlg⟩ := N _ (.head _)
  have hne : l ≠ h1.objs.size := Nat.ne_of_lt (Heap.lt_size hl)
  have ht' : h1.IsTuple l vs.toArray := ht
  have W := Walks.tuple (prog := Challenge.rw_pq0857_01.row.prog) (w := w) hh h1.objs.size l hne vs.toArray
  refine wpAny_pyIter_tuple ht' ?_
  have hILo : h1.objs.size ≠ env.locals := fun q => absurd F.ns.lt (q ▸ Nat.lt_irrefl _)
  refine codeAny_forLoop (R := fun r s' => match r with | .ok f => Q f s' | .error e => cameBackBy (model Challenge.rw_pq0857_01.row.prog w) A env E e s')
    (ForInv J Good s env.locals vs h1.objs.size l o1) ?_ (vs.length + 1)
    (.mk (i := 0) (oI := { cls := .type "tuple_iterator", data := .fields #[.ref l, .int 0 0] }) (Nat.zero_le _) hg hj (F.push _) ?_ ⟨⟨_, Heap.get?_push_size _ rfl, rfl, rfl⟩, ht'.at fun o e => Heap.get?_push_of_some _ e⟩)
  · intro k s' H
    cases H with | @mk i h tk g m oI hi hg hj F N hst => ?_
    obtain ⟨zI1, zI2, zI3⟩ := N _ (.head _)
    obtain ⟨zl1, zl2, zl3⟩ := N _ (.tail _ (.head _))
    have next : ∀ h₁ : Heap, (∀ b o, b ∉ [h1.objs.size] → h.get? b = some o → h₁.get? b = some o) → Fr g env.locals h₁ m := fun h₁ hk₁ =>
      ⟨F.ns.at' fun o e => hk₁ _ o (fun q => hILo (List.mem_singleton.mp q).symm) e, fun b o e => hk₁ b o (fun q => by rw [List.mem_singleton.mp q, zI3] at e; cases e) (F.keep b o e), F.above⟩
    by_cases hlt : i < vs.length
    · refine W.item i _ _ _ (by simpa using hlt) hst fun v h₁ tk₁ hP hst₁ hk₁ => ?_
      have F₁ := next h₁ hk₁
      obtain ⟨oI', hI', hI2⟩ := hst₁.1
      have N₁ : News g env.locals h₁ [(h1.objs.size, oI'), (l, o1)] := by
        intro p hp
        rcases List.mem_cons.mp hp with rfl | hp
        · exact ⟨hI', zI2, zI3⟩
        · rw [List.mem_singleton.mp hp]
          exact ⟨hk₁ _ _ (fun q => hne (List.mem_singleton.mp q)) zl1, zl2, zl3⟩
      refine wpAny_assign_Name (wpAny_storeName_local hx F₁.ns (fun h₂ hn₂ hs₂ => ?_) hp)
      have F₂ := F₁.set hn₂ hs₂
      have N₂ := N₁.set hs₂
      refine wpAny_mono (wpAny_passesOwn hE (step i v g h₂ _ m _ (by simpa using hP) hg hj F₂ N₂)) (fun f s₃ h₃ => ?_) fun _ _ e => e
      have back : ForEnd J Good s env.locals [(h1.objs.size, oI'), (l, o1)] s₃ → ∃ k', k' < vs.length + 1 - i ∧ ForInv J Good s env.locals vs h1.objs.size l o1 k' s₃ := by
        rintro ⟨g', h', tk', m', rfl, hg', hj', F', N'⟩
        refine ⟨_, turn_lt hlt, .mk hlt hg' hj' F' N' ⟨⟨oI', (N' _ (.head _)).1, hI2⟩, ?_⟩⟩
        obtain ⟨ol, hol, r⟩ := hst₁.2
        have e : ol = o1 := by
          have := hk₁ l o1 (fun q => hne (List.mem_singleton.mp q)) zl1
          rw [hol] at this
          exact Option.some.inj this
        exact ⟨ol, e ▸ (N' _ (.tail _ (.head _))).1, r⟩
      cases f with
      | ret v => exact h₃
      | brk => exact h₃
      | cont => exact back h₃
      | next => exact back h₃
    · have hin : i = vs.length := by omega
      subst hin
      refine W.done _ _ _ (by simpa using hst) fun h₁ tk₁ hk₁ => wpAny_execs_nil ?_
      exact stop g h₁ tk₁ m hg hj (next h₁ hk₁)
  · intro p hp
    rcases List.mem_cons.mp hp with rfl | hp
    · exact ⟨Heap.get?_push_size _ rfl, hILo, next_is_new F⟩
    · rw [List.mem_singleton.mp hp]
      exact ⟨Heap.get?_push_of_some _ hl, hlL, hlg⟩
open W
theorem coerceV_sc {hasC : Bool} {ns : List Str} {x y : V} {st ok : Bool} {lh ls : List CI} (h : coerceV hasC ns x st lh ls = some (ok, y)) : y = x ∨ y.scalar = true := by
  have go : ∀ l, goV ns x l = some (ok, y) → y = x ∨ y.scalar = true := by
    intro l
    induction l with
    | nil => intro h; cases h; exact .inl rfl
    | cons n r ih =>
      intro h
      unfold goV at h
      split at h
      · split at h
        · cases h
        · rename_i e; cases h; exact .inr (coerced_sc e)
        · exact ih h
      · exact ih h
  unfold coerceV at h
  split at h
  · cases h
  · cases h; exact .inl rfl
  · split at h
    · cases h; exact .inl rfl
    · split at h
      · exact go _ h
      · cases h; exact .inl rfl
theorem rep_move {w : World} {wa : Addr} {G h : Heap} {x y : V} {v v2 : Value} (e : y = x ∨ y.scalar = true) (r : Rep w wa h y v2) (R : Rep w wa G x v) : Rep w wa G y v2 := by
  rcases e with rfl | e
  · cases y with
    | arr a => exact ⟨r.1, R.2⟩
    | obj a l => exact ⟨r.1, R.2⟩
    | _ => exact r
  · exact r.sc e
theorem News.grow1 {h₀ h : Heap} {L a : Addr} {o : Obj} {nw : List (Addr × Obj)} (N : News h₀ L h nw) (e : h.get? a = some o) (n1 : a ≠ L) (n2 : h₀.get? a = none) : News h₀ L h ((a, o) :: nw) := by
  intro p hp
  rcases List.mem_cons.mp hp with rfl | hp
  · exact ⟨e, n1, n2⟩
  · exact N p hp
theorem tup_eq_led {w : PySem.World} {A : Around} {E : Value → Shared → Prop} {s : Shared} {h₀ : Heap} {L : Addr} {nw : List (Addr × Obj)} {a : Addr} {its : Array Value} {t : Str} {u : Tok} {Q : Value → Shared → Prop} (N : News h₀ L s.heap nw)
    (hm : (a, ({ cls := .type "tuple", data := .seq its } : Obj)) ∈ nw) (hu : A.units < cLine) (h : Q (.bool false) s) : wpAny (model Challenge.rw_pq0857_01.row.prog w) A (compareOp .Eq (.ref a) (.str t u)) Q E s := PySem.SeqAt.RcAt.tuple_str t u (News.isTup N hm) hu _ _ _ _ h
structure RightJ (ah na : Addr) (v hv sv : Value) (m : Str → Option Value) : Prop where
  a : m "host" = some (.ref ah)
  b : m "names" = some (.ref na)
  c : m "value" = some v
  d : m "here" = some hv
  e : m "static" = some sv
theorem law_is_right_c {w : World} {mean mg mb} (wa ah na : Addr) (hasC : Bool) (ns : List Str) (x : V) (v hv sv : Value) (lh ls : List CI) (hx : x.ok) (hns : ∀ n ∈ ns, n.length ≤ 100) (hnl : ∀ a l, x = .obj a l → ∀ c ∈ l, c.name.length ≤ 100) (hlen : ns.length ≤ 100)
    (hA : acceptsV hasC ns x lh ls = acceptedV hasC ns x lh ls) (hC : ∀ st, coerceV hasC ns x st lh ls = dueV hasC ns x st lh ls)
    (hG : ∀ st y, coerceV hasC ns x st lh ls = some (true, y) → y.ok ∧ acceptsV hasC ns y lh ls = some true) :
    PureT w mean mg mb 820 830 773 [.ref ah, .ref na, v, hv, sv] (AskAt w wa ah na hasC ns x v hv sv lh ls) (fun _ r _ => r = .bool true) := by
  have hnm : ∀ a c l, x = .obj a (c :: l) → c.name.length ≤ 100 := fun a c l e => hnl a _ e c (.head _)
  intro A base outer s Gf Q E e1 e2 e3 B0 W0 D0 gs gn R hQ
  have W : Wd w mean mg mb s.heap := W0.keeps B0.stays
  refine in_mono (A' := ⟨none, 820, some outer, A.guards, 830⟩) ?_ e1 e2 B0.stack rfl e3
  have B1 : Below ⟨none, 820, some outer, A.guards, 830⟩ base outer s.heap := ⟨rfl, B0.stays, B0.frames⟩
  k_extra "E4"
  refine' enterP (binds := [("host", .ref ah), ("names", .ref na), ("value", v), ("here", hv), ("static", sv)]) W ?k1 ?kf1 ?kf2 ?kf3 ?k2 ?k3 ?k4 ?k5 ?_ ?k6 ?k7 ?k8 ?k9
  k_extra "E2"
  iterate 40 (first | (with_reducible show wpAny _ _ (call (Value.ref 752) _) _ _ _) | ((try dsimp only); walk1))
  refine useT (law_accepts_c wa ah na hasC ns x v hv sv lh ls hx hns) B1 F' N' W0 D0 gs gn rfl (Nat.le_of_ble_eq_true rfl) (Nat.le_of_ble_eq_true rfl) R rfl ?_
  intro v' h' tk g1 T1 F1 N1 B2 D1 gs1 W1 hv'
  clear X' T' B1 D0 F' N'
  have X1 := W1.X
  have T2 := W1.T
  k_extra "goIf"
  refine cutF (RightJ ah na v hv sv) ?_ ?_ (L := L') (h₀ := g1)
  · iterate 40 (first | (with_reducible show wpAny _ _ (call (Value.ref 719) _) _ _ _) | ((try dsimp only); walk1))
    rename Fr _ _ _ _ => F3
    have RR := R.keeps (fun b o e => F3.keep b o (gs1 b o e))
    k_dflt (refine' useP (law_accepted_c wa ah na hasC ns x v hv sv lh ls hx hns hnl hlen) ?u1 ?u2 ?u3 ?u4 ?u5 ?u6 ?u7 ?u8 ?_; k_extra "uup")
    intro v2 h2 tk2 F2 N2 st2 hv2
    rw [hA] at hv'
    cases q : acceptedV hasC ns x lh ls with
    | none =>
      rw [q] at hv' hv2
      obtain ⟨u1, rfl⟩ := hv'
      obtain ⟨u2, rfl⟩ := hv2
      k_extra "go"
      exact .make (by k_extra "A") ⟨by k_extra "look", by k_extra "look", by k_extra "look", by k_extra "look", by k_extra "look"⟩
    | some b =>
      rw [q] at hv' hv2
      cases hv'
      cases hv2
      have hb : (b != b) = false := by simp
      k_extra "go"
      exact .make (by k_extra "A") ⟨by k_extra "look", by k_extra "look", by k_extra "look", by k_extra "look", by k_extra "look"⟩
  rename Fr _ _ _ _ => F1
  rename News _ _ _ _ => N1
  clear F1 N1
  rintro h2 tk2 m2 F2 N2 J2
  dsimp only
  refine wpAny_execs_cons ?_
  refine for_tup (fun g => KtsTurn (fsOf outer) s.heap g ∧ Below { depth := 820, frames := some outer, guards := gd, units := 830 } base outer g ∧ KtsDicts (fsOf outer) g ∧ Gf.StaysIn g ∧ Wd w mean mg mb g) (RightJ ah na v hv sv) [.bool true, .bool false] rfl rfl rfl rfl ?_ ?_ ?_ (fun _ => rfl) PassesOwn.never (L := L')
  · k_extra "go"
    rename News _ _ _ _ => N3
    exact ⟨_, _, _, g1, m2, _, rfl, rfl, ⟨T1, B2, D1, gs1, W1⟩, J2, by k_extra "A", N3, News.isTup N3 (.head _)⟩
  · clear F2 N2 X1 T2
    rintro i v2 g h tk m nw hv2 ⟨T3, B3, D3, gs3, W3⟩ J3 F3 N3
    obtain ⟨st, rfl⟩ : ∃ st, v2 = .bool st := by
      have := List.mem_of_getElem? hv2
      simp only [List.mem_cons, List.not_mem_nil, or_false] at this
      rcases this with e | e <;> exact ⟨_, e⟩
    have X1 := W3.X
    have T2 := W3.T
    obtain ⟨j1, j2, j3, j4, j5⟩ := J3
    iterate 40 (first | (with_reducible show wpAny _ _ (call (Value.ref 759) _) _ _ _) | ((try dsimp only); walk1))
    refine useT (law_coerced_c wa ah na hasC ns x v st hv sv lh ls hx hns hnm) B3 F3 N3 W0 D3 gs3 gn rfl (Nat.le_of_ble_eq_true rfl) (Nat.le_of_ble_eq_true rfl) R rfl ?_
    intro v4 h4 tk4 g4 T4 F4 N4 B4 D4 gs4 W4 hv4
    have good4 : KtsTurn (fsOf outer) s.heap g4 ∧ Below { depth := 820, frames := some outer, guards := gd, units := 830 } base outer g4 ∧ KtsDicts (fsOf outer) g4 ∧ Gf.StaysIn g4 ∧ Wd w mean mg mb g4 := ⟨T3.trans T4, B4, D4, gs4, W4⟩
    have nF : ∀ a o, h.get? a = none → h4.get? a = some o → a ≠ L' ∧ g4.get? a = none := fun a o e _ => ⟨fun z => by obtain ⟨o', _, _, ho', _⟩ := F3.ns; rw [z, ho'] at e; exact absurd e (by simp), T4.none_ a (Mine.Fr.none_of F3 e)⟩
    clear X1 T2 B3 D3
    have X1 := W4.X
    have T2 := W4.T
    have hdue := law_due_c (w := w) (mean := mean) (mg := mg) (mb := mb) wa ah na hasC ns x v st hv sv lh ls hx hns hnl hlen
    rw [← hC st] at hdue
    cases q : coerceV hasC ns x st lh ls with
    | none =>
      rw [q] at hv4 hdue
      obtain ⟨u4, rfl⟩ := hv4
      iterate 60 (first | (with_reducible show wpAny _ _ (call (Value.ref 745) _) _ _ _) | ((try dsimp only); walk1))
      rename Fr g4 _ _ _ => F5
      have RR := R.keeps (fun b o e => F5.keep b o (gs4 b o e))
      k_dflt (refine' useP hdue ?u1 ?u2 ?u3 ?u4 ?u5 ?u6 ?u7 ?u8 ?_; k_extra "uup")
      intro v6 h6 tk6 F6 N6 st6 hv6
      have halike := law_alike_c (w := w) (mean := mean) (mg := mg) (mb := mb) wa none v6 (.str (Str.ofString "left") u4)
      have ht6 : ∀ hh, toldC w wa none (.str (Str.ofString "left") u4) hh := fun _ => ⟨_, rfl⟩
      iterate 60 (first | (with_reducible show wpAny _ _ (call (Value.ref 766) _) _ _ _) | ((try dsimp only); walk1))
      k_dflt (refine' useP halike ?u1 ?u2 ?u3 ?u4 ?u5 ?u6 ?u7 ?u8 ?_; (case u8 => exact ⟨hv6, ht6 _⟩); (case u1 => k_extra "A"); (case u2 => k_extra "A"); (case u3 => k_extra "A"); (case u4 => k_extra "A"); (case u5 => rfl); (case u6 => exact Nat.le_of_ble_eq_true rfl); (case u7 => exact Nat.le_of_ble_eq_true rfl))
      intro v7 h7 tk7 F7 N7 st7 hv7
      subst hv7
      k_extra "go"
      rename Fr g4 _ _ _ => F8
      rename News g4 _ _ _ => N8
      exact ⟨g4, _, _, _, rfl, good4, ⟨by k_extra "look", by k_extra "look", by k_extra "look", by k_extra "look", by k_extra "look"⟩, F8, N8⟩
    | some p =>
      obtain ⟨ok, y⟩ := p
      rw [q] at hv4 hdue
      obtain ⟨a4, v5, rfl, e4, n4, r4⟩ := hv4
      dsimp only at e4 r4
      have r5 : Rep w wa Gf y v5 := rep_move (coerceV_sc q) r4 R.2.1
      obtain ⟨z1, z2⟩ := nF _ _ n4 e4
      have N5 := News.grow1 N4 e4 z1 z2
      clear N4 nF
      iterate 60 (first | (with_reducible show wpAny _ _ (call (Value.ref 745) _) _ _ _) | ((try dsimp only); walk1))
      rename Fr g4 _ _ _ => F5
      have RR := R.keeps (fun b o e => F5.keep b o (gs4 b o e))
      k_dflt (refine' useP hdue ?u1 ?u2 ?u3 ?u4 ?u5 ?u6 ?u7 ?u8 ?_; k_extra "uup")
      intro v6 h6 tk6 F6 N6 st6 hv6
      have halike := law_alike_c (w := w) (mean := mean) (mg := mg) (mb := mb) wa (some (ok, y)) v6 (.ref a4)
      have ht6 : toldC w wa (some (ok, y)) (.ref a4) h6 := ⟨a4, v5, rfl, News.isTup N6 (.head _), r5.keeps fun b o e => F6.keep b o (gs4 b o e)⟩
      iterate 60 (first | (with_reducible show wpAny _ _ (call (Value.ref 766) _) _ _ _) | ((try dsimp only); walk1))
      k_dflt (refine' useP halike ?u1 ?u2 ?u3 ?u4 ?u5 ?u6 ?u7 ?u8 ?_; (case u8 => exact ⟨hv6, ht6⟩); (case u1 => k_extra "A"); (case u2 => k_extra "A"); (case u3 => k_extra "A"); (case u4 => k_extra "A"); (case u5 => rfl); (case u6 => exact Nat.le_of_ble_eq_true rfl); (case u7 => exact Nat.le_of_ble_eq_true rfl))
      intro v7 h7 tk7 F7 N7 st7 hv7
      subst hv7
      k_extra "go"
      refine tup_eq_led N7 (.head _) (Nat.lt_of_le_of_lt (Nat.le_of_ble_eq_true rfl : _ ≤ 1000) (by decide +kernel)) ?_
      clear ht6 hv6 hdue halike
      clear e4 n4
      cases ok with
      | false =>
        k_extra "go"
        rename Fr g4 _ _ _ => F8
        rename News g4 _ _ _ => N8
        exact ⟨g4, _, _, _, rfl, good4, ⟨by k_extra "look", by k_extra "look", by k_extra "look", by k_extra "look", by k_extra "look"⟩, F8, fun p hp => N8 p (.tail _ hp)⟩
      | true =>
        obtain ⟨hy, hacc⟩ := hG st y q
        iterate 80 (first | (with_reducible show wpAny _ _ (call (Value.ref 491) _) _ _ _) | ((try dsimp only); walk1))
        rename Fr g4 _ _ _ => F8
        rename News g4 _ _ _ => N8
        have RR := R.keeps (fun b o e => F8.keep b o (gs4 b o e))
        refine useRX (accepts_c wa ah na hasC ns y v5 hv sv lh ls hy hns) B4 F8 N8 W0 rfl (Nat.le_of_ble_eq_true rfl) (Nat.le_of_ble_eq_true rfl) ⟨RR.1, r5.keeps (fun b o e => F8.keep b o (gs4 b o e)), RR.2.2⟩ rfl ?_ ?_
        · intro v9 h9 tk9 F9 N9 st9 hv9
          obtain ⟨b, hb, rfl⟩ := hv9
          rw [hacc] at hb
          cases hb
          clear F8 N8
          k_extra "go"
          rename Fr g4 _ _ _ => F8
          rename News g4 _ _ _ => N8
          exact ⟨g4, _, _, _, rfl, good4, ⟨by k_extra "look", by k_extra "look", by k_extra "look", by k_extra "look", by k_extra "look"⟩, F8, fun p hp => N8 p (.tail _ hp)⟩
        · intro e s' bad _
          rw [hacc] at bad
          cases bad
  · rintro g h tk m ⟨T3, _⟩ J3 F3
    dsimp only
    k_extra "go"
    exact hQ _ _ _ (.of_turn T3 (Fr.keep (by assumption))) rfl
noncomputable def bools : List Bool := [false, true]
noncomputable def ckO (hasC : Bool) (n : Str) (l lh ls : List CI) : Bool := acceptsN hasC n (.obj 0 l) lh ls == lawTakes hasC n (.obj 0 l) lh ls
noncomputable def ckC (hasC : Bool) (c : CW) : Bool := c.lines.all fun l => words21.all fun n => if n == Str.ofString "float" then true else
  if n == Str.ofString "static" then c.scopes.all fun ls => ckO hasC n l [] ls else if selfW.any (fun z => z == n) then c.scopes.all fun lh => ckO hasC n l lh [] else ckO hasC n l [] []
theorem ck_all : (bools.all fun hasC => bools.all fun w0 => bools.all fun w1 => bools.all fun w2 => bools.all fun s0 => bools.all fun s1 => bools.all fun s2 => !(CW.good ⟨w0, w1, w2, s0, s1, s2⟩) || ckC hasC ⟨w0, w1, w2, s0, s1, s2⟩) = true := by decide +kernel
theorem bools_all {p : Bool → Bool} (h : bools.all p = true) (b : Bool) : p b = true := by
  unfold bools at h
  simp only [List.all_cons, List.all_nil, Bool.and_true, Bool.and_eq_true] at h
  cases b
  · exact h.1
  · exact h.2
theorem ck_one (hasC : Bool) (c : CW) (hc : c.good = true) : ckC hasC c = true := by
  obtain ⟨w0, w1, w2, s0, s1, s2⟩ := c
  have := bools_all (bools_all (bools_all (bools_all (bools_all (bools_all (bools_all ck_all hasC) w0) w1) w2) s0) s1) s2
  rw [hc] at this
  exact this
theorem acc_ls {hasC : Bool} {n : Str} {x : V} {lh ls : List CI} (h : (n == Str.ofString "static") = false) : acceptsN hasC n x lh ls = acceptsN hasC n x lh [] ∧ lawTakes hasC n x lh ls = lawTakes hasC n x lh [] := by
  have e : (n == "static") = false := h
  constructor
  · unfold acceptsN byClassV
    rw [e]
    simp only [Bool.false_eq_true, if_false]
  · unfold lawTakes takesObj
    cases x <;> try rfl
    cases h1 : (selfW.any fun z => z == n) with
    | false => simp only [Bool.false_eq_true, if_false]
    | true =>
      have : (n == Str.ofString "self") = true ∨ (n == Str.ofString "parent") = true := by
        unfold selfW at h1
        simp only [List.any_cons, List.any_nil, Bool.or_false, Bool.or_eq_true] at h1
        rcases h1 with q | q | q
        · rw [beq_iff_eq] at q ⊢; exact .inl q.symm
        · rw [beq_iff_eq] at q; right; rw [beq_iff_eq]; exact q.symm
        · rw [beq_iff_eq] at q; rw [← q] at h; exact absurd h (by simp)
      rcases this with q | q
      · simp only [q, if_true]
      · simp only [q, if_true]
theorem acc_lh {hasC : Bool} {n : Str} {x : V} {lh ls : List CI} (h1 : (n == Str.ofString "self") = false) (h2 : (n == Str.ofString "parent") = false) : acceptsN hasC n x lh ls = acceptsN hasC n x [] ls ∧ lawTakes hasC n x lh ls = lawTakes hasC n x [] ls := by
  have e1 : (n == "self") = false := h1
  have e2 : (n == "parent") = false := h2
  constructor
  · unfold acceptsN byClassV
    rw [e1, e2]
    simp only [Bool.false_eq_true, if_false]
  · unfold lawTakes takesObj
    cases x <;> try rfl
    simp only [h1, h2, Bool.false_eq_true, if_false]
theorem ckO_eq {hasC : Bool} {n : Str} {a : Addr} {l lh ls : List CI} (h : ckO hasC n l lh ls = true) : acceptsN hasC n (.obj a l) lh ls = lawTakes hasC n (.obj a l) lh ls := by
  have e1 : acceptsN hasC n (.obj a l) lh ls = acceptsN hasC n (.obj 0 l) lh ls := by
    have f : ∀ k, isOfV (.obj a l) k = isOfV (.obj 0 l) k := fun k => by cases k <;> rfl
    have g : callV hasC (.obj a l) = callV hasC (.obj 0 l) := by cases hasC <;> cases l <;> rfl
    unfold acceptsN byClassV
    rw [f, f, f, g]
    rfl
  have e2 : lawTakes hasC n (.obj a l) lh ls = lawTakes hasC n (.obj 0 l) lh ls := by
    have g : takesCall hasC (.obj a l) = takesCall hasC (.obj 0 l) := by cases hasC <;> cases l <;> rfl
    unfold lawTakes
    rw [g]
    rfl
  rw [e1, e2]
  exact eq_of_beq h
theorem one_obj {hasC : Bool} {n : Str} {a : Addr} {l lh ls : List CI} {c : CW} (hc : c.good = true) (hl : l ∈ c.lines) (hh : lh ∈ c.scopes) (hs : ls ∈ c.scopes) (hn : n ∈ words21) (hf : (n == Str.ofString "float") = false) :
    acceptsN hasC n (.obj a l) lh ls = lawTakes hasC n (.obj a l) lh ls := by
  have q := List.all_eq_true.mp (List.all_eq_true.mp (ck_one hasC c hc) l hl) n hn
  rw [hf] at q
  simp only [Bool.false_eq_true, if_false] at q
  cases q1 : n == Str.ofString "static" with
  | true =>
    have n1 : (n == Str.ofString "self") = false := by rw [beq_iff_eq] at q1; rw [q1]; decide +kernel
    have n2 : (n == Str.ofString "parent") = false := by rw [beq_iff_eq] at q1; rw [q1]; decide +kernel
    rw [(acc_lh n1 n2).1, (acc_lh n1 n2).2]
    rw [q1] at q
    simp only [if_true] at q
    exact ckO_eq (List.all_eq_true.mp q ls hs)
  | false =>
    rw [(acc_ls q1).1, (acc_ls q1).2]
    rw [q1] at q
    simp only [Bool.false_eq_true, if_false] at q
    cases q2 : (selfW.any fun z => z == n) with
    | true =>
      rw [if_pos q2] at q
      exact ckO_eq (List.all_eq_true.mp q lh hh)
    | false =>
      rw [if_neg (by rw [q2]; simp)] at q
      have n1 : (n == Str.ofString "self") = false := by
        rw [Bool.eq_false_iff]; intro z; rw [beq_iff_eq] at z; rw [z] at q2; revert q2; decide +kernel
      have n2 : (n == Str.ofString "parent") = false := by
        rw [Bool.eq_false_iff]; intro z; rw [beq_iff_eq] at z; rw [z] at q2; revert q2; decide +kernel
      rw [(acc_lh n1 n2).1, (acc_lh n1 n2).2]
      exact ckO_eq q
theorem off {x : V} (hx : ∀ a l, x ≠ .obj a l) (l : List CI) : isOfV x l = false := by
  cases l with
  | nil => rfl
  | cons c r => cases x <;> first | rfl | exact absurd rfl (hx _ _)
theorem one_plain {hasC : Bool} {n : Str} {x : V} {lh ls : List CI} (hx : ∀ a l, x ≠ .obj a l) (hn : n ∈ words21) : acceptsN hasC n x lh ls = lawTakes hasC n x lh ls := by
  have e1 : acceptsN hasC n x lh ls = acceptsN hasC n x [] [] := by unfold acceptsN byClassV; simp only [off hx]
  have e2 : lawTakes hasC n x lh ls = lawTakes hasC n x [] [] := by unfold lawTakes takesObj; cases x <;> first | rfl | exact absurd rfl (hx _ _)
  rw [e1, e2]
  clear e1 e2
  have one : ∀ hc y, words21.map (fun n => acceptsN hc n y [] []) = words21.map (fun n => lawTakes hc n y [] []) → acceptsN hc n y [] [] = lawTakes hc n y [] [] := fun _ _ h => List.map_inj_left.mp h n hn
  cases x with
  | obj a l => exact absurd rfl (hx _ _)
  | bool b => cases hasC <;> cases b <;> exact one _ _ (by kernel_rfl)
  | _ => cases hasC <;> exact one _ _ (by kernel_rfl)
noncomputable def V.lawful (c : CW) (x : V) : Prop := ∀ a l, x = .obj a l → l ∈ c.lines
theorem one_any {hasC : Bool} {n : Str} {x : V} {lh ls : List CI} {c : CW} (hc : c.good = true) (hx : x.lawful c) (hh : lh ∈ c.scopes) (hs : ls ∈ c.scopes) (hn : n ∈ words21) (hf : (n == Str.ofString "float") = false) : acceptsN hasC n x lh ls = lawTakes hasC n x lh ls := by
  cases x with
  | obj a l => exact one_obj hc (hx a l rfl) hh hs hn hf
  | _ => exact one_plain (by intro a l; nofun) hn
theorem accepts_eq {hasC : Bool} {ns : List Str} {x : V} {lh ls : List CI} {c : CW} (hc : c.good = true) (hx : x.lawful c) (hh : lh ∈ c.scopes) (hs : ls ∈ c.scopes) (hn : ∀ n ∈ ns, n ∈ words21) : acceptsV hasC ns x lh ls = acceptedV hasC ns x lh ls := by
  have e : ns.any (takes1 hasC x lh ls) = ns.any fun n => !(n == Str.ofString "float") && lawTakes hasC n x lh ls := by
    rw [Bool.eq_iff_iff, List.any_eq_true, List.any_eq_true]
    have one : ∀ n ∈ ns, takes1 hasC x lh ls n = (!(n == Str.ofString "float") && lawTakes hasC n x lh ls) := fun n h => by
      unfold takes1
      cases q : n == Str.ofString "float" with
      | true => rfl
      | false => rw [one_any hc hx hh hs (hn n h) q]
    exact ⟨fun ⟨n, h, k⟩ => ⟨n, h, (one n h).symm.trans k⟩, fun ⟨n, h, k⟩ => ⟨n, h, (one n h).trans k⟩⟩
  unfold acceptsV acceptedV
  rw [e]
theorem not_taken {hasC : Bool} {ns : List Str} {x : V} {lh ls : List CI} (h : acceptsV hasC ns x lh ls = some false) {n : Str} (hn : n ∈ scalars3) (hin : hasN ns n = true) : (kindS x == n) = false := by
  unfold acceptsV at h
  split at h
  · cases h
  · rename_i q
    rw [Bool.eq_false_iff]
    intro e
    refine q (List.any_eq_true.mpr ?_)
    unfold hasN at hin
    obtain ⟨z, hz, ez⟩ := List.any_eq_true.mp hin
    rw [beq_iff_eq] at ez
    subst ez
    refine ⟨z, hz, ?_⟩
    unfold scalars3 at hn
    simp only [List.mem_cons, List.not_mem_nil, or_false] at hn
    unfold takes1 acceptsN
    rcases hn with rfl | rfl | rfl
    · rw [if_pos (by decide +kernel), e]; decide +kernel
    · rw [if_pos (by decide +kernel), e]; decide +kernel
    · rw [if_pos (by decide +kernel), e]; decide +kernel
theorem taken_own {hasC : Bool} {ns : List Str} {x : V} {lh ls : List CI} {n : Str} (hn : n ∈ scalars3) (hin : hasN ns n = true) (e : (kindS x == n) = true) : acceptsV hasC ns x lh ls = some true := by
  unfold hasN at hin
  obtain ⟨z, hz, ez⟩ := List.any_eq_true.mp hin
  rw [beq_iff_eq] at ez
  subst ez
  unfold acceptsV
  rw [if_pos]
  refine List.any_eq_true.mpr ⟨z, hz, ?_⟩
  unfold scalars3 at hn
  simp only [List.mem_cons, List.not_mem_nil, or_false] at hn
  unfold takes1 acceptsN
  rcases hn with rfl | rfl | rfl
  · rw [if_pos (by decide +kernel), e]; decide +kernel
  · rw [if_pos (by decide +kernel), e]; decide +kernel
  · rw [if_pos (by decide +kernel), e]; decide +kernel
theorem nInt : Str.ofString "int" ∈ scalars3 := .head _
theorem nStr : Str.ofString "string" ∈ scalars3 := .tail _ (.head _)
theorem nBool : Str.ofString "bool" ∈ scalars3 := .tail _ (.tail _ (.head _))
theorem cvS (x : V) : coercedV (Str.ofString "string") x = some (true, .str (toTextV x)) := by unfold coercedV; rw [if_pos (by decide +kernel)]
theorem cvO (n : Str) (hn : (n == Str.ofString "string") = false) (a : Addr) (l : List CI) : coercedV n (.obj a l) = some (false, .obj a l) := by unfold coercedV; rw [if_neg (by rw [hn]; simp)]
theorem i1 : (Str.ofString "int" == Str.ofString "string") = false := by decide +kernel
theorem i2 : (Str.ofString "bool" == Str.ofString "string") = false := by decide +kernel
theorem i3 : (Str.ofString "int" == Str.ofString "bool") = false := by decide +kernel
theorem cvB1 (b : Bool) : coercedV (Str.ofString "int") (.bool b) = some (true, .int (if b then 1 else 0)) := by unfold coercedV; rw [if_neg (by rw [i1]; simp)]; dsimp only; rw [if_neg (by rw [i3]; simp)]
theorem cvI1 (n : Int) : coercedV (Str.ofString "int") (.int n) = some (false, .int n) := by unfold coercedV; rw [if_neg (by rw [i1]; simp)]; dsimp only; rw [if_neg (by rw [i3]; simp)]
theorem cvS1 (t : Str) : coercedV (Str.ofString "int") (.str t) = if (numericV t).sort = 2 then (match (numericV t).value with | some n => some (true, .int n) | none => none) else some (false, .str t) := by unfold coercedV; rw [if_neg (by rw [i1]; simp)]; dsimp only; rw [if_neg (by rw [i3]; simp)]; try rfl
theorem cvB {x : V} (hx : ∀ a l, x ≠ .obj a l) : coercedV (Str.ofString "bool") x = some (true, .bool (toBoolV x)) := by
  unfold coercedV
  rw [if_neg (by rw [i2]; simp)]
  cases x with
  | obj a l => exact absurd rfl (hx a l)
  | _ => dsimp only; rw [if_pos (by decide +kernel)]
theorem goV_eq (ns : List Str) (x : V) : goV ns x scalars3 =
    if hasN ns (Str.ofString "int") = true then (match coercedV (Str.ofString "int") x with
      | none => none
      | some (true, y) => some (true, y)
      | some (false, _) => if hasN ns (Str.ofString "string") = true then some (true, .str (toTextV x)) else if hasN ns (Str.ofString "bool") = true then (match coercedV (Str.ofString "bool") x with | none => none | some (true, y) => some (true, y) | some (false, _) => some (false, x)) else some (false, x))
    else if hasN ns (Str.ofString "string") = true then some (true, .str (toTextV x)) else if hasN ns (Str.ofString "bool") = true then (match coercedV (Str.ofString "bool") x with | none => none | some (true, y) => some (true, y) | some (false, _) => some (false, x)) else some (false, x) := by
  unfold scalars3
  simp only [goV, hasN, cvS]
  rcases coercedV (Str.ofString "int") x with _ | ⟨_ | _, y⟩ <;> rcases coercedV (Str.ofString "bool") x with _ | ⟨_ | _, z⟩ <;> rfl
theorem notZ (t : Str) : (!([Str.ofString "", Str.ofString "0"].any fun z => z == t)) = notEmptyZero t := by
  unfold notEmptyZero
  have c : ∀ z : Str, (z == t) = (t == z) := fun z => by rw [Bool.eq_iff_iff, beq_iff_eq, beq_iff_eq, eq_comm]
  simp only [List.any_cons, List.any_nil, Bool.or_false, Bool.not_or, c]
theorem brought_eq {hasC : Bool} {ns : List Str} {x : V} {lh ls : List CI} (h : acceptsV hasC ns x lh ls = some false) : (if goes x = true then goV ns x scalars3 else some (false, x)) = broughtV ns x := by
  have hi := fun e => not_taken h nInt e
  have hs := fun e => not_taken h nStr e
  have hb := fun e => not_taken h nBool e
  rw [goV_eq]
  cases x with
  | null => rw [if_neg (show ¬ goes .null = true by decide +kernel)]; rfl
  | arr a => rw [if_neg (show ¬ goes (.arr a) = true by rw [show goes (.arr a) = goes (.arr 0) from rfl]; decide +kernel)]; rfl
  | bool b =>
    rw [if_pos (show goes (.bool b) = true by cases b <;> decide +kernel), cvB1]
    have : hasN ns (Str.ofString "bool") = false := by
      rw [Bool.eq_false_iff]; intro e; exact absurd (hb e) (by rw [ks2]; simp)
    simp only [broughtV, this, Bool.false_eq_true, if_false]
  | int n =>
    rw [if_pos (show goes (.int n) = true by rw [show goes (.int n) = goes (.int 0) from rfl]; decide +kernel), cvB (by intro a l; nofun)]
    have : hasN ns (Str.ofString "int") = false := by
      rw [Bool.eq_false_iff]; intro e; exact absurd (hi e) (by rw [ks3]; simp)
    simp only [broughtV, this, Bool.false_eq_true, if_false, toBoolV]
  | str t =>
    rw [if_pos (show goes (.str t) = true by rw [show goes (.str t) = goes (.str ⟨#[]⟩) from rfl]; decide +kernel), cvB (by intro a l; nofun), cvS1]
    have : hasN ns (Str.ofString "string") = false := by
      rw [Bool.eq_false_iff]; intro e; exact absurd (hs e) (by rw [ks4]; simp)
    simp only [broughtV, this, Bool.false_eq_true, if_false, toBoolV, lawNum, notZ]
    split
    · by_cases q : (numericV t).sort = 2
      · rw [if_pos q, if_pos q]
        cases (numericV t).value <;> rfl
      · rw [if_neg q, if_neg q]
    · rfl
  | obj a l =>
    have g : goes (.obj a l) = anyShown l := by
      unfold goes shownV
      rw [ks6, show ([Str.ofString "int", Str.ofString "bool", Str.ofString "string"].any fun z => z == Str.ofString "object") = false by decide +kernel, show (Str.ofString "object" == Str.ofString "object") = true by decide +kernel, Bool.false_or, Bool.true_and]
    rw [g, cvO _ i1, cvO _ i2]
    simp only [broughtV]
    cases anyShown l <;> simp only [Bool.false_eq_true, if_false, if_true, Bool.false_and, Bool.true_and]
    all_goals (split <;> split <;> (try split) <;> first | rfl | simp_all)
theorem coerce_eq {hasC : Bool} {ns : List Str} {x : V} {lh ls : List CI} (hA : acceptsV hasC ns x lh ls = acceptedV hasC ns x lh ls) (st : Bool) : coerceV hasC ns x st lh ls = dueV hasC ns x st lh ls := by
  unfold coerceV dueV
  rw [← hA]
  cases q : acceptsV hasC ns x lh ls with
  | none => rfl
  | some b =>
    cases b
    · dsimp only
      rw [brought_eq q]
    · rfl
theorem ite_none {α : Type} {p : Prop} {d : Decidable p} {v : α} {n : α} {P : Prop} (h : (@ite _ p d none (some v)) = some n) (k : ¬ p → v = n → P) : P := by
  by_cases q : p
  · rw [if_pos q] at h; cases h
  · rw [if_neg q] at h; exact k q (Option.some.inj h)
theorem signed_ok {b : Bool} {v n : Int} (h : signedV b v = some n) : -9223372036854775808 ≤ n ∧ n ≤ 9223372036854775807 := by
  unfold signedV at h
  cases b
  all_goals (
    simp only [if_true, Bool.false_eq_true, if_false] at h
    refine ite_none h fun q e => by cases e; omega)
theorem numeric_ok {t : Str} {n : Int} (h : (numericV t).value = some n) : -9223372036854775808 ≤ n ∧ n ≤ 9223372036854775807 := by
  unfold numericV at h
  have k : numValue t = some n → -9223372036854775808 ≤ n ∧ n ≤ 9223372036854775807 := fun e => by
    unfold numValue at e
    split at e
    · exact signed_ok e
    · cases e
  split at h
  · cases h
    omega
  · split at h
    · exact k h
    · exact k h
theorem text_ok {x : V} (hx : x.ok) (hn : ∀ a c l, x = .obj a (c :: l) → c.name.length ≤ 100) : (V.str (toTextV x)).ok := by
  cases x with
  | bool b => cases b <;> exact Nat.le_of_ble_eq_true (by decide +kernel)
  | int n =>
    obtain ⟨h1, h2⟩ : -9223372036854775808 ≤ n ∧ n ≤ 9223372036854775807 := hx
    have e := int_text_length_le10 (a := n) (k := 19) (by decide) (by omega)
    show (Str.ofString (toString n)).length ≤ 900
    rw [PySem.ofString_length]
    omega
  | str t => exact hx
  | obj a l =>
    cases l with
    | nil => exact Nat.zero_le _
    | cons c l =>
      have := hn _ _ _ rfl
      show (Str.ofString "text of " ++ c.name).length ≤ 900
      rw [Str.length_append, show (Str.ofString "text of ").length = 8 by decide +kernel]
      omega
  | null => exact Nat.zero_le _
  | arr a => exact Nat.zero_le _
theorem coerce_good {hasC : Bool} {ns : List Str} {x y : V} {st : Bool} {lh ls : List CI} (hx : x.ok) (hn : ∀ a c l, x = .obj a (c :: l) → c.name.length ≤ 100) (h : coerceV hasC ns x st lh ls = some (true, y)) : y.ok ∧ acceptsV hasC ns y lh ls = some true := by
  unfold coerceV at h
  split at h
  · cases h
  · rename_i q
    cases h
    exact ⟨hx, q⟩
  · rename_i q
    split at h
    · cases h
    · split at h
      · rename_i g
        have S : hasN ns (Str.ofString "string") = true → some (true, V.str (toTextV x)) = some (true, y) → y.ok ∧ acceptsV hasC ns y lh ls = some true := fun e f => by
          cases f
          exact ⟨text_ok hx hn, taken_own nStr e (by rw [ks4]; decide +kernel)⟩
        have B : hasN ns (Str.ofString "bool") = true → (match coercedV (Str.ofString "bool") x with | none => none | some (true, y) => some (true, y) | some (false, _) => some (false, x)) = some (true, y) → y.ok ∧ acceptsV hasC ns y lh ls = some true := fun e f => by
          cases x with
          | obj a l => rw [cvO _ i2] at f; cases f
          | _ =>
            rw [cvB (by intro a l; nofun)] at f
            cases f
            exact ⟨trivial, taken_own nBool e (by rw [ks2]; decide +kernel)⟩
        rw [goV_eq] at h
        have SB : (if hasN ns (Str.ofString "string") = true then some (true, V.str (toTextV x)) else if hasN ns (Str.ofString "bool") = true then (match coercedV (Str.ofString "bool") x with | none => none | some (true, y) => some (true, y) | some (false, _) => some (false, x)) else some (false, x)) = some (true, y) → y.ok ∧ acceptsV hasC ns y lh ls = some true := fun h => by
          split at h
          · rename_i e; exact S e h
          · split at h
            · rename_i e; exact B e h
            · cases h
        split at h
        · rename_i e
          have I : ∀ n, (-9223372036854775808 ≤ n ∧ n ≤ 9223372036854775807) → some (true, V.int n) = some (true, y) → y.ok ∧ acceptsV hasC ns y lh ls = some true := fun n k f => by
            cases f
            exact ⟨k, taken_own nInt e (by rw [ks3]; decide +kernel)⟩
          cases x with
          | null => exact absurd g (by decide +kernel)
          | arr a => exact absurd g (by rw [show goes (.arr a) = goes (.arr 0) from rfl]; decide +kernel)
          | obj a l => rw [cvO _ i1] at h; exact SB h
          | bool b => rw [cvB1] at h; exact I _ (by cases b <;> decide) h
          | int n => rw [cvI1] at h; exact SB h
          | str t =>
            rw [cvS1] at h
            by_cases q2 : (numericV t).sort = 2
            · rw [if_pos q2] at h
              cases q3 : (numericV t).value with
              | none => rw [q3] at h; cases h
              | some n => rw [q3] at h; exact I n (numeric_ok q3) h
            · rw [if_neg q2] at h
              exact SB h
        · exact SB h
      · cases h
theorem hide_stays {h : Heap} {l : List Addr} : (hideAll h l).StaysIn h := fun _ _ e => of_hideAll _ e
theorem hide_keeps {g h : Heap} {a : Addr} (k : g.StaysIn h) (n : g.get? a = none) : g.StaysIn (hideAll h [a]) := fun b o e => hideAll_get _ (k b o e) fun hm => by
  rw [List.mem_singleton.mp hm, n] at e; cases e
theorem useN {w : World} {mean : ExcName → Option Value} {mg mb : Str → Option Value} {d u : Nat} {f : Addr} {vs : List Value} {ln : Addr} {its : Array Value} {k : Nat} {Post : Value → Heap → Prop} {A : Around} {s : Shared} {Q E : Value → Shared → Prop}
    {h₀ : Heap} {L : Addr} {m : Str → Option Value} {news : List (Addr × Obj)} (P : ∀ g, h₀.StaysIn g → PureN w mean mg mb d u f vs g ln its k fun _ v h' => Post v h') (F : Fr h₀ L s.heap m) (N : News h₀ L s.heap ((ln, W.listOf its k) :: news)) (nd : ∀ p ∈ news, p.1 ≠ ln) (W0 : Wd w mean mg mb h₀)
    (e1 : A.handled = none) (e2 : A.depth ≤ d) (e3 : A.units ≤ u)
    (kk : ∀ v h' tk, Fr h₀ L h' m → News h₀ L h' news → Post v h' → Q v { s with heap := h', toks := tk }) : wpAny (model Challenge.rw_pq0857_01.row.prog w) A (call (.ref f) vs) Q E s := by
  obtain ⟨n1, n2, n3⟩ := N _ (.head _)
  have k0 := hide_keeps (a := ln) (fun b o e => F.keep b o e) n3
  refine P (hideAll s.heap [ln]) k0 A s Q E e1 e2 e3 (W0.keeps k0) hide_stays (Nat.le_of_eq (hideAll_size _ _)) n1 (hideAll_none _ (.head _)) fun v h' tk st sz po => kk v h' tk ?_ ?_ po
  · obtain ⟨o, es, ep, ho, hd, r⟩ := F.ns
    exact ⟨⟨o, es, ep, st _ _ (hideAll_get _ ho fun hm => n2 (List.mem_singleton.mp hm).symm), hd, r⟩, fun b o e => st b o (k0 b o e), F.above⟩
  · intro p hp
    obtain ⟨z1, z2, z3⟩ := N p (.tail _ hp)
    exact ⟨st _ _ (hideAll_get _ z1 fun hm => nd p hp (List.mem_singleton.mp hm)), z2, z3⟩
theorem fr_size {h₀ h : Heap} {L : Addr} {m : Str → Option Value} (F : Fr h₀ L h m) : h₀.objs.size ≤ h.objs.size := by
  obtain ⟨o, _, _, ho, _⟩ := F.ns
  exact Nat.le_of_lt (Nat.lt_of_le_of_lt F.above (Heap.lt_size ho))
noncomputable def Noted (g : Heap) (ln : Addr) (tx : Str) (h : Heap) : Prop := ∃ t u1 u2 k, h.get? ln = some (W.listOf #[.ref t] k) ∧ h.get? t = some { cls := .type "tuple", data := .seq #[.str (Str.ofString "Deprecated") u1, .str tx u2] } ∧ g.get? t = none
theorem Noted.less {g g' : Heap} {ln : Addr} {tx : Str} {h : Heap} (x : Noted g' ln tx h) (k : g.StaysIn g') : Noted g ln tx h := by
  obtain ⟨t, a, b, c, p, q, r⟩ := x
  refine ⟨t, a, b, c, p, q, ?_⟩
  cases e : g.get? t with
  | none => rfl
  | some o => rw [k _ _ e] at r; cases r
theorem PureN.weaken {w : World} {mean : ExcName → Option Value} {mg mb : Str → Option Value} {d u : Nat} {f : Addr} {vs : List Value} {g : Heap} {ln : Addr} {its : Array Value} {k : Nat} {Post Post' : Heap → Value → Heap → Prop} (P : PureN w mean mg mb d u f vs g ln its k Post) (h : ∀ v h', Post g v h' → Post' g v h') : PureN w mean mg mb d u f vs g ln its k Post' :=
  fun A s Q E a b c d e f i j hQ => P A s Q E a b c d e f i j fun v h' tk p q r => hQ v h' tk p q (h v h' r)
theorem warn_c {w : World} {mean mg mb} (ah ln : Addr) (hasC : Bool) (tx : Str) (u1 u2 : Tok) (g : Heap) (k : Nat) (H : HostAt w g ah hasC) (Hn : At g ah 629 "notes" (.ref ln)) :
    PureN w mean mg mb 940 950 563 [.ref ah, .str (Str.ofString "Deprecated") u1, .str tx u2] g ln #[] k (fun _ _ h' => Noted g ln tx h') := by
  intro A s Q E e1 e2 e3 W0 st sz hl hg hQ
  refine in_mono (A' := ⟨none, 940, A.frames, A.guards, 950⟩) ?_ e1 e2 rfl rfl e3
  generalize A.frames = fr
  generalize A.guards = gd
  refine' enterN (binds := [("self", .ref ah), ("level", .str (Str.ofString "Deprecated") u1), ("text", .str tx u2)]) W0 st sz hl hg ?k1 ?kf1 ?kf2 ?kf3 ?k2 ?k3 ?k4 ?k5 ?_ ?k6 ?k7 ?k8 ?k9
  k_extra "enter"
  have X' := W0.X
  have T' := W0.T
  intro L' h₁ tk2 F' N'
  obtain ⟨ts, hs⟩ := H.silent
  k_extra "go"
  rename Fr _ _ _ _ => F3
  rename News _ _ _ _ => N3
  exact hQ _ _ _ F3.keep (fr_size F3) ⟨_, _, _, _, (N3 _ (.tail _ (.head _))).1, (N3 _ (.head _)).1, (N3 _ (.head _)).2.2⟩
noncomputable def nnV (ns : List Str) : V := if (ns.any fun z => z == Str.ofString "int") = true then .int 0 else if (ns.any fun z => z == Str.ofString "string") = true then .str (Str.ofString "") else .bool false
theorem native_null_c {w : World} {mean mg mb} (wa ah na ln : Addr) (hasC : Bool) (ns : List Str) (wh : Str) (u1 : Tok) (g : Heap) (k : Nat) (H : HostAt w g ah hasC) (Hn : At g ah 629 "notes" (.ref ln)) (NS : TupStrs g na ns)
    (hns : ∀ n ∈ ns, n.length ≤ 100) (hn : ns.length ≤ 4) (hn0 : 0 < ns.length) (hwh : wh.length ≤ 1000) (htt : (typeTextV ns).length ≤ 1000) (hsc : scalars3.any (fun n => ns.any fun z => z == n) = true) :
    PureN w mean mg mb 900 910 512 [.ref ah, .ref na, .str wh u1] g ln #[] k (fun _ v h' => Rep w wa h' (nnV ns) v ∧ Noted g ln (wh ++ Str.ofString " of type " ++ typeTextV ns ++ Str.ofString " is deprecated") h') := by
  intro A s Q E e1 e2 e3 W0 st sz hl hg hQ
  refine in_mono (A' := ⟨none, 900, A.frames, A.guards, 910⟩) ?_ e1 e2 rfl rfl e3
  generalize A.frames = fr
  generalize A.guards = gd
  refine' enterN (binds := [("host", .ref ah), ("names", .ref na), ("where", .str wh u1)]) W0 st sz hl hg ?k1 ?kf1 ?kf2 ?kf3 ?k2 ?k3 ?k4 ?k5 ?_ ?k6 ?k7 ?k8 ?k9
  k_extra "enter"
  have X' := W0.X
  have T' := W0.T
  intro L' h₁ tk2 F' N'
  iterate 60 (first | (with_reducible show wpAny _ _ (call (Value.ref 563) _) _ _ _) | ((try dsimp only); walk1))
  rename Fr _ _ _ _ => F3
  rename News _ _ _ _ => N3
  have P := fun u1 u2 g' (kg : g.StaysIn g') => warn_c (w := w) (mean := mean) (mg := mg) (mb := mb) ah ln hasC (wh ++ Str.ofString " of type " ++ typeTextV ns ++ Str.ofString " is deprecated") u1 u2 g' k (H.keeps kg) (Hn.keeps kg) |>.weaken (Post' := fun _ _ h' => Noted g ln (wh ++ Str.ofString " of type " ++ typeTextV ns ++ Str.ofString " is deprecated") h') fun _ _ x => x.less kg
  k_dflt (refine' useN (P _ _) ?u1 ?u2 ?u3 ?u4 ?u5 ?u6 ?u7 ?u8; (case u1 => k_extra "A"); (case u2 => k_extra "A"); (case u3 => exact fun _ h => absurd h List.not_mem_nil); (case u4 => k_extra "A"); (case u5 => rfl); (case u6 => exact Nat.le_of_ble_eq_true rfl); (case u7 => exact Nat.le_of_ble_eq_true rfl))
  clear F3 N3
  intro v h' tk3 F3 N3 po
  have sz' := fr_size F3
  k_extra "go"
  · exact hQ _ _ _ F3.keep sz' ⟨by unfold nnV; rw [if_pos (by assumption)]; exact ⟨_, rfl⟩, po⟩
  · rename ((List.any _ _) = false) => e1
    exact hQ _ _ _ F3.keep sz' ⟨by unfold nnV; rw [if_neg (by rw [e1]; simp), if_pos (by assumption)]; exact ⟨_, rfl⟩, po⟩
  · rename (List.any _ (fun x => x == Str.ofString "int") = false) => e1
    rename (List.any _ (fun x => x == Str.ofString "string") = false) => e2
    exact hQ _ _ _ F3.keep sz' ⟨by unfold nnV; rw [if_neg (by rw [e1]; simp), if_neg (by rw [e2]; simp)]; rfl, po⟩
  · rename (List.any _ (fun x => x == Str.ofString "int") = false) => e1
    rename (List.any _ (fun x => x == Str.ofString "string") = false) => e2
    rename (List.any _ (fun x => x == Str.ofString "bool") = false) => e3
    unfold scalars3 at hsc
    simp only [List.any_cons, List.any_nil, Bool.or_false, Bool.or_eq_true] at hsc
    rcases hsc with z | z | z
    · rw [e1] at z; cases z
    · rw [e2] at z; cases z
    · rw [e3] at z; cases z
theorem enterM {w : World} {mean : ExcName → Option Value} {mg mb : Str → Option Value} {A : Around} {s : Shared} {Q E : Value → Shared → Prop} {C f : Addr} {vs : List Value} {binds : Addr → List (Str × Value)} {d u : Nat}
    {name qual : Str} {p params : Arguments} {b body : List Stmt} {sc scope : Scope} {dV kV doc pm cdv ct oc : Value} {an od : Option Addr} {osl : Array (Option Value)}
    (W : Wd w mean mg mb s.heap) (hh : A.handled = none) (hd : A.depth + 1 ≤ d) (hu : A.units + 8 ≤ u) (hm : makesIn (Hd.K w.params) C = true) (hi : findIn (Hd.K w.params) (.ref C) "__init__" = some (some (.ref f))) (hf : isFn (Hd.K w.params) (.ref f) = true)
    (ho : (Hd.K w.params).lookup f = some ⟨oc, od, .func (fdOf name qual p b sc dV kV doc pm an cdv ct), osl⟩) (he1 : p = params) (he2 : b = body) (he3 : sc = scope) (hcd : codeIn (Hd.K w.params) cdv qual = true) (hroom : A.depth + 1 < recursionLimit)
    (hbind : ∀ x s', (Hd.K w.params).In s'.heap → BindsTo s' (fnOf name qual params body scope dV kV doc pm an cdv ct) ⟨.ref x :: vs, []⟩ (binds x)) (hloc : ∀ x, ∀ y ∈ binds x, scope.names.lookup y.1 = some .local)
    (h : ∀ x dx L' h₁ tk fr gd, Fr s.heap L' h₁ (mp (binds x).reverse) → News s.heap L' h₁ [(dx, dictOf [] 0), (x, instObj C dx)] → x ≠ dx →
      wpAny (model Challenge.rw_pq0857_01.row.prog w) ((⟨none, d, fr, gd, u⟩ : Around).deeper (envOf qual scope L' f cdv)) (execs body (envOf qual scope L' f cdv))
        (fun fl s' => (match fl with | .ret v => v | _ => .none) = Value.none ∧ Q (.ref x) s') (fun _ _ => False) { s with heap := h₁, toks := tk })
    (hcell : ∀ x ∈ scope.names, x.2 ≠ .cell) (hco : scope.isCoroutine = false) (hgen : scope.isGenerator = false) (hk : scope.kind = .function) :
    wpAny (model Challenge.rw_pq0857_01.row.prog w) A (call (.ref C) vs) Q E s := by
  subst he1 he2 he3
  obtain ⟨hh0, g, dd, t, os⟩ := s
  refine wpAny_call (make_core (makes_of W.X hm) (looks_findIn W.X hi) (fun self => bind_fn W.X self (beq_iff_eq.mp hf)) (.inl rfl) ?_)
  have k0 : hh0.StaysIn ((hh0.push emptyDict).push (instObj C hh0.objs.size)) := fun b o e => Heap.get?_push_of_some _ (Heap.get?_push_of_some _ e)
  have hx : ((hh0.push emptyDict).push (instObj C hh0.objs.size)).get? (hh0.objs.size + 1) = some (instObj C hh0.objs.size) := by heap_get
  have hdx : ((hh0.push emptyDict).push (instObj C hh0.objs.size)).get? hh0.objs.size = some emptyDict := Heap.get?_push_of_some _ (Heap.get?_push_size _ rfl)
  have sz : ((hh0.push emptyDict).push (instObj C hh0.objs.size)).objs.size = hh0.objs.size + 2 := by rw [Heap.size_push, Heap.size_push]
  have no : ∀ n, hh0.objs.size ≤ n → hh0.get? n = none := fun n hn => Heap.get?_none_of_le hn
  refine codeAny_call_def (fd := fnOf name qual p b sc dV kV doc pm an cdv ct) (body := b) (binds := binds (hh0.objs.size + 1)) (by rw [depth_under_make]; exact hroom) ((W.X.keeps k0) _ _ ho) rfl (W.T.nolimit.keeps k0) ((codeRec_of W.X hcd).keeps k0) rfl (hbind _ _ (W.X.keeps k0)) hcell (hloc _) (fun h₁ hns hk₁ => ?_) hco hgen hk
  refine in_mono (A' := (⟨none, d, (A.under (.builtin "type.__call__" ⟨.ref C :: vs, []⟩)).frames, (A.under (.builtin "type.__call__" ⟨.ref C :: vs, []⟩)).guards, u⟩ : Around).deeper (envOf qual sc _ f cdv)) ?_ hh ?_ rfl rfl ?_
  · refine wpAny_mono (h (hh0.objs.size + 1) hh0.objs.size _ h₁ _ _ _ ⟨hns, fun b o e => hk₁ b o (k0 b o e), ?_⟩ ?_ (Nat.succ_ne_self _)) (fun fl s' x => ?_) fun _ _ x => x.elim
    · show hh0.objs.size ≤ ((hh0.push emptyDict).push (instObj C hh0.objs.size)).objs.size
      omega
    · intro q hq
      rcases List.mem_cons.mp hq with rfl | hq
      rotate_left
      · obtain rfl := List.mem_singleton.mp hq
        exact ⟨hk₁ _ _ hx, by show _ ≠ ((hh0.push emptyDict).push (instObj C hh0.objs.size)).objs.size; omega, no _ (by omega)⟩
      · exact ⟨hk₁ _ _ hdx, by show _ ≠ ((hh0.push emptyDict).push (instObj C hh0.objs.size)).objs.size; omega, no _ (by omega)⟩
    · exact x
  · show (A.under _).depth + 1 ≤ d + 1
    rw [depth_under_make]; omega
  · show A.units + _ + 3 ≤ u + 3
    have : (Code.builtin "type.__call__" ⟨.ref C :: vs, []⟩).cUnits = 1 := rfl
    omega
open PySem.W
structure Lits (h h' : Heap) (lits : List (Addr × Obj)) : Prop where
  here : ∀ p ∈ lits, h'.get? p.1 = some p.2
  new : ∀ p ∈ lits, h.get? p.1 = none
theorem Lits.of {g h : Heap} {L : Addr} {news lits : List (Addr × Obj)} (N : News g L h news) (s : ∀ p ∈ lits, p ∈ news) : Lits g h lits := ⟨fun p hp => (N p (s p hp)).1, fun p hp => (N p (s p hp)).2.2⟩
theorem isStr_ne {v : Value} {x y : Str} (h : v.isStr x = true) (n : y ≠ x) : v.isStr y = false := by
  cases v with
  | str s t =>
    have e := eq_of_beq (show (s == x) = true from h)
    show (s == y) = false
    cases q : s == y with
    | false => rfl
    | true => exact absurd ((eq_of_beq q).symm.trans e) n
  | _ => rfl
theorem getL_same (x : Str) (hsh : Int) (t : Tok) (v : Value) : ∀ es : List DictEntry, getL x (putL x hsh (.str x t) v es) = some (some v)
  | [] => by
    have : (Value.str x t).isStr x = true := beq_self_eq_true x
    simp [putL, getL, this]
  | e :: r => by
    have ih := getL_same x hsh t v r
    unfold putL
    cases h : e.key.isStr x with
    | true => simp [getL, h]
    | false =>
      simp only [Bool.false_eq_true, if_false]
      unfold getL at ih ⊢
      rw [List.find?_cons, h]
      simp only
      revert ih
      cases q : List.find? (fun e => e.key.isStr x) (putL x hsh (.str x t) v r) with
      | some a => exact fun z => z
      | none =>
        intro z
        by_cases g : (putL x hsh (.str x t) v r).any (·.refKey) = true
        · rw [if_pos g] at z; cases z
        · rw [if_neg g] at z; cases z
theorem find_other {x y : Str} (n : y ≠ x) (hsh : Int) (t : Tok) (v : Value) : ∀ es : List DictEntry, (putL x hsh (.str x t) v es).find? (·.key.isStr y) = es.find? (·.key.isStr y)
  | [] => by
    have : (Value.str x t).isStr y = false := isStr_ne (beq_self_eq_true x) n
    simp [putL, this]
  | e :: r => by
    unfold putL
    cases h : e.key.isStr x with
    | true =>
      have h2 := isStr_ne h n
      simp [h2]
    | false =>
      simp only [Bool.false_eq_true, if_false]
      rw [List.find?_cons, List.find?_cons, find_other n hsh t v r]
theorem any_put {x : Str} (hsh : Int) (t : Tok) (v : Value) : ∀ es : List DictEntry, (putL x hsh (.str x t) v es).any (·.refKey) = es.any (·.refKey)
  | [] => rfl
  | e :: r => by
    unfold putL
    cases h : e.key.isStr x with
    | true => rfl
    | false =>
      simp only [Bool.false_eq_true, if_false]
      rw [List.any_cons, List.any_cons, any_put hsh t v r]
theorem getL_other {x y : Str} (n : y ≠ x) (hsh : Int) (t : Tok) (v : Value) (es : List DictEntry) : getL y (putL x hsh (.str x t) v es) = getL y es := by
  unfold getL
  rw [find_other n, any_put]
theorem len_put {x : Str} (hsh : Int) (t : Tok) (v : Value) : ∀ es : List DictEntry, (putL x hsh (.str x t) v es).length ≤ es.length + 1
  | [] => Nat.le_refl _
  | e :: r => by
    unfold putL
    cases h : e.key.isStr x with
    | true => exact Nat.le_succ _
    | false => simp only [Bool.false_eq_true, if_false, List.length_cons]; exact Nat.succ_le_succ (len_put hsh t v r)
inductive AK where
  | val (v : Value)
  | int (n : Int)
  | list
  | dict
noncomputable abbrev knd (w : World) : KeyKind mprog w Str := PySem.strKind mprog w
noncomputable def AK.ok (w : World) (rest : List (Addr × Obj)) : AK → Value → Prop
  | .val v, u => u = v
  | .int n, u => ∃ t, u = .int n t
  | .list, u => ∃ a, u = .ref a ∧ (a, W.listOf #[] 0) ∈ rest
  | .dict, u => ∃ a o, u = .ref a ∧ (a, o) ∈ rest ∧ o.IsDictOf (knd w) [] ∧ (a == sysModules) = false
theorem AK.ok.more {w : World} {rest rest' : List (Addr × Obj)} {k : AK} {u : Value} (h : k.ok w rest u) (s : ∀ p ∈ rest, p ∈ rest') : k.ok w rest' u := by
  cases k with
  | list => obtain ⟨a, e, m⟩ := h; exact ⟨a, e, s _ m⟩
  | dict => obtain ⟨a, o, e, m, r⟩ := h; exact ⟨a, o, e, s _ m, r⟩
  | _ => exact h
structure Attrs (w : World) (ps : List (Str × AK)) (es : List DictEntry) (rest : List (Addr × Obj)) : Prop where
  len : es.length ≤ ps.length
  get : ∀ y, ∃ o, getL y es = some o ∧ match ps.lookup y with
    | none => o = none
    | some k => ∃ v, o = some v ∧ k.ok w rest v
theorem Attrs.nil {w : World} {rest : List (Addr × Obj)} : Attrs w [] [] rest := ⟨Nat.le_refl _, fun _ => ⟨none, rfl, rfl⟩⟩
theorem Attrs.more {w : World} {rest rest' : List (Addr × Obj)} {ps : List (Str × AK)} {es : List DictEntry} (h : Attrs w ps es rest) (s : ∀ p ∈ rest, p ∈ rest') : Attrs w ps es rest' := by
  refine ⟨h.len, fun y => ?_⟩
  obtain ⟨o, e, r⟩ := h.get y
  refine ⟨o, e, ?_⟩
  cases q : ps.lookup y with
  | none => rw [q] at r; exact r
  | some k => rw [q] at r; obtain ⟨v, z1, z2⟩ := r; exact ⟨v, z1, z2.more s⟩
theorem Attrs.put {w : World} {rest : List (Addr × Obj)} {ps : List (Str × AK)} {es : List DictEntry} (h : Attrs w ps es rest) {x : Str} {k : AK} {v : Value} (hk : k.ok w rest v) (hsh : Int) (t : Tok) : Attrs w ((x, k) :: ps) (putL x hsh (.str x t) v es) rest := by
  refine ⟨Nat.le_trans (len_put hsh t v es) (Nat.succ_le_succ h.len), fun y => ?_⟩
  by_cases e : y = x
  · subst e
    refine ⟨some v, getL_same _ _ _ _ _, ?_⟩
    rw [List.lookup_cons_self]
    exact ⟨v, rfl, hk⟩
  · obtain ⟨o, e1, r⟩ := h.get y
    refine ⟨o, (getL_other e hsh t v es).trans e1, ?_⟩
    have : (y == x) = false := by simpa using e
    rw [List.lookup, this]
    exact r
theorem Attrs.at_ {w : World} {rest : List (Addr × Obj)} {ps : List (Str × AK)} {es : List DictEntry} (h : Attrs w ps es rest) (x : Str) {k : AK} (e : ps.lookup x = some k) : ∃ v, getL x es = some (some v) ∧ k.ok w rest v := by
  obtain ⟨o, e1, r⟩ := h.get x
  rw [e] at r
  obtain ⟨v, rfl, z⟩ := r
  exact ⟨v, e1, z⟩
structure PutOk (P : Params) (C : Addr) : Prop where
  a : findIn (Hd.K P) (.ref C) "__setattr__" = some (some (.builtin "object.__setattr__"))
  b : plainOver (Hd.K P) C = true
  c : hasDictIn (Hd.K P) C = true
noncomputable def isNN {α : Type} : Option (Option α) → Bool
  | some none => true
  | _ => false
theorem of_isNN {α : Type} {x : Option (Option α)} (h : isNN x = true) : x = some none := by
  match x, h with
  | some none, _ => rfl
section
variable {w : World} {A : Around} {E : Value → Shared → Prop} {s : Shared} {g : Heap} {L x C dx : Addr} {m : Str → Option Value} {rest : List (Addr × Obj)} {ps : List (Str × AK)} {es : List DictEntry} {n : Nat} {name : Str} {k : AK} {v : Value} {M : Model}
structure Own (w : World) (g : Heap) (L x C dx : Addr) (ps : List (Str × AK)) (es : List DictEntry) (n : Nat) (rest : List (Addr × Obj)) (h : Heap) : Prop where
  N : News g L h ((dx, dictOf es n) :: rest)
  inst : (x, instObj C dx) ∈ rest
  ap : ∀ p ∈ rest, p.1 ≠ dx
  at_ : Attrs w ps es rest
theorem setA {Q : Unit → Shared → Prop} (F : Fr g L s.heap m) (X : (Hd.K w.params).In g) (O : Own w g L x C dx ps es n rest s.heap) (hc : PutOk w.params C) (hn : isNN (takerIn (Hd.K w.params) C name) = true) (hl : Nat.ble ps.length 899 = true) (hk : k.ok w rest v)
    (h : ∀ es' n' h' tk, Fr g L h' m → Own w g L x C dx ((name, k) :: ps) es' n' rest h' → Q () { s with heap := h', toks := tk }) :
    wpAny (model mprog w) A (setAttr (.ref x) name v) Q E s := by
  refine set_dict F X O.N (InstAt.of_news O.N (.tail _ O.inst) (.head _)) rfl hc.a hc.b (of_isNN hn) hc.c ?_ rfl (Upd.head O.ap) ?_ fun h' F' N' => h _ _ h' _ F' ⟨N', O.inst, O.ap, O.at_.put hk _ _⟩
  · obtain ⟨o, e, _⟩ := O.at_.get name
    rw [e]; rfl
  · exact Nat.le_trans (O.at_.put (x := name) hk _ _).len (by simp only [List.length_cons]; have := Nat.le_of_ble_eq_true hl; omega)
theorem Own.add {l : Addr} {o : Obj} {h h' : Heap} (O : Own w g L x C dx ps es n rest h) (N' : News g L h' ((l, o) :: (dx, dictOf es n) :: rest)) (lt : ∀ p ∈ (dx, dictOf es n) :: rest, p.1 < l) : Own w g L x C dx ps es n ((l, o) :: rest) h' := by
  refine ⟨fun p hp => N' p ?_, .tail _ O.inst, fun p hp => ?_, O.at_.more fun p hp => .tail _ hp⟩
  · rcases List.mem_cons.mp hp with rfl | hp
    · exact .tail _ (.head _)
    · rcases List.mem_cons.mp hp with rfl | hp
      · exact .head _
      · exact .tail _ (.tail _ hp)
  · rcases List.mem_cons.mp hp with rfl | hp
    · exact Nat.ne_of_gt (lt _ (.head _))
    · exact O.ap p hp
inductive S1 (b : List (Str × Value)) : Stmt → Str → AK → Prop
  | no {z nm : Str} {p q r u : Pos} {k : Nat} (h : z = Str.ofString "self") : S1 b (.Assign [.Attribute (.Name z p) nm q] (.Constant .none k r) u) nm (.val .none)
  | bool {z nm : Str} {p q r u : Pos} {k : Nat} {c : Bool} (h : z = Str.ofString "self") : S1 b (.Assign [.Attribute (.Name z p) nm q] (.Constant (.bool c) k r) u) nm (.val (.bool c))
  | int {z nm : Str} {p q r u : Pos} {k : Nat} {c : Int} (h : z = Str.ofString "self") : S1 b (.Assign [.Attribute (.Name z p) nm q] (.Constant (.int c) k r) u) nm (.int c)
  | list {z nm : Str} {p q r u : Pos} (h : z = Str.ofString "self") : S1 b (.Assign [.Attribute (.Name z p) nm q] (.List [] r) u) nm .list
  | dict {z nm : Str} {p q r u : Pos} (h : z = Str.ofString "self") : S1 b (.Assign [.Attribute (.Name z p) nm q] (.Dict [] [] r) u) nm .dict
  | name {z nm y : Str} {p q r u : Pos} {v : Value} (h : z = Str.ofString "self") (hv : b.lookup y = some v) (hy : (y == ("__debug__" : Str)) = false) : S1 b (.Assign [.Attribute (.Name z p) nm q] (.Name y r) u) nm (.val v)
inductive SL (b : List (Str × Value)) : List Stmt → List (Str × AK) → Prop
  | nil : SL b [] []
  | cons {st : Stmt} {nm : Str} {k : AK} {r : List Stmt} {qs : List (Str × AK)} (h : S1 b st nm k) (t : SL b r qs) : SL b (st :: r) ((nm, k) :: qs)
theorem lookup_mem {y : Str} {v : Value} : ∀ {b : List (Str × Value)}, b.lookup y = some v → (y, v) ∈ b
  | (z, u) :: r, h => by
    rw [List.lookup] at h
    cases q : y == z with
    | true => rw [q] at h; cases h; rw [eq_of_beq q]; exact .head _
    | false => rw [q] at h; exact .tail _ (lookup_mem h)
theorem store1 {Q : Flow → Shared → Prop} {st : Stmt} {b : List (Str × Value)} {qual : Str} {scope : Scope} {f : Addr} {cdv : Value} (F : Fr g L s.heap (mp b)) (X : (Hd.K w.params).In g) (lim : g.NoLimit) (O : Own w g L x C dx ps es n rest s.heap) (hc : PutOk w.params C)
    (hs : S1 b st name k) (hn : isNN (takerIn (Hd.K w.params) C name) = true) (hl : ps.length < 900) (hk : scope.kind = .function) (hb : ∀ y ∈ b, (envOf qual scope L f cdv).kindOf y.1 = some .local) (hx : b.lookup (Str.ofString "self") = some (Value.ref x))
    (h : ∀ es' n' rest' h' tk, Fr g L h' (mp b) → Own w g L x C dx ((name, k) :: ps) es' n' rest' h' → (∀ p ∈ rest, p ∈ rest') → Q .next { s with heap := h', toks := tk }) :
    wpAny (model mprog w) A (exec st (envOf qual scope L f cdv)) Q E s := by
  have fin : ∀ {s₁ : Shared} {rest'} {v} {nm pz}, (∃ h t, s₁ = { s with heap := h, toks := t }) → Fr g L s₁.heap (mp b) → Own w g L x C dx ps es n rest' s₁.heap → (∀ p ∈ rest, p ∈ rest') → nm = name → k.ok w rest' v →
      wpAny (model mprog w) A (eval (.Name (Str.ofString "self") pz) (envOf qual scope L f cdv)) (fun ov s₂ => wpAny (model mprog w) A (setAttr ov nm v) (fun _ => Q .next) E s₂) E s₁ := by
    rintro s₁ rest' v _ pz ⟨h1, t1, rfl⟩ F1 O1 hr rfl ok
    refine ld F1 hx ?_ hk (hb _ (lookup_mem hx)) (by decide)
    exact setA F1 X O1 hc hn (Nat.ble_eq_true_of_le (Nat.le_of_lt_succ hl)) ok fun es' n' h' tk F' O' => h es' n' rest' h' tk F' O' hr
  cases hs with
  | no e => subst e; exact plainObj_wpAny_Assign_Attribute (wpAny_Constant_none (fin ⟨_, _, rfl⟩ F O (fun _ z => z) rfl rfl))
  | bool e => subst e; exact plainObj_wpAny_Assign_Attribute (wpAny_Constant_bool (fin ⟨_, _, rfl⟩ F O (fun _ z => z) rfl rfl))
  | int e => subst e; exact plainObj_wpAny_Assign_Attribute (wpAny_Constant_int (fin ⟨_, _, rfl⟩ F O (fun _ z => z) rfl ⟨_, rfl⟩))
  | list e => subst e; exact plainObj_wpAny_Assign_Attribute (List_ (args_nil (newList_K F O.N (fun l h' F' N' lt => fin ⟨_, _, rfl⟩ F' (O.add N' lt) (fun _ z => .tail _ z) rfl ⟨l, rfl, .head _⟩) (Nat.zero_le _))))
  | dict e => subst e; exact plainObj_wpAny_Assign_Attribute (newDict_K F O.N lim (fun l h' o F' N' lt lo hd _ _ _ => fin ⟨_, _, rfl⟩ F' (O.add N' lt) (fun _ z => .tail _ z) rfl ⟨l, o, rfl, .head _, hd, lo⟩))
  | name e hv hy => subst e; exact plainObj_wpAny_Assign_Attribute (ld F hv (fin ⟨_, _, rfl⟩ F O (fun _ z => z) rfl rfl) hk (hb _ (lookup_mem hv)) hy)
theorem stores {Q : Flow → Shared → Prop} {b : List (Str × Value)} {qual : Str} {scope : Scope} {f : Addr} {cdv : Value} {tail : List Stmt} (X : (Hd.K w.params).In g) (lim : g.NoLimit) (hc : PutOk w.params C) (hk : scope.kind = .function) (hb : ∀ y ∈ b, (envOf qual scope L f cdv).kindOf y.1 = some .local) (hx : b.lookup (Str.ofString "self") = some (Value.ref x)) :
    ∀ {body : List Stmt} {qs : List (Str × AK)}, SL b body qs → ∀ (ps : List (Str × AK)) (es : List DictEntry) (n : Nat) (rest : List (Addr × Obj)) (s : Shared), (qs.all fun q => isNN (takerIn (Hd.K w.params) C q.1)) = true → ps.length + qs.length < 900 →
      Fr g L s.heap (mp b) → Own w g L x C dx ps es n rest s.heap →
      (∀ es' n' rest' h' tk, Fr g L h' (mp b) → Own w g L x C dx (qs.reverse ++ ps) es' n' rest' h' → (∀ p ∈ rest, p ∈ rest') → wpAny (model mprog w) A (execs tail (envOf qual scope L f cdv)) Q E { s with heap := h', toks := tk }) →
      wpAny (model mprog w) A (execs (body ++ tail) (envOf qual scope L f cdv)) Q E s := by
  intro body qs H
  induction H with
  | nil => exact fun ps es n rest s _ _ F O h => h _ _ _ _ _ F O fun _ z => z
  | cons h1 _ ih =>
    intro ps es n rest s hn hl F O h
    rw [List.all_cons, Bool.and_eq_true] at hn
    rw [List.length_cons, ← Nat.add_assoc, Nat.add_right_comm] at hl
    refine wpAny_execs_cons (store1 F X lim O hc h1 hn.1 (Nat.lt_of_le_of_lt (Nat.le_trans (Nat.le_succ _) (Nat.le_add_right _ _)) hl) hk hb hx fun es' n' rest' h' tk F' O' hr => ?_)
    refine ih ((_, _) :: ps) es' n' rest' _ hn.2 hl F' O' fun es2 n2 rest2 h2 tk2 F2 O2 hr2 => ?_
    refine h es2 n2 rest2 h2 tk2 F2 ?_ fun p hp => hr2 p (hr p hp)
    rw [List.reverse_cons, List.append_assoc]
    exact O2
end
open PySem.W
section
variable {w : World} {A : Around} {E : Value → Shared → Prop} {s : Shared} {g : Heap} {L x C dx : Addr} {ps : List (Str × AK)} {es : List DictEntry} {n : Nat} {rest : List (Addr × Obj)}
theorem storesK {Q : Flow → Shared → Prop} {body : List Stmt} {qs : List (Str × AK)} {b : List (Str × Value)} {qual : Str} {scope : Scope} {f : Addr} {cdv : Value} (k : Nat) (F : Fr g L s.heap (mp b)) (O : Own w g L x C dx ps es n rest s.heap) (X : (Hd.K w.params).In g) (T : Top Hd.view LS mean mg mb g) (hc : PutOk w.params C)
    (hx : b.lookup (Str.ofString "self") = some (Value.ref x)) (hb : (b.all fun y => (envOf qual scope L f cdv).kindOf y.1 == some .local) = true) (hq : SL b (body.take k) qs) (hn : (qs.all fun q => isNN (takerIn (Hd.K w.params) C q.1)) = true) (hl : Nat.ble (ps.length + qs.length) 899 = true)
    (h : ∀ es' n' rest' h' tk, Fr g L h' (mp b) → Own w g L x C dx (qs.reverse ++ ps) es' n' rest' h' → (∀ p ∈ rest, p ∈ rest') → wpAny (model mprog w) A (execs (body.drop k) (envOf qual scope L f cdv)) Q E { s with heap := h', toks := tk }) (hk : scope.kind = .function := by rfl) :
    wpAny (model mprog w) A (execs body (envOf qual scope L f cdv)) Q E s := by
  have e : body = body.take k ++ body.drop k := (List.take_append_drop k body).symm
  rw [e]
  exact stores X T.nolimit hc hk (fun y hy => by simpa using (List.all_eq_true.mp hb) y hy) hx hq ps es n rest s hn (Nat.lt_succ_of_le (Nat.le_of_ble_eq_true hl)) F O h
theorem zw57 : True := by
  k_with "sl" => (case fT => (repeat' (first | exact SL.nil | (refine' SL.cons ?_ ?_) | exact S1.no rfl | exact S1.bool rfl | exact S1.int rfl | exact S1.list rfl | exact S1.dict rfl | exact S1.name rfl rfl rfl)))
  exact True.intro
theorem Own.start {h : Heap} (N : News g L h [(dx, dictOf [] 0), (x, instObj C dx)]) (ne : x ≠ dx) : Own w g L x C dx [] [] 0 [(x, instObj C dx)] h :=
  ⟨N, .head _, fun p hp => by rw [List.mem_singleton.mp hp]; exact ne, Attrs.nil⟩
end
structure Kn (es : List DictEntry) (k : Nat) (l : List (Str × Option Value)) : Prop where
  len : es.length ≤ k
  tot : ∀ y, (getL y es).isSome = true
  at_ : ∀ p ∈ l, getL p.1 es = some p.2
theorem Attrs.kn {w : World} {ps : List (Str × AK)} {es : List DictEntry} {rest : List (Addr × Obj)} (h : Attrs w ps es rest) {k : Nat} {l : List (Str × Option Value)} (hk : ps.length ≤ k) (hl : ∀ p ∈ l, getL p.1 es = some p.2) : Kn es k l :=
  ⟨Nat.le_trans h.len hk, fun y => by obtain ⟨o, e, _⟩ := h.get y; rw [e]; rfl, hl⟩
theorem Attrs.no {w : World} {rest : List (Addr × Obj)} {ps : List (Str × AK)} {es : List DictEntry} (h : Attrs w ps es rest) (x : Str) (e : ps.lookup x = none) : getL x es = some none := by
  obtain ⟨o, e1, r⟩ := h.get x
  rw [e] at r
  rw [e1, r]
theorem put_Obj (P : Params) : PutOk P 168 := ⟨by kernel_rfl, by kernel_rfl, by kernel_rfl⟩
theorem put_Arr (P : Params) : PutOk P 253 := ⟨by kernel_rfl, by kernel_rfl, by kernel_rfl⟩
theorem put_Frame (P : Params) : PutOk P 530 := ⟨by kernel_rfl, by kernel_rfl, by kernel_rfl⟩
theorem put_Host (P : Params) : PutOk P 629 := ⟨by kernel_rfl, by kernel_rfl, by kernel_rfl⟩
theorem put_Klass (P : Params) : PutOk P 650 := ⟨by kernel_rfl, by kernel_rfl, by kernel_rfl⟩
theorem obj_c {w : World} {mean mg mb} (c hd : Value) :
    Pure w mean mg mb 900 900 168 [c, hd] (fun _ => True) (fun h r h' => ∃ x dx es n, r = .ref x ∧ Lits h h' [(dx, dictOf es n), (x, instObj 168 dx)] ∧ getL "cls" es = some (some c)) := by
  k_extra "E0"
  refine in_mono (A' := ⟨none, 900, A.frames, A.guards, 900⟩) ?_ e1 e2 rfl rfl e3
  k_extra "E1"
  refine' enterM (d := 901) (u := 908) (binds := fun x => [("self", .ref x), ("cls", c), ("handle", hd)]) W rfl (Nat.le_refl _) (Nat.le_refl _) ?km ?ki ?kf ?k1 ?kf1 ?kf2 ?kf3 ?k2 ?k3 ?k4 ?k5 ?_ ?k6 ?k7 ?k8 ?k9
  case km => kernel_rfl
  case ki => k_is
  case kf => kernel_rfl
  case k1 => k_is
  case kf1 => (conv => lhs; whnf)
  case kf2 => (conv => lhs; whnf)
  case kf3 => (conv => lhs; whnf)
  case k2 => k_is
  case k3 => exact Nat.le_of_ble_eq_true rfl
  case k4 => intro x s' XX; first | exact BindsTo.of_eq rfl | exact PySem.W.binds_K XX rfl (by k_is) rfl rfl rfl
  case k5 => intro x; exact locs rfl
  case k6 => decide
  case k7 => rfl
  case k8 => rfl
  case k9 => rfl
  have X' := W.X
  have T' := W.T
  clear W fr gd
  intro x dx L' h₁ tk2 fr gd F' N' xd
  refine storesK 7 F' (Own.start N' xd) X' T' (put_Obj _) rfl (by rfl) (by k_extra "sl") (by kernel_rfl) (by kernel_rfl) fun es n rest h' tk F2 O hr => ?_
  dsimp only [List.drop]
  obtain ⟨v, e, rfl⟩ := O.at_.at_ "cls" (k := .val c) (by kernel_rfl)
  exact wpAny_execs_nil ⟨rfl, hQ _ _ _ F2.keep ⟨x, dx, es, n, rfl, Lits.of O.N fun p hp => by rcases List.mem_cons.mp hp with rfl | hp; exact .head _; rw [List.mem_singleton.mp hp]; exact .tail _ O.inst, e⟩⟩
theorem arr_c {w : World} {mean mg mb} :
    Pure w mean mg mb 900 900 253 [] (fun _ => True) (fun h r h' => ∃ x dx es n, r = .ref x ∧ Lits h h' [(dx, dictOf es n), (x, instObj 253 dx)]) := by
  k_extra "E0"
  refine in_mono (A' := ⟨none, 900, A.frames, A.guards, 900⟩) ?_ e1 e2 rfl rfl e3
  k_extra "E1"
  refine' enterM (d := 901) (u := 908) (binds := fun x => [("self", .ref x), ("size", .int 8 432)]) W rfl (Nat.le_refl _) (Nat.le_refl _) ?km ?ki ?kf ?k1 ?kf1 ?kf2 ?kf3 ?k2 ?k3 ?k4 ?k5 ?_ ?k6 ?k7 ?k8 ?k9
  case km => kernel_rfl
  case ki => k_is
  case kf => kernel_rfl
  case k1 => k_is
  case kf1 => (conv => lhs; whnf)
  case kf2 => (conv => lhs; whnf)
  case kf3 => (conv => lhs; whnf)
  case k2 => k_is
  case k3 => exact Nat.le_of_ble_eq_true rfl
  case k4 => intro x s' XX; first | exact BindsTo.of_eq rfl | exact PySem.W.binds_K XX rfl (by k_is) rfl rfl rfl
  case k5 => intro x; exact locs rfl
  case k6 => decide
  case k7 => rfl
  case k8 => rfl
  case k9 => rfl
  have X' := W.X
  have T' := W.T
  clear W fr gd
  intro x dx L' h₁ tk2 fr gd F' N' xd
  refine storesK 7 F' (Own.start N' xd) X' T' (put_Arr _) rfl (by rfl) (by k_extra "sl") (by kernel_rfl) (by kernel_rfl) fun es n rest h' tk F2 O hr => ?_
  dsimp only [List.drop]
  have N2 := O.N
  clear F' N'
  k_extra "go"
  rename Fr _ _ _ _ => F3
  rename News _ _ _ _ => N3
  refine setA F3 X' ⟨N3, O.inst, O.ap, O.at_⟩ (put_Arr _) (by kernel_rfl) (by kernel_rfl) (k := .val _) rfl fun es' n' h3 tk3 F4 O4 => ?_
  dsimp only
  refine storesK 3 F4 O4 X' T' (put_Arr _) rfl (by rfl) (by k_extra "sl") (by kernel_rfl) (by kernel_rfl) fun es5 n5 rest5 h5 tk5 F5 O5 hr5 => ?_
  dsimp only [List.drop]
  exact wpAny_execs_nil ⟨rfl, hQ _ _ _ F5.keep ⟨x, dx, es5, n5, rfl, Lits.of O5.N fun p hp => by rcases List.mem_cons.mp hp with rfl | hp; exact .head _; rw [List.mem_singleton.mp hp]; exact .tail _ O5.inst⟩⟩
theorem frame_c {w : World} {mean mg mb} :
    Pure w mean mg mb 930 930 530 [] (fun _ => True) (fun h r h' => ∃ x, r = .ref x) := by
  k_extra "E0"
  refine in_mono (A' := ⟨none, 930, A.frames, A.guards, 930⟩) ?_ e1 e2 rfl rfl e3
  k_extra "E1"
  refine' enterM (d := 931) (u := 938) (binds := fun x => [("self", .ref x), ("func", .none), ("this", .none), ("cls", .none), ("static", .none)]) W rfl (Nat.le_refl _) (Nat.le_refl _) ?km ?ki ?kf ?k1 ?kf1 ?kf2 ?kf3 ?k2 ?k3 ?k4 ?k5 ?_ ?k6 ?k7 ?k8 ?k9
  case km => kernel_rfl
  case ki => k_is
  case kf => kernel_rfl
  case k1 => k_is
  case kf1 => (conv => lhs; whnf)
  case kf2 => (conv => lhs; whnf)
  case kf3 => (conv => lhs; whnf)
  case k2 => k_is
  case k3 => exact Nat.le_of_ble_eq_true rfl
  case k4 => intro x s' XX; first | exact BindsTo.of_eq rfl | exact PySem.W.binds_K XX rfl (by k_is) rfl rfl rfl
  case k5 => intro x; exact locs rfl
  case k6 => decide
  case k7 => rfl
  case k8 => rfl
  case k9 => rfl
  have X' := W.X
  have T' := W.T
  clear W fr gd
  intro x dx L' h₁ tk2 fr gd F' N' xd
  refine storesK 6 F' (Own.start N' xd) X' T' (put_Frame _) rfl (by rfl) (by k_extra "sl") (by kernel_rfl) (by kernel_rfl) fun es n rest h' tk F2 O hr => ?_
  dsimp only [List.drop]
  exact wpAny_execs_nil ⟨rfl, hQ _ _ _ F2.keep ⟨x, rfl⟩⟩
structure HostNew (w : World) (h h' : Heap) (x dx : Addr) (es : List DictEntry) (n : Nat) (td : Addr) (od : Obj) (ln : Addr) : Prop where
  lits : Lits h h' [(dx, dictOf es n), (td, od), (ln, W.listOf #[] 0), (x, instObj 629 dx)]
  ne : td ≠ dx
  dict : od.IsDictOf (knd w) []
  low : (td == sysModules) = false
  kn : ∃ t, Kn es 30 [("tools", some (.ref td)), ("notes", some (.ref ln)), ("silent", some (.int 0 t)), ("tool", none), ("warn", none)]
theorem zw58 : True := by
  k_with "@call ref" => (case fT => ((k_dflt (refine' useP (frame_c) ?u1 ?u2 ?u3 ?u4 ?u5 ?u6 ?u7 ?u8 ?_; k_extra "uup"); intro v' h' tk' F' N' st' hv'; obtain ⟨fa', hq'⟩ := hv'; subst hq'; k_extra "ut")))
  exact True.intro
theorem host_c {w : World} {mean mg mb} :
    Pure w mean mg mb 900 900 629 [] (fun _ => True) (fun h r h' => ∃ x dx es n td od ln, r = .ref x ∧ HostNew w h h' x dx es n td od ln) := by
  k_extra "E0"
  refine in_mono (A' := ⟨none, 900, A.frames, A.guards, 900⟩) ?_ e1 e2 rfl rfl e3
  k_extra "E1"
  refine' enterM (d := 901) (u := 908) (binds := fun x => [("self", .ref x), ("limit", .int 12 919), ("fuel", .none)]) W rfl (Nat.le_refl _) (Nat.le_refl _) ?km ?ki ?kf ?k1 ?kf1 ?kf2 ?kf3 ?k2 ?k3 ?k4 ?k5 ?_ ?k6 ?k7 ?k8 ?k9
  case km => kernel_rfl
  case ki => k_is
  case kf => kernel_rfl
  case k1 => k_is
  case kf1 => (conv => lhs; whnf)
  case kf2 => (conv => lhs; whnf)
  case kf3 => (conv => lhs; whnf)
  case k2 => k_is
  case k3 => exact Nat.le_of_ble_eq_true rfl
  case k4 => intro x s' XX; first | exact BindsTo.of_eq rfl | exact PySem.W.binds_K XX rfl (by k_is) rfl rfl rfl
  case k5 => intro x; exact locs rfl
  case k6 => decide
  case k7 => rfl
  case k8 => rfl
  case k9 => rfl
  have X' := W.X
  have T' := W.T
  clear W fr gd
  intro x dx L' h₁ tk2 fr gd F' N' xd
  refine storesK 3 F' (Own.start N' xd) X' T' (put_Host _) rfl (by rfl) (by k_extra "sl") (by kernel_rfl) (by kernel_rfl) fun es n rest h' tk F2 O hr => ?_
  dsimp only [List.drop]
  have N2 := O.N
  clear F' N'
  k_extra "go"
  rename Fr _ _ _ _ => F3
  rename News _ _ _ _ => N3
  refine setA F3 X' ⟨N3, O.inst, O.ap, O.at_⟩ (put_Host _) (by kernel_rfl) (by kernel_rfl) (k := .val _) rfl fun es2 n2 h3 tk3 F4 O4 => ?_
  clear F3 N3 O
  have N4 := O4.N
  obtain ⟨v, e, rfl⟩ := O4.at_.at_ "top" (k := .val _) rfl
  dsimp only
  k_extra "go"
  rename Fr _ _ _ _ => F5
  rename News _ _ _ _ => N5
  refine get_own F5 X' (InstAt.of_news N5 (.tail _ O4.inst) (.head _)) (by kernel_rfl) (by kernel_rfl) (attr := none) (by k_is) (by kernel_rfl) e rfl ?_
  k_extra "go"
  refine setA F5 X' ⟨N5, O4.inst, O4.ap, O4.at_⟩ (put_Host _) (by kernel_rfl) (by kernel_rfl) (k := .val _) rfl fun es5 n5 h5 tk5 F6 O6 => ?_
  clear F5 N5
  dsimp only
  refine storesK 15 F6 O6 X' T' (put_Host _) rfl (by rfl) (by k_extra "sl") (by kernel_rfl) (by kernel_rfl) fun es7 n7 rest7 h7 tk7 F7 O7 hr7 => ?_
  dsimp only [List.drop]
  obtain ⟨v1, g1, td, od, rfl, m1, d1, l1⟩ := O7.at_.at_ "tools" (k := .dict) (by kernel_rfl)
  obtain ⟨v2, g2, ln, rfl, m2⟩ := O7.at_.at_ "notes" (k := .list) (by kernel_rfl)
  obtain ⟨v3, g3, ts, rfl⟩ := O7.at_.at_ "silent" (k := .int 0) (by kernel_rfl)
  have g4 := O7.at_.no "tool" (by kernel_rfl)
  have g5 := O7.at_.no "warn" (by kernel_rfl)
  refine wpAny_execs_nil ⟨rfl, hQ _ _ _ F7.keep ⟨x, dx, es7, n7, td, od, ln, rfl, Lits.of O7.N fun p hp => ?_, O7.ap _ m1, d1, l1, ts, O7.at_.kn (Nat.le_of_ble_eq_true (by kernel_rfl)) fun p hp => ?_⟩⟩
  · rcases List.mem_cons.mp hp with rfl | hp
    · exact .head _
    · refine .tail _ ?_
      rcases List.mem_cons.mp hp with rfl | hp
      · exact m1
      · rcases List.mem_cons.mp hp with rfl | hp
        · exact m2
        · rw [List.mem_singleton.mp hp]; exact O7.inst
  · simp only [List.mem_cons, List.not_mem_nil, or_false] at hp
    rcases hp with rfl | rfl | rfl | rfl | rfl <;> assumption
open PySem.W
structure KlassNew (w : World) (nm : Str) (h h' : Heap) (x dx : Addr) (es : List DictEntry) (n : Nat) (il md : Addr) (od : Obj) : Prop where
  lits : Lits h h' [(dx, dictOf es n), (md, od), (il, W.listOf #[] 0), (x, instObj 650 dx)]
  ne : md ≠ dx
  dict : od.IsDictOf (knd w) []
  low : (md == sysModules) = false
  kn : ∃ t u, Kn es 30 [("name", some (.str nm t)), ("key", some (.str (lowS nm) u)), ("parent", some .none), ("interfaces", some (.ref il)), ("methods", some (.ref md))]
theorem klass_c {w : World} {mean mg mb} (nm : Str) (t : Tok) (sv : Value) (hl : nm.length ≤ 100) :
    Pure w mean mg mb 900 900 650 [.str nm t, sv] (fun _ => True) (fun h r h' => ∃ x dx es n il md od, r = .ref x ∧ KlassNew w nm h h' x dx es n il md od) := by
  k_extra "E0"
  refine in_mono (A' := ⟨none, 900, A.frames, A.guards, 900⟩) ?_ e1 e2 rfl rfl e3
  k_extra "E1"
  refine' enterM (d := 901) (u := 908) (binds := fun x => [("self", .ref x), ("name", .str nm t), ("sort", sv)]) W rfl (Nat.le_refl _) (Nat.le_refl _) ?km ?ki ?kf ?k1 ?kf1 ?kf2 ?kf3 ?k2 ?k3 ?k4 ?k5 ?_ ?k6 ?k7 ?k8 ?k9
  case km => kernel_rfl
  case ki => k_is
  case kf => kernel_rfl
  case k1 => k_is
  case kf1 => (conv => lhs; whnf)
  case kf2 => (conv => lhs; whnf)
  case kf3 => (conv => lhs; whnf)
  case k2 => k_is
  case k3 => exact Nat.le_of_ble_eq_true rfl
  case k4 => intro x s' XX; first | exact BindsTo.of_eq rfl | exact PySem.W.binds_K XX rfl (by k_is) rfl rfl rfl
  case k5 => intro x; exact locs rfl
  case k6 => decide
  case k7 => rfl
  case k8 => rfl
  case k9 => rfl
  have X' := W.X
  have T' := W.T
  clear W fr gd
  intro x dx L' h₁ tk2 fr gd F' N' xd
  refine storesK 1 F' (Own.start N' xd) X' T' (put_Klass _) rfl (by rfl) (by k_extra "sl") (by kernel_rfl) (by kernel_rfl) fun es n rest h' tk F2 O hr => ?_
  dsimp only [List.drop]
  have N2 := O.N
  clear F' N'
  k_extra "go"
  rename Fr _ _ _ _ => F3
  rename News _ _ _ _ => N3
  rename_i u _ _
  refine setA F3 X' ⟨N3, O.inst, O.ap, O.at_⟩ (put_Klass _) (by kernel_rfl) (by kernel_rfl) (k := .val _) rfl fun es2 n2 h3 tk3 F4 O4 => ?_
  clear F3 N3 O
  dsimp only
  refine storesK 1 F4 O4 X' T' (put_Klass _) rfl (by rfl) (by k_extra "sl") (by kernel_rfl) (by kernel_rfl) fun es4 n4 rest4 h4 tk4 F5 O5 hr5 => ?_
  clear F4 O4
  dsimp only [List.drop]
  have N5 := O5.N
  k_extra "go"
  rename Fr _ _ _ _ => F6
  rename News _ _ _ _ => N6
  refine setA F6 X' ⟨fun p hp => N6 p (.tail _ hp), O5.inst, O5.ap, O5.at_⟩ (put_Klass _) (by kernel_rfl) (by kernel_rfl) (k := .val _) rfl fun es6 n6 h6 tk6 F7 O7 => ?_
  clear F6 N6 O5
  dsimp only
  refine storesK 14 F7 O7 X' T' (put_Klass _) rfl (by rfl) (by k_extra "sl") (by kernel_rfl) (by kernel_rfl) fun es7 n7 rest7 h7 tk7 F8 O8 hr8 => ?_
  dsimp only [List.drop]
  obtain ⟨v1, g1, rfl⟩ := O8.at_.at_ "name" (k := .val (.str nm t)) (by kernel_rfl)
  obtain ⟨v2, g2, rfl⟩ := O8.at_.at_ "key" (k := .val (.str (lowS nm) u)) (by kernel_rfl)
  obtain ⟨v3, g3, rfl⟩ := O8.at_.at_ "parent" (k := .val .none) (by kernel_rfl)
  obtain ⟨v4, g4, il, rfl, m4⟩ := O8.at_.at_ "interfaces" (k := .list) (by kernel_rfl)
  obtain ⟨v5, g5, md, od, rfl, m5, d5, l5⟩ := O8.at_.at_ "methods" (k := .dict) (by kernel_rfl)
  refine wpAny_execs_nil ⟨rfl, hQ _ _ _ F8.keep ⟨x, dx, es7, n7, il, md, od, rfl, Lits.of O8.N fun p hp => ?_, O8.ap _ m5, d5, l5, t, u, O8.at_.kn (Nat.le_of_ble_eq_true (by kernel_rfl)) fun p hp => ?_⟩⟩
  · rcases List.mem_cons.mp hp with rfl | hp
    · exact .head _
    · refine .tail _ ?_
      rcases List.mem_cons.mp hp with rfl | hp
      · exact m5
      · rcases List.mem_cons.mp hp with rfl | hp
        · exact m4
        · rw [List.mem_singleton.mp hp]; exact O8.inst
  · simp only [List.mem_cons, List.not_mem_nil, or_false] at hp
    rcases hp with rfl | rfl | rfl | rfl | rfl <;> assumption
open PySem.W
theorem all_a {α : Type} {P : α → Prop} {l l' : List α} (h : ∀ x, x ∈ l → P x) (k : ∀ x, x ∈ l' → P x) : ∀ x, x ∈ l ++ l' → P x := List.forall_mem_append.mpr ⟨h, k⟩
theorem news_lits {h₀ h h' : Heap} {L : Addr} {m : Str → Option Value} {news lits : List (Addr × Obj)} (F : Fr h₀ L h m) (N : News h₀ L h news) (N' : News h₀ L h' news) (Z : Lits h h' lits) : News h₀ L h' (lits ++ news) ∧ ∀ p ∈ lits, ∀ q ∈ news, p.1 ≠ q.1 := by
  refine ⟨fun p hp => ?_, fun p hp q hq e => ?_⟩
  · rcases List.mem_append.mp hp with hp | hp
    · refine ⟨Z.here p hp, fun e => ?_, ?_⟩
      · obtain ⟨o, _, _, ho, _⟩ := F.ns
        have := Z.new p hp
        rw [e, ho] at this
        cases this
      · cases q : h₀.get? p.1 with
        | none => rfl
        | some o => have := Z.new p hp; rw [F.keep _ _ q] at this; cases this
    · exact N' p hp
  · have := Z.new p hp
    rw [e, (N q hq).1] at this
    cases this
theorem useM {w : World} {mean : ExcName → Option Value} {mg mb : Str → Option Value} {d u : Nat} {f : Addr} {vs : List Value} {Pre : Heap → Prop} {Post : Heap → Value → Heap → Prop} {A : Around} {s : Shared} {Q E : Value → Shared → Prop}
    {h₀ : Heap} {L : Addr} {m : Str → Option Value} {news : List (Addr × Obj)} (P : Pure w mean mg mb d u f vs Pre Post) (F : Fr h₀ L s.heap m) (N : News h₀ L s.heap news) (X : (Hd.K w.params).In h₀) (T : Top Hd.view LS mean mg mb h₀)
    (e1 : A.handled = none) (e2 : A.depth ≤ d) (e3 : A.units ≤ u) (hp : Pre s.heap)
    (k : ∀ v h' tk, Fr h₀ L h' m → Post s.heap v h' → (∀ lits, Lits s.heap h' lits → News h₀ L h' (lits ++ news) ∧ ∀ p ∈ lits, ∀ q ∈ news, p.1 ≠ q.1) → Q v { s with heap := h', toks := tk }) :
    wpAny (model mprog w) A (call (.ref f) vs) Q E s :=
  useP P F N X T e1 e2 e3 hp fun v h' tk F' N' st po => k v h' tk F' po fun lits Z => news_lits F N N' Z
structure CL (w : World) (wa : Addr) (lits : List (Addr × Obj)) (x : Addr) (c : CI) (p : Value) : Prop where
  ex : ∃ dx es n il k md od kvs t u, (x, instObj 650 dx) ∈ lits ∧ (dx, dictOf es n) ∈ lits ∧ (il, W.listOf (if c.walks then [Value.ref wa] else []).toArray k) ∈ lits ∧ (md, od) ∈ lits ∧ od.IsDictOf (knd w) kvs ∧ (md == sysModules) = false ∧ (valueAt kvs "__tostring").isSome = c.shown ∧
    Kn es 40 [("name", some (.str c.name t)), ("key", some (.str c.key u)), ("parent", some p), ("interfaces", some (.ref il)), ("methods", some (.ref md))]
theorem CL.more {w : World} {wa : Addr} {lits lits' : List (Addr × Obj)} {x : Addr} {c : CI} {p : Value} (h : CL w wa lits x c p) (s : ∀ q ∈ lits, q ∈ lits') : CL w wa lits' x c p := by
  obtain ⟨dx, es, n, il, k, md, od, kvs, t, u, h1, h2, h3, h4, h5⟩ := h.ex
  exact ⟨dx, es, n, il, k, md, od, kvs, t, u, s _ h1, s _ h2, s _ h3, s _ h4, h5⟩
theorem CL.isCls {w : World} {wa : Addr} {lits : List (Addr × Obj)} {x : Addr} {c : CI} {p : Value} (h : CL w wa lits x c p) {H : Heap} (k : ∀ q ∈ lits, H.get? q.1 = some q.2) : IsCls w wa H x c p := by
  obtain ⟨dx, es, n, il, kk, md, od, kvs, t, u, h1, h2, h3, h4, h5, h6, h7, h8⟩ := h.ex
  have I : ∀ {y : Str} {v : Value}, (y, some v) ∈ [(Str.ofString "name", some (Value.str c.name t)), ("key", some (.str c.key u)), ("parent", some p), ("interfaces", some (.ref il)), ("methods", some (.ref md))] → At H x 650 y v := fun hm =>
    ⟨instObj 650 dx, es, n, ⟨k _ h1, rfl, rfl, k _ h2⟩, h8.at_ _ hm⟩
  exact ⟨⟨t, I (.head _)⟩, ⟨u, I (.tail _ (.head _))⟩, I (.tail _ (.tail _ (.head _))), ⟨il, I (.tail _ (.tail _ (.tail _ (.head _)))), ⟨_, k _ h3, rfl, kk, rfl⟩⟩,
    md, kvs, I (.tail _ (.tail _ (.tail _ (.tail _ (.head _))))), Heap.dictOf_iff.mpr ⟨od, k _ h4, h5⟩, h6, h7⟩
theorem KlassNew.cl {w : World} {nm : Str} {h h' : Heap} {x dx : Addr} {es : List DictEntry} {n : Nat} {il md : Addr} {od : Obj} (K : KlassNew w nm h h' x dx es n il md od) (wa : Addr) {lits : List (Addr × Obj)} (s : ∀ q ∈ [(dx, dictOf es n), (md, od), (il, W.listOf #[] 0), (x, instObj 650 dx)], q ∈ lits) {ky : Str} (hk : ky = lowS nm) :
    CL w wa lits x ⟨nm, ky, false, false⟩ .none := by
  obtain ⟨t, u, kn⟩ := K.kn
  subst hk
  exact ⟨dx, es, n, il, 0, md, od, [], t, u, s _ (.tail _ (.tail _ (.tail _ (.head _)))), s _ (.head _), s _ (.tail _ (.tail _ (.head _))), s _ (.tail _ (.head _)), K.dict, K.low, rfl, Nat.le_trans kn.len (by decide), kn.tot, kn.at_⟩
theorem it_rangeO {w : World} {A : Around} {E : Value → Shared → Prop} {s : Shared} {env : Env} {h₀ : Heap} {x : Str} {body : List Stmt} {Q : Flow → Shared → Prop} {m₀ : Str → Option Value} {news : List (Addr × Obj)} {L : Addr}
    {r : Addr} {a c : Int} {n : Nat} {t₁ t₂ t₃ : Tok} (J : Nat → (Str → Option Value) → List (Addr × Obj) → Prop) (hL0 : env.locals = L) (hh : A.handled = none) (hr : IsRange s.heap r a c 1 t₁ t₂ t₃) (hsm : Builtin.Range.small a c 1 = true) (hn : (n : Int) = Builtin.Range.rangeSize a c 1) (F : Fr h₀ L s.heap m₀) (N : News h₀ L s.heap news) (hj : J 0 m₀ news)
    (turn : ∀ I i v m₁ news₁ h tk own oI, i < n → (∃ u, v = .int (a + i * 1) u) → J i m₁ news₁ → (∀ p ∈ news₁, p.1 ≠ I) → (I, oI) ∈ own → (∀ p ∈ own, p.1 = I) → Fr h₀ L h (fun y => if y = x then some v else m₁ y) → News h₀ L h (own ++ news₁) →
      wpAny (model mprog w) A (execs body env) (LoopStepV h₀ L [I] own (J (i + 1)) { s with heap := h, toks := tk } (fun v s' => Q (.ret v) s') fun s' => Q .next s') E { s with heap := h, toks := tk })
    (stop : ∀ h tk m₁ news₁, J n m₁ news₁ → Fr h₀ L h m₁ → News h₀ L h news₁ → Q .next { s with heap := h, toks := tk }) :
    wpAny (model mprog w) A (pyIter (.ref r)) (fun it s₂ => LoopAtV mprog w A h₀ env x body Q E it s₂) E s := by
  subst hL0
  refine wpAny_pyIter_range hr hsm ?_
  have W := Walks.range (prog := mprog) (w := w) hh s.heap.objs.size a 1 n
  have hne : s.heap.objs.size ≠ env.locals := Nat.ne_of_gt F.ns.lt
  refine ⟨_, _, _, n, _, _, m₀, news, J, rfl, W, ?_, ?_, ?_, ?_, F.push _, (fun p hp => ⟨Heap.get?_push_of_some _ (N p hp).1, (N p hp).2⟩), hj, ?_, ?_⟩
  · intro hm
    exact hne (List.mem_singleton.mp hm).symm
  · intro b hb
    rw [List.mem_singleton.mp hb]
    exact next_is_new F
  · intro p hp hI
    exact absurd (Heap.lt_size (N p hp).1) ((List.mem_singleton.mp hI) ▸ Nat.lt_irrefl _)
  · rw [← hn]
    have := Heap.get?_push_size s.heap (o := { cls := .type "range_iterator", data := .fields #[rawInt a, rawInt (n : Int), rawInt 1] }) rfl
    simpa [IsRangeIter] using this
  · rintro i v m₁ news₁ s₁ own ⟨h, tk, rfl⟩ hin hP hJ hoff hof _ hown hst F₁ N₁
    have e : h.get? s.heap.objs.size = some _ := hst
    exact turn _ i v m₁ news₁ h tk own _ hin hP hJ (fun p hp e => hoff p hp (List.mem_singleton.mpr e)) (hown _ (.head _) (next_is_new F) _ e) (fun p hp => List.mem_singleton.mp (hof p hp)) F₁ N₁
  · intro h' tk m' news' F' N' _ hJ
    exact stop h' tk m' news' hJ F' N'
noncomputable def nmA (i : Nat) : Str := Str.ofString "A" ++ Str.ofString (toString (0 + (i : Int) * 1))
theorem nmA_len {i : Nat} (h : i < 3) : (nmA i).length ≤ 100 := by
  match i, h with
  | 0, _ => decide +kernel
  | 1, _ => decide +kernel
  | 2, _ => decide +kernel
inductive Bl (w : World) (wa : Addr) (lits : List (Addr × Obj)) : Nat → List Value → List CI → Value → Prop where
  | nil : Bl w wa lits 0 [] [] .none
  | snoc {i : Nat} {vs : List Value} {cs : List CI} {p : Value} {x : Addr} {c : CI} : Bl w wa lits i vs cs p → CL w wa lits x c p → c.name = nmA i → c.key = lowS (nmA i) → (∀ d ∈ cs.head?, d.walks = true → c.walks = true) → Bl w wa lits (i + 1) (vs ++ [.ref x]) (c :: cs) (.ref x)
theorem Bl.more {w : World} {wa : Addr} {lits lits' : List (Addr × Obj)} {i : Nat} {vs : List Value} {cs : List CI} {p : Value} (h : Bl w wa lits i vs cs p) (s : ∀ q ∈ lits, q ∈ lits') : Bl w wa lits' i vs cs p := by
  induction h with
  | nil => exact .nil
  | snoc _ c n k m ih => exact .snoc ih (c.more s) n k m
theorem Bl.len {w : World} {wa : Addr} {lits : List (Addr × Obj)} {i : Nat} {vs : List Value} {cs : List CI} {p : Value} (h : Bl w wa lits i vs cs p) : vs.length = i := by
  induction h with
  | nil => rfl
  | snoc _ _ _ _ _ ih => simp [ih]
noncomputable abbrev kl (nm ky : Str) (t u : Tok) (p i m : Value) : List (Str × Option Value) := [("name", some (.str nm t)), ("key", some (.str ky u)), ("parent", some p), ("interfaces", some i), ("methods", some m)]
section
variable {w : World} {A : Around} {E : Value → Shared → Prop} {s : Shared} {g : Heap} {L x C dx : Addr} {m : Str → Option Value} {news rest : List (Addr × Obj)} {es : List DictEntry} {n k : Nat} {name : Str} {v : Value} {l : List (Str × Option Value)}
theorem setKn {Q : Unit → Shared → Prop} (F : Fr g L s.heap m) (X : (Hd.K w.params).In g) (N : News g L s.heap ((dx, dictOf es n) :: rest)) (hi : (x, instObj C dx) ∈ rest) (ap : ∀ p ∈ rest, p.1 ≠ dx) (K : Kn es k l) (hz : Nat.ble k 899 = true) (hc : PutOk w.params C) (hn : isNN (takerIn (Hd.K w.params) C name) = true)
    (h : ∀ es' n' h' tk, Fr g L h' m → News g L h' ((dx, dictOf es' n') :: rest) → (∀ l', (∀ p ∈ l', p = (name, some v) ∨ (p ∈ l ∧ p.1 ≠ name)) → Kn es' (k + 1) l') → Q () { s with heap := h', toks := tk }) :
    wpAny (model mprog w) A (setAttr (.ref x) name v) Q E s := by
  refine set_dict F X N (InstAt.of_news N (.tail _ hi) (.head _)) rfl hc.a hc.b (of_isNN hn) hc.c (K.tot _) rfl (Upd.head ap) ?_ fun h' F' N' => h _ _ h' _ F' N' fun l' hl => ⟨?_, fun y => ?_, fun p hp => ?_⟩
  · exact Nat.le_trans (len_put _ _ _ _) (by have := Nat.le_of_ble_eq_true hz; have := K.len; omega)
  · exact Nat.le_trans (len_put _ _ _ _) (Nat.succ_le_succ K.len)
  · by_cases e : y = name
    · subst e; rw [getL_same]; rfl
    · rw [getL_other e]; exact K.tot y
  · rcases hl p hp with rfl | ⟨hm, ne⟩
    · exact getL_same _ _ _ _ _
    · exact (getL_other ne _ _ _ _).trans (K.at_ p hm)
theorem get_kn {expr : Bool} {Q : Value → Shared → Prop} (F : Fr g L s.heap m) (X : (Hd.K w.params).In g) (ok : AtrOk w.params C name) (N : News g L s.heap news) (hx : (x, instObj C dx) ∈ news) (hd : (dx, dictOf es n) ∈ news) (K : Kn es k l) (hm : (name, some v) ∈ l) (hv : handedIn v = true) (h : Q v { s with toks := s.toks + 1 }) :
    wpAny (model mprog w) A (getAttr (.ref x) name expr) Q E s := by
  obtain ⟨attr, c1, c2⟩ := ok.c
  exact get_own F X (InstAt.of_news N hx hd) ok.a ok.b c1 c2 (K.at_ _ hm) hv h
end
theorem Kn.mono {es : List DictEntry} {k k' : Nat} {l : List (Str × Option Value)} (h : Kn es k l) (e : k ≤ k') : Kn es k' l := ⟨Nat.le_trans h.len e, h.tot, h.at_⟩
theorem pow4 {i : Nat} (h : i < 3) : (4 : Int) ^ (0 + (i : Int) * 1).toNat ≠ 0 ∧ ((4 : Int) ^ (0 + (i : Int) * 1).toNat).natAbs < 1073741824 := by
  match i, h with
  | 0, _ => decide
  | 1, _ => decide
  | 2, _ => decide
theorem kl_put {nm ky : Str} {t u : Tok} {p i m v : Value} {y : Str} {q : Str × Option Value} (hq : q ∈ kl nm ky t u p i m) (ne : (q.1 == y) = false) : q = (y, some v) ∨ (q ∈ kl nm ky t u p i m ∧ q.1 ≠ y) := .inr ⟨hq, by simpa using ne⟩
theorem kl_par {es : List DictEntry} {k : Nat} {nm ky : Str} {t u : Tok} {p i m v : Value} (f : ∀ l', (∀ q ∈ l', q = (Str.ofString "parent", some v) ∨ (q ∈ kl nm ky t u p i m ∧ q.1 ≠ Str.ofString "parent")) → Kn es k l') : Kn es k (kl nm ky t u v i m) := f _ (all_c (kl_put (.head _) rfl) (all_c (kl_put (.tail _ (.head _)) rfl) (all_c (.inl rfl) (all_c (kl_put (.tail _ (.tail _ (.tail _ (.head _)))) rfl) (all_c (kl_put (.tail _ (.tail _ (.tail _ (.tail _ (.head _))))) rfl) fun _ h => nomatch h)))))
theorem kl_ifs {es : List DictEntry} {k : Nat} {nm ky : Str} {t u : Tok} {p i m v : Value} (f : ∀ l', (∀ q ∈ l', q = (Str.ofString "interfaces", some v) ∨ (q ∈ kl nm ky t u p i m ∧ q.1 ≠ Str.ofString "interfaces")) → Kn es k l') : Kn es k (kl nm ky t u p v m) := f _ (all_c (kl_put (.head _) rfl) (all_c (kl_put (.tail _ (.head _)) rfl) (all_c (kl_put (.tail _ (.tail _ (.head _))) rfl) (all_c (.inl rfl) (all_c (kl_put (.tail _ (.tail _ (.tail _ (.tail _ (.head _))))) rfl) fun _ h => nomatch h)))))
theorem lt_of_allLt {d : Addr} : ∀ {l : List (Addr × Obj)}, AllLt d l → ∀ p ∈ l, p.1 < d
  | [], _, p, hp => absurd hp List.not_mem_nil
  | q :: r, h, p, hp => all_c (P := fun p => p.1 < d) h.1 (lt_of_allLt h.2) p hp
theorem news_swap {g h : Heap} {L : Addr} {a b : Addr × Obj} {r : List (Addr × Obj)} (N : News g L h (a :: b :: r)) : News g L h (b :: a :: r) := all_c (N _ (.tail _ (.head _))) (all_c (N _ (.head _)) fun q hq => N q (.tail _ (.tail _ hq)))
theorem last_is {a : Value} {vs : List Value} {v : Value} : (a :: (vs ++ [v])).toArray.toList = (a :: vs) ++ [v] := by simp
theorem ne_of_obj {g h : Heap} {L : Addr} {news : List (Addr × Obj)} (N : News g L h news) {a b : Addr} {o o' : Obj} (ha : (a, o) ∈ news) (hb : (b, o') ∈ news) (ne : o ≠ o') : a ≠ b := ne_of_get (N _ ha).1 (N _ hb).1 ne
structure KsAt (w : World) (lits : List (Addr × Obj)) (fl wa ca x0 x1 x2 : Addr) (kk : Nat) (c : CW) : Prop where
  good : c.good = true
  list : ((fl, W.listOf #[.ref ca, .ref x0, .ref x1, .ref x2] kk) : Addr × Obj) ∈ lits
  tr : CL w wa lits wa trav .none
  cl : CL w wa lits ca clo .none
  k0 : CL w wa lits x0 ⟨"A0", "a0", c.w0, c.s0⟩ .none
  k1 : CL w wa lits x1 ⟨"A1", "a1", c.w1, c.s1⟩ (.ref x0)
  k2 : CL w wa lits x2 ⟨"A2", "a2", c.w2, c.s2⟩ (.ref x1)
theorem ci_of {c : CI} {n : Str} {a b : Str} (h1 : c.name = n) (h2 : c.key = lowS n) (e1 : n = a) (e2 : lowS n = b) : c = ⟨a, b, c.walks, c.shown⟩ := by
  cases c; subst e1 e2; simp only at h1 h2; rw [h1, h2]
inductive BlL (w : World) (wa : Addr) (lits : List (Addr × Obj)) (i : Nat) (vs : List Value) (cs : List CI) (p : Value) : Prop
  | nil (e : i = 0) (e1 : vs = []) (e2 : cs = []) (e3 : p = .none) : BlL w wa lits i vs cs p
  | snoc (x : Addr) (us : List Value) (c : CI) (r : List CI) (q : Value) (e : 0 < i) (e1 : vs = us ++ [.ref x]) (e2 : cs = c :: r) (e3 : p = .ref x) (C : CL w wa lits x c q) : BlL w wa lits i vs cs p
theorem Bl.last {w : World} {wa : Addr} {lits : List (Addr × Obj)} {i : Nat} {vs : List Value} {cs : List CI} {p : Value} (B : Bl w wa lits i vs cs p) : BlL w wa lits i vs cs p := by
  cases B with
  | nil => exact .nil rfl rfl rfl rfl
  | snoc b c _ _ _ => exact .snoc _ _ _ _ _ (Nat.succ_pos _) rfl rfl rfl c
theorem CL.get_ifs {w : World} {wa x : Addr} {lits news : List (Addr × Obj)} {c : CI} {p : Value} {A : Around} {E : Value → Shared → Prop} {s : Shared} {g : Heap} {L : Addr} {m : Str → Option Value} {expr : Bool} {Q : Value → Shared → Prop} (C : CL w wa lits x c p) (F : Fr g L s.heap m) (X : (Hd.K w.params).In g) (ok : AtrOk w.params 650 "interfaces") (N : News g L s.heap news) (sub : ∀ q ∈ lits, q ∈ news)
    (h : ∀ il k, ((il, W.listOf (if c.walks then [Value.ref wa] else []).toArray k) : Addr × Obj) ∈ lits → Q (.ref il) { s with toks := s.toks + 1 }) : wpAny (model mprog w) A (getAttr (.ref x) "interfaces" expr) Q E s := by
  obtain ⟨dx, es, n, il, k, md, od, kvs, t, u, q1, q2, q3, q4, q5, q6, q7, q8⟩ := C.ex
  exact get_kn F X ok N (sub _ q1) (sub _ q2) q8 (.tail _ (.tail _ (.tail _ (.head _)))) rfl (h il k q3)
theorem Bl.ks {w : World} {wa ca fl : Addr} {lw : List (Addr × Obj)} {vs : List Value} {cs : List CI} {p : Value} {kk : Nat} (B : Bl w wa lw 3 vs cs p) (CW : CL w wa lw wa trav .none) (CC : CL w wa lw ca clo .none) :
    ∃ x0 x1 x2 c, KsAt w ((fl, W.listOf (Value.ref ca :: vs).toArray kk) :: lw) fl wa ca x0 x1 x2 kk c := by
  have s : ∀ {h : List Value}, ∀ q ∈ lw, q ∈ (fl, W.listOf (Value.ref ca :: h).toArray kk) :: lw := fun q hq => .tail _ hq
  cases B with
  | @snoc _ _ _ _ x2 c2 B2 C2 n2 k2 m2 =>
    cases B2 with
    | @snoc _ _ _ _ x1 c1 B1 C1 n1 k1 m1 =>
      cases B1 with
      | @snoc _ _ _ _ x0 c0 B0 C0 n0 k0 m0 =>
        cases B0
        refine ⟨x0, x1, x2, ⟨c0.walks, c1.walks, c2.walks, c0.shown, c1.shown, c2.shown⟩, ?_, .head _, CW.more s, CC.more s, ?_, ?_, ?_⟩
        · have g1 := m1 c0 rfl
          have g2 := m2 c1 rfl
          revert g1 g2
          cases c0.walks <;> cases c1.walks <;> cases c2.walks <;> simp [Mine.CW.good]
        · exact (ci_of n0 k0 (a := Str.ofString "A0") (b := Str.ofString "a0") (by decide +kernel) (by decide +kernel)) ▸ C0.more s
        · exact (ci_of n1 k1 (a := Str.ofString "A1") (b := Str.ofString "a1") (by decide +kernel) (by decide +kernel)) ▸ C1.more s
        · exact (ci_of n2 k2 (a := Str.ofString "A2") (b := Str.ofString "a2") (by decide +kernel) (by decide +kernel)) ▸ C2.more s
theorem useK {w : World} {mean : ExcName → Option Value} {mg mb : Str → Option Value} {A : Around} {s : Shared} {Q E : Value → Shared → Prop} {h₀ : Heap} {L : Addr} {m : Str → Option Value} {news : List (Addr × Obj)} {nm : Str} {t : Tok} {sv : Value} (hl : nm.length ≤ 100)
    (F : Fr h₀ L s.heap m) (N : News h₀ L s.heap news) (X : (Hd.K w.params).In h₀) (T : Top Hd.view LS mean mg mb h₀) (e1 : A.handled = none) (e2 : A.depth ≤ 900) (e3 : A.units ≤ 900)
    (k : ∀ x dx es n il md od h' tk, Fr h₀ L h' m → KlassNew w nm s.heap h' x dx es n il md od → News h₀ L h' ([(dx, dictOf es n), (md, od), (il, W.listOf #[] 0), (x, instObj 650 dx)] ++ news) → (∀ p ∈ [(dx, dictOf es n), (md, od), (il, W.listOf #[] 0), (x, instObj 650 dx)], ∀ q ∈ news, p.1 ≠ q.1) → Q (.ref x) { s with heap := h', toks := tk }) :
    wpAny (model mprog w) A (call (.ref 650) [.str nm t, sv]) Q E s :=
  useM (klass_c nm t sv hl) F N X T e1 e2 e3 True.intro fun _ h' tk F' z NW => by
    obtain ⟨x, dx, es, n, il, md, od, rfl, K⟩ := z
    exact k x dx es n il md od h' tk F' K (NW _ K.lits).1 (NW _ K.lits).2
inductive JLoop (w : World) (wa ca fl : Addr) (d : Int) (qd : Tok) (i : Nat) (m : Str → Option Value) (nw : List (Addr × Obj)) : Prop
  | mk (lw : List (Addr × Obj)) (vs : List Value) (cs : List CI) (p : Value) (kk : Nat) : nw = (fl, W.listOf (Value.ref ca :: vs).toArray kk) :: lw → (∀ p ∈ lw, p.1 ≠ fl) → CL w wa lw wa trav .none → CL w wa lw ca clo .none → Bl w wa lw i vs cs p → m "walked" = some (.ref wa) → m "found" = some (.ref fl) → m "draw" = some (.int d qd) → JLoop w wa ca fl d qd i m nw
inductive JPar (wa fl x dx md : Addr) (od : Obj) (R0 : List (Addr × Obj)) (d : Int) (qd : Tok) (l : List (Str × Option Value)) (k : Value) (m : Str → Option Value) (nw : List (Addr × Obj)) : Prop
  | mk (es2 : List DictEntry) (n2 : Nat) : nw = (dx, dictOf es2 n2) :: (md, od) :: R0 → Kn es2 31 l → m "walked" = some (.ref wa) → m "found" = some (.ref fl) → m "draw" = some (.int d qd) → m "made" = some (.ref x) → m "k" = some k → JPar wa fl x dx md od R0 d qd l k m nw
inductive JMet (w : World) (wa fl x dx md : Addr) (o2 : Obj) (R0 : List (Addr × Obj)) (d : Int) (qd : Tok) (k : Value) (m : Str → Option Value) (nw : List (Addr × Obj)) : Prop
  | mk (od3 : Obj) (kvs : List (Str × Value)) : nw = (md, od3) :: (dx, o2) :: R0 → od3.IsDictOf (knd w) kvs → m "walked" = some (.ref wa) → m "found" = some (.ref fl) → m "draw" = some (.int d qd) → m "made" = some (.ref x) → m "k" = some k → JMet w wa fl x dx md o2 R0 d qd k m nw
inductive JIfs (wa fl x dx md : Addr) (o2 od3 : Obj) (R0 lw : List (Addr × Obj)) (cs : List CI) (d : Int) (qd : Tok) (l : Value → List (Str × Option Value)) (m : Str → Option Value) (nw : List (Addr × Obj)) : Prop
  | mk (es4 : List DictEntry) (n4 : Nat) (ex : List (Addr × Obj)) (wk : Bool) (il4 : Addr) (k4 : Nat) : nw = (dx, dictOf es4 n4) :: (ex ++ (md, od3) :: R0) → (∀ q ∈ ex, ∀ r ∈ (dx, o2) :: (md, od3) :: R0, r.1 < q.1) → ((il4, W.listOf (if wk then [Value.ref wa] else []).toArray k4) : Addr × Obj) ∈ ex ++ lw → (∀ c ∈ cs.head?, c.walks = true → wk = true) →
      Kn es4 32 (l (.ref il4)) → m "walked" = some (.ref wa) → m "found" = some (.ref fl) → m "draw" = some (.int d qd) → m "made" = some (.ref x) → JIfs wa fl x dx md o2 od3 R0 lw cs d qd l m nw
theorem law_classes_c {w : World} {mean mg mb} (d : Int) (qd : Tok) :
    Pure w mean mg mb 880 880 785 [.int d qd] (fun _ => True) (fun h r h' => ∃ fl lits, r = .ref fl ∧ Lits h h' lits ∧ ∃ wa ca x0 x1 x2 kk c, KsAt w lits fl wa ca x0 x1 x2 kk c) := by
  k_extra "E0"
  refine in_mono (A' := ⟨none, 880, A.frames, A.guards, 880⟩) ?_ e1 e2 rfl rfl e3
  k_extra "E1"
  refine' enterZ (binds := [("draw", .int d qd)]) W ?k1 ?kf1 ?kf2 ?kf3 ?k2 ?k3 ?k4 ?k5 ?_ ?k6 ?k7 ?k8 ?k9
  k_extra "E5"
  k_extra "go"
  refine useK (by decide) F' N' X' T' rfl (Nat.le_of_ble_eq_true rfl) (Nat.le_of_ble_eq_true rfl) fun wa wdx wes wn wil wmd wod h2 tk F2 KW NW dz => ?_
  obtain ⟨lw, N2, CW0⟩ : ∃ lw, News s.heap L' h2 lw ∧ CL w wa lw wa trav .none := ⟨_, NW, KW.cl wa (fun q hq => List.mem_append_left _ hq) (by decide +kernel)⟩
  clear KW NW N' F' dz
  k_extra "go"
  refine useK (by decide) F2 N2 X' T' rfl (Nat.le_of_ble_eq_true rfl) (Nat.le_of_ble_eq_true rfl) fun ca cdx ces cn cil cmd cod h3 tk3 F3 KC NC dz => ?_
  obtain ⟨lc, N3, CW, CC⟩ : ∃ lc, News s.heap L' h3 lc ∧ CL w wa lc wa trav .none ∧ CL w wa lc ca clo .none := ⟨_, NC, CW0.more fun _ hq => List.mem_append_right _ hq, KC.cl wa (fun q hq => List.mem_append_left _ hq) (by decide +kernel)⟩
  clear KC NC N2 F2 CW0 dz lw
  k_extra "go"
  rename Fr _ _ _ _ => F4
  rename News _ _ _ _ => N4
  rename IsRange _ _ _ _ _ _ _ _ => R4
  rename_i fl _ l1 _ _ _ _ _ _ _ _ _ _ _ _ _ _
  refine it_rangeO (JLoop w wa ca fl d qd) (by rfl) rfl R4 (by rfl) (n := 3) (by rfl) F4 (fun p hp => N4 p (.tail _ hp)) ⟨_, [], [], .none, 0, rfl, ?_, CW, CC, .nil, by k_extra "look", by k_extra "look", by k_extra "look"⟩ ?_ ?_
  · exact fun p hp => Nat.ne_of_lt (l1 p hp)
  · clear F4 N4 R4 CW CC l1
    rename Fr _ _ _ _ => F4
    rename News _ _ _ _ => N4
    clear F4 N4
    rintro I i _ m₁ _ h tk1 own oI hi ⟨u, rfl⟩ ⟨lw, vs, cs, p, kk, rfl, hfl, CW, CC, BL, M1, M2, M3⟩ hoff hown hof F5 N5
    k_extra "go"
    rename Fr _ _ _ _ => F6
    rename News _ _ _ _ => N6
    refine useK (nm := nmA i) (nmA_len hi) F6 N6 X' T' rfl (Nat.le_of_ble_eq_true rfl) (Nat.le_of_ble_eq_true rfl) fun x dx es n il md od h7 tk7 F7 KW N7 dis => ?_
    clear F6 N6
    obtain ⟨tn, tu, K0⟩ := KW.kn
    replace K0 : Kn es 30 (kl (nmA i) (lowS (nmA i)) tn tu .none (.ref il) (.ref md)) := K0
    have xd : x ≠ dx := ne_of_obj N7 (List.mem_append_left _ (.tail _ (.tail _ (.tail _ (.head _))))) (List.mem_append_left _ (.head _)) (by intro e; cases e)
    have ild : il ≠ dx := ne_of_obj N7 (List.mem_append_left _ (.tail _ (.tail _ (.head _)))) (List.mem_append_left _ (.head _)) (by intro e; have := congrArg Obj.data e; cases this)
    have xm : x ≠ md := ne_of_obj N7 (List.mem_append_left _ (.tail _ (.tail _ (.tail _ (.head _))))) (List.mem_append_left _ (.tail _ (.head _))) (fun e => by have := KW.dict; rw [← e] at this; simp [Obj.IsDictOf] at this)
    have ilm : il ≠ md := ne_of_obj N7 (List.mem_append_left _ (.tail _ (.tail _ (.head _)))) (List.mem_append_left _ (.tail _ (.head _))) (fun e => by have := KW.dict; rw [← e] at this; simp [Obj.IsDictOf] at this)
    generalize hR0 : ((il, W.listOf #[] 0) : Addr × Obj) :: (x, instObj 650 dx) :: (own ++ (fl, W.listOf (Value.ref ca :: vs).toArray kk) :: lw) = R0
    have mil : ((il, W.listOf #[] 0) : Addr × Obj) ∈ R0 := hR0 ▸ .head _
    have mx : ((x, instObj 650 dx) : Addr × Obj) ∈ R0 := hR0 ▸ .tail _ (.head _)
    have mfl : ((fl, W.listOf (Value.ref ca :: vs).toArray kk) : Addr × Obj) ∈ R0 := hR0 ▸ .tail _ (.tail _ (List.mem_append_right _ (.head _)))
    have mlw : ∀ q ∈ lw, q ∈ R0 := fun q hq => hR0 ▸ .tail _ (.tail _ (List.mem_append_right _ (.tail _ hq)))
    have mown : ∀ q ∈ own, q ∈ R0 := fun q hq => hR0 ▸ .tail _ (.tail _ (List.mem_append_left _ hq))
    have a0 : ∀ q, q ∈ R0 → q.1 ≠ dx ∧ q.1 ≠ md := by
      rw [← hR0]
      exact all_c ⟨ild, ilm⟩ (all_c ⟨xd, xm⟩ fun q h => ⟨(dis _ (.head _) q h).symm, (dis _ (.tail _ (.head _)) q h).symm⟩)
    have ap0 : ∀ q ∈ (md, od) :: R0, q.1 ≠ dx := all_c KW.ne fun q hq => (a0 q hq).1
    replace N7 : News s.heap L' h7 ((dx, dictOf es n) :: (md, od) :: R0) := hR0 ▸ N7
    iterate 40 (first | (with_reducible show wpAny _ _ (execs _ _) _ _ _) | ((try dsimp only); walk1))
    rename Fr _ _ _ _ => F8
    rename News _ _ _ _ => N8
    refine wpAny_execs_cons ?_
    refine cutN (JPar wa fl x dx md od R0 d qd (kl (nmA i) (lowS (nmA i)) tn tu p (.ref il) (.ref md)) (.int (0 + ↑i * 1) u)) ?_ ?_ (L := L') (h₀ := s.heap)
    · cases BL.last with
      | nil e e1 e2 e3 =>
        k_extra "go"
        refine setKn F8 X' N8 (.tail _ mx) ap0 K0 rfl (put_Klass _) (by kernel_rfl) fun es2 n2 h9 tk9 F9 N9 K2 => ?_
        exact .make F9 N9 ⟨es2, n2, rfl, by rw [e3]; exact kl_par K2, by k_extra "look", by k_extra "look", by k_extra "look", by k_extra "look", by k_extra "look"⟩
      | snoc x' us c r q e e1 e2 e3 C =>
        k_extra "go"
        refine last_led N8 (.tail _ (.tail _ mfl)) (pre := Value.ref ca :: us) (by rw [e1]; exact last_is) ?_
        k_extra "go"
        refine setKn (by assumption) X' N8 (.tail _ mx) ap0 K0 rfl (put_Klass _) (by kernel_rfl) fun es2 n2 h9 tk9 F9 N9 K2 => ?_
        exact .make F9 N9 ⟨es2, n2, rfl, by rw [e3]; exact kl_par K2, by k_extra "look", by k_extra "look", by k_extra "look", by k_extra "look", by k_extra "look"⟩
    clear F8 N8 K0
    rintro h9 tk9 m9 _ F9 N9 ⟨es2, n2, rfl, K2, M11, M12, M13, M14, M15⟩
    dsimp only
    refine wpAny_execs_cons ?_
    have N9' : News s.heap L' h9 ((md, od) :: (dx, dictOf es2 n2) :: R0) := news_swap N9
    clear N9
    refine cutN (JMet w wa fl x dx md (dictOf es2 n2) R0 d qd (.int (0 + ↑i * 1) u)) ?_ ?_ (L := L') (h₀ := s.heap)
    · k_extra "go"
      refine floordiv_int (pow4 hi).1 ?_ (.inl (PyProof.noPylong_small (pow4 hi).2))
      k_extra "go"
      · refine get_kn (by assumption) X' (atr_Klass_methods _) N9' (.tail _ (.tail _ mx)) (.tail _ (.head _)) K2 (.tail _ (.tail _ (.tail _ (.tail _ (.head _))))) rfl ?_
        k_extra "go"
        refine kda_set (knd := knd w) (by assumption) N9' (.head (all_c KW.ne.symm fun q hq => (a0 q hq).2)) KW.dict (strKind_is _ _ _ _) (by rw [sizeLine_eq]; exact Nat.zero_le _) fun h10 od3 F10 N10 hd3 => ?_
        k_extra "go"
        exact .make F10 N10 ⟨od3, _, rfl, hd3, M11, M12, M13, M14, M15⟩
      · exact .make (by assumption) N9' ⟨od, _, rfl, KW.dict, M11, M12, M13, M14, M15⟩
    clear F9 N9' M11 M12 M13 M14 M15
    rintro h10 tk10 m10 _ F9 N9 ⟨od3, kvs, rfl, D3, M11, M12, M13, M14, M15⟩
    dsimp only
    refine wpAny_execs_cons ?_
    have N10 : News s.heap L' h10 ((dx, dictOf es2 n2) :: (md, od3) :: R0) := news_swap N9
    clear N9
    have ap3 : ∀ q ∈ (md, od3) :: R0, q.1 ≠ dx := all_c KW.ne fun q hq => (a0 q hq).1
    refine cutN (JIfs wa fl x dx md (dictOf es2 n2) od3 R0 lw cs d qd (fun v => kl (nmA i) (lowS (nmA i)) tn tu p v (.ref md))) ?_ ?_ (L := L') (h₀ := s.heap)
    · k_extra "go"
      refine floordiv_int (pow4 hi).1 ?_ (.inl (PyProof.noPylong_small (pow4 hi).2))
      k_extra "go"
      · rename News _ _ _ ((_, _) :: (dx, _) :: _) => NL
        rename (_ < _ ∧ _ < _ ∧ AllLt _ _) => al
        rename_i l' _ _
        have up : ∀ r ∈ (dx, dictOf es2 n2) :: (md, od3) :: R0, r.1 < l' := lt_of_allLt al
        refine setKn (rest := (l', W.listOf #[Value.ref wa] 0) :: (md, od3) :: R0) (by assumption) X' (news_swap NL) (.tail _ (.tail _ mx)) (all_c (Nat.ne_of_lt (up _ (.head _))).symm ap3) K2 rfl (put_Klass _) (by kernel_rfl) fun es4 n4 h11 tk11 F11 N11 K4 => ?_
        exact .make F11 N11 ⟨es4, n4, [(l', _)], true, l', 0, rfl, all_c up (fun _ h => nomatch h), .head _, fun _ _ _ => rfl, kl_ifs K4, M11, M12, M13, M14⟩
      · cases BL.last with
        | nil e e1 e2 e3 => exfalso; omega
        | snoc x' us c r q e e1 e2 e3 C =>
          refine get_kn (v := .ref x') (by assumption) X' (atr_Klass_parent _) N10 (.tail _ (.tail _ mx)) (.head _) K2 (by rw [e3]; exact .tail _ (.tail _ (.head _))) rfl ?_
          k_extra "go"
          refine C.get_ifs (by assumption) X' (atr_Klass_interfaces _) N10 (fun q hq => .tail _ (.tail _ (mlw q hq))) fun il' k' q3 => ?_
          k_extra "go"
          refine setKn (by assumption) X' N10 (.tail _ mx) ap3 K2 rfl (put_Klass _) (by kernel_rfl) fun es4 n4 h11 tk11 F11 N11 K4 => ?_
          exact .make F11 N11 ⟨es4, n4, [], _, il', k', rfl, (fun q hq => absurd hq List.not_mem_nil), q3, (by rw [e2]; exact fun d hd h => by cases hd; exact h), kl_ifs K4, M11, M12, M13, M14⟩
      · rename News _ _ _ ((_, _) :: (dx, _) :: _) => NL
        rename (_ < _ ∧ _ < _ ∧ AllLt _ _) => al
        rename ¬ ((0 : Int) < _) => k0
        rename_i l' _ _
        have up : ∀ r ∈ (dx, dictOf es2 n2) :: (md, od3) :: R0, r.1 < l' := lt_of_allLt al
        refine setKn (rest := (l', W.listOf #[] 0) :: (md, od3) :: R0) (by assumption) X' (news_swap NL) (.tail _ (.tail _ mx)) (all_c (Nat.ne_of_lt (up _ (.head _))).symm ap3) K2 rfl (put_Klass _) (by kernel_rfl) fun es4 n4 h11 tk11 F11 N11 K4 => ?_
        refine .make F11 N11 ⟨es4, n4, [(l', _)], false, l', 0, rfl, all_c up (fun _ h => nomatch h), .head _, ?_, kl_ifs K4, M11, M12, M13, M14⟩
        cases BL.last with
        | nil e e1 e2 e3 => rw [e2]; exact fun _ h => absurd h (by simp)
        | snoc x' us c r q e => exfalso; omega
    clear F9 N10 K2 M11 M12 M13 M14 M15
    rintro h11 tk11 m11 _ F11 N11 ⟨es4, n4, ex, wk, il4, k4, rfl, up, mil4, wkc, K4, M11, M12, M13, M14⟩
    dsimp only
    generalize hLW : ((dx, dictOf es4 n4) : Addr × Obj) :: (ex ++ (md, od3) :: (il, W.listOf #[] 0) :: (x, instObj 650 dx) :: lw) = LW
    have away : ∀ {b : Addr} {o : Obj}, (b, o) ∈ own ++ (fl, W.listOf (Value.ref ca :: vs).toArray kk) :: lw → (∀ q ∈ lw, q.1 ≠ b) → ∀ q, q ∈ LW → q.1 ≠ b := fun {b o} hb hl => by
      rw [← hLW]
      exact all_c (dis _ (.head _) _ hb) (all_a (fun q hq => (Nat.ne_of_lt (up q hq (b, o) (.tail _ (.tail _ (hR0 ▸ .tail _ (.tail _ hb)))))).symm) (all_c (dis _ (.tail _ (.head _)) _ hb) (all_c (dis _ (.tail _ (.tail _ (.head _))) _ hb) (all_c (dis _ (.tail _ (.tail _ (.tail _ (.head _)))) _ hb) hl))))
    have offFl := away (List.mem_append_right _ (.head _)) hfl
    have offI := away (List.mem_append_left _ hown) fun q hq => hoff q (.tail _ hq)
    have mR : ∀ q, q ∈ R0 → q ∈ (dx, dictOf es4 n4) :: (ex ++ (md, od3) :: R0) := fun q hq => .tail _ (List.mem_append_right _ (.tail _ hq))
    have N12 : News s.heap L' h11 ((fl, W.listOf (Value.ref ca :: vs).toArray kk) :: (own ++ LW)) := by
      rw [← hLW]
      exact all_c (N11 _ (mR _ mfl)) (all_a (fun q hq => N11 q (mR _ (mown q hq))) (all_c (N11 _ (.head _)) (all_a (fun q hq => N11 q (.tail _ (List.mem_append_left _ hq))) (all_c (N11 _ (.tail _ (List.mem_append_right _ (.head _)))) (all_c (N11 _ (mR _ mil)) (all_c (N11 _ (mR _ mx)) fun q hq => N11 q (mR _ (mlw q hq))))))))
    have offA : ∀ q ∈ own ++ LW, q.1 ≠ fl := all_a (fun q hq => by rw [hof q hq]; exact (hoff _ (.head _)).symm) offFl
    have hsz : (Value.ref ca :: vs).toArray.size ≤ sizeLine := by rw [sizeLine_eq]; simp only [List.size_toArray, List.length_cons, BL.len]; omega
    clear N11
    k_extra "go"
    rename Fr _ _ _ _ => F14
    rename News _ _ _ _ => N14
    have mLW : ∀ q, q ∈ (dx, dictOf es4 n4) :: (ex ++ (md, od3) :: (il, W.listOf #[] 0) :: (x, instObj 650 dx) :: lw) → q ∈ LW := fun q hq => hLW ▸ hq
    have mlw2 : ∀ q ∈ lw, q ∈ LW := fun q hq => mLW q (.tail _ (List.mem_append_right _ (.tail _ (.tail _ (.tail _ hq)))))
    refine LoopStepU.intro F14 (all_a (fun q hq => N14 q (.tail _ (List.mem_append_left _ hq))) (all_c (N14 _ (.head _)) fun q hq => N14 q (.tail _ (List.mem_append_right _ hq)))) (all_c (fun h => hoff _ (.head _) (List.mem_singleton.mp h)) fun q hq h => offI q hq (List.mem_singleton.mp h)) ⟨LW, vs ++ [.ref x], ⟨nmA i, lowS (nmA i), wk, (valueAt kvs "__tostring").isSome⟩ :: cs, .ref x, kk + 1, ?_, offFl, CW.more mlw2, CC.more mlw2, (BL.more mlw2).snoc ?_ rfl rfl wkc, by k_extra "look", by k_extra "look", by k_extra "look"⟩ (news₂ := (fl, W.listOf ((Value.ref ca :: vs).toArray.push (.ref x)) (kk + 1)) :: LW)
    · simp
    · refine ⟨dx, es4, n4, il4, k4, md, od3, kvs, tn, tu, mLW _ ?_, mLW _ (.head _), mLW _ ?_, mLW _ (.tail _ (List.mem_append_right _ (.head _))), D3, KW.low, rfl, K4.mono (by decide)⟩
      · exact .tail _ (List.mem_append_right _ (.tail _ (.tail _ (.head _))))
      · rcases List.mem_append.mp mil4 with h | h
        · exact .tail _ (List.mem_append_left _ h)
        · exact .tail _ (List.mem_append_right _ (.tail _ (.tail _ (.tail _ h))))
  · clear F4 N4 R4
    rename Fr _ _ _ _ => F4
    rename News _ _ _ _ => N4
    clear F4 N4
    rintro h tk1 m₁ _ ⟨lw, vs, cs, p, kk, rfl, hfl, CW, CC, BL, M1, M2, M3⟩ F5 N5
    dsimp only
    k_extra "go"
    obtain ⟨x0, x1, x2, c, K⟩ := BL.ks CW CC (kk := kk) (fl := fl)
    exact hQ _ _ _ F5.keep ⟨fl, _, rfl, .of N5 fun q hq => hq, wa, ca, x0, x1, x2, kk, c, K⟩
open PyProof.Rows.LCg
noncomputable abbrev tupOf (its : Array Value) : Obj := { cls := .type "tuple", data := .seq its }
theorem pow_small {b : Int} {k : Nat} {i : Nat} (h : i < k) (hb : ((List.range k).all fun j => decide (b ^ j ≠ 0) && decide ((b ^ j).natAbs < 2 ^ 40)) = true) : b ^ (0 + (i : Int)).toNat ≠ 0 ∧ (b ^ (0 + (i : Int)).toNat).natAbs.log2 < 9000 := by
  have := List.all_eq_true.mp hb i (List.mem_range.mpr h)
  simp only [Bool.and_eq_true, decide_eq_true_eq] at this
  rw [show (0 + (i : Int)).toNat = i by omega]
  refine ⟨this.1, ?_⟩
  have h2 := (Nat.log2_lt (n := (b ^ i).natAbs) (k := 40) (by have := this.1; omega)).mpr this.2
  omega
theorem tup_pick {w : World} {A : Around} {E : Value → Shared → Prop} {s : Shared} {h₀ : Heap} {L tw : Addr} {news : List (Addr × Obj)} {its : List Value} {ws : List Str} {i : Int} {u : Tok} {value slice : Expr} {Q : Value → Shared → Prop}
    (N : News h₀ L s.heap news) (hm : (tw, tupOf its.toArray) ∈ news) (hs : StrsAre its ws) (h0 : 0 ≤ i) (h1 : i < ws.length) (hf : i < 2 ^ 63) (h : ∀ n t, n ∈ ws → Q (.str n t) s)
    (hb : subscripted slice false (.ref tw) (.int i u) = operate [.ref tw, .int i u] (getItem (.ref tw) (.int i u)) := by with_unfolding_all rfl) :
    wpAny (model mprog w) A (subscriptTail value slice (.ref tw) (.int i u)) Q E s :=
  W.KTb.item_tup (News.isTup N hm) hs h0 h1 hf (fun t' hlt => h _ t' (by rw [List.getD_eq_getElem?_getD, List.getElem?_eq_getElem hlt]; exact List.getElem_mem hlt)) hb
set_option maxHeartbeats 600000 in
theorem law_names_c {w : World} {mean mg mb} (d : Int) (qd : Tok) :
    Pure w mean mg mb 880 890 659 [.int d qd] (fun _ => True) (fun h r h' => ∃ na its ns, r = .ref na ∧ h.get? na = none ∧ h'.get? na = some (tupOf its) ∧ StrsAre its.toList ns ∧ (∀ n ∈ ns, n ∈ words21) ∧ 1 ≤ ns.length ∧ ns.length ≤ 4) := by
  k_extra "E0"
  refine in_mono (A' := ⟨none, 880, A.frames, A.guards, 890⟩) ?_ e1 e2 rfl rfl e3
  k_extra "E1"
  refine' enterC (binds := [("draw", .int d qd)]) W ?k1 ?kf1 ?kf2 ?kf3 ?k2 ?k3 ?k4 ?k5 ?kn ?_ ?k7 ?k8 ?k9
  k_extra "enterC"
  have X' := W.X
  have T' := W.T
  clear W
  intro L' h₁ tk2 cells F0 N0 Y0
  obtain ⟨o1, o2, rfl, c1, c2⟩ := CellsAre.two Y0
  clear Y0
  replace c1 : o1.data = .cell none := c1
  replace c2 : o2.data = .cell (some (.int d qd)) := c2
  replace F0 : Fr s.heap L' h₁ (fun _ => none) := F0
  have m0 : 0 ≤ d.fmod 4 := Int.fmod_nonneg_of_pos _ (by decide)
  have m4 : d.fmod 4 < 4 := Int.fmod_lt_of_pos _ (by decide)
  obtain ⟨n, hn⟩ : ∃ n : Nat, (n : Int) = 1 + d.fmod 4 := ⟨(1 + d.fmod 4).toNat, by omega⟩
  k_extra "go"
  rename Fr _ _ _ _ => F5
  rename News _ _ _ _ => N5
  rename IsRange _ _ _ _ _ _ _ _ => hr
  rename (Obj.data _ = _) => c4
  obtain ⟨its, hs, N6⟩ : ∃ its : List Value, StrsAre its words21 ∧ News s.heap L' _ [(_, tupOf its.toArray), (_, _), (_, _)] := ⟨_, by unfold words21; repeat (first | exact StrsAre.nil | with_reducible refine StrsAre.cons _ _ ?_), N5⟩
  clear N5
  have N5 := N6
  clear N6
  have htw := (strsAre_len hs).trans (rfl : _ = 21)
  rw [← hn] at hr
  refine ⟨_, _, n, _, fun i ys => ∃ ns, StrsAre ys ns ∧ (∀ n ∈ ns, n ∈ words21) ∧ ns.length = i, F5, N5, srcG_range rfl hr (small_one (by omega) (by omega) (by omega)) (by rw [size_one (by omega)]; omega), by rw [sizeLine_eq]; omega, ⟨⟨[], .nil, (fun _ h => absurd h List.not_mem_nil), rfl⟩, ?_⟩, ?_⟩
  · clear F5 N5
    rintro i ys v I oI C oC D m₂ h tk E' hi ⟨uk, rfl⟩ ⟨ns, hj, hw, hl⟩ hO hx F6 N6
    k_extra "go"
    have hp := pow_small (b := 21) (k := 4) (i := i) (by omega) (by decide +kernel)
    refine floordiv_int hp.1 ?_ (.inl (PyProof.noPylong_of_log2 hp.2))
    k_extra "go"
    have i0 := Int.fmod_nonneg_of_pos ((d.fdiv 4).fdiv (21 ^ (0 + (i : Int)).toNat)) (b := 21) (by decide)
    have i1 := Int.fmod_lt_of_pos ((d.fdiv 4).fdiv (21 ^ (0 + (i : Int)).toNat)) (b := 21) (by decide)
    refine tup_pick N6 (.tail _ (.tail _ (.tail _ (.head _)))) hs i0 (by rw [show words21.length = 21 from rfl]; exact i1) (by omega) fun w1 t1 hw1 => ?_
    refine .mk (by k_extra "A") (by k_extra "A") ⟨ns ++ [w1], strsAre_append0 hj (.cons _ _ .nil), fun z hz => ?_, by simp [hl]⟩
    rcases List.mem_append.mp hz with hz | hz
    · exact hw z hz
    · rw [List.mem_singleton.mp hz]; exact hw1
  · clear F5 N5
    rintro D h tk ys ⟨ns, hj, hw, hl⟩ F6 N6
    k_extra "go"
    rename Fr _ _ _ _ => F7
    rename News _ _ _ _ => N7
    exact hQ _ _ _ F7.keep ⟨_, _, ns, rfl, (N7 _ (.head _)).2.2, (N7 _ (.head _)).1, by simpa using hj, hw, by omega, by omega⟩
open PyProof.Rows.LCg
noncomputable def pieces18 : List Str := [Str.ofString " ", Str.ofString "7", Str.ofString "12", Str.ofString "-", Str.ofString "0", Str.ofString ".", Str.ofString "e", Str.ofString "x", Str.ofString "\n", Str.ofString "+", Str.ofString "E2", Str.ofString "9223372036854775807", Str.ofString "8", Str.ofString "\x0b", Str.ofString "\t", Str.ofString "\r", Str.ofString "\x0c", Str.ofString "9223372036854775808"]
theorem law_text_c {w : World} {mean mg mb} (d : Int) (qd : Tok) :
    Pure w mean mg mb 880 890 664 [.int d qd] (fun _ => True) (fun _ r _ => ∃ t u, r = .str t u ∧ t.length ≤ 900) := by
  k_extra "E0"
  refine in_mono (A' := ⟨none, 880, A.frames, A.guards, 890⟩) ?_ e1 e2 rfl rfl e3
  k_extra "E1"
  refine' enterC (binds := [("draw", .int d qd)]) W ?k1 ?kf1 ?kf2 ?kf3 ?k2 ?k3 ?k4 ?k5 ?kn ?_ ?k7 ?k8 ?k9
  k_extra "enterC"
  have X' := W.X
  have T' := W.T
  clear W
  intro L' h₁ tk2 cells F0 N0 Y0
  obtain ⟨o1, o2, rfl, c1, c2⟩ := CellsAre.two Y0
  clear Y0
  replace c1 : o1.data = .cell none := c1
  replace c2 : o2.data = .cell (some (.int d qd)) := c2
  replace F0 : Fr s.heap L' h₁ (fun _ => none) := F0
  have m0 : 0 ≤ d.fmod 7 := Int.fmod_nonneg_of_pos _ (by decide)
  have m7 : d.fmod 7 < 7 := Int.fmod_lt_of_pos _ (by decide)
  obtain ⟨n, hn⟩ : ∃ n : Nat, (n : Int) = d.fmod 7 := ⟨(d.fmod 7).toNat, by omega⟩
  k_extra "go"
  rename Fr _ _ _ _ => F5
  rename News _ _ _ _ => N5
  rename IsRange _ _ _ _ _ _ _ _ => hr
  rename (Obj.data _ = _) => c4
  obtain ⟨its, hs, N6⟩ : ∃ its : List Value, StrsAre its pieces18 ∧ News s.heap L' _ [(_, tupOf its.toArray), (_, _), (_, _)] := ⟨_, by unfold pieces18; repeat (first | exact StrsAre.nil | with_reducible refine StrsAre.cons _ _ ?_), N5⟩
  clear N5
  have N5 := N6
  clear N6
  have htw := (strsAre_len hs).trans (rfl : _ = 18)
  rw [← hn] at hr
  refine ⟨_, _, n, _, fun i ys => ∃ ns, StrsAre ys ns ∧ (∀ n ∈ ns, n ∈ pieces18) ∧ ns.length = i, F5, N5, srcG_range rfl hr (small_one (by omega) (by omega) (by omega)) (by rw [size_one (by omega)]; omega), by rw [sizeLine_eq]; omega, ⟨⟨[], .nil, (fun _ h => absurd h List.not_mem_nil), rfl⟩, ?_⟩, ?_⟩
  · clear F5 N5
    rintro i ys v I oI C oC D m₂ h tk E' hi ⟨uk, rfl⟩ ⟨ns, hj, hw, hl⟩ hO hx F6 N6
    k_extra "go"
    have hp := pow_small (b := 18) (k := 7) (i := i) (by omega) (by decide +kernel)
    refine floordiv_int hp.1 ?_ (.inl (PyProof.noPylong_of_log2 hp.2))
    k_extra "go"
    have i0 := Int.fmod_nonneg_of_pos ((d.fdiv 7).fdiv (18 ^ (0 + (i : Int)).toNat)) (b := 18) (by decide)
    have i1 := Int.fmod_lt_of_pos ((d.fdiv 7).fdiv (18 ^ (0 + (i : Int)).toNat)) (b := 18) (by decide)
    refine tup_pick N6 (.tail _ (.tail _ (.tail _ (.head _)))) hs i0 (by rw [show pieces18.length = 18 from rfl]; exact i1) (by omega) fun w1 t1 hw1 => ?_
    refine .mk (by k_extra "A") (by k_extra "A") ⟨ns ++ [w1], strsAre_append0 hj (.cons _ _ .nil), fun z hz => ?_, by simp [hl]⟩
    rcases List.mem_append.mp hz with hz | hz
    · exact hw z hz
    · rw [List.mem_singleton.mp hz]; exact hw1
  · clear F5 N5
    rintro D h tk ys ⟨ns, hj, hw, hl⟩ F6 N6
    k_extra "go"
    rename Fr _ _ _ _ => F7
    rename News _ _ _ _ => N7
    have hw2 : (ns.map (·.length)).sum + ns.length ≤ 126 := by
      have := sum_small (b := 20) fun z hz => List.all_eq_true.mp (show (pieces18.all fun z => Nat.ble z.length 20) = true by decide +kernel) z (hw z hz) |> Nat.le_of_ble_eq_true
      omega
    refine join_listW (News.isList N7 (.head _)) (by simpa using hj) (by decide +kernel) (by omega) fun t' k => ?_
    exact hQ _ _ _ F7.keep ⟨_, _, rfl, Nat.le_trans (len_join_le (n := 126) (Nat.le_succ_of_le hw2) (by decide +kernel)) (by decide)⟩
open W PyProof.Rows.LCg
noncomputable abbrev lawB : List Stmt := Hd.fB (Hd.S 86)
noncomputable abbrev lawSc : Scope := Hd.fS (Hd.S 86)
section
variable {M : Model} {A : Around} {E : Value → Shared → Prop} {s : Shared} {h₀ : Heap} {L : Addr} {t : Sem Flow} {K : Flow → Shared → Prop} {st st' : Stmt} {env : Env}
theorem st_is (e : st = st') (h : wpAny M A (exec st' env) K E s) : wpAny M A (exec st env) K E s := e ▸ h
end
section
variable {w : World} {mean : ExcName → Option Value} {mg mb : Str → Option Value} {s : Shared} {g : Heap} {L fa : Addr} {cd : Value} {m : Str → Option Value} {scope : Scope} {Z : Flow → Shared → Prop}
noncomputable abbrev lenv (scope : Scope) (L fa : Addr) (cd : Value) : Env := envOfC (Str.ofString "law") scope L fa cd
noncomputable abbrev lA (scope : Scope) (L fa : Addr) (cd : Value) : Around := callerA.deeper (lenv scope L fa cd)
theorem law_1 (hsc : scope = lawSc) (X' : (Hd.K w.params).In g) (T' : Top Hd.view LS mean mg mb g) {la : Addr} {vs : List Value} {ns : List Int} (hl : g.IsList la vs.toArray) (hi : IntsAre vs ns) (hn : ns.length ≤ 63) {o1 o2 o3 o4 o5 o6 : Obj}
    (F : Fr g L s.heap (fun _ => none)) (N : News g L s.heap [(L + 1 + 1 + 1 + 1 + 1 + 1, o6), (L + 1 + 1 + 1 + 1 + 1, o5), (L + 1 + 1 + 1 + 1, o4), (L + 1 + 1 + 1, o3), (L + 1 + 1, o2), (L + 1, o1)]) (c1 : o1.data = .cell (some (.ref la)))
    (hZ : ∀ h' tk sl vs k o1', Fr g L h' (fun _ => none) → News g L h' [(sl, W.listOf vs k), (L + 1 + 1 + 1 + 1 + 1 + 1, o6), (L + 1 + 1 + 1 + 1 + 1, o5), (L + 1 + 1 + 1 + 1, o4), (L + 1 + 1 + 1, o3), (L + 1 + 1, o2), (L + 1, o1')] → o1'.data = .cell (some (.ref sl)) → (∃ ns, IntsAre vs.toList ns ∧ ns.length ≤ 63) → Z .next { s with heap := h', toks := tk }) :
    wpAny (model mprog w) (lA scope L fa cd) (exec (Hd.nth lawB 0) (lenv scope L fa cd)) Z (fun _ _ => False) s := by
  conv at hsc => rhs; whnf
  subst hsc
  refine st_is (by conv => lhs; whnf) ?_
  k_extra "go"
  refine' kmk_slice_ints F N (stays_list F.keep hl) ?p ?q hi ?m ?c ?_ ?s ?t ?z
  (case p => kmk_part); (case q => kmk_part); (case m => kmk_nums); (case c => kmk_len); (case s => with_unfolding_all rfl); (case t => kmk_pure); (case z => rw [sizeLine_eq]; have := hi.length; simp only [List.size_toArray]; omega)
  intro sl ws h2 F2 N2 l1 hI hC hL
  clear F N
  k_lt l1
  k_extra "go"
  exact hZ _ _ _ _ _ _ (by assumption) (by assumption) (by assumption) ⟨_, hI, by rw [hC]; exact Nat.min_le_left _ _⟩
theorem law_2 (hsc : scope = lawSc) (X' : (Hd.K w.params).In g) (T' : Top Hd.view LS mean mg mb g) {sl : Addr} {vs : Array Value} {k : Nat} {o1 o2 o3 o4 o5 o6 : Obj}
    (F : Fr g L s.heap (fun _ => none)) (N : News g L s.heap [(sl, W.listOf vs k), (L + 1 + 1 + 1 + 1 + 1 + 1, o6), (L + 1 + 1 + 1 + 1 + 1, o5), (L + 1 + 1 + 1 + 1, o4), (L + 1 + 1 + 1, o3), (L + 1 + 1, o2), (L + 1, o1)]) (c1 : o1.data = .cell (some (.ref sl))) (c2 : o2.data = .cell none) (ne : sl ≠ L + 1 + 1)
    (hZ : ∀ h' tk rl rs k2 o2', Fr g L h' (fun _ => none) → News g L h' [(rl, W.listOf rs k2), (sl, W.listOf vs k), (L + 1 + 1 + 1 + 1 + 1 + 1, o6), (L + 1 + 1 + 1 + 1 + 1, o5), (L + 1 + 1 + 1 + 1, o4), (L + 1 + 1 + 1, o3), (L + 1 + 1, o2'), (L + 1, o1)] → o2'.data = .cell (some (.ref rl)) → (∃ zs, IntsAre rs.toList zs ∧ zs.length = 8) → Z .next { s with heap := h', toks := tk }) :
    wpAny (model mprog w) (lA scope L fa cd) (exec (Hd.nth lawB 1) (lenv scope L fa cd)) Z (fun _ _ => False) s := by
  conv at hsc => rhs; whnf
  subst hsc
  refine st_is (by conv => lhs; whnf) ?_
  k_extra "go"
  exact hZ _ _ _ _ _ _ (by assumption) (by assumption) (by assumption) ⟨[1 + 4 * 21, 5 + 7 * (0 + 18 * (3 + 18 * (2 + 18 * (1 + 18 * 0)))), 2 + 7 * (2 + 18 * 7), 9, 25, 0, 1, 0], by repeat (first | exact IntsAre.nil | with_reducible refine IntsAre.cons _ _ ?_), rfl⟩
theorem int_pick {A : Around} {E Q : Value → Shared → Prop} {value slice : Expr} {nw : List (Addr × Obj)} {l : Addr} {vs : Array Value} {k : Nat} {zs : List Int} {i : Int} {u : Tok} (N : News g L s.heap nw) (hm : (l, W.listOf vs k) ∈ nw) (hi : IntsAre vs.toList zs) (h0 : 0 ≤ i) (h1 : i < zs.length) (h2 : i < 2 ^ 63) (h : ∀ n t, zs[i.toNat]? = some n → Q (.int n t) s)
    (hs : subscripted slice false (.ref l) (.int i u) = operate [.ref l, .int i u] (getItem (.ref l) (.int i u)) := by with_unfolding_all rfl) : wpAny (model mprog w) A (subscriptTail value slice (.ref l) (.int i u)) Q E s := by
  have hl := News.isList N hm
  obtain ⟨n, hn⟩ : ∃ n, zs[i.toNat]? = some n := ⟨_, List.getElem?_eq_getElem (by omega)⟩
  obtain ⟨t, ht⟩ := hi.get _ _ hn
  exact tail_any hl.typeIs slot_list_getitem.lookup (wpAny_getItem_list hl h0 h2 (by rw [← Array.getElem?_toList]; exact ht) (h n t hn)) hs
set_option maxHeartbeats 1000000 in
theorem law_3 (hsc : scope = lawSc) (X' : (Hd.K w.params).In g) (T' : Top Hd.view LS mean mg mb g) {sl rl : Addr} {vs rs : Array Value} {k k2 : Nat} {ns zs : List Int} {o1 o2 o3 o4 o5 o6 : Obj}
    (F : Fr g L s.heap (fun _ => none)) (N : News g L s.heap [(rl, W.listOf rs k2), (sl, W.listOf vs k), (L + 1 + 1 + 1 + 1 + 1 + 1, o6), (L + 1 + 1 + 1 + 1 + 1, o5), (L + 1 + 1 + 1 + 1, o4), (L + 1 + 1 + 1, o3), (L + 1 + 1, o2), (L + 1, o1)]) (c1 : o1.data = .cell (some (.ref sl))) (c2 : o2.data = .cell (some (.ref rl)))
    (hv : IntsAre vs.toList ns) (hn : ns.length ≤ 63) (hr : IntsAre rs.toList zs) (hz : zs.length = 8)
    (hZ : ∀ h' tk m dl ds, Fr g L h' m → m "draws" = some (.ref dl) → News g L h' [(dl, lst ds), (L + 1 + 1 + 1 + 1 + 1 + 1, o6), (L + 1 + 1 + 1 + 1 + 1, o5), (L + 1 + 1 + 1 + 1, o4), (L + 1 + 1 + 1, o3)] → (∃ zs, IntsAre ds zs ∧ zs.length = 8) → Z .next { s with heap := h', toks := tk }) :
    wpAny (model mprog w) (lA scope L fa cd) (exec (Hd.nth lawB 2) (lenv scope L fa cd)) Z (fun _ _ => False) s := by
  conv at hsc => rhs; whnf
  subst hsc
  refine st_is (by conv => lhs; whnf) ?_
  have hl1 := hr.length
  have hl2 := hv.length
  simp only [Array.length_toList] at hl1 hl2
  refine' lc_assign F ?z9 ?zs ?z1 ?z2 ?z3 ?z4 ?z5 ?za ?zb ?z6 ?_
  (case z9 => exact rfl); (case zs => first | exact rfl | with_unfolding_all rfl); (case z1 => first | exact rfl | with_unfolding_all rfl); (case z2 => decide); (case z3 => exact rfl); (case z4 => decide); (case z5 => exact rfl); (case za => exact rfl); (case zb => exact rfl); (case z6 => (intro _; exact rfl))
  iterate 40 (first | (with_reducible show wpAny _ _ (call (Value.builtin _) _) _ _ _) | ((try dsimp only); walk1))
  refine call_len_list (News.isList N (.head _)) (by omega) ?_
  k_extra "go"
  rename Fr _ _ _ _ => F5
  rename News _ _ _ _ => N5
  rename IsRange _ _ _ _ _ _ _ _ => hr5
  rw [hl1, hz] at hr5
  refine ⟨_, _, 8, _, fun i ys => ∃ zs, IntsAre ys zs ∧ zs.length = i, F5, N5, srcG_range rfl hr5 (by decide) (by decide), by rw [sizeLine_eq]; omega, ⟨⟨[], .nil, rfl⟩, ?_⟩, ?_⟩
  · clear F5 N5 hr5 hZ
    rintro i ys v I oI C oC D m₂ h tk E' hi ⟨uk, rfl⟩ ⟨ws, hj, hw⟩ hO hx F6 N6
    k_extra "go"
    all_goals exact .mk F6 N6 ⟨ws ++ [_], intsAre_append hj (.cons _ _ .nil), by simp [hw]⟩
  · clear F5 N5 hr5
    rintro D h tk ys ⟨ws, hj, hw⟩ F6 N6
    k_extra "go"
    refine hZ _ _ _ D ys F6 (by k_extra "look") (fun p hp => N6 p ?_) ⟨ws, hj, hw⟩
    simp only [List.mem_cons, List.not_mem_nil, or_false] at hp ⊢
    rcases hp with h | h | h | h | h <;> simp only [h, true_or, or_true]
end
open W PyProof.Rows.LCg
section
variable {w : World} {mean : ExcName → Option Value} {mg mb : Str → Option Value} {s : Shared} {g : Heap} {L fa : Addr} {cd : Value} {m : Str → Option Value} {scope : Scope} {Z : Flow → Shared → Prop}
theorem stC {A : Around} {E : Value → Shared → Prop} {Q : Unit → Shared → Prop} {nw : List (Addr × Obj)} {cs : Scope} {cn x : Str} {a c : Addr} {ccd v : Value} {v₀ : Option Value} {o : Obj} {M : Model} (F : Fr g L s.heap m) (N : News g L s.heap nw) (hm : (c, o) ∈ nw) (hd : o.data = .cell v₀) (rest : List (Addr × Obj)) (hr : ∀ p ∈ rest, p ∈ nw) (ne : ∀ p ∈ rest, p.1 ≠ c)
    (hc : (cellsFrom (L + 1) cs.names []).lookup x = some c) (hk : cs.kind = .function) (hx : (envOfC cn cs L a ccd).kindOf x = some .cell)
    (h : ∀ h' o', Fr g L h' m → News g L h' ((c, o') :: rest) → o'.data = .cell (some v) → Q () { s with heap := h' }) : wpAny M A (storeName (envOfC cn cs L a ccd) x v) Q E s :=
  csC F (news := (c, o) :: rest) (fun p hp => N p (by rcases List.mem_cons.mp hp with rfl | hp; exact hm; exact hr p hp)) hc (.head ne) hd h hk hx
noncomputable abbrev led (L : Addr) (o3 o4 o5 o6 : Obj) (r : List (Addr × Obj)) : List (Addr × Obj) := (L + 1 + 1 + 1 + 1 + 1 + 1, o6) :: (L + 1 + 1 + 1 + 1 + 1, o5) :: (L + 1 + 1 + 1 + 1, o4) :: (L + 1 + 1 + 1, o3) :: r
noncomputable abbrev cel (o : Obj) (v : Value) : Prop := o.data = .cell (some v)
section
variable {A : Around} {E : Value → Shared → Prop} {Q : Unit → Shared → Prop} {cs : Scope} {cn x : Str} {a : Addr} {ccd v : Value} {v₀ : Option Value} {o3 o4 o5 o6 : Obj} {r : List (Addr × Obj)} {M : Model}
theorem led3 (F : Fr g L s.heap m) (N : News g L s.heap (led L o3 o4 o5 o6 r)) (hd : o3.data = .cell v₀) (off : ∀ p ∈ r, p.1 ≠ L + 1 + 1 + 1) (hc : (cellsFrom (L + 1) cs.names []).lookup x = some (L + 1 + 1 + 1)) (hk : cs.kind = .function) (hx : (envOfC cn cs L a ccd).kindOf x = some .cell)
    (h : ∀ h' o', Fr g L h' m → News g L h' (led L o' o4 o5 o6 r) → cel o' v → Q () { s with heap := h' }) : wpAny M A (storeName (envOfC cn cs L a ccd) x v) Q E s := by
  refine stC F N (c := L + 1 + 1 + 1) (.tail _ (.tail _ (.tail _ (.head _)))) hd ((L + 1 + 1 + 1 + 1 + 1 + 1, o6) :: (L + 1 + 1 + 1 + 1 + 1, o5) :: (L + 1 + 1 + 1 + 1, o4) :: r) (all_c (.head _) (all_c (.tail _ (.head _)) (all_c (.tail _ (.tail _ (.head _))) fun q hq => .tail _ (.tail _ (.tail _ (.tail _ hq)))))) (all_c (by show @Ne Nat _ _; omega) (all_c (by show @Ne Nat _ _; omega) (all_c (by show @Ne Nat _ _; omega) off))) hc hk hx fun h' o' F' N' c' => h h' o' F' (all_c (N' _ (.tail _ (.head _))) (all_c (N' _ (.tail _ (.tail _ (.head _)))) (all_c (N' _ (.tail _ (.tail _ (.tail _ (.head _))))) (all_c (N' _ (.head _)) fun q hq => N' q (.tail _ (.tail _ (.tail _ (.tail _ hq)))))))) c'
theorem led4 (F : Fr g L s.heap m) (N : News g L s.heap (led L o3 o4 o5 o6 r)) (hd : o4.data = .cell v₀) (off : ∀ p ∈ r, p.1 ≠ L + 1 + 1 + 1 + 1) (hc : (cellsFrom (L + 1) cs.names []).lookup x = some (L + 1 + 1 + 1 + 1)) (hk : cs.kind = .function) (hx : (envOfC cn cs L a ccd).kindOf x = some .cell)
    (h : ∀ h' o', Fr g L h' m → News g L h' (led L o3 o' o5 o6 r) → cel o' v → Q () { s with heap := h' }) : wpAny M A (storeName (envOfC cn cs L a ccd) x v) Q E s := by
  refine stC F N (c := L + 1 + 1 + 1 + 1) (.tail _ (.tail _ (.head _))) hd ((L + 1 + 1 + 1 + 1 + 1 + 1, o6) :: (L + 1 + 1 + 1 + 1 + 1, o5) :: (L + 1 + 1 + 1, o3) :: r) (all_c (.head _) (all_c (.tail _ (.head _)) (all_c (.tail _ (.tail _ (.tail _ (.head _)))) fun q hq => .tail _ (.tail _ (.tail _ (.tail _ hq)))))) (all_c (by show @Ne Nat _ _; omega) (all_c (by show @Ne Nat _ _; omega) (all_c (by show @Ne Nat _ _; omega) off))) hc hk hx fun h' o' F' N' c' => h h' o' F' (all_c (N' _ (.tail _ (.head _))) (all_c (N' _ (.tail _ (.tail _ (.head _)))) (all_c (N' _ (.head _)) (all_c (N' _ (.tail _ (.tail _ (.tail _ (.head _))))) fun q hq => N' q (.tail _ (.tail _ (.tail _ (.tail _ hq)))))))) c'
theorem led5 (F : Fr g L s.heap m) (N : News g L s.heap (led L o3 o4 o5 o6 r)) (hd : o5.data = .cell v₀) (off : ∀ p ∈ r, p.1 ≠ L + 1 + 1 + 1 + 1 + 1) (hc : (cellsFrom (L + 1) cs.names []).lookup x = some (L + 1 + 1 + 1 + 1 + 1)) (hk : cs.kind = .function) (hx : (envOfC cn cs L a ccd).kindOf x = some .cell)
    (h : ∀ h' o', Fr g L h' m → News g L h' (led L o3 o4 o' o6 r) → cel o' v → Q () { s with heap := h' }) : wpAny M A (storeName (envOfC cn cs L a ccd) x v) Q E s := by
  refine stC F N (c := L + 1 + 1 + 1 + 1 + 1) (.tail _ (.head _)) hd ((L + 1 + 1 + 1 + 1 + 1 + 1, o6) :: (L + 1 + 1 + 1 + 1, o4) :: (L + 1 + 1 + 1, o3) :: r) (all_c (.head _) (all_c (.tail _ (.tail _ (.head _))) (all_c (.tail _ (.tail _ (.tail _ (.head _)))) fun q hq => .tail _ (.tail _ (.tail _ (.tail _ hq)))))) (all_c (by show @Ne Nat _ _; omega) (all_c (by show @Ne Nat _ _; omega) (all_c (by show @Ne Nat _ _; omega) off))) hc hk hx fun h' o' F' N' c' => h h' o' F' (all_c (N' _ (.tail _ (.head _))) (all_c (N' _ (.head _)) (all_c (N' _ (.tail _ (.tail _ (.head _)))) (all_c (N' _ (.tail _ (.tail _ (.tail _ (.head _))))) fun q hq => N' q (.tail _ (.tail _ (.tail _ (.tail _ hq)))))))) c'
theorem led6 (F : Fr g L s.heap m) (N : News g L s.heap (led L o3 o4 o5 o6 r)) (hd : o6.data = .cell v₀) (off : ∀ p ∈ r, p.1 ≠ L + 1 + 1 + 1 + 1 + 1 + 1) (hc : (cellsFrom (L + 1) cs.names []).lookup x = some (L + 1 + 1 + 1 + 1 + 1 + 1)) (hk : cs.kind = .function) (hx : (envOfC cn cs L a ccd).kindOf x = some .cell)
    (h : ∀ h' o', Fr g L h' m → News g L h' (led L o3 o4 o5 o' r) → cel o' v → Q () { s with heap := h' }) : wpAny M A (storeName (envOfC cn cs L a ccd) x v) Q E s := by
  refine stC F N (c := L + 1 + 1 + 1 + 1 + 1 + 1) (.head _) hd ((L + 1 + 1 + 1 + 1 + 1, o5) :: (L + 1 + 1 + 1 + 1, o4) :: (L + 1 + 1 + 1, o3) :: r) (all_c (.tail _ (.head _)) (all_c (.tail _ (.tail _ (.head _))) (all_c (.tail _ (.tail _ (.tail _ (.head _)))) fun q hq => .tail _ (.tail _ (.tail _ (.tail _ hq)))))) (all_c (by show @Ne Nat _ _; omega) (all_c (by show @Ne Nat _ _; omega) (all_c (by show @Ne Nat _ _; omega) off))) hc hk hx fun h' o' F' N' c' => h h' o' F' (all_c (N' _ (.head _)) (all_c (N' _ (.tail _ (.head _))) (all_c (N' _ (.tail _ (.tail _ (.head _)))) (all_c (N' _ (.tail _ (.tail _ (.tail _ (.head _))))) fun q hq => N' q (.tail _ (.tail _ (.tail _ (.tail _ hq)))))))) c'
end
section
variable {w : World} {mean : ExcName → Option Value} {mg mb : Str → Option Value} {A : Around} {s : Shared} {Q E : Value → Shared → Prop} {h₀ : Heap} {L : Addr} {m : Str → Option Value} {news : List (Addr × Obj)} {d : Int} {qd : Tok} (F : Fr h₀ L s.heap m) (N : News h₀ L s.heap news) (X : (Hd.K w.params).In h₀) (T : Top Hd.view LS mean mg mb h₀) (e1 : A.handled = none)
include F N X T e1
theorem useH (e2 : A.depth ≤ 900) (e3 : A.units ≤ 900)
    (k : ∀ x dx es n td od ln h' tk, Fr h₀ L h' m → HostNew w s.heap h' x dx es n td od ln → News h₀ L h' ([(dx, dictOf es n), (td, od), (ln, W.listOf #[] 0), (x, instObj 629 dx)] ++ news) → (∀ p ∈ [(dx, dictOf es n), (td, od), (ln, W.listOf #[] 0), (x, instObj 629 dx)], ∀ q ∈ news, p.1 ≠ q.1) → Q (.ref x) { s with heap := h', toks := tk }) :
    wpAny (model mprog w) A (call (.ref 629) []) Q E s := by
  refine useM host_c F N X T e1 e2 e3 True.intro ?_
  rintro _ h1 tk F ⟨x, dx, es, n, td, od, ln, rfl, HW⟩ NW
  exact k _ _ _ _ _ _ _ _ _ F HW (NW _ HW.lits).1 (NW _ HW.lits).2
theorem useNm (e2 : A.depth ≤ 880) (e3 : A.units ≤ 890)
    (k : ∀ na its ns h' tk, Fr h₀ L h' m → News h₀ L h' news → s.heap.get? na = none → h'.get? na = some (tupOf its) → StrsAre its.toList ns → (∀ n ∈ ns, n ∈ words21) → 1 ≤ ns.length → ns.length ≤ 4 → Q (.ref na) { s with heap := h', toks := tk }) :
    wpAny (model mprog w) A (call (.ref 659) [.int d qd]) Q E s := by
  refine useP (law_names_c _ _) F N X T e1 e2 e3 True.intro ?_
  rintro _ h2 tk F N _ ⟨na, its, ns, rfl, nf, ng, hs, hw, k1, k2⟩
  exact k _ _ _ _ _ F N nf ng hs hw k1 k2
theorem useCl (e2 : A.depth ≤ 880) (e3 : A.units ≤ 880)
    (k : ∀ fl lc wa ca x0 x1 x2 kk c h' tk, Fr h₀ L h' m → KsAt w lc fl wa ca x0 x1 x2 kk c → News h₀ L h' (lc ++ news) → (∀ p ∈ lc, ∀ q ∈ news, p.1 ≠ q.1) → Q (.ref fl) { s with heap := h', toks := tk }) :
    wpAny (model mprog w) A (call (.ref 785) [.int d qd]) Q E s := by
  refine useM (law_classes_c _ _) F N X T e1 e2 e3 True.intro ?_
  rintro _ h4 tk F ⟨fl, lc, rfl, LC, wa, ca, x0, x1, x2, kk, c, KS⟩ NW
  exact k _ _ _ _ _ _ _ _ _ _ _ F KS (NW _ LC).1 (NW _ LC).2
end
set_option genInjectivity false in
set_option genSizeOf false in
structure LD where
  (dl : Addr) (ds : List Value) (zs : List Int) (td ln dxh : Addr) (es : List DictEntry) (n : Nat) (xh na : Addr) (its : Array Value) (ns : List Str) (lc : List (Addr × Obj)) (fl wa ca x0 x1 x2 : Addr) (kk : Nat) (c : CW)
noncomputable def LD.oth (D : LD) : List (Addr × Obj) := (D.dl, lst D.ds) :: (D.dxh, dictOf D.es D.n) :: (D.xh, instObj 629 D.dxh) :: (D.na, tupOf D.its) :: D.lc
structure LOk (w : World) (L : Addr) (D : LD) : Prop where
  fCt : D.td ≠ L + 1 + 1 + 1 ∧ D.td ≠ L + 1 + 1 + 1 + 1 ∧ D.td ≠ L + 1 + 1 + 1 + 1 + 1 ∧ D.td ≠ L + 1 + 1 + 1 + 1 + 1 + 1
  fC : ∀ p ∈ (D.ln, W.listOf #[] 0) :: D.oth, p.1 ≠ L + 1 + 1 + 1 ∧ p.1 ≠ L + 1 + 1 + 1 + 1 ∧ p.1 ≠ L + 1 + 1 + 1 + 1 + 1 ∧ p.1 ≠ L + 1 + 1 + 1 + 1 + 1 + 1
  fT : ∀ p ∈ (D.ln, W.listOf #[] 0) :: D.oth, p.1 ≠ D.td
  fN : ∀ p ∈ D.oth, p.1 ≠ D.ln
  low : (D.td == sysModules) = false
  kn : ∃ t, Kn D.es 30 [("tools", some (.ref D.td)), ("notes", some (.ref D.ln)), ("silent", some (.int 0 t)), ("tool", none), ("warn", none)]
  nm : StrsAre D.its.toList D.ns
  nw : ∀ n ∈ D.ns, n ∈ words21
  n1 : 1 ≤ D.ns.length
  n4 : D.ns.length ≤ 4
  ks : KsAt w D.lc D.fl D.wa D.ca D.x0 D.x1 D.x2 D.kk D.c
  di : IntsAre D.ds D.zs
  eight : D.zs.length = 8
theorem LOk.off {D : LD} (K : LOk w L D) {od : Obj} : ∀ p ∈ (D.td, od) :: (D.ln, W.listOf #[] 0) :: D.oth, p.1 ≠ L + 1 + 1 + 1 ∧ p.1 ≠ L + 1 + 1 + 1 + 1 ∧ p.1 ≠ L + 1 + 1 + 1 + 1 + 1 ∧ p.1 ≠ L + 1 + 1 + 1 + 1 + 1 + 1 := all_c K.fCt K.fC
theorem law_4 (hsc : scope = lawSc) (X' : (Hd.K w.params).In g) (T' : Top Hd.view LS mean mg mb g) {dl : Addr} {ds : List Value} {zs : List Int} {o3 o4 o5 o6 : Obj}
    (F : Fr g L s.heap m) (hm : m "draws" = some (.ref dl)) (N : News g L s.heap [(dl, lst ds), (L + 1 + 1 + 1 + 1 + 1 + 1, o6), (L + 1 + 1 + 1 + 1 + 1, o5), (L + 1 + 1 + 1 + 1, o4), (L + 1 + 1 + 1, o3)]) (c3 : o3.data = .cell none) (c4 : o4.data = .cell none) (c5 : o5.data = .cell none) (c6 : o6.data = .cell none)
    (hi : IntsAre ds zs) (hz : zs.length = 8)
    (hZ : ∀ h' tk m' D od o3 o4, Fr g L h' m' → News g L h' (led L o3 o4 o5 o6 ((D.td, od) :: (D.ln, W.listOf #[] 0) :: D.oth)) → cel o3 (.ref D.xh) → cel o4 (.ref D.na) → LOk w L D → od.IsDictOf (knd w) [] → m' "draws" = some (.ref D.dl) → m' "klasses" = some (.ref D.fl) → Z .next { s with heap := h', toks := tk }) :
    wpAny (model mprog w) (lA scope L fa cd) (exec (Hd.nth lawB 3) (lenv scope L fa cd)) Z (fun _ _ => False) s := by
  conv at hsc => rhs; whnf
  subst hsc
  refine st_is (by conv => lhs; whnf) ?_
  have hl1 := hi.length
  k_extra "go"
  refine useH F N X' T' rfl (Nat.le_of_ble_eq_true rfl) (Nat.le_of_ble_eq_true rfl) fun xh dxh es n td od ln h1 tk1 F1 HW N1 dis1 => ?_
  clear F N
  k_extra "go"
  refine useNm F1 N1 X' T' rfl (Nat.le_of_ble_eq_true rfl) (Nat.le_of_ble_eq_true rfl) fun na its ns h2 tk2 F2 N2 nf ng hs hw k1 k2 => ?_
  have N3 := led_add F1 N2 nf ng
  have nd : ∀ q ∈ [(dxh, dictOf es n), (td, od), (ln, W.listOf #[] 0), (xh, instObj 629 dxh)] ++ [(dl, lst ds), (L + 1 + 1 + 1 + 1 + 1 + 1, o6), (L + 1 + 1 + 1 + 1 + 1, o5), (L + 1 + 1 + 1 + 1, o4), (L + 1 + 1 + 1, o3)], q.1 ≠ na := fun q hq e => by
    have := (N1 q hq).1
    rw [e, nf] at this
    cases this
  clear N1 N2 F1 nf ng
  k_extra "go"
  refine useCl F2 N3 X' T' rfl (Nat.le_of_ble_eq_true rfl) (Nat.le_of_ble_eq_true rfl) fun fl lc wa ca x0 x1 x2 kk c h4 tk4 F4 KS N4 dis4 => ?_
  clear F2 N3
  iterate 40 (first | (with_reducible show wpAny _ _ (storeName _ _ _) _ _ _) | ((try dsimp only); walk1))
  rename News _ _ _ _ => N5
  rename Fr _ _ _ _ => F5
  rename Heap => h5
  obtain ⟨D, eD⟩ : ∃ D : LD, D = ⟨dl, ds, zs, td, ln, dxh, es, n, xh, na, its, ns, lc, fl, wa, ca, x0, x1, x2, kk, c⟩ := ⟨_, rfl⟩
  have G : ∀ q, q ∈ _ :: _ → _ := fun q hq => N5 q (.tail _ (List.mem_append_right lc hq))
  have N6 : News g L h5 (led L o3 o4 o5 o6 ((D.td, od) :: (D.ln, W.listOf #[] 0) :: D.oth)) := by
    rw [eD]
    exact all_c (G _ (.tail _ (.tail _ (.tail _ (.tail _ (.tail _ (.tail _ (.head _)))))))) (all_c (G _ (.tail _ (.tail _ (.tail _ (.tail _ (.tail _ (.tail _ (.tail _ (.head _))))))))) (all_c (G _ (.tail _ (.tail _ (.tail _ (.tail _ (.tail _ (.tail _ (.tail _ (.tail _ (.head _)))))))))) (all_c (G _ (.tail _ (.tail _ (.tail _ (.tail _ (.tail _ (.tail _ (.tail _ (.tail _ (.tail _ (.head _))))))))))) (all_c (G _ (.tail _ (.tail _ (.head _)))) (all_c (G _ (.tail _ (.tail _ (.tail _ (.head _))))) (all_c (G _ (.tail _ (.tail _ (.tail _ (.tail _ (.tail _ (.head _))))))) (all_c (G _ (.tail _ (.head _))) (all_c (G _ (.tail _ (.tail _ (.tail _ (.tail _ (.head _)))))) (all_c (G _ (.head _)) fun q hq => N5 q (.tail _ (List.mem_append_left _ hq)))))))))))
  have cne : ∀ {b : Addr} {o : Obj} {v : Option Value}, o.data = .cell v → h5.get? b = some o → dl ≠ b := fun {b o v} hd hb => ne_of_get (G _ (.tail _ (.tail _ (.tail _ (.tail _ (.tail _ (.head _))))))).1 hb fun e => by rw [← e] at hd; cases hd
  have hx0 : ∀ q, q ∈ [(dxh, dictOf es n), (td, od), (ln, W.listOf #[] 0), (xh, instObj 629 dxh)] → q.1 ≠ L + 1 + 1 + 1 ∧ q.1 ≠ L + 1 + 1 + 1 + 1 ∧ q.1 ≠ L + 1 + 1 + 1 + 1 + 1 ∧ q.1 ≠ L + 1 + 1 + 1 + 1 + 1 + 1 := fun q ho =>
    ⟨dis1 _ ho (_, o3) (.tail _ (.tail _ (.tail _ (.tail _ (.head _))))), dis1 _ ho (_, o4) (.tail _ (.tail _ (.tail _ (.head _)))), dis1 _ ho (_, o5) (.tail _ (.tail _ (.head _))), dis1 _ ho (_, o6) (.tail _ (.head _))⟩
  have four : ∀ {a : Addr}, (∀ q ∈ [((L + 1 + 1 + 1 + 1 + 1 + 1, o6) : Addr × Obj), (L + 1 + 1 + 1 + 1 + 1, o5), (L + 1 + 1 + 1 + 1, o4), (L + 1 + 1 + 1, o3)], a ≠ q.1) → a ≠ L + 1 + 1 + 1 ∧ a ≠ L + 1 + 1 + 1 + 1 ∧ a ≠ L + 1 + 1 + 1 + 1 + 1 ∧ a ≠ L + 1 + 1 + 1 + 1 + 1 + 1 := fun h => ⟨h _ (.tail _ (.tail _ (.tail _ (.head _)))), h _ (.tail _ (.tail _ (.head _))), h _ (.tail _ (.head _)), h _ (.head _)⟩
  have OK : LOk w L D := by
    rw [eD]
    exact ⟨hx0 _ (.tail _ (.head _)), all_c (hx0 _ (.tail _ (.tail _ (.head _)))) (all_c ⟨cne c3 (G _ (.tail _ (.tail _ (.tail _ (.tail _ (.tail _ (.tail _ (.tail _ (.tail _ (.tail _ (.head _))))))))))).1, cne c4 (G _ (.tail _ (.tail _ (.tail _ (.tail _ (.tail _ (.tail _ (.tail _ (.tail _ (.head _)))))))))).1, cne c5 (G _ (.tail _ (.tail _ (.tail _ (.tail _ (.tail _ (.tail _ (.tail _ (.head _))))))))).1, cne c6 (G _ (.tail _ (.tail _ (.tail _ (.tail _ (.tail _ (.tail _ (.head _)))))))).1⟩ (all_c (hx0 _ (.head _)) (all_c (hx0 _ (.tail _ (.tail _ (.tail _ (.head _))))) (all_c (four fun q hq => (nd q (List.mem_append_right _ (.tail _ hq))).symm) fun q hq => four fun r hr => dis4 q hq r (.tail _ (List.mem_append_right _ (.tail _ hr))))))),
      all_c (ne_of_get (G _ (.tail _ (.tail _ (.tail _ (.head _))))).1 (G _ (.tail _ (.tail _ (.head _)))).1 fun (e : W.listOf #[] 0 = od) => by have := HW.dict; rw [← e] at this; simp [Obj.IsDictOf] at this) (all_c (dis1 _ (.tail _ (.head _)) _ (.head _)).symm (all_c HW.ne.symm (all_c (ne_of_get (G _ (.tail _ (.tail _ (.tail _ (.tail _ (.head _)))))).1 (G _ (.tail _ (.tail _ (.head _)))).1 fun (e : instObj 629 dxh = od) => by have := HW.dict; rw [← e] at this; simp [Obj.IsDictOf] at this) (all_c (nd _ (List.mem_append_left _ (.tail _ (.head _)))).symm fun q hq => dis4 q hq _ (.tail _ (.tail _ (.head _))))))),
      all_c (dis1 _ (.tail _ (.tail _ (.head _))) _ (.head _)).symm (all_c (ne_of_get (G _ (.tail _ (.head _))).1 (G _ (.tail _ (.tail _ (.tail _ (.head _))))).1 fun e => by have := congrArg Obj.data e; cases this) (all_c (ne_of_get (G _ (.tail _ (.tail _ (.tail _ (.tail _ (.head _)))))).1 (G _ (.tail _ (.tail _ (.tail _ (.head _))))).1 fun e => by have := congrArg Obj.data e; cases this) (all_c (nd _ (List.mem_append_left _ (.tail _ (.tail _ (.head _))))).symm fun q hq => dis4 q hq _ (.tail _ (.tail _ (.tail _ (.head _))))))),
      HW.low, HW.kn, hs, hw, k1, k2, KS, hi, hz⟩
  have eh : D.xh = xh ∧ D.na = na ∧ D.fl = fl ∧ D.dl = dl := by rw [eD]; exact ⟨rfl, rfl, rfl, rfl⟩
  have hdd := HW.dict
  clear G N5 four hx0 cne nd dis1 dis4 HW KS hs hw k1 k2 eD hi hz
  obtain ⟨e1, e2, e3, e4⟩ := eh
  refine led3 F5 N6 c3 (fun p hp => (OK.off p hp).1) rfl rfl rfl fun h6 o3' F6 N7 c3' => ?_
  iterate 40 (first | (with_reducible show wpAny _ _ (storeName _ _ _) _ _ _) | ((try dsimp only); walk1))
  refine led4 F6 N7 c4 (fun p hp => (OK.off p hp).2.1) rfl rfl rfl fun h7 o4' F7 N8 c4' => ?_
  clear F5 N6 F6 N7
  k_extra "go"
  refine hZ _ _ _ D od o3' o4' (by assumption) (by assumption) (e1 ▸ c3') (e2 ▸ c4') OK hdd (by rw [e4]; k_extra "look") (by rw [e3]; k_extra "look")
end
open W PyProof.Rows.LCg
section
variable {w : World} {mean : ExcName → Option Value} {mg mb : Str → Option Value} {s : Shared} {g : Heap} {L fa : Addr} {cd : Value} {m : Str → Option Value} {scope : Scope} {Z : Flow → Shared → Prop} {D : LD} {od o3 o4 o5 o6 : Obj} {kvs : List (Str × Value)}
theorem led_td {h : Heap} (N : News g L h (led L o3 o4 o5 o6 ((D.td, od) :: (D.ln, W.listOf #[] 0) :: D.oth))) : News g L h ((D.td, od) :: led L o3 o4 o5 o6 ((D.ln, W.listOf #[] 0) :: D.oth)) := fun p hp => N p (by
  simp only [led, List.mem_cons] at hp ⊢
  rcases hp with h | h | h | h | h | h | h <;> simp only [h, true_or, or_true])
theorem td_led {h : Heap} (N : News g L h ((D.td, od) :: led L o3 o4 o5 o6 ((D.ln, W.listOf #[] 0) :: D.oth))) : News g L h (led L o3 o4 o5 o6 ((D.td, od) :: (D.ln, W.listOf #[] 0) :: D.oth)) := fun p hp => N p (by
  simp only [led, List.mem_cons] at hp ⊢
  rcases hp with h | h | h | h | h | h | h <;> simp only [h, true_or, or_true])
theorem LOk.offT (K : LOk w L D) : ∀ p ∈ led L o3 o4 o5 o6 ((D.ln, W.listOf #[] 0) :: D.oth), p.1 ≠ D.td := fun p hp => by
  obtain ⟨a, b, c, d⟩ := K.fCt
  rcases List.mem_cons.mp hp with rfl | hp; exact d.symm
  rcases List.mem_cons.mp hp with rfl | hp; exact c.symm
  rcases List.mem_cons.mp hp with rfl | hp; exact b.symm
  rcases List.mem_cons.mp hp with rfl | hp; exact a.symm
  exact K.fT p hp
theorem LOk.tools {Q : Value → Shared → Prop} {A : Around} {E : Value → Shared → Prop} {expr : Bool} (K : LOk w L D) (F : Fr g L s.heap m) (X : (Hd.K w.params).In g) (N : News g L s.heap (led L o3 o4 o5 o6 ((D.td, od) :: (D.ln, W.listOf #[] 0) :: D.oth))) (h : Q (.ref D.td) { s with toks := s.toks + 1 }) : wpAny (model mprog w) A (getAttr (.ref D.xh) "tools" expr) Q E s := by
  obtain ⟨t, kn⟩ := K.kn
  exact get_kn F X (atr_Host_tools _) N (.tail _ (.tail _ (.tail _ (.tail _ (.tail _ (.tail _ (.tail _ (.tail _ (.head _))))))))) (.tail _ (.tail _ (.tail _ (.tail _ (.tail _ (.tail _ (.tail _ (.head _)))))))) kn (.head _) rfl h
theorem law_5 (hsc : scope = lawSc) (X' : (Hd.K w.params).In g) (T' : Top Hd.view LS mean mg mb g) (K : LOk w L D) (F : Fr g L s.heap m) (N : News g L s.heap (led L o3 o4 o5 o6 ((D.td, od) :: (D.ln, W.listOf #[] 0) :: D.oth))) (c3 : cel o3 (.ref D.xh)) (hd : od.IsDictOf (knd w) kvs) (hk : kvs.length ≤ 10)
    (hZ : ∀ h' tk od', Fr g L h' m → News g L h' (led L o3 o4 o5 o6 ((D.td, od') :: (D.ln, W.listOf #[] 0) :: D.oth)) → od'.IsDictOf (knd w) (stored kvs (Str.ofString "text") (.ref 683)) → Z .next { s with heap := h', toks := tk }) :
    wpAny (model mprog w) (lA scope L fa cd) (exec (Hd.nth lawB 4) (lenv scope L fa cd)) Z (fun _ _ => False) s := by
  conv at hsc => rhs; whnf
  subst hsc
  refine st_is (by conv => lhs; whnf) ?_
  k_extra "go"
  refine K.tools F X' N ?_
  k_extra "go"
  refine kda_set (knd := knd w) (by assumption) (led_td N) (.head K.offT) hd (strKind_is _ _ _ _) (by rw [sizeLine_eq]; omega) fun h10 od3 F10 N10 hd3 => ?_
  k_extra "go"
  exact hZ _ _ _ F10 (td_led N10) hd3
theorem LOk.draw {A : Around} {E Q : Value → Shared → Prop} {value slice : Expr} {j : Int} {u : Tok} {nw : List (Addr × Obj)} (K : LOk w L D) (N : News g L s.heap nw) (hm : (D.dl, lst D.ds) ∈ nw) (h0 : 0 ≤ j) (h1 : j < 8) (h : ∀ n t, Q (.int n t) s)
    (hs : subscripted slice false (.ref D.dl) (.int j u) = operate [.ref D.dl, .int j u] (getItem (.ref D.dl) (.int j u)) := by with_unfolding_all rfl) : wpAny (model mprog w) A (subscriptTail value slice (.ref D.dl) (.int j u)) Q E s :=
  int_pick (vs := D.ds.toArray) (k := D.ds.length) N hm (by simpa using K.di) h0 (by rw [K.eight]; exact h1) (by omega) (fun n t _ => h n t) hs
theorem law_6 (hsc : scope = lawSc) (X' : (Hd.K w.params).In g) (T' : Top Hd.view LS mean mg mb g) (K : LOk w L D) (F : Fr g L s.heap m) (N : News g L s.heap (led L o3 o4 o5 o6 ((D.td, od) :: (D.ln, W.listOf #[] 0) :: D.oth))) (c3 : cel o3 (.ref D.xh)) (hd : od.IsDictOf (knd w) (stored [] (Str.ofString "text") (.ref 683)))
    (hm : m "draws" = some (.ref D.dl))
    (hZ : ∀ h' tk od' kvs' (hasC : Bool), Fr g L h' m → News g L h' (led L o3 o4 o5 o6 ((D.td, od') :: (D.ln, W.listOf #[] 0) :: D.oth)) → od'.IsDictOf (knd w) kvs' → valueAt kvs' (Str.ofString "text") = some (.ref 683) → valueAt kvs' (Str.ofString "callable") = (if hasC then some (.ref 690) else none) → Z .next { s with heap := h', toks := tk }) :
    wpAny (model mprog w) (lA scope L fa cd) (exec (Hd.nth lawB 5) (lenv scope L fa cd)) Z (fun _ _ => False) s := by
  conv at hsc => rhs; whnf
  subst hsc
  refine st_is (by conv => lhs; whnf) ?_
  iterate 40 (first | (with_reducible show wpAny _ _ (subscriptTail _ _ _ _) _ _ _) | ((try dsimp only); walk1))
  refine K.draw N (.tail _ (.tail _ (.tail _ (.tail _ (.tail _ (.tail _ (.head _))))))) (by decide) (by decide) fun n t => ?_
  k_extra "go"
  · refine K.tools (by assumption) X' N ?_
    k_extra "go"
    refine kda_set (knd := knd w) (by assumption) (led_td N) (.head K.offT) hd (strKind_is _ _ _ _) (by rw [sizeLine_eq]; exact Nat.le_of_ble_eq_true (by kernel_rfl)) fun h10 od3 F10 N10 hd3 => ?_
    k_extra "go"
    exact hZ _ _ _ _ true F10 (td_led N10) hd3 (by kernel_rfl) (by kernel_rfl)
  · exact hZ _ _ _ _ false (by assumption) N hd (by kernel_rfl) (by kernel_rfl)
end
open W PyProof.Rows.LCg
section
variable {w : World} {mean : ExcName → Option Value} {mg mb : Str → Option Value} {s : Shared} {g : Heap} {L fa : Addr} {cd : Value} {m : Str → Option Value} {scope : Scope} {Z : Flow → Shared → Prop} {D : LD} {od o3 o4 o5 o6 : Obj} {kvs : List (Str × Value)}
theorem val_pick {A : Around} {E Q : Value → Shared → Prop} {value slice : Expr} {nw : List (Addr × Obj)} {l : Addr} {vs : Array Value} {k : Nat} {i : Int} {u : Tok} (N : News g L s.heap nw) (hm : (l, W.listOf vs k) ∈ nw) (h0 : 0 ≤ i) (h1 : i < vs.size) (h2 : i < 2 ^ 63) (h : ∀ v, v ∈ vs.toList → Q v s)
    (hs : subscripted slice false (.ref l) (.int i u) = operate [.ref l, .int i u] (getItem (.ref l) (.int i u)) := by with_unfolding_all rfl) : wpAny (model mprog w) A (subscriptTail value slice (.ref l) (.int i u)) Q E s := by
  have hl := News.isList N hm
  have e : vs[i.toNat]? = some (vs[i.toNat]'(by omega)) := Array.getElem?_eq_getElem _
  exact tail_any hl.typeIs slot_list_getitem.lookup (wpAny_getItem_list hl h0 h2 e (h _ (Array.getElem_mem_toList _))) hs
theorem law_7 (hsc : scope = lawSc) (X' : (Hd.K w.params).In g) (T' : Top Hd.view LS mean mg mb g) (K : LOk w L D) (F : Fr g L s.heap m) (N : News g L s.heap (led L o3 o4 o5 o6 ((D.td, od) :: (D.ln, W.listOf #[] 0) :: D.oth)))
    (hm : m "draws" = some (.ref D.dl)) (hf : m "klasses" = some (.ref D.fl)) (c5 : o5.data = .cell none) (c6 : o6.data = .cell none)
    (hZ : ∀ h' tk o5' o6' hv sv, Fr g L h' m → News g L h' (led L o3 o4 o5' o6' ((D.td, od) :: (D.ln, W.listOf #[] 0) :: D.oth)) → cel o5' hv → cel o6' sv → hv ∈ [Value.none, .ref D.x0, .ref D.x1, .ref D.x2] → sv ∈ [Value.none, .ref D.x0, .ref D.x1, .ref D.x2] → Z .next { s with heap := h', toks := tk }) :
    wpAny (model mprog w) (lA scope L fa cd) (exec (Hd.nth lawB 6) (lenv scope L fa cd)) Z (fun _ _ => False) s := by
  conv at hsc => rhs; whnf
  subst hsc
  refine st_is (by conv => lhs; whnf) ?_
  iterate 60 (first | (with_reducible show wpAny _ _ (subscriptTail _ _ _ _) _ _ _) | ((try dsimp only); walk1))
  rename Fr _ _ _ _ => F1
  rename News _ _ _ _ => N1
  have mfl : ∀ {p : Addr × Obj}, p ∈ D.lc → p ∈ led L o3 o4 o5 o6 ((D.td, od) :: (D.ln, W.listOf #[] 0) :: D.oth) := fun h => .tail _ (.tail _ (.tail _ (.tail _ (.tail _ (.tail _ (.tail _ (.tail _ (.tail _ (.tail _ h)))))))))
  refine' kms_slice_lit F1 N1 (News.isList N1 (.tail _ (mfl K.ks.list))) (IsPart.int _ _) IsPart.none (zs := [.ref D.x0, .ref D.x1, .ref D.x2]) rfl ?_ (by with_unfolding_all rfl) (by kmk_pure) (by rw [sizeLine_eq]; exact Nat.le_of_ble_eq_true rfl)
  intro D1 h2 F2 N2 l2
  clear F1 N1
  iterate 60 (first | (with_reducible show wpAny _ _ (subscriptTail _ _ _ _) _ _ _) | ((try dsimp only); walk1))
  have mdl : ((D.dl, lst D.ds) : Addr × Obj) ∈ led L o3 o4 o5 o6 ((D.td, od) :: (D.ln, W.listOf #[] 0) :: D.oth) := .tail _ (.tail _ (.tail _ (.tail _ (.tail _ (.tail _ (.head _))))))
  rename Fr _ _ _ _ => G1
  rename News _ _ _ _ => M1
  refine K.draw M1 (.tail _ (.tail _ (.tail _ mdl))) (by decide) (by decide) fun n1 t1 => ?_
  have f10 := Int.fmod_nonneg_of_pos n1 (b := 4) (by decide)
  have f11 := Int.fmod_lt_of_pos n1 (b := 4) (by decide)
  iterate 60 (first | (with_reducible show wpAny _ _ (subscriptTail _ _ _ _) _ _ _) | ((try dsimp only); walk1))
  refine val_pick M1 (.head _) f10 f11 (by omega) fun v1 hv1 => ?_
  replace M1 : News g L _ (led L o3 o4 o5 o6 ((D.td, od) :: (D.ln, W.listOf #[] 0) :: D.oth)) := fun q hq => M1 q (.tail _ (.tail _ (.tail _ hq)))
  iterate 60 (first | (with_reducible show wpAny _ _ (subscriptTail _ _ _ _) _ _ _) | ((try dsimp only); walk1))
  rename Fr _ _ _ _ => G3
  rename News _ _ _ _ => M3
  refine' kms_slice_lit G3 M3 (News.isList M3 (.tail _ (mfl K.ks.list))) (IsPart.int _ _) IsPart.none (zs := [.ref D.x0, .ref D.x1, .ref D.x2]) rfl ?_ (by with_unfolding_all rfl) (by kmk_pure) (by rw [sizeLine_eq]; exact Nat.le_of_ble_eq_true rfl)
  intro D3 h3 F3 N3 l3
  clear G3 M3
  iterate 60 (first | (with_reducible show wpAny _ _ (subscriptTail _ _ _ _) _ _ _) | ((try dsimp only); walk1))
  rename Fr _ _ _ _ => G2
  rename News _ _ _ _ => M2
  refine K.draw M2 (.tail _ (.tail _ (.tail _ mdl))) (by decide) (by decide) fun n2 t2 => ?_
  have f20 := Int.fmod_nonneg_of_pos n2 (b := 4) (by decide)
  have f21 := Int.fmod_lt_of_pos n2 (b := 4) (by decide)
  iterate 60 (first | (with_reducible show wpAny _ _ (subscriptTail _ _ _ _) _ _ _) | ((try dsimp only); walk1))
  refine val_pick M2 (.head _) f20 f21 (by omega) fun v2 hv2 => ?_
  replace M2 : News g L _ (led L o3 o4 o5 o6 ((D.td, od) :: (D.ln, W.listOf #[] 0) :: D.oth)) := fun q hq => M2 q (.tail _ (.tail _ (.tail _ hq)))
  iterate 60 (first | (with_reducible show wpAny _ _ (storeName _ _ _) _ _ _) | ((try dsimp only); walk1))
  rename Fr _ _ _ _ => F5
  rename News _ _ _ _ => N5
  refine led5 F5 (fun q hq => N5 q (.tail _ hq)) c5 (fun p hp => (K.off p hp).2.2.1) rfl rfl rfl fun h6 o5' F6 N7 c5' => ?_
  iterate 40 (first | (with_reducible show wpAny _ _ (storeName _ _ _) _ _ _) | ((try dsimp only); walk1))
  refine led6 F6 N7 c6 (fun p hp => (K.off p hp).2.2.2) rfl rfl rfl fun h7 o6' F7 N8 c6' => ?_
  clear F5 N5 F6 N7
  k_extra "go"
  exact hZ _ _ o5' o6' _ _ (by assumption) (by assumption) c5' c6' hv1 hv2
end
open W PyProof.Rows.LCg
section
variable {w : World} {mean : ExcName → Option Value} {mg mb : Str → Option Value} {s : Shared} {g : Heap} {L fa : Addr} {cd : Value} {m : Str → Option Value} {scope : Scope} {Z : Flow → Shared → Prop} {D : LD} {od o3 o4 o5 o6 : Obj} {kvs : List (Str × Value)}
noncomputable abbrev ledD (L : Addr) (D : LD) (od o3 o4 o5 o6 : Obj) : List (Addr × Obj) := led L o3 o4 o5 o6 ((D.td, od) :: (D.ln, W.listOf #[] 0) :: D.oth)
theorem mdl : ((D.dl, lst D.ds) : Addr × Obj) ∈ ledD L D od o3 o4 o5 o6 := .tail _ (.tail _ (.tail _ (.tail _ (.tail _ (.tail _ (.head _))))))
theorem zw59 : True := by
  k_with "goSub" => (case fT => (repeat' (first | (k_unfold; (try dsimp only)) | ((fail_if_success (with_reducible show wpAny _ _ (subscriptTail _ _ _ _) _ _ _)); k_extra "stops"; (try dsimp only); walk1))))
  exact True.intro
theorem law_8 (hsc : scope = lawSc) (X' : (Hd.K w.params).In g) (T' : Top Hd.view LS mean mg mb g) (K : LOk w L D) (F : Fr g L s.heap m) (N : News g L s.heap (ledD L D od o3 o4 o5 o6)) (hm : m "draws" = some (.ref D.dl))
    (hZ : ∀ h' tk n t, Fr g L h' (fun y => if y = Str.ofString "number" then some (.int n t) else m y) → News g L h' (ledD L D od o3 o4 o5 o6) → -9223372036854775808 ≤ n → n ≤ 9223372036854775807 → Z .next { s with heap := h', toks := tk }) :
    wpAny (model mprog w) (lA scope L fa cd) (exec (Hd.nth lawB 7) (lenv scope L fa cd)) Z (fun _ _ => False) s := by
  conv at hsc => rhs; whnf
  subst hsc
  refine st_is (by conv => lhs; whnf) ?_
  iterate 60 (first | (with_reducible show wpAny _ _ (subscriptTail _ _ _ _) _ _ _) | ((try dsimp only); walk1))
  refine K.draw N mdl (by decide) (by decide) fun n1 t1 => ?_
  k_extra "goSub"
  · refine K.draw N mdl (by decide) (by decide) fun n2 t2 => ?_
    k_extra "goSub"
    have f0 := Int.fmod_nonneg_of_pos (n2.fdiv 2) (b := 2 ^ Int.toNat 64) (by decide)
    have f1 := Int.lt_of_lt_of_le (Int.fmod_lt_of_pos (n2.fdiv 2) (b := 2 ^ Int.toNat 64) (by decide)) (by decide : (2 : Int) ^ Int.toNat 64 ≤ 18446744073709551616)
    have e63 : (2 : Int) ^ Int.toNat 63 = 9223372036854775808 := rfl
    exact hZ _ _ _ _ (by assumption) (by assumption) (by omega) (by omega)
  · refine K.draw N mdl (by decide) (by decide) fun n2 t2 => ?_
    k_extra "goSub"
    have f0 := Int.fmod_nonneg_of_pos (n2.fdiv 2) (b := 7) (by decide)
    have f1 := Int.fmod_lt_of_pos (n2.fdiv 2) (b := 7) (by decide)
    exact hZ _ _ _ _ (by assumption) (by assumption) (by omega) (by omega)
theorem law_9 (hsc : scope = lawSc) (X' : (Hd.K w.params).In g) (T' : Top Hd.view LS mean mg mb g) (K : LOk w L D) {n : Int} {tn : Tok} (F : Fr g L s.heap (fun y => if y = Str.ofString "number" then some (.int n tn) else m y)) (N : News g L s.heap (ledD L D od o3 o4 o5 o6)) (hm : m "draws" = some (.ref D.dl))
    (hZ : ∀ h' tk vl t1 q1 t2 q2 q3 dxa es' n' xa k, Fr g L h' (fun y => if y = Str.ofString "values" then some (.ref vl) else if y = Str.ofString "number" then some (.int n tn) else m y) → News g L h' ((vl, W.listOf #[.none, .bool true, .bool false, .int n tn, .str t1 q1, .str t2 q2, .str (Str.ofString "x") q3, .ref xa] k) :: (dxa, dictOf es' n') :: (xa, instObj 253 dxa) :: ledD L D od o3 o4 o5 o6) →
      t1.length ≤ 900 → t2.length ≤ 900 → (∀ q ∈ ledD L D od o3 o4 o5 o6, q.1 ≠ dxa ∧ q.1 ≠ xa ∧ q.1 ≠ vl) → Z .next { s with heap := h', toks := tk }) :
    wpAny (model mprog w) (lA scope L fa cd) (exec (Hd.nth lawB 8) (lenv scope L fa cd)) Z (fun _ _ => False) s := by
  conv at hsc => rhs; whnf
  subst hsc
  refine st_is (by conv => lhs; whnf) ?_
  k_extra "goSub"
  refine K.draw N mdl (by decide) (by decide) fun n1 u1 => ?_
  k_extra "goSub"
  refine useP (law_text_c _ _) (by assumption) (by assumption) X' T' rfl (Nat.le_of_ble_eq_true rfl) (Nat.le_of_ble_eq_true rfl) True.intro ?_
  rintro _ h1 tk1 F1 N1 st1 ⟨t1, q1, rfl, l1⟩
  k_extra "goSub"
  refine K.draw N1 mdl (by decide) (by decide) fun n2 u2 => ?_
  k_extra "goSub"
  refine useP (law_text_c _ _) (by assumption) (by assumption) X' T' rfl (Nat.le_of_ble_eq_true rfl) (Nat.le_of_ble_eq_true rfl) True.intro ?_
  rintro _ h2 tk2 F2 N2 st2 ⟨t2, q2, rfl, l2⟩
  clear F1 N1 st1 st2
  k_extra "goSub"
  refine useM arr_c F2 N2 X' T' rfl (Nat.le_of_ble_eq_true rfl) (Nat.le_of_ble_eq_true rfl) True.intro ?_
  rintro _ h3 tk3 F3 ⟨xa, dxa, es', n', rfl, LA⟩ NW
  obtain ⟨N3, dis3⟩ := NW _ LA
  clear NW F2 N2 LA
  k_extra "go"
  rename News _ _ _ _ => N4
  rename (∀ p : Addr × Obj, p ∈ _ → p.1 < _) => up
  exact hZ _ _ _ t1 q1 t2 q2 _ dxa es' n' xa _ (by assumption) N4 l1 l2 fun q hq => ⟨(dis3 _ (.head _) q hq).symm, (dis3 _ (.tail _ (.head _)) q hq).symm, Nat.ne_of_lt (up q (List.mem_append_right _ hq))⟩
end
open PyProof.Rows.LCg PyProof.Rows.LCp
section
variable {w : World} {A : Around} {E : Value → Shared → Prop} {s : Shared} {h₀ : Heap} {L : Addr} {m : Str → Option Value} {env : Env}
noncomputable def OffL (as : List Addr) (nw : List (Addr × Obj)) : Prop := ∀ p ∈ nw, p.1 ∉ as
inductive EndE (h₀ : Heap) (L : Addr) (m : Str → Option Value) (s₁ : Shared) (C : Addr) (oC : Obj) (D : Addr) (oD : Obj) (e it : Addr) (oe oi : Obj) (J : Value → List (Addr × Obj) → Prop) : Value → Shared → Prop where
  | mk {y : Value} {h' : Heap} {tk : Nat} {nw : List (Addr × Obj)} (F : Fr h₀ L h' m) (N : News h₀ L h' ((C, oC) :: (D, oD) :: (e, oe) :: (it, oi) :: nw)) (off : OffL [C, D, e, it] nw) (j : J y nw) : EndE h₀ L m s₁ C oC D oD e it oe oi J y { s₁ with heap := h', toks := tk }
structure CompE (w : World) (A : Around) (h₀ : Heap) (L : Addr) (m : Str → Option Value) (env : Env) (elt : Expr) (x x₂ : Str) (scope : Scope) (cl : List (Str × Addr)) (s₁ : Shared) (l e it : Addr) (vs : List Value) (lo : Obj) (J : Nat → List Value → List (Addr × Obj) → Prop) : Prop where
  src : ∀ i ys nw, J i ys nw → (l, lo) ∈ nw
  turn : ∀ i v t ys nw C oC D oe oi m₂ h tk (E' : Value → Shared → Prop), vs[i]? = some v → J i ys nw → NsObj oC m₂ → m₂ x = some (.int i t) → m₂ x₂ = some v → Fr h₀ L h m → News h₀ L h ((C, oC) :: (D, lst ys) :: (e, oe) :: (it, oi) :: nw) → OffL [C, D, e, it] nw →
    wpAny (model mprog w) A (eval elt (compEnvC scope cl C env)) (EndE h₀ L m s₁ C oC D (lst ys) e it oe oi fun y nw' => J (i + 1) (ys ++ [y]) nw') E' { s₁ with heap := h, toks := tk }
inductive LeSrc (w : World) (A : Around) (h₀ : Heap) (L : Addr) (env : Env) (elt : Expr) (x x₂ : Str) (scope : Scope) (cl : List (Str × Addr)) (Q : Value → Shared → Prop) (xv : Value) (s₁ : Shared) : Prop where
  | mk (e it l : Addr) (vs : List Value) (lo : Obj) (n : Nat) (m : Str → Option Value) (news : List (Addr × Obj)) (J : Nat → List Value → List (Addr × Obj) → Prop) (h0 : xv = .ref e) (hE : IsEnum s₁.heap e it 0 .none) (hI : s₁.heap.IsListIter it l 0) (lc : lo.cls = .type "list") (ld : lo.data = .seq vs.toArray n) (hsz : vs.length ≤ sizeLine)
    (hei : e ≠ it) (heL : e ≠ L) (hiL : it ≠ L) (he0 : h₀.get? e = none) (hi0 : h₀.get? it = none) (offn : OffL [e, it] news) (F : Fr h₀ L s₁.heap m) (N : News h₀ L s₁.heap news) (j0 : J 0 [] news) (c : CompE w A h₀ L m env elt x x₂ scope cl s₁ l e it vs lo J)
    (fin : ∀ D h tk ys nw, J vs.length ys nw → Fr h₀ L h m → News h₀ L h ((D, lst ys) :: nw) → OffL [D] nw → Q (.ref D) { s₁ with heap := h, toks := tk })
inductive InvE (h₀ : Heap) (L : Addr) (m : Str → Option Value) (C D e it l : Addr) (vs : List Value) (J : Nat → List Value → List (Addr × Obj) → Prop) (s : Shared) : Nat → Shared → Prop where
  | mk {h' : Heap} {tk i : Nat} {ys : List Value} {m' : Str → Option Value} {nw : List (Addr × Obj)} (hi : i ≤ vs.length) (hyl : ys.length = i) (hst : (∃ o, IsEnum h' e it (i : Int) o) ∧ h'.IsListIter it l i ∧ h'.IsList l vs.toArray) (F : Fr h₀ L h' m) (hn : h'.Ns C m') (N : News h₀ L h' ((D, lst ys) :: nw)) (off : OffL [C, D, e, it] nw) (j : J i ys nw) :
    InvE h₀ L m C D e it l vs J s (vs.length + 1 - i) { s with heap := h', toks := tk }
theorem lce_eval {elt iter : Expr} {x x₂ : Str} {px px₂ tp : Pos} {k : Nat} {scope : Scope} {cl : List (Str × Addr)} {pos : Pos} {Q : Value → Shared → Prop} {m₀ : Str → Option Value} (_ : Fr h₀ L s.heap m₀) (hh : A.handled = none)
    (hclos : closureFor scope env = pure cl) (hcell : ∀ y ∈ scope.names, y.2 ≠ .cell) (hkind : scope.kind = .function)
    (hnames : ∀ y ∈ scope.names, y.2 = .local → scope.names.lookup y.1 = some .local) (hx : scope.names.lookup x = some .local) (hx₂ : scope.names.lookup x₂ = some .local) (hxx : x ≠ x₂)
    (hs : ∀ x, foldedSetIterable iter env x = pure x)
    (h : wpAny (model mprog w) A (eval iter env) (LeSrc w A h₀ L env elt x x₂ scope cl Q) E s) :
    wpAny (model mprog w) A (eval (.ListComp elt [⟨.Tuple [.Name x px, .Name x₂ px₂] k tp, iter, [], 0⟩] scope pos) env) Q E s := by
  rw [eval_ListComp]
  refine wpAny_comprehension_free (use := none) rfl hs hclos hkind hnames (wpAny_mono h (fun xv s₁ h₁ => ?_) fun _ _ e => e)
  obtain ⟨e, it, l, vs, lo, nn, m, news, J, rfl, hE, hI, lc, ld, hsz, hei, heL, hiL, he0, hi0, offn, F, N, j0, c, fin⟩ := h₁
  have lof : ∀ {h' i ys nw}, J i ys nw → News h₀ L h' nw → h'.IsList l vs.toArray := fun j N' => ⟨lo, (N' _ (c.src _ _ _ j)).1, lc, nn, ld⟩
  have hle : l ≠ e ∧ l ≠ it := by
    have := offn _ (c.src _ _ _ j0)
    simpa using this
  have Wk := WalksT.enumerate (prog := mprog) (w := w) hh e it l hei hle.1 hle.2 vs.toArray
  refine wpAny_pyIter_enum hE ?_
  refine wpAny_newObj_type (wpAny_newFunctionEnv hcell (by intro y hy; simp at hy) (fun h₁ hns₁ hsb₁ => ?_) hkind)
  dsimp only at hns₁ hsb₁ ⊢
  generalize hH2 : s₁.heap.push { cls := .type "list", dict := none, data := .seq ([] : List Value).toArray } = H2 at hns₁ hsb₁ ⊢
  have hC : H2.objs.size = s₁.heap.objs.size + 1 := by rw [← hH2, Heap.size_push]
  have hDC : s₁.heap.objs.size ≠ H2.objs.size := by rw [hC]; exact Nat.ne_of_lt (Nat.lt_succ_self _)
  have below : ∀ b, b < s₁.heap.objs.size → b ≠ H2.objs.size ∧ b ≠ s₁.heap.objs.size := fun b hb => ⟨by rw [hC]; exact Nat.ne_of_lt (Nat.lt_succ_of_lt hb), Nat.ne_of_lt hb⟩
  have old : ∀ b o, s₁.heap.get? b = some o → h₁.get? b = some o := fun b o e => hsb₁.extBut b o (below b (Heap.lt_size e)).1 (Heap.get?_push_of_some _ (hH2 ▸ Heap.get?_push_of_some _ e))
  have hacc : h₁.get? s₁.heap.objs.size = some (lst []) := hsb₁.extBut _ _ hDC (Heap.get?_push_of_some _ (hH2 ▸ Heap.get?_push_size _ rfl))
  have fresh₀ : ∀ a, s₁.heap.objs.size ≤ a → h₀.get? a = none := fun a ha => by
    cases e : h₀.get? a with
    | none => rfl
    | some o' => exact absurd (Heap.lt_size (F.keep a o' e)) (Nat.not_lt.mpr ha)
  have hD₀ : h₀.get? s₁.heap.objs.size = none := fresh₀ _ (Nat.le_refl _)
  have hC₀ : h₀.get? H2.objs.size = none := fresh₀ _ (by rw [hC]; exact Nat.le_succ _)
  have hDL : s₁.heap.objs.size ≠ L := Ne.symm (below L F.ns.lt).2
  have hCL : H2.objs.size ≠ L := Ne.symm (below L F.ns.lt).1
  obtain ⟨oe0, hoe0, _⟩ : ∃ o, s₁.heap.get? e = some o ∧ True := ⟨_, hE, trivial⟩
  obtain ⟨oi0, hoi0, _⟩ : ∃ o, s₁.heap.get? it = some o ∧ True := by obtain ⟨o, q, _⟩ := hI; exact ⟨o, q, trivial⟩
  have hCe := (below e (Heap.lt_size hoe0)).1
  have hDe := (below e (Heap.lt_size hoe0)).2
  have hCi := (below it (Heap.lt_size hoi0)).1
  have hDi := (below it (Heap.lt_size hoi0)).2
  clear hoe0 hoi0
  have noW : ∀ {h h' : Heap} {nw : List (Addr × Obj)}, News h₀ L h nw → OffL [e, it] nw → (∀ b o, b ∉ [e, it] → h.get? b = some o → h'.get? b = some o) → News h₀ L h' nw := fun N O k p hp => ⟨k _ _ (O p hp) (N p hp).1, (N p hp).2⟩
  have frW : ∀ {h h' : Heap}, Fr h₀ L h m → (∀ b o, b ∉ [e, it] → h.get? b = some o → h'.get? b = some o) → Fr h₀ L h' m := fun F k =>
    ⟨F.ns.at' fun o q => k L o (by simp only [List.mem_cons, List.not_mem_nil, or_false]; rintro (r | r) <;> simp_all) q, fun b o q => k b o (by simp only [List.mem_cons, List.not_mem_nil, or_false]; rintro (rfl | rfl) <;> simp_all) (F.keep b o q), F.above⟩
  have off₀ : OffL [H2.objs.size, s₁.heap.objs.size, e, it] news := fun p hp => by
    have a := below _ (Heap.lt_size (N p hp).1)
    have b := offn p hp
    simp only [List.mem_cons, List.not_mem_nil, or_false, not_or] at b ⊢
    exact ⟨a.1, a.2, b⟩
  have sub2 : ∀ {a b : Addr} {nw : List (Addr × Obj)}, OffL [a, b, e, it] nw → OffL [e, it] nw := fun o p hp q => o p hp (.tail _ (.tail _ q))
  have hst₁ : (∃ o, IsEnum h₁ e it ((0 : Nat) : Int) o) ∧ h₁.IsListIter it l 0 ∧ h₁.IsList l vs.toArray := ⟨⟨_, old _ _ hE⟩, hI.at fun o q => old _ o q, lof j0 (N.grown old)⟩
  have loop : ∀ s₃ : Shared, s₃ = { s₁ with heap := h₁, toks := s₁.toks + ([] : List (Str × Value)).length } →
      codeAny (model mprog w) A (.compLoop (.ListComp elt [⟨.Tuple [.Name x px, .Name x₂ px₂] k tp, iter, [], 0⟩] scope pos) 0 (.ref e) (.ref s₁.heap.objs.size) (compEnvC scope cl H2.objs.size env)) (compPost (model mprog w) A E none Q (.ref s₁.heap.objs.size) H2.objs.size) s₃ := by
    rintro s₃ rfl
    refine codeAny_compLoop_pair
      (InvE h₀ L m H2.objs.size s₁.heap.objs.size e it l vs J s₁) ?_ (vs.length + 1)
      (.mk (i := 0) (ys := []) (Nat.zero_le _) rfl hst₁ (F.keeps old) hns₁ (fun p hp => ?_) off₀ j0)
    · intro kk s' H
      cases H with | @mk h' tk i ys m' nw hi hyl hst' F' hn' N' off' j' => ?_
      have nwO : News h₀ L h' nw := fun p hp => N' p (.tail _ hp)
      by_cases hlt : i < vs.length
      · refine Wk.item i _ _ _ (by simpa using hlt) hst' fun T vals h₂ tk₂ hP hT hTu hM hk₂ => ?_
        obtain ⟨tt, xv, hxv, rfl⟩ := hP
        have hTw := Wk.apart _ _ _ hM
        refine Wk.go _ _ _ i T _ _ _ hM fun h₃ hst₃ hk₃ => ?_
        have ht : IsTup h₃ T #[.int i tt, xv] := hTu.at fun o q => hk₃ _ o hTw q
        refine assign_Tuple_tuple hh ht rfl rfl fun h₅ he => ?_
        have up2 : ∀ b o, b ∉ [e, it] → h'.get? b = some o → h₅.get? b = some o := fun b o hb q => he b o (Nat.ne_of_lt (Heap.lt_size (hk₃ _ _ hb (hk₂ _ _ hb q)))) (hk₃ _ _ hb (hk₂ _ _ hb q))
        have hCn : H2.objs.size ∉ [e, it] := by simp only [List.mem_cons, List.not_mem_nil, or_false]; rintro (q | q); exact hCe q.symm; exact hCi q.symm
        have hDn : s₁.heap.objs.size ∉ [e, it] := by simp only [List.mem_cons, List.not_mem_nil, or_false]; rintro (q | q); exact hDe q.symm; exact hDi q.symm
        refine assignInOrder_cons (wpAny_assign_Name (wpAny_storeName_local (lookup_relabel_local hx) (hn'.at' fun o q => up2 _ o hCn q) (fun h₆ hn₆ hs₆ => ?_) (by simp [compEnvC, relabel, hkind])))
        refine assignInOrder_cons (wpAny_assign_Name (wpAny_storeName_local (lookup_relabel_local hx₂) hn₆ (fun h₇ hn₇ hs₇ => ?_) (by simp [compEnvC, relabel, hkind])))
        refine assignInOrder_nil ?_
        have up3 : ∀ b o, b ≠ H2.objs.size → h₃.get? b = some o → h₇.get? b = some o := fun b o hb q => hs₇.extBut b o hb (hs₆.extBut b o hb (he b o (Nat.ne_of_lt (Heap.lt_size q)) q))
        obtain ⟨⟨oe1, hE1⟩, hI1, hL1⟩ := hst₃
        obtain ⟨oe, hoe, heE⟩ : ∃ o, h₇.get? e = some o ∧ IsEnum h₇ e it ((i + 1 : Nat) : Int) oe1 := ⟨_, up3 _ _ hCe hE1, up3 _ _ hCe hE1⟩
        have hiI : h₇.IsListIter it l (i + 1) := hI1.at fun o q => up3 _ o hCi q
        obtain ⟨oi, hoi, _⟩ : ∃ o, h₇.get? it = some o ∧ True := by obtain ⟨o, q, _⟩ := hiI; exact ⟨o, q, trivial⟩
        obtain ⟨oC, heC, hoC⟩ := ns_obj hn₇
        have offC : ∀ p ∈ nw, p.1 ≠ H2.objs.size := fun p hp q => off' p hp (by rw [q]; exact .head _)
        have F₂ := frW F' up2
        have F₃ : Fr h₀ L h₇ m := (F₂.change hs₆ hCL hC₀).change hs₇ hCL hC₀
        have N₂ := noW nwO (sub2 off') up2
        have N₃ : News h₀ L h₇ nw := fun p hp => ⟨hs₇.extBut _ _ (offC p hp) (hs₆.extBut _ _ (offC p hp) (N₂ p hp).1), (N₂ p hp).2⟩
        have hD₇ : h₇.get? s₁.heap.objs.size = some (lst ys) := hs₇.extBut _ _ hDC (hs₆.extBut _ _ hDC (up2 _ _ hDn (N' _ (.head _)).1))
        refine wpAny_mono (c.turn i xv tt ys nw H2.objs.size oC s₁.heap.objs.size oe oi _ h₇ _ _ (by simpa using hxv) j' hoC (by simp [hxx]) (by simp) F₃ (fun p hp => ?_) off') (fun y s₄ h₄ => ?_) fun _ _ q => q
        · rcases List.mem_cons.mp hp with rfl | hp
          · exact ⟨heC, hCL, hC₀⟩
          rcases List.mem_cons.mp hp with rfl | hp
          · exact ⟨hD₇, hDL, hD₀⟩
          rcases List.mem_cons.mp hp with rfl | hp
          · exact ⟨hoe, heL, he0⟩
          rcases List.mem_cons.mp hp with rfl | hp
          · exact ⟨hoi, hiL, hi0⟩
          exact N₃ p hp
        cases h₄ with
        | mk F₄ N₄ off₄ j₄ =>
          rename_i h₄ tk₄ nw₄
          have zC := (N₄ _ (.head _)).1
          have zD := (N₄ _ (.tail _ (.head _))).1
          have ze := (N₄ _ (.tail _ (.tail _ (.head _)))).1
          have zi := (N₄ _ (.tail _ (.tail _ (.tail _ (.head _))))).1
          have nw₄' : News h₀ L h₄ nw₄ := fun p hp => N₄ p (.tail _ (.tail _ (.tail _ (.tail _ hp))))
          have st₄ : (∃ o, IsEnum h₄ e it ((i + 1 : Nat) : Int) o) ∧ h₄.IsListIter it l (i + 1) ∧ h₄.IsList l vs.toArray := by
            refine ⟨⟨oe1, ?_⟩, hiI.at fun o q => by rw [hoi] at q; cases q; exact zi, lof j₄ nw₄'⟩
            have q : h₇.get? e = some _ := heE
            rw [hoe] at q
            show h₄.get? e = some _
            rw [← q]
            exact ze
          refine append_at (hsz := by show ys.toArray.size ≤ sizeLine; rw [List.size_toArray, hyl]; exact Nat.le_trans hi hsz) zD fun h₅ hs₅ hD₅ => ?_
          refine ⟨_, turn_lt hlt, .mk hlt (by rw [List.length_append, List.length_singleton, hyl]) (Wk.frame _ _ _ st₄ fun b hb o q => hs₅.extBut b o (fun r => ?_) q) (F₄.change hs₅ hDL hD₀) ((hoC.ns zC).sameBut hs₅ (Ne.symm hDC)) (fun p hp => ?_) off₄ j₄⟩
          · simp only [List.mem_cons, List.not_mem_nil, or_false] at hb
            rcases hb with q | q | q
            · exact hDe (q.symm.trans r)
            · exact hDi (q.symm.trans r)
            · exact off₄ _ (c.src _ _ _ j₄) (by rw [show (l, lo).1 = s₁.heap.objs.size from q.symm.trans r]; exact .tail _ (.head _))
          · rcases List.mem_cons.mp hp with rfl | hp
            · exact ⟨hD₅.trans (congrArg some (lst_snoc ys y)), hDL, hD₀⟩
            · exact ⟨hs₅.extBut _ _ (fun r => off₄ p hp (by rw [r]; exact .tail _ (.head _))) (nw₄' p hp).1, (nw₄' p hp).2⟩
      · obtain rfl : i = vs.length := Nat.le_antisymm hi (Nat.not_lt.mp hlt)
        refine Wk.done _ _ _ (by simpa using hst') fun h₂ tk₂ hk₂ => ?_
        refine ⟨m', hn'.at' fun o q => hk₂ _ o (by simp only [List.mem_cons, List.not_mem_nil, or_false]; rintro (r | r); exact hCe r.symm; exact hCi r.symm) q, fun h'' hs'' => fin _ h'' tk₂ ys nw j' ((frW F' hk₂).change hs'' hCL hC₀) (fun p hp => ?_) fun p hp r => off' p hp (by rw [List.mem_singleton.mp r]; exact .tail _ (.head _))⟩
        rcases List.mem_cons.mp hp with rfl | hp
        · refine ⟨hs''.extBut _ _ hDC (hk₂ _ _ ?_ (N' _ (.head _)).1), hDL, hD₀⟩
          simp only [List.mem_cons, List.not_mem_nil, or_false]; rintro (r | r); exact hDe r.symm; exact hDi r.symm
        · exact ⟨hs''.extBut _ _ (fun r => off' p hp (by rw [r]; exact .head _)) (hk₂ _ _ (sub2 off' p hp) (nwO p hp).1), (nwO p hp).2⟩
    · rcases List.mem_cons.mp hp with rfl | hp
      · exact ⟨hacc, hDL, hD₀⟩
      · exact ⟨old _ _ (N p hp).1, (N p hp).2⟩
  exact codeAny_compStart_list (loop _ rfl) (Wk.self 0 _ _ _ hst₁ (loop _ rfl))
end
open W PyProof.Rows.LCg
section
variable {w : World} {mean : ExcName → Option Value} {mg mb : Str → Option Value} {s : Shared} {g : Heap} {L fa : Addr} {cd : Value} {m : Str → Option Value} {scope : Scope} {Z : Flow → Shared → Prop} {D : LD} {od o3 o4 o5 o6 : Obj} {kvs : List (Str × Value)}
noncomputable def ObjL (lo : List (Addr × Obj)) (c v : Value) : Prop := ∃ x dx es n, v = .ref x ∧ (dx, dictOf es n) ∈ lo ∧ (x, instObj 168 dx) ∈ lo ∧ getL "cls" es = some (some c)
inductive ObjsL (lo : List (Addr × Obj)) : List Value → List Value → Prop where
  | nil : ObjsL lo [] []
  | snoc {cs vs : List Value} {c v : Value} : ObjsL lo cs vs → ObjL lo c v → ObjsL lo (cs ++ [c]) (vs ++ [v])
theorem ObjsL.more {lo lo' : List (Addr × Obj)} {cs vs : List Value} (h : ObjsL lo cs vs) (s : ∀ q ∈ lo, q ∈ lo') : ObjsL lo' cs vs := by
  induction h with
  | nil => exact .nil
  | snoc _ o ih => obtain ⟨x, dx, es, n, e, a, b, c⟩ := o; exact .snoc ih ⟨x, dx, es, n, e, s _ a, s _ b, c⟩
theorem ObjsL.len {lo : List (Addr × Obj)} {cs vs : List Value} (h : ObjsL lo cs vs) : vs.length = cs.length := by
  induction h with
  | nil => rfl
  | snoc _ _ ih => simp [ih]
theorem law_10 (hsc : scope = lawSc) (X' : (Hd.K w.params).In g) (T' : Top Hd.view LS mean mg mb g) (K : LOk w L D) {vl dxa xa : Addr} {vs : List Value} {k n' : Nat} {es' : List DictEntry} (F : Fr g L s.heap m) (N : News g L s.heap ((vl, W.listOf vs.toArray k) :: (dxa, dictOf es' n') :: (xa, instObj 253 dxa) :: ledD L D od o3 o4 o5 o6)) (hvl : vs.length ≤ 100) (hm : m "values" = some (.ref vl)) (hf : m "klasses" = some (.ref D.fl))
    (hZ : ∀ h' tk vl' k' lo ys, Fr g L h' (fun y => if y = Str.ofString "values" then some (.ref vl') else m y) → News g L h' ((vl', W.listOf (vs ++ ys).toArray k') :: (lo ++ (dxa, dictOf es' n') :: (xa, instObj 253 dxa) :: ledD L D od o3 o4 o5 o6)) → ObjsL lo [.ref D.ca, .ref D.x0, .ref D.x1, .ref D.x2] ys →
      (∀ p ∈ lo, ∀ q ∈ (dxa, dictOf es' n') :: (xa, instObj 253 dxa) :: ledD L D od o3 o4 o5 o6, p.1 ≠ q.1) → (∀ q ∈ ledD L D od o3 o4 o5 o6, q.1 ≠ vl') → Z .next { s with heap := h', toks := tk }) :
    wpAny (model mprog w) (lA scope L fa cd) (exec (Hd.nth lawB 9) (lenv scope L fa cd)) Z (fun _ _ => False) s := by
  conv at hsc => rhs; whnf
  subst hsc
  refine st_is (by conv => lhs; whnf) ?_
  iterate 20 (first | (with_reducible show wpAny _ _ (eval (Expr.ListComp _ _ _ _) _) _ _ _) | ((try dsimp only); walk1))
  refine lce_eval F rfl (by first | exact rfl | with_unfolding_all rfl) (by decide) rfl (by decide) rfl rfl (by decide) (fun _ => rfl) ?_
  iterate 20 (first | (with_reducible show wpAny _ _ (call _ _) _ _ _) | ((try dsimp only); walk1))
  have mfl : ((D.fl, W.listOf #[.ref D.ca, .ref D.x0, .ref D.x1, .ref D.x2] D.kk) : Addr × Obj) ∈ ledD L D od o3 o4 o5 o6 := .tail _ (.tail _ (.tail _ (.tail _ (.tail _ (.tail _ (.tail _ (.tail _ (.tail _ (.tail _ K.ks.list)))))))))
  refine call_enumerate_list (News.isList N (.tail _ (.tail _ (.tail _ mfl)))) fun h1 hE hI hsz up => ?_
  generalize hB : ((vl, W.listOf vs.toArray k) : Addr × Obj) :: (dxa, dictOf es' n') :: (xa, instObj 253 dxa) :: ledD L D od o3 o4 o5 o6 = B at N
  have mB : ((D.fl, W.listOf #[.ref D.ca, .ref D.x0, .ref D.x1, .ref D.x2] D.kk) : Addr × Obj) ∈ B := hB ▸ .tail _ (.tail _ (.tail _ mfl))
  have hlt : ∀ p ∈ B, p.1 < s.heap.objs.size := fun p hp => Heap.lt_size (N p hp).1
  have n0 : ∀ a, s.heap.objs.size ≤ a → g.get? a = none := fun a ha => by
    cases q : g.get? a with
    | none => rfl
    | some o => exact absurd (Heap.lt_size (F.keep a o q)) (Nat.not_lt.mpr ha)
  refine ⟨s.heap.objs.size + 1, s.heap.objs.size, D.fl, [.ref D.ca, .ref D.x0, .ref D.x1, .ref D.x2], W.listOf #[.ref D.ca, .ref D.x0, .ref D.x1, .ref D.x2] D.kk, D.kk, m, B, fun i ys nw => ∃ lo, nw = lo ++ B ∧ ObjsL lo ([.ref D.ca, .ref D.x0, .ref D.x1, .ref D.x2].take i) ys ∧ ∀ p ∈ lo, ∀ q ∈ B, p.1 ≠ q.1, rfl, hE, hI, rfl, rfl, by rw [sizeLine_eq]; exact Nat.le_of_ble_eq_true rfl, Nat.succ_ne_self _, Nat.ne_of_gt (Nat.lt_succ_of_lt F.ns.lt), Nat.ne_of_gt F.ns.lt, n0 _ (Nat.le_succ _), n0 _ (Nat.le_refl _), ?_, F.keeps up, N.grown up, ⟨[], rfl, .nil, fun _ h => absurd h List.not_mem_nil⟩, ⟨?_, ?_⟩, ?_⟩
  · intro p hp hq
    have := hlt p hp
    simp only [List.mem_cons, List.not_mem_nil, or_false] at hq
    rcases hq with q | q
    · exact absurd (q ▸ this) (Nat.not_lt.mpr (Nat.le_succ _))
    · exact absurd (q ▸ this) (Nat.lt_irrefl _)
  · rintro i ys nw ⟨lo, rfl, -, -⟩
    exact List.mem_append_right _ mB
  · rintro i v t ys _ C oC DD oe oi m₂ h tk E' hv ⟨lo, rfl, OO, dis⟩ hO hx hx2 F3 N3 off
    clear F N
    k_extra "go"
    refine useM (obj_c v _) F3 N3 X' T' rfl (Nat.le_of_ble_eq_true rfl) (Nat.le_of_ble_eq_true rfl) True.intro ?_
    rintro _ h5 tk5 F5 ⟨x, dx, es, n, rfl, LO, gc⟩ NW
    obtain ⟨N5, dis5⟩ := NW _ LO
    refine .mk F5 (nw := [(dx, dictOf es n), (x, instObj 168 dx)] ++ (lo ++ B)) (fun p hp => N5 p ?_) (fun p hp => ?_) ⟨[(dx, dictOf es n), (x, instObj 168 dx)] ++ lo, (List.append_assoc _ _ _).symm, ?_, fun p hp q hq => ?_⟩
    · simp only [List.mem_cons, List.mem_append, List.not_mem_nil, or_false, or_assoc] at hp ⊢
      rcases hp with h | h | h | h | h | h | h | h <;> simp only [h, true_or, or_true]
    · rcases List.mem_append.mp hp with hp | hp
      · simp only [List.mem_cons, List.not_mem_nil, or_false, not_or]
        exact ⟨dis5 p hp _ (.head _), dis5 p hp _ (.tail _ (.head _)), dis5 p hp _ (.tail _ (.tail _ (.head _))), dis5 p hp _ (.tail _ (.tail _ (.tail _ (.head _))))⟩
      · exact off p hp
    · rw [List.take_add_one, hv]
      exact .snoc (OO.more fun q hq => List.mem_append_right _ hq) ⟨x, dx, es, n, rfl, .head _, .tail _ (.head _), gc⟩
    · rcases List.mem_append.mp hp with hp | hp
      · exact dis5 p hp q (.tail _ (.tail _ (.tail _ (.tail _ (List.mem_append_right _ hq)))))
      · exact dis p hp q hq
  · rintro DD h tk ys _ ⟨lo, rfl, OO, dis⟩ F3 N3 off
    clear F N
    have hyl := OO.len
    have mvl : ((vl, W.listOf vs.toArray k) : Addr × Obj) ∈ B := hB ▸ .head _
    simp only [List.take_length] at OO hyl
    k_extra "go"
    refine kmk_add_lit (its := vs.toArray) (its2 := ys.toArray) (zs := vs ++ ys) F3 N3 (News.isList N3 (n := k) (.tail _ (List.mem_append_right lo mvl))) (News.isList N3 (n := ys.length) (.head _)) (by simp) (fun D2 h4 F4 N4 l4 => ?_) (by rw [sizeLine_eq]; simp only [List.length_cons, List.length_nil] at hyl; simp only [List.toList_toArray]; omega)
    clear F3 N3
    k_extra "go"
    rename Fr _ _ _ _ => F5
    rename News _ _ _ _ => N5
    refine hZ _ _ D2 0 lo ys F5 (fun p hp => N5 p ?_) OO (fun p hp q hq => dis p hp q (hB ▸ .tail _ hq)) fun q hq => Nat.ne_of_lt (l4 q (.tail _ (List.mem_append_right _ (hB ▸ .tail _ (.tail _ (.tail _ hq))))))
    rcases List.mem_cons.mp hp with rfl | hp
    · exact .head _
    · refine .tail _ (.tail _ ?_)
      rcases List.mem_append.mp hp with hp | hp
      · exact List.mem_append_left _ hp
      · exact List.mem_append_right _ (hB ▸ .tail _ hp)
end
open W PyProof.Rows.LCg
section
variable {w : World} {mean : ExcName → Option Value} {mg mb : Str → Option Value} {s : Shared} {g : Heap} {L fa : Addr} {cd : Value} {m : Str → Option Value} {scope : Scope} {Z : Flow → Shared → Prop} {D : LD} {od o3 o4 o5 o6 : Obj} {kvs : List (Str × Value)}
theorem useT0 {d u : Nat} {f : Addr} {vs : List Value} {Pre : Heap → Prop} {Post : Heap → Value → Heap → Prop} {Q E : Value → Shared → Prop} {news : List (Addr × Obj)} (P : PureT w mean mg mb d u f vs Pre Post) (F : Fr g L s.heap m) (N : News g L s.heap news) (W0 : Wd w mean mg mb g)
    (hk : scope.kind = .function) (e2 : (lA scope L fa cd).depth ≤ d) (e3 : (lA scope L fa cd).units ≤ u) (hp : Pre (hideAll s.heap [L]))
    (k : ∀ v h' tk, Fr g L h' m → News g L h' news → Post s.heap v h' → Q v { s with heap := h', toks := tk }) : wpAny (model mprog w) (lA scope L fa cd) (call (.ref f) vs) Q E s := by
  have K := below_caller g
  have nL : g.get? L = none := by
    cases q : g.get? L with
    | none => rfl
    | some o => exact absurd (Nat.lt_of_lt_of_le (Heap.lt_size q) F.above) (Nat.lt_irrefl _)
  have B : Below (lA scope L fa cd) g [lenv scope L fa cd] s.heap :=
    ⟨Around.frames_deeper K.stack, F.keep, .cons (by show scope.kind ≠ .module; rw [hk]; decide) rfl F.ns nL trivial⟩
  have fs : fsOf [lenv scope L fa cd] = [L] := rfl
  refine P _ g [lenv scope L fa cd] s (hideAll s.heap [L]) Q E rfl e2 e3 B W0 ?_ hide_stays (fun a ha => hideAll_none _ (by rw [fs] at ha; exact ha)) hp fun v h' tk T po => ?_
  · intro b hb
    rw [fs] at hb
    obtain rfl := List.mem_singleton.mp hb
    obtain ⟨o, es, ep, ho, hd, _⟩ := F.ns
    exact ⟨o, es, ep, ho, hd⟩
  · refine k v h' tk ⟨?_, fun b o e => T.other b o (F.keep b o e) fun hm => ?_, F.above⟩ (fun p hp => ⟨T.other _ _ (N p hp).1 fun hm => ?_, (N p hp).2⟩) po
    · obtain ⟨o, es, ep, ho, hd, r⟩ := F.ns
      obtain ⟨sl, z⟩ := T.frame L o ho (by rw [fs]; exact .head _)
      exact ⟨_, es, ep, z, hd, r⟩
    · rw [fs] at hm; rw [List.mem_singleton.mp hm, nL] at e; cases e
    · rw [fs] at hm; exact (N p hp).2.1 (List.mem_singleton.mp hm)
theorem PureT.weaken {d u : Nat} {f : Addr} {vs : List Value} {Pre Pre' : Heap → Prop} {Post : Heap → Value → Heap → Prop} (P : PureT w mean mg mb d u f vs Pre Post) (h : ∀ H, Pre' H → Pre H) : PureT w mean mg mb d u f vs Pre' Post :=
  fun A base outer s Gf Q E a b c d e f g i hp k => P A base outer s Gf Q E a b c d e f g i (h _ hp) k
theorem hid_get {h : Heap} {nw : List (Addr × Obj)} (N : News g L h nw) : ∀ q ∈ nw, (hideAll h [L]).get? q.1 = some q.2 := fun q hq => hideAll_get _ (N q hq).1 fun hm => (N q hq).2.1 (List.mem_singleton.mp hm)
theorem law_11 (hsc : scope = lawSc) (X' : (Hd.K w.params).In g) (T' : Top Hd.view LS mean mg mb g) {R : List (Addr × Obj)} {xh na vl : Addr} {hv sv : Value} {vs : List Value} {k : Nat} (F : Fr g L s.heap m) (N : News g L s.heap (led L o3 o4 o5 o6 R)) (c3 : cel o3 (.ref xh)) (c4 : cel o4 (.ref na)) (c5 : cel o5 hv) (c6 : cel o6 sv) (hm : m "values" = some (.ref vl)) (hl : (vl, W.listOf vs.toArray k) ∈ R) (hn : vs.length ≤ 1000)
    (hR : ∀ v ∈ vs, PureT w mean mg mb 820 830 773 [.ref xh, .ref na, v, hv, sv] (fun H => ∀ q ∈ R, H.get? q.1 = some q.2) (fun _ r _ => r = .bool true))
    (hZ : ∀ h' tk, Fr g L h' m → News g L h' (led L o3 o4 o5 o6 R) → Z .next { s with heap := h', toks := tk }) :
    wpAny (model mprog w) (lA scope L fa cd) (exec (Hd.nth lawB 10) (lenv scope L fa cd)) Z (fun _ _ => False) s := by
  conv at hsc => rhs; whnf
  subst hsc
  refine st_is (by conv => lhs; whnf) ?_
  k_extra "go"
  refine ⟨m, _, _, _, fun i ys => LSm.BoolsAre ys ((vs.take i).map fun _ => true), F, N, srcG_list rfl F N (src_led_list (.tail _ (.tail _ (.tail _ (.tail _ hl))))), by rw [sizeLine_eq]; simp only [List.size_toArray]; omega, ⟨.nil, ?_⟩, ?_⟩
  · intro i ys v I oI C oC DD m₂ h tk E' hi hv' hj hO hx F6 N6
    have hv2 : vs[i]? = some v := by simpa using hv'
    k_extra "go"
    refine useT0 (hR v (List.mem_of_getElem? hv2)) F6 N6 ⟨X', T'⟩ rfl (Nat.le_of_ble_eq_true rfl) (Nat.le_of_ble_eq_true rfl) (fun q hq => hid_get N6 q (.tail _ (.tail _ (.tail _ (.tail _ (.tail _ (.tail _ (.tail _ hq)))))))) ?_
    rintro _ h2 tk2 F7 N7 rfl
    exact .mk F7 N7 (bools_snoc (f := fun _ => true) hj hv2)
  · intro DD h tk ys hj F6 N6
    have hj2 : LSm.BoolsAre ys (vs.map fun _ => true) := by simpa using hj
    clear hj
    k_extra "go"
    · rename Fr _ _ _ _ => F7
      rename News _ _ _ _ => N7
      exact hZ _ _ F7 fun q hq => N7 q (.tail _ hq)
    · rename (List.all _ _ = false) => e
      simp at e
end
open W PyProof.Rows.LCg
section
variable {w : World} {mean : ExcName → Option Value} {mg mb : Str → Option Value} {s : Shared} {g : Heap} {L fa : Addr} {cd : Value} {m : Str → Option Value} {scope : Scope} {Z : Flow → Shared → Prop} {D : LD} {od o3 o4 o5 o6 : Obj} {kvs : List (Str × Value)}
noncomputable def scalarsOf3 (ns : List Str) (i : Nat) : List Str := (scalars3.take i).filter fun n => ns.any fun z => z == n
theorem law_12 (hsc : scope = lawSc) (X' : (Hd.K w.params).In g) (T' : Top Hd.view LS mean mg mb g) {R : List (Addr × Obj)} {na : Addr} {its : Array Value} {ns : List Str} (F : Fr g L s.heap m) (N : News g L s.heap (led L o3 o4 o5 o6 R)) (c4 : cel o4 (.ref na)) (hl : (na, tupOf its) ∈ R) (hns : StrsAre its.toList ns) (hn4 : ns.length ≤ 4)
    (hZ : ∀ h' tk sl ys, Fr g L h' (fun y => if y = Str.ofString "scalars" then some (.ref sl) else m y) → News g L h' ((sl, lst ys) :: led L o3 o4 o5 o6 R) → StrsAre ys (scalarsOf3 ns 3) → Z .next { s with heap := h', toks := tk }) :
    wpAny (model mprog w) (lA scope L fa cd) (exec (Hd.nth lawB 11) (lenv scope L fa cd)) Z (fun _ _ => False) s := by
  conv at hsc => rhs; whnf
  subst hsc
  refine st_is (by conv => lhs; whnf) ?_
  k_extra "go"
  rename Fr _ _ _ _ => F5
  rename News _ _ _ _ => N5
  have hs3 : StrsAre [Value.str (Str.ofString "int") s.toks, .str (Str.ofString "string") (s.toks + 1), .str (Str.ofString "bool") (s.toks + 1 + 1)] scalars3 := .cons _ _ (.cons _ _ (.cons _ _ .nil))
  refine ⟨m, _, _, _, fun i ys => StrsAre ys (scalarsOf3 ns i), F5, N5, srcG_tuple rfl F5 N5 ⟨_, 0, rfl, rfl, .inr (.head _)⟩, by rw [sizeLine_eq]; exact Nat.le_of_ble_eq_true rfl, ⟨.nil, ?_⟩, ?_⟩
  · clear F5 N5
    intro i ys v I oI C oC DD m₂ h tk E' hi hv' hj hO hx F6 N6
    obtain ⟨nm, qn, hn1, rfl⟩ := strsAre_get hs3 (i := i) (by simpa using hv')
    have et : scalarsOf3 ns (i + 1) = scalarsOf3 ns i ++ (if (ns.any fun z => z == nm) = true then [nm] else []) := by
      unfold scalarsOf3
      rw [List.take_add_one, hn1, List.filter_append]
      congr 1
      simp only [Option.toList, List.filter_cons, List.filter_nil]
    iterate 40 (first | (with_reducible show wpAny _ _ (compareOp _ _ _) _ _ _) | ((try dsimp only); walk1))
    refine in_tuple_strs (News.isTup N6 (.tail _ (.tail _ (.tail _ (.tail _ (.tail _ (.tail _ (.tail _ (.tail _ hl))))))))) hns ?_
    k_extra "go"
    · rename (List.any _ _ = true) => e
      refine .mk (by k_extra "A") (by k_extra "A") ?_
      rw [et, if_pos e]
      exact strsAre_append0 hj (.cons _ _ .nil)
    · rename (List.any _ _ = false) => e
      refine .mk (by k_extra "A") (by k_extra "A") ?_
      rw [et, if_neg (by rw [e]; simp), List.append_nil]
      exact hj
  · clear F5 N5
    intro DD h tk ys hj F6 N6
    k_extra "go"
    refine hZ _ _ DD ys F6 (fun p hp => N6 p ?_) hj
    rcases List.mem_cons.mp hp with rfl | hp
    · exact .head _
    · exact .tail _ (.tail _ hp)
end
open W PyProof.Rows.LCg
section
variable {w : World} {mean : ExcName → Option Value} {mg mb : Str → Option Value} {s : Shared} {g : Heap} {L fa : Addr} {cd : Value} {m : Str → Option Value} {scope : Scope} {Z : Flow → Shared → Prop} {D : LD} {od o3 o4 o5 o6 : Obj} {kvs : List (Str × Value)}
theorem LOk.notes {Q : Value → Shared → Prop} {A : Around} {E : Value → Shared → Prop} {expr : Bool} {nw : List (Addr × Obj)} (K : LOk w L D) (F : Fr g L s.heap m) (X : (Hd.K w.params).In g) (N : News g L s.heap nw) (h1 : (D.xh, instObj 629 D.dxh) ∈ nw) (h2 : (D.dxh, dictOf D.es D.n) ∈ nw) (h : Q (.ref D.ln) { s with toks := s.toks + 1 }) : wpAny (model mprog w) A (getAttr (.ref D.xh) "notes" expr) Q E s := by
  obtain ⟨t, kn⟩ := K.kn
  exact get_kn F X (atr_Host_notes _) N h1 h2 kn (.tail _ (.head _)) rfl h
theorem law_13 (hsc : scope = lawSc) (X' : (Hd.K w.params).In g) (T' : Top Hd.view LS mean mg mb g) (K : LOk w L D) {R : List (Addr × Obj)} {sl : Addr} {ys : List Value} {sc : List Str} (F : Fr g L s.heap m) (N : News g L s.heap ((sl, lst ys) :: led L o3 o4 o5 o6 R)) (c3 : cel o3 (.ref D.xh)) (hm : m "scalars" = some (.ref sl)) (hs : StrsAre ys sc)
    (h1 : (D.xh, instObj 629 D.dxh) ∈ R) (h2 : (D.dxh, dictOf D.es D.n) ∈ R) (h3 : (D.ln, W.listOf #[] 0) ∈ R)
    (hZ : ∀ h' tk, sc ≠ [] → Fr g L h' m → News g L h' ((sl, lst ys) :: led L o3 o4 o5 o6 R) → Z .next { s with heap := h', toks := tk })
    (hR : ∀ h' tk, g.StaysIn h' → Z (.ret (.bool true)) { s with heap := h', toks := tk }) :
    wpAny (model mprog w) (lA scope L fa cd) (exec (Hd.nth lawB 12) (lenv scope L fa cd)) Z (fun _ _ => False) s := by
  conv at hsc => rhs; whnf
  subst hsc
  refine st_is (by conv => lhs; whnf) ?_
  cases hs with
  | nil =>
    k_extra "go"
    rename Fr _ _ _ _ => F1
    rename News _ _ _ _ => N1
    have mR : ∀ {q : Addr × Obj} {a b c : Addr × Obj}, q ∈ R → q ∈ a :: b :: c :: led L o3 o4 o5 o6 R := fun h => .tail _ (.tail _ (.tail _ (.tail _ (.tail _ (.tail _ (.tail _ h))))))
    refine K.notes F1 X' N1 (mR h1) (mR h2) ?_
    k_extra "go"
    rename Fr _ _ _ _ => F2
    rename News _ _ _ _ => N2
    refine SeqAt.RcAt.lists (News.isList N2 (.tail _ (mR h3))) (News.isList N2 (.head _)) rfl (Nat.lt_of_le_of_lt (Nat.le_of_ble_eq_true rfl : _ ≤ 1000) (by decide +kernel)) (e := fun _ => true) (fun j h1 h2 => absurd h1 (Nat.not_lt_zero _)) mprog w _ _ ?_
    exact hR _ _ F2.keep
  | cons y t hr =>
    k_extra "go"
    rename Fr _ _ _ _ => F1
    rename News _ _ _ _ => N1
    have mR : ∀ {q : Addr × Obj} {a b : Addr × Obj}, q ∈ R → q ∈ a :: b :: led L o3 o4 o5 o6 R := fun h => .tail _ (.tail _ (.tail _ (.tail _ (.tail _ (.tail _ h)))))
    refine SeqAt.RcAt.lists_lengths (News.isList N1 (.tail _ (.head _))) (News.isList N1 (.head _)) (by simp) (Nat.lt_of_le_of_lt (Nat.le_of_ble_eq_true rfl : _ ≤ 1000) (by decide +kernel)) mprog w _ _ ?_
    k_extra "go"
    refine K.notes F1 X' N1 (mR h1) (mR h2) ?_
    k_extra "go"
    rename Fr _ _ _ _ => F2
    rename News _ _ _ _ => N2
    refine SeqAt.RcNeAt.lists (News.isList N2 (.tail _ (mR h3))) (News.isList N2 (.head _)) rfl (Nat.lt_of_le_of_lt (Nat.le_of_ble_eq_true rfl : _ ≤ 1000) (by decide +kernel)) (e := fun _ => true) (fun j h1 h2 => absurd h1 (Nat.not_lt_zero _)) mprog w _ _ ?_
    rw [show (!(List.range (#[] : Array Value).size).all fun _ => true) = false from rfl]
    k_extra "go"
    exact hZ _ _ (List.cons_ne_nil _ _) F2 fun q hq => N2 q (.tail _ (.tail _ hq))
end
open W PyProof.Rows.LCg
section
variable {w : World} {mean : ExcName → Option Value} {mg mb : Str → Option Value} {s : Shared} {g : Heap} {L fa : Addr} {cd : Value} {m : Str → Option Value} {scope : Scope} {Z : Flow → Shared → Prop} {D : LD} {od o3 o4 o5 o6 : Obj} {kvs : List (Str × Value)}
theorem one_digits : ∀ k : Fin 9, (Str.ofString (toString (1 + (k.1 : Int)))).length ≤ 2 := by decide +kernel
theorem one_digit {q : Int} (h0 : 0 ≤ q) (h1 : q < 9) : (Str.ofString (toString (1 + q))).length ≤ 2 := by
  obtain ⟨k, rfl⟩ := Int.eq_ofNat_of_zero_le h0
  exact one_digits ⟨k, Int.ofNat_lt.mp h1⟩
theorem law_14 (hsc : scope = lawSc) (X' : (Hd.K w.params).In g) (T' : Top Hd.view LS mean mg mb g) (K : LOk w L D) {R : List (Addr × Obj)} {sl : Addr} {ys : List Value} (F : Fr g L s.heap m) (N : News g L s.heap ((sl, lst ys) :: led L o3 o4 o5 o6 R)) (hm : m "draws" = some (.ref D.dl)) (hd : ((D.dl, lst D.ds) : Addr × Obj) ∈ R)
    (hZ : ∀ h' tk wh u, Fr g L h' (fun y => if y = Str.ofString "where" then some (.str wh u) else m y) → News g L h' ((sl, lst ys) :: led L o3 o4 o5 o6 R) → wh.length ≤ 1000 → Z .next { s with heap := h', toks := tk }) :
    wpAny (model mprog w) (lA scope L fa cd) (exec (Hd.nth lawB 13) (lenv scope L fa cd)) Z (fun _ _ => False) s := by
  conv at hsc => rhs; whnf
  subst hsc
  refine st_is (by conv => lhs; whnf) ?_
  have md : ((D.dl, lst D.ds) : Addr × Obj) ∈ (sl, lst ys) :: led L o3 o4 o5 o6 R := .tail _ (.tail _ (.tail _ (.tail _ (.tail _ hd))))
  k_extra "goSub"
  refine K.draw N md (by decide) (by decide) fun n1 t1 => ?_
  k_extra "goSub"
  rename Fr _ _ _ _ => F2
  rename News _ _ _ _ => N2
  refine K.draw N2 (.tail _ md) (by decide) (by decide) fun n2 t2 => ?_
  k_extra "goSub"
  have f0 := Int.fmod_nonneg_of_pos (n2.fdiv 18) (b := 2) (by decide)
  have f1 := Int.fmod_lt_of_pos (n2.fdiv 18) (b := 2) (by decide)
  refine tup_pick (its := [.str (Str.ofString "x") _, .str (Str.ofString "of") _]) N2 (.head _) (.cons _ _ (.cons _ _ .nil)) f0 f1 (by omega) fun w1 u1 hw1 => ?_
  have hl : w1.length ≤ 2 := by
    simp only [List.mem_cons, List.not_mem_nil, or_false] at hw1
    rcases hw1 with rfl | rfl <;> decide +kernel
  k_extra "goSub"
  have e0 := one_digit (Int.fmod_nonneg_of_pos (n1.fdiv 2) (b := 9) (by decide)) (Int.fmod_lt_of_pos (n1.fdiv 2) (b := 9) (by decide))
  rename News _ _ _ _ => N3
  refine hZ _ _ _ _ (by assumption) (fun q hq => N3 q (.tail _ hq)) ?_
  simp only [Str.length_append]
  have a1 : (Str.ofString "f(): Passing null to parameter #").length = 32 := by decide +kernel
  have a2 : (Str.ofString " ($").length = 3 := by decide +kernel
  have a3 : (Str.ofString ")").length = 1 := by decide +kernel
  exact Nat.le_trans (Nat.add_le_add (Nat.add_le_add (Nat.add_le_add (Nat.add_le_add (Nat.le_of_eq a1) e0) (Nat.le_of_eq a2)) hl) (Nat.le_of_eq a3)) (by decide)
end
open W PyProof.Rows.LCg
section
variable {w : World} {mean : ExcName → Option Value} {mg mb : Str → Option Value} {s : Shared} {g : Heap} {L fa : Addr} {cd : Value} {m : Str → Option Value} {scope : Scope} {Z : Flow → Shared → Prop} {D : LD} {od o3 o4 o5 o6 : Obj} {kvs : List (Str × Value)}
theorem useN0 {d u : Nat} {f : Addr} {vs : List Value} {ln : Addr} {its : Array Value} {k : Nat} {Post : Heap → Value → Heap → Prop} {A : Around} {Q E : Value → Shared → Prop} {news : List (Addr × Obj)}
    (P : ∀ H, (∀ q ∈ news, H.get? q.1 = some q.2) → PureN w mean mg mb d u f vs H ln its k Post) (F : Fr g L s.heap m) (N : News g L s.heap ((ln, W.listOf its k) :: news)) (nd : ∀ p ∈ news, p.1 ≠ ln) (W0 : Wd w mean mg mb g)
    (e1 : A.handled = none) (e2 : A.depth ≤ d) (e3 : A.units ≤ u)
    (kk : ∀ H v h' tk, g.StaysIn H → Fr g L h' m → News g L h' news → Post H v h' → Q v { s with heap := h', toks := tk }) : wpAny (model mprog w) A (call (.ref f) vs) Q E s := by
  obtain ⟨n1, n2, n3⟩ := N _ (.head _)
  have k0 := hide_keeps (a := ln) (fun b o e => F.keep b o e) n3
  refine P (hideAll s.heap [ln]) (fun q hq => hideAll_get _ (N q (.tail _ hq)).1 fun hm => nd q hq (List.mem_singleton.mp hm)) A s Q E e1 e2 e3 (W0.keeps k0) hide_stays (Nat.le_of_eq (hideAll_size _ _)) n1 (hideAll_none _ (.head _)) fun v h' tk st sz po => kk _ v h' tk k0 ?_ ?_ po
  · obtain ⟨o, es, ep, ho, hd, r⟩ := F.ns
    exact ⟨⟨o, es, ep, st _ _ (hideAll_get _ ho fun hm => n2 (List.mem_singleton.mp hm).symm), hd, r⟩, fun b o e => st b o (k0 b o e), F.above⟩
  · intro p hp
    obtain ⟨z1, z2, z3⟩ := N p (.tail _ hp)
    exact ⟨st _ _ (hideAll_get _ z1 fun hm => nd p hp (List.mem_singleton.mp hm)), z2, z3⟩
theorem law_15 (hsc : scope = lawSc) (X' : (Hd.K w.params).In g) (T' : Top Hd.view LS mean mg mb g) (K : LOk w L D) {R : List (Addr × Obj)} {sl : Addr} {ys : List Value} {wh : Str} {wu : Tok} {V : V} {tx : Str} {wa : Addr} (F : Fr g L s.heap (fun y => if y = Str.ofString "where" then some (.str wh wu) else m y)) (N : News g L s.heap ((sl, lst ys) :: led L o3 o4 o5 o6 ((D.ln, W.listOf #[] 0) :: R))) (c3 : cel o3 (.ref D.xh)) (c4 : cel o4 (.ref D.na)) (hsl : sl ≠ D.ln) (hR : ∀ p ∈ R, p.1 ≠ D.ln)
    (P : ∀ H u, (∀ q ∈ R, H.get? q.1 = some q.2) → PureN w mean mg mb 900 910 512 [.ref D.xh, .ref D.na, .str wh u] H D.ln #[] 0 (fun G v h' => Rep w wa h' V v ∧ Noted G D.ln tx h'))
    (hZ : ∀ h' tk v, Fr g L h' (fun y => if y = Str.ofString "told" then some v else if y = Str.ofString "where" then some (.str wh wu) else m y) → (∃ H, Rep w wa H V v) → (∃ t u1 u2 k, News g L h' ((t, tupOf #[.str (Str.ofString "Deprecated") u1, .str tx u2]) :: (D.ln, W.listOf #[.ref t] k) :: (sl, lst ys) :: led L o3 o4 o5 o6 R)) → Z .next { s with heap := h', toks := tk }) :
    wpAny (model mprog w) (lA scope L fa cd) (exec (Hd.nth lawB 14) (lenv scope L fa cd)) Z (fun _ _ => False) s := by
  conv at hsc => rhs; whnf
  subst hsc
  refine st_is (by conv => lhs; whnf) ?_
  k_extra "go"
  have off : ∀ p ∈ (sl, lst ys) :: led L o3 o4 o5 o6 R, p.1 ≠ D.ln := fun p hp => by
    obtain ⟨a, b, c, d⟩ := K.fC _ (.head _)
    rcases List.mem_cons.mp hp with rfl | hp; exact hsl
    rcases List.mem_cons.mp hp with rfl | hp; exact d.symm
    rcases List.mem_cons.mp hp with rfl | hp; exact c.symm
    rcases List.mem_cons.mp hp with rfl | hp; exact b.symm
    rcases List.mem_cons.mp hp with rfl | hp; exact a.symm
    exact hR p hp
  have mR : ∀ q ∈ R, q ∈ (sl, lst ys) :: led L o3 o4 o5 o6 R := fun q h => .tail _ (.tail _ (.tail _ (.tail _ (.tail _ h))))
  refine useN0 (ln := D.ln) (its := #[]) (k := 0) (news := (sl, lst ys) :: led L o3 o4 o5 o6 R) (fun H hH => P H _ fun q hq => hH q (mR q hq)) F (fun q hq => N q ?_) off ⟨X', T'⟩ rfl (Nat.le_of_ble_eq_true rfl) (Nat.le_of_ble_eq_true rfl) ?_
  · simp only [led, List.mem_cons] at hq ⊢
    rcases hq with h | h | h | h | h | h | h <;> simp only [h, true_or, or_true]
  rintro H v h1 tk1 gH F1 N1 ⟨rp, nt⟩
  obtain ⟨t, u1, u2, k, q1, q2, q3⟩ := nt.less gH
  have nL : ∀ {a : Addr} {its : Array Value} {n : Nat} {c : Value} {dd sl}, h1.get? a = some ⟨c, dd, .seq its n, sl⟩ → a ≠ L := fun e r => by
    obtain ⟨o, es, ep, ho, hd, _⟩ := F1.ns
    rw [r, ho] at e
    cases e
    cases hd
  have N2 : News g L h1 ((t, tupOf #[.str (Str.ofString "Deprecated") u1, .str tx u2]) :: (D.ln, W.listOf #[.ref t] k) :: (sl, lst ys) :: led L o3 o4 o5 o6 R) := fun q hq => by
    rcases List.mem_cons.mp hq with rfl | hq
    · exact ⟨q2, nL q2, q3⟩
    rcases List.mem_cons.mp hq with rfl | hq
    · exact ⟨q1, nL q1, (N _ (.tail _ (.tail _ (.tail _ (.tail _ (.tail _ (.head _))))))).2.2⟩
    · exact N1 q hq
  clear N1
  k_extra "go"
  rename News _ _ _ _ => N3
  exact hZ _ _ v (by assumption) ⟨_, rp⟩ ⟨t, u1, u2, k, N3⟩
end
open W PyProof.Rows.LCg
section
variable {w : World} {mean : ExcName → Option Value} {mg mb : Str → Option Value} {s : Shared} {g : Heap} {L fa : Addr} {cd : Value} {m : Str → Option Value} {scope : Scope} {Z : Flow → Shared → Prop} {D : LD} {od o3 o4 o5 o6 : Obj} {kvs : List (Str × Value)}
theorem law_16 (hsc : scope = lawSc) (X' : (Hd.K w.params).In g) (T' : Top Hd.view LS mean mg mb g) {R : List (Addr × Obj)} {a b c : Addr × Obj} {na : Addr} {its : Array Value} {ns : List Str} {wh : Str} {wu : Tok} (hns : ∀ n ∈ ns, n.length ≤ 100) (hn : ns.length ≤ 4) (hn0 : 0 < ns.length) (hnn : notNull ns ≠ []) (hwh : wh.length ≤ 1000) (htt : (typeTextV ns).length ≤ 1000)
    (F : Fr g L s.heap m) (N : News g L s.heap (a :: b :: c :: led L o3 o4 o5 o6 R)) (hm : m "where" = some (.str wh wu)) (c4 : cel o4 (.ref na)) (hl : (na, tupOf its) ∈ R) (hs : StrsAre its.toList ns)
    (hZ : ∀ h' tk u, Fr g L h' (fun y => if y = Str.ofString "note" then some (.str (wh ++ Str.ofString " of type " ++ typeTextV ns ++ Str.ofString " is deprecated") u) else m y) → News g L h' (a :: b :: c :: led L o3 o4 o5 o6 R) → Z .next { s with heap := h', toks := tk }) :
    wpAny (model mprog w) (lA scope L fa cd) (exec (Hd.nth lawB 15) (lenv scope L fa cd)) Z (fun _ _ => False) s := by
  conv at hsc => rhs; whnf
  subst hsc
  refine st_is (by conv => lhs; whnf) ?_
  k_extra "go"
  refine useP (law_type_text_c na ns hns hn hn0 hnn) F N X' T' rfl (Nat.le_of_ble_eq_true rfl) (Nat.le_of_ble_eq_true rfl) ⟨its.toList, by simpa using News.isTup N (.tail _ (.tail _ (.tail _ (.tail _ (.tail _ (.tail _ (.tail _ hl))))))), hs⟩ ?_
  rintro _ h1 tk1 F1 N1 st ⟨u, rfl⟩
  clear F N
  k_extra "go"
  exact hZ _ _ _ (by assumption) (by assumption)
end
open W PyProof.Rows.LCg
section
variable {w : World} {mean : ExcName → Option Value} {mg mb : Str → Option Value} {s : Shared} {g : Heap} {L fa : Addr} {cd : Value} {m : Str → Option Value} {scope : Scope} {Z : Flow → Shared → Prop} {D : LD} {od o3 o4 o5 o6 : Obj} {kvs : List (Str × Value)}
noncomputable def DueFor (n : Str) (x : V) : Prop := (n = Str.ofString "int" ∧ x = .int 0) ∨ (n = Str.ofString "string" ∧ x = .str (Str.ofString "")) ∨ (n = Str.ofString "bool" ∧ x = .bool false)
theorem due_val {h : Heap} {wa : Addr} {y : Str} {V : V} {a b c d e : Tok} (hd : DueFor y V) : ∃ vv, valueAt (strPairs [(Value.str (Str.ofString "int") a, Value.int 0 b), (.str (Str.ofString "string") c, .str (Str.ofString "") d), (.str (Str.ofString "bool") e, .bool false)]) y = some vv ∧ Rep w wa h V vv := by
  rcases hd with ⟨rfl, rfl⟩ | ⟨rfl, rfl⟩ | ⟨rfl, rfl⟩
  · exact ⟨_, rfl, _, rfl⟩
  · exact ⟨_, rfl, _, rfl⟩
  · exact ⟨_, rfl, rfl⟩
theorem law_17 {st : Stmt} (hst : Hd.nth lawB 16 = st) (hsc : scope = lawSc) (X' : (Hd.K w.params).In g) (T' : Top Hd.view LS mean mg mb g) {R : List (Addr × Obj)} {a b : Addr × Obj} {sl wa : Addr} {y : Str} {t : Tok} {ys : List Value} {V : V}
    (F : Fr g L s.heap m) (N : News g L s.heap (a :: b :: (sl, lst (.str y t :: ys)) :: led L o3 o4 o5 o6 R)) (hm : m "scalars" = some (.ref sl)) (hd : DueFor y V)
    (hZ : ∀ h' tk v, Fr g L h' (fun y => if y = Str.ofString "due" then some v else m y) → News g L h' (a :: b :: (sl, lst (.str y t :: ys)) :: led L o3 o4 o5 o6 R) → (∃ H, Rep w wa H V v) → Z .next { s with heap := h', toks := tk }) :
    wpAny (model mprog w) (lA scope L fa cd) (exec st (lenv scope L fa cd)) Z (fun _ _ => False) s := by
  subst hst
  conv at hsc => rhs; whnf
  subst hsc
  refine st_is (by conv => lhs; whnf) ?_
  k_extra "goSub"
  rename Fr _ _ _ _ => F1
  rename News _ _ _ _ => N1
  rename_i hd'
  refine at0_led (x := .str y t) N1 (.tail _ (.tail _ (.tail _ (.head _)))) rfl ?_
  obtain ⟨vv, hv, rv⟩ := due_val (w := w) (h := s.heap) (wa := wa) hd
  k_extra "go"
  refine getI_led (by assumption) (.head _) hd' hv ?_
  k_extra "go"
  rename News _ _ _ _ => N2
  exact hZ _ _ vv (by assumption) (fun q hq => N2 q (.tail _ hq)) ⟨_, rv⟩
end
open W PyProof.Rows.LCg
section
variable {w : World} {mean : ExcName → Option Value} {mg mb : Str → Option Value} {s : Shared} {g : Heap} {L fa : Addr} {cd : Value} {m : Str → Option Value} {scope : Scope} {Z : Flow → Shared → Prop} {D : LD} {od o3 o4 o5 o6 : Obj} {kvs : List (Str × Value)}
theorem DueFor.rep {n : Str} {V : V} {wa : Addr} {H : Heap} {v : Value} (d : DueFor n V) (r : Rep w wa H V v) (H' : Heap) : Rep w wa H' V v := by
  rcases d with ⟨-, rfl⟩ | ⟨-, rfl⟩ | ⟨-, rfl⟩ <;> exact r
theorem eq_rep {A : Around} {E Q : Value → Shared → Prop} {n : Str} {V : V} {wa : Addr} {H : Heap} {v1 v2 : Value} (d : DueFor n V) (r1 : Rep w wa H V v1) (r2 : Rep w wa H V v2) (h : Q (.bool true) s) : wpAny (model mprog w) A (compareOp .Eq v1 v2) Q E s := by
  rcases d with ⟨-, rfl⟩ | ⟨-, rfl⟩ | ⟨-, rfl⟩
  · obtain ⟨t1, rfl⟩ := r1
    obtain ⟨t2, rfl⟩ := r2
    exact SeqAt.RcAt.int_int 0 t1 0 t2 mprog w E Q h
  · obtain ⟨t1, rfl⟩ := r1
    obtain ⟨t2, rfl⟩ := r2
    exact SeqAt.RcAt.str_str _ t1 _ t2 mprog w E Q (by rw [beq_self_eq_true]; exact h)
  · cases r1
    cases r2
    exact SeqAt.RcAt.bool_bool _ _ mprog w E Q h
theorem eq_notes {A : Around} {Q E : Value → Shared → Prop} {nw : List (Addr × Obj)} {l1 l2 t1 t2 : Addr} {a b : Str} {p1 p2 p3 p4 : Tok} {n1 n2 : Nat} (N : News g L s.heap nw) (m1 : (l1, W.listOf #[.ref t1] n1) ∈ nw) (m2 : (l2, W.listOf #[.ref t2] n2) ∈ nw) (m3 : (t1, tupOf #[.str a p1, .str b p2]) ∈ nw) (m4 : (t2, tupOf #[.str a p3, .str b p4]) ∈ nw) (ne : t1 ≠ t2) (hu : A.units < cLine) (hu2 : A.in1.units < cLine)
    (h : Q (.bool true) s) : wpAny (model mprog w) A (compareOp .Eq (.ref l1) (.ref l2)) Q E s := by
  have two : SeqAt.EqAt A.in1 s (.ref t1) (.ref t2) true := SeqAt.EqAt.of_refs ne (by
    have := SeqAt.RcAt.tuples (e := fun _ => true) (News.isTup N m3) (News.isTup N m4) hu2 (fun j h1 h2 => by
      match j, h1 with
      | 0, _ => exact (beq_self_eq_true a) ▸ SeqAt.EqAt.str_str a p1 a p3
      | 1, _ => exact (beq_self_eq_true b) ▸ SeqAt.EqAt.str_str b p2 b p4)
    exact this)
  refine SeqAt.RcAt.lists (e := fun _ => true) (News.isList N m1) (News.isList N m2) rfl hu (fun j h1 h2 => ?_) mprog w E Q h
  match j, h1 with
  | 0, _ => exact two
theorem law_18 (hsc : scope = lawSc) (X' : (Hd.K w.params).In g) (T' : Top Hd.view LS mean mg mb g) (K : LOk w L D) {R : List (Addr × Obj)} {c : Addr × Obj} {t : Addr} {u1 u2 nu : Tok} {tx : Str} {k : Nat} {y : Str} {V : V} {v1 v2 : Value} {wa : Addr}
    (F : Fr g L s.heap m) (N : News g L s.heap ((t, tupOf #[.str (Str.ofString "Deprecated") u1, .str tx u2]) :: (D.ln, W.listOf #[.ref t] k) :: c :: led L o3 o4 o5 o6 R)) (m1 : m "told" = some v1) (m2 : m "due" = some v2) (m3 : m "note" = some (.str tx nu)) (c3 : cel o3 (.ref D.xh)) (hd : DueFor y V) (r1 : Rep w wa g V v1) (r2 : Rep w wa g V v2)
    (h1 : (D.xh, instObj 629 D.dxh) ∈ R) (h2 : (D.dxh, dictOf D.es D.n) ∈ R)
    (hR : ∀ h' tk, g.StaysIn h' → Z (.ret (.bool true)) { s with heap := h', toks := tk }) :
    wpAny (model mprog w) (lA scope L fa cd) (exec (Hd.nth lawB 17) (lenv scope L fa cd)) Z (fun _ _ => False) s := by
  conv at hsc => rhs; whnf
  subst hsc
  refine st_is (by conv => lhs; whnf) ?_
  have hlk : (lkindS V == lkindS V) = true := by simp
  k_extra "go"
  refine eq_rep hd r1 r2 ?_
  k_extra "go"
  rename Fr _ _ _ _ => F1
  rename News _ _ _ _ => N1
  have mR : ∀ {q a b c : Addr × Obj}, q ∈ R → q ∈ a :: b :: c :: led L o3 o4 o5 o6 R := fun h => .tail _ (.tail _ (.tail _ (.tail _ (.tail _ (.tail _ (.tail _ h))))))
  refine K.notes F1 X' N1 (mR h1) (mR h2) ?_
  k_extra "go"
  rename Fr _ _ _ _ => F2
  rename News _ _ _ _ => N2
  rename (_ < _ ∧ _ < _ ∧ _ < _ ∧ _ < _ ∧ _ < _ ∧ _ < _ ∧ _ < _ ∧ AllLt _ _) => lt1
  refine eq_notes N2 (.tail _ (.tail _ (.tail _ (.head _)))) (.head _) (.tail _ (.tail _ (.head _))) (.tail _ (.head _)) (Nat.ne_of_lt lt1.1) (Nat.lt_of_le_of_lt (Nat.le_of_ble_eq_true rfl : _ ≤ 1000) (by decide +kernel)) (Nat.lt_of_le_of_lt (Nat.le_of_ble_eq_true rfl : _ ≤ 1000) (by decide +kernel)) ?_
  exact hR _ _ F2.keep
end
open W PyProof.Rows.LCg
section
variable {w : World} {mean : ExcName → Option Value} {mg mb : Str → Option Value} {g : Heap} {L : Addr} {D : LD} {od : Obj} {kvs : List (Str × Value)} {H : Heap} {R : List (Addr × Obj)} {hasC : Bool}
theorem LOk.host (K : LOk w L D) (hH : ∀ q ∈ R, H.get? q.1 = some q.2) (mtd : (D.td, od) ∈ R) (mo : ∀ q ∈ D.oth, q ∈ R) (hd : od.IsDictOf (knd w) kvs) (ht : valueAt kvs (Str.ofString "text") = some (.ref 683)) (hc : valueAt kvs (Str.ofString "callable") = if hasC then some (.ref 690) else none) : HostAt w H D.xh hasC ∧ At H D.xh 629 "notes" (.ref D.ln) := by
  obtain ⟨t, kn⟩ := K.kn
  have i : InstAt H D.xh (instObj 629 D.dxh) 629 (some (dictOf D.es D.n)) := ⟨hH _ (mo _ (.tail _ (.tail _ (.head _)))), rfl, rfl, hH _ (mo _ (.tail _ (.head _)))⟩
  exact ⟨⟨⟨D.td, kvs, ⟨_, _, _, i, kn.at_ _ (.head _)⟩, Heap.dictOf_iff.mpr ⟨od, hH _ mtd, hd⟩, K.low, ht, hc⟩, ⟨_, _, _, i, kn.at_ _ (.tail _ (.tail _ (.tail _ (.head _))))⟩, ⟨_, _, _, i, kn.at_ _ (.tail _ (.tail _ (.tail _ (.tail _ (.head _)))))⟩, ⟨t, _, _, _, i, kn.at_ _ (.tail _ (.tail _ (.head _)))⟩⟩, ⟨_, _, _, i, kn.at_ _ (.tail _ (.head _))⟩⟩
theorem LOk.tup (K : LOk w L D) (hH : ∀ q ∈ R, H.get? q.1 = some q.2) (mo : ∀ q ∈ D.oth, q ∈ R) : TupStrs H D.na D.ns := by
  refine ⟨D.its.toList, ?_, K.nm⟩
  have e := hH _ (mo _ (.tail _ (.tail _ (.tail _ (.head _)))))
  rw [Array.toArray_toList]
  exact ⟨_, e, rfl, _, rfl⟩
theorem LOk.cls (K : LOk w L D) (hH : ∀ q ∈ D.lc, H.get? q.1 = some q.2) : IsCls w D.wa H D.wa trav .none ∧ Chain w D.wa H (.ref D.ca) [clo] ∧ Chain w D.wa H (.ref D.x0) (D.c.line 0) ∧ Chain w D.wa H (.ref D.x1) (D.c.line 1) ∧ Chain w D.wa H (.ref D.x2) (D.c.line 2) := by
  have a := K.ks.k0.isCls hH
  have b := K.ks.k1.isCls hH
  have c := K.ks.k2.isCls hH
  exact ⟨K.ks.tr.isCls hH, .cons (K.ks.cl.isCls hH) .nil, .cons a .nil, .cons b (.cons a .nil), .cons c (.cons b (.cons a .nil))⟩
theorem LOk.scope (K : LOk w L D) {v : Value} (hv : v ∈ [Value.none, .ref D.x0, .ref D.x1, .ref D.x2]) : ∃ l ∈ D.c.scopes, ∀ H, (∀ q ∈ D.lc, H.get? q.1 = some q.2) → Chain w D.wa H v l := by
  simp only [List.mem_cons, List.not_mem_nil, or_false] at hv
  rcases hv with rfl | rfl | rfl | rfl
  · exact ⟨[], .head _, fun _ _ => .nil⟩
  · exact ⟨_, .tail _ (.head _), fun _ h => (K.cls h).2.2.1⟩
  · exact ⟨_, .tail _ (.tail _ (.head _)), fun _ h => (K.cls h).2.2.2.1⟩
  · exact ⟨_, .tail _ (.tail _ (.tail _ (.head _))), fun _ h => (K.cls h).2.2.2.2⟩
noncomputable def ValOk (w : World) (D : LD) (R : List (Addr × Obj)) (v : Value) : Prop := ∃ x : V, x.ok ∧ x.lawful D.c ∧ (∀ a l, x = .obj a l → ∀ d ∈ l, d.name.length ≤ 100) ∧ ∀ H, (∀ q ∈ R, H.get? q.1 = some q.2) → Rep w D.wa H x v
theorem line_names {c : CW} {l : List CI} (h : l ∈ c.lines) : l.length ≤ 50 ∧ ∀ d ∈ l, d.name.length ≤ 100 := by
  have e : ∀ s ∈ ["Closure", "A0", "A1", "A2"], (Str.ofString s).length ≤ 100 := by decide +kernel
  simp only [CW.lines, CW.line, List.mem_cons, List.not_mem_nil, or_false] at h
  rcases h with rfl | rfl | rfl | rfl
  · refine ⟨by simp, fun d hd => ?_⟩
    obtain rfl := List.mem_singleton.mp hd
    exact e _ (.head _)
  · refine ⟨by simp, fun d hd => ?_⟩
    obtain rfl := List.mem_singleton.mp hd
    exact e _ (.tail _ (.head _))
  · refine ⟨by simp, fun d hd => ?_⟩
    simp only [List.mem_cons, List.not_mem_nil, or_false] at hd
    rcases hd with rfl | rfl
    · exact e _ (.tail _ (.tail _ (.head _)))
    · exact e _ (.tail _ (.head _))
  · refine ⟨by simp, fun d hd => ?_⟩
    simp only [List.mem_cons, List.not_mem_nil, or_false] at hd
    rcases hd with rfl | rfl | rfl
    · exact e _ (.tail _ (.tail _ (.tail _ (.head _))))
    · exact e _ (.tail _ (.tail _ (.head _)))
    · exact e _ (.tail _ (.head _))
theorem line_at (K : LOk w L D) {c : Value} (hc : c ∈ [Value.ref D.ca, .ref D.x0, .ref D.x1, .ref D.x2]) : ∃ l ∈ D.c.lines, (∀ H, (∀ q ∈ D.lc, H.get? q.1 = some q.2) → Chain w D.wa H c l) ∧ handedIn c = true ∧ l ≠ [] := by
  simp only [List.mem_cons, List.not_mem_nil, or_false] at hc
  rcases hc with rfl | rfl | rfl | rfl
  · exact ⟨_, .head _, fun _ h => (K.cls h).2.1, rfl, List.cons_ne_nil _ _⟩
  · exact ⟨_, .tail _ (.head _), fun _ h => (K.cls h).2.2.1, rfl, List.cons_ne_nil _ _⟩
  · exact ⟨_, .tail _ (.tail _ (.head _)), fun _ h => (K.cls h).2.2.2.1, rfl, List.cons_ne_nil _ _⟩
  · exact ⟨_, .tail _ (.tail _ (.tail _ (.head _))), fun _ h => (K.cls h).2.2.2.2, rfl, List.cons_ne_nil _ _⟩
theorem obj_ok (K : LOk w L D) (mo : ∀ q ∈ D.oth, q ∈ R) {c v : Value} (hc : c ∈ [Value.ref D.ca, .ref D.x0, .ref D.x1, .ref D.x2]) {lo : List (Addr × Obj)} (ml : ∀ q ∈ lo, q ∈ R) (o : ObjL lo c v) : ValOk w D R v := by
  obtain ⟨x, dx, es, n, rfl, m1, m2, gc⟩ := o
  have lc : ∀ q ∈ D.lc, q ∈ R := fun q hq => mo q (.tail _ (.tail _ (.tail _ (.tail _ hq))))
  obtain ⟨l, hl, hch, hh, hne⟩ := line_at K hc
  refine ⟨.obj x l, (line_names hl).1, fun a l' e => by cases e; exact hl, fun a l' e => by cases e; exact (line_names hl).2, fun H hH => ⟨rfl, ⟨hne, _, hH _ (ml _ m2), fun v => by rintro ⟨⟩⟩, c, ⟨_, _, _, ⟨hH _ (ml _ m2), rfl, rfl, hH _ (ml _ m1)⟩, gc⟩, hch H fun q hq => hH q (lc q hq), hh⟩⟩
theorem objs_ok (K : LOk w L D) (mo : ∀ q ∈ D.oth, q ∈ R) {lo : List (Addr × Obj)} (ml : ∀ q ∈ lo, q ∈ R) {cs vs : List Value} (hcs : ∀ c ∈ cs, c ∈ [Value.ref D.ca, .ref D.x0, .ref D.x1, .ref D.x2]) (h : ObjsL lo cs vs) : ∀ v ∈ vs, ValOk w D R v := by
  induction h with
  | nil => exact fun v hv => absurd hv List.not_mem_nil
  | snoc h o ih =>
    intro v hv
    rcases List.mem_append.mp hv with hv | hv
    · exact ih (fun c hc => hcs c (List.mem_append_left _ hc)) v hv
    · obtain rfl := List.mem_singleton.mp hv
      exact obj_ok K mo (hcs _ (List.mem_append_right _ (.head _))) ml o
theorem words_len : ∀ n ∈ words21, n.length ≤ 100 := by
  intro n hn
  exact Nat.le_of_ble_eq_true (List.all_eq_true.mp (show (words21.all fun z => Nat.ble z.length 100) = true by decide +kernel) n hn)
theorem right_of (K : LOk w L D) (mtd : (D.td, od) ∈ R) (mo : ∀ q ∈ D.oth, q ∈ R) (hd : od.IsDictOf (knd w) kvs) (ht : valueAt kvs (Str.ofString "text") = some (.ref 683)) (hc : valueAt kvs (Str.ofString "callable") = if hasC then some (.ref 690) else none)
    {hv sv v : Value} (h1 : hv ∈ [Value.none, .ref D.x0, .ref D.x1, .ref D.x2]) (h2 : sv ∈ [Value.none, .ref D.x0, .ref D.x1, .ref D.x2]) (vo : ValOk w D R v) :
    PureT w mean mg mb 820 830 773 [.ref D.xh, .ref D.na, v, hv, sv] (fun H => ∀ q ∈ R, H.get? q.1 = some q.2) (fun _ r _ => r = .bool true) := by
  obtain ⟨lh, hlh, ch⟩ := K.scope h1
  obtain ⟨ls, hls, cs⟩ := K.scope h2
  obtain ⟨x, xo, xl, xn, xr⟩ := vo
  have hns : ∀ n ∈ D.ns, n.length ≤ 100 := fun n hn => words_len n (K.nw n hn)
  have hA : acceptsV hasC D.ns x lh ls = acceptedV hasC D.ns x lh ls := accepts_eq K.ks.good xl hlh hls K.nw
  refine (law_is_right_c D.wa D.xh D.na hasC D.ns x v hv sv lh ls xo hns xn (Nat.le_trans K.n4 (by decide)) hA (coerce_eq hA) fun st y h => coerce_good xo (fun a c l e => xn a _ e c (.head _)) h).weaken fun H hH => ?_
  have lc : ∀ q ∈ D.lc, H.get? q.1 = some q.2 := fun q hq => hH q (mo q (.tail _ (.tail _ (.tail _ (.tail _ hq)))))
  exact ⟨K.tup hH mo, xr H hH, (K.host hH mtd mo hd ht hc).1, ch H lc, cs H lc, (K.cls lc).1⟩
end
open W PyProof.Rows.LCg
theorem words_len20 : ∀ n ∈ words21, n.length ≤ 20 := by
  intro n hn
  exact Nat.le_of_ble_eq_true (List.all_eq_true.mp (show (words21.all fun z => Nat.ble z.length 20) = true by decide +kernel) n hn)
theorem tt_len {ns : List Str} (h : ∀ n ∈ ns, n ∈ words21) (h4 : ns.length ≤ 4) (hn0 : 0 < ns.length) : (typeTextV ns).length ≤ 1000 := by
  have hs := sum_small (b := 20) fun n hn => words_len20 n (h n hn)
  have hj : (Txt.join (Str.ofString "|") ns).length ≤ 1000 := Nat.le_trans (len_join_le (n := 100) (show (ns.map (·.length)).sum + ns.length ≤ 100 + 1 by omega) (by decide +kernel)) (by decide)
  match ns, hn0 with
  | [a], _ => rw [show typeTextV [a] = Txt.join (Str.ofString "|") [a] by unfold typeTextV; rw [if_neg (by rintro ⟨e, -⟩; simp at e)]]; exact hj
  | [a, b], _ =>
    have ha := words_len20 a (h a (.head _))
    have hb := words_len20 b (h b (.tail _ (.head _)))
    have hq : (Str.ofString "?").length = 1 := by decide +kernel
    rw [typeText2]
    split
    · split <;> rw [Str.length_append] <;> omega
    · exact hj
  | a :: b :: c :: r, _ => rw [show typeTextV (a :: b :: c :: r) = Txt.join (Str.ofString "|") (a :: b :: c :: r) by unfold typeTextV; rw [if_neg (by rintro ⟨e, -⟩; simp only [List.length_cons] at e; omega)]]; exact hj
theorem sc_any {ns : List Str} (h : scalarsOf3 ns 3 ≠ []) : scalars3.any (fun n => ns.any fun z => z == n) = true := by
  cases q : scalars3.any fun n => ns.any fun z => z == n with
  | true => rfl
  | false =>
    refine absurd ?_ h
    unfold scalarsOf3
    rw [List.filter_eq_nil_iff]
    intro a ha
    have := List.any_eq_false.mp q a (List.mem_of_mem_take ha)
    simpa using this
theorem nn_of {ns : List Str} (h : scalars3.any (fun n => ns.any fun z => z == n) = true) : notNull ns ≠ [] := by
  obtain ⟨n, hn, h2⟩ := List.any_eq_true.mp h
  obtain ⟨z, hz, e⟩ := List.any_eq_true.mp h2
  obtain rfl := eq_of_beq e
  have hne : (!(z == Str.ofString "null")) = true := by
    simp only [scalars3, List.mem_cons, List.not_mem_nil, or_false] at hn
    rcases hn with rfl | rfl | rfl <;> decide +kernel
  exact List.ne_nil_of_mem (List.mem_filter.mpr ⟨hz, hne⟩)
theorem due_of {ns : List Str} {y : Str} {r : List Str} (h : scalarsOf3 ns 3 = y :: r) : DueFor y (nnV ns) := by
  unfold scalarsOf3 scalars3 at h
  simp only [List.take, List.filter_cons, List.filter_nil] at h
  unfold nnV
  split at h
  · rename_i e
    rw [if_pos e]
    cases h
    exact .inl ⟨rfl, rfl⟩
  · rename_i e
    rw [if_neg e]
    split at h
    · rename_i e2
      rw [if_pos e2]
      cases h
      exact .inr (.inl ⟨rfl, rfl⟩)
    · rename_i e2
      rw [if_neg e2]
      split at h
      · cases h
        exact .inr (.inr ⟨rfl, rfl⟩)
      · cases h
theorem body_is : lawB = [Hd.nth lawB 0, Hd.nth lawB 1, Hd.nth lawB 2, Hd.nth lawB 3, Hd.nth lawB 4, Hd.nth lawB 5, Hd.nth lawB 6, Hd.nth lawB 7, Hd.nth lawB 8, Hd.nth lawB 9, Hd.nth lawB 10, Hd.nth lawB 11, Hd.nth lawB 12, Hd.nth lawB 13, Hd.nth lawB 14, Hd.nth lawB 15, Hd.nth lawB 16, Hd.nth lawB 17] := by kernel_rfl
open W PyProof.Rows.LCg
theorem plain_ok {w : World} {D : LD} {R : List (Addr × Obj)} {v : Value} (x : V) (hx : x.ok) (hn : ∀ a l, x ≠ .obj a l) (hr : ∀ H, (∀ q ∈ R, H.get? q.1 = some q.2) → Rep w D.wa H x v) : ValOk w D R v :=
  ⟨x, hx, fun a l e => absurd e (hn a l), fun a l e => absurd e (hn a l), hr⟩
theorem eight_ok {w : World} {D : LD} {R : List (Addr × Obj)} {nb : Int} {nt u1 u2 u3 : Tok} {t1 t2 : Str} {xa dxa : Addr} {es : List DictEntry} {n : Nat} (b1 : -9223372036854775808 ≤ nb) (b2 : nb ≤ 9223372036854775807) (e1 : t1.length ≤ 900) (e2 : t2.length ≤ 900) (m1 : (dxa, dictOf es n) ∈ R) (m2 : (xa, instObj 253 dxa) ∈ R) :
    ∀ v ∈ [Value.none, .bool true, .bool false, .int nb nt, .str t1 u1, .str t2 u2, .str (Str.ofString "x") u3, .ref xa], ValOk w D R v := by
  intro v hv
  simp only [List.mem_cons, List.not_mem_nil, or_false] at hv
  rcases hv with rfl | rfl | rfl | rfl | rfl | rfl | rfl | rfl
  · exact plain_ok .null trivial (by nofun) fun _ _ => rfl
  · exact plain_ok (.bool true) trivial (by nofun) fun _ _ => rfl
  · exact plain_ok (.bool false) trivial (by nofun) fun _ _ => rfl
  · exact plain_ok (.int nb) ⟨b1, b2⟩ (by nofun) fun _ _ => ⟨_, rfl⟩
  · exact plain_ok (.str t1) e1 (by nofun) fun _ _ => ⟨_, rfl⟩
  · exact plain_ok (.str t2) e2 (by nofun) fun _ _ => ⟨_, rfl⟩
  · exact plain_ok (.str (Str.ofString "x")) (show (Str.ofString "x").length ≤ 900 by decide +kernel) (by nofun) fun _ _ => ⟨_, rfl⟩
  · exact plain_ok (.arr xa) trivial (by nofun) fun H hH => ⟨rfl, _, _, _, hH _ m2, rfl, rfl, hH _ m1⟩
theorem law_walk {w : World} {mean : ExcName → Option Value} {mg mb : Str → Option Value} {s : Shared} {g : Heap} {L fa : Addr} {cd : Value} {scope : Scope} {body : List Stmt} {Z : Flow → Shared → Prop} (hsc : scope = lawSc) (hb : body = lawB) (X : (Hd.K w.params).In g) (T : Top Hd.view LS mean mg mb g) {la : Addr} {vs : List Value} {ns : List Int} (hl : g.IsList la vs.toArray) (hi : IntsAre vs ns) (hn : ns.length ≤ 63) {o1 o2 o3 o4 o5 o6 : Obj}
    (F : Fr g L s.heap (fun _ => none)) (N : News g L s.heap [(L + 1 + 1 + 1 + 1 + 1 + 1, o6), (L + 1 + 1 + 1 + 1 + 1, o5), (L + 1 + 1 + 1 + 1, o4), (L + 1 + 1 + 1, o3), (L + 1 + 1, o2), (L + 1, o1)]) (c1 : o1.data = .cell (some (.ref la))) (c2 : o2.data = .cell none) (c3 : o3.data = .cell none) (c4 : o4.data = .cell none) (c5 : o5.data = .cell none) (c6 : o6.data = .cell none)
    (hR : ∀ h' tk, g.StaysIn h' → Z (.ret (.bool true)) { s with heap := h', toks := tk }) :
    wpAny (model mprog w) (lA scope L fa cd) (execs body (lenv scope L fa cd)) Z (fun _ _ => False) s := by
  rw [hb, body_is]
  generalize h17 : Hd.nth lawB 16 = st17
  refine wpAny_execs_cons (law_1 hsc X T hl hi hn F N c1 fun h1 k1 sl v1 n1 p1 F1 N1 c1' z1 => ?_)
  obtain ⟨ns1, i1, l1⟩ := z1
  dsimp only
  refine wpAny_execs_cons (law_2 hsc X T F1 N1 c1' c2 (ne_of_obj N1 (.head _) (.tail _ (.tail _ (.tail _ (.tail _ (.tail _ (.head _)))))) (by rintro rfl; cases c2)) fun h2 k2 rl v2 n2 p2 F2 N2 c2' z2 => ?_)
  obtain ⟨ns2, i2, l2⟩ := z2
  dsimp only
  refine wpAny_execs_cons (law_3 hsc X T F2 N2 c1' c2' i1 l1 i2 l2 fun h3 k3 m3 dl ds F3 m3d N3 z3 => ?_)
  obtain ⟨zs, i3, l3⟩ := z3
  clear F1 N1 F2 N2
  dsimp only
  refine wpAny_execs_cons (law_4 hsc X T F3 m3d N3 c3 c4 c5 c6 i3 l3 fun h4 k4 m4 D od q3 q4 F4 N4 c3' c4' K d4 md mk => ?_)
  dsimp only
  refine wpAny_execs_cons (law_5 hsc X T K F4 N4 c3' d4 (Nat.zero_le _) fun h5 k5 od5 F5 N5 d5 => ?_)
  dsimp only
  refine wpAny_execs_cons (law_6 hsc X T K F5 N5 c3' d5 md fun h6 k6 od6 kvs hasC F6 N6 d6 g1 g2 => ?_)
  clear F3 N3 F4 N4 F5 N5
  dsimp only
  refine wpAny_execs_cons (law_7 hsc X T K F6 N6 md mk c5 c6 fun h7 k7 q5 q6 hv sv F7 N7 c5' c6' hh hs => ?_)
  dsimp only
  refine wpAny_execs_cons (law_8 hsc X T K F7 N7 md fun h8 k8 nb nt F8 N8 b1 b2 => ?_)
  dsimp only
  refine wpAny_execs_cons (law_9 hsc X T K F8 N8 md fun h9 k9 vl t1 u1 t2 u2 u3 dxa es' n' xa kk F9 N9 e1 e2 off9 => ?_)
  clear F6 N6 F7 N7 F8 N8
  dsimp only
  refine wpAny_execs_cons (law_10 hsc X T K (vs := [.none, .bool true, .bool false, .int nb nt, .str t1 u1, .str t2 u2, .str (Str.ofString "x") u3, .ref xa]) F9 N9 (by simp only [List.length_cons, List.length_nil]; omega) (by k_extra "look") (by k_extra "look") fun h10 k10 vl2 kk2 lo ys F10 N10 OL off10 off11 => ?_)
  dsimp only
  obtain ⟨R', hR'⟩ : ∃ R', R' = (D.td, od6) :: (vl2, W.listOf ([Value.none, .bool true, .bool false, .int nb nt, .str t1 u1, .str t2 u2, .str (Str.ofString "x") u3, .ref xa] ++ ys).toArray kk2) :: (lo ++ (dxa, dictOf es' n') :: (xa, instObj 253 dxa) :: D.oth) := ⟨_, rfl⟩
  have mo : ∀ q ∈ D.oth, q ∈ R' := fun q hq => hR' ▸ .tail _ (.tail _ (List.mem_append_right _ (.tail _ (.tail _ hq))))
  have ml : ∀ q ∈ lo, q ∈ R' := fun q hq => hR' ▸ .tail _ (.tail _ (List.mem_append_left _ hq))
  have mtd : (D.td, od6) ∈ R' := hR' ▸ .head _
  have mvl : ((vl2, W.listOf ([Value.none, .bool true, .bool false, .int nb nt, .str t1 u1, .str t2 u2, .str (Str.ofString "x") u3, .ref xa] ++ ys).toArray kk2) : Addr × Obj) ∈ R' := hR' ▸ .tail _ (.head _)
  have mdx : (dxa, dictOf es' n') ∈ R' := hR' ▸ .tail _ (.tail _ (List.mem_append_right _ (.head _)))
  have mxa : (xa, instObj 253 dxa) ∈ R' := hR' ▸ .tail _ (.tail _ (List.mem_append_right _ (.tail _ (.head _))))
  have mln : (D.ln, W.listOf #[] 0) ∈ ledD L D od6 q3 q4 q5 q6 := .tail _ (.tail _ (.tail _ (.tail _ (.tail _ (.head _)))))
  have offR : ∀ p ∈ R', p.1 ≠ D.ln := fun p hp => by
    rw [hR'] at hp
    rcases List.mem_cons.mp hp with rfl | hp
    · exact (K.fT _ (.head _)).symm
    rcases List.mem_cons.mp hp with rfl | hp
    · exact (off11 _ mln).symm
    rcases List.mem_append.mp hp with hp | hp
    · exact off10 p hp _ (.tail _ (.tail _ mln))
    rcases List.mem_cons.mp hp with rfl | hp
    · exact (off9 _ mln).1.symm
    rcases List.mem_cons.mp hp with rfl | hp
    · exact (off9 _ mln).2.1.symm
    exact K.fN p hp
  have N11 : News g L h10 (led L q3 q4 q5 q6 ((D.ln, W.listOf #[] 0) :: R')) := fun p hp => N10 p (by
    rw [hR'] at hp
    simp only [led, List.mem_cons, List.mem_append] at hp ⊢
    rcases hp with h | h | h | h | h | h | h | h | h | h | h <;> simp only [h, true_or, or_true])
  clear N10 hR'
  have tl : ∀ q ∈ R', q ∈ (D.ln, W.listOf #[] 0) :: R' := fun q h => .tail _ h
  refine wpAny_execs_cons (law_11 hsc X T F10 N11 c3' c4' c5' c6' (by k_extra "look") (tl _ mvl) (by have := OL.len; simp only [List.length_cons, List.length_nil] at this; simp only [List.length_append, List.length_cons, List.length_nil]; omega) (fun v hv => right_of K (tl _ mtd) (fun q hq => tl _ (mo q hq)) d6 g1 g2 hh hs ?_) fun h11 k11 F11 N12 => ?_)
  · rcases List.mem_append.mp hv with hv | hv
    · exact eight_ok b1 b2 e1 e2 (tl _ mdx) (tl _ mxa) v hv
    · exact objs_ok K (fun q hq => tl _ (mo q hq)) (fun q hq => tl _ (ml q hq)) (fun c hc => hc) OL v hv
  dsimp only
  clear F9 N9 F10 N11
  have mna : (D.na, tupOf D.its) ∈ R' := mo _ (.tail _ (.tail _ (.tail _ (.head _))))
  have mxh : (D.xh, instObj 629 D.dxh) ∈ R' := mo _ (.tail _ (.tail _ (.head _)))
  have mdh : (D.dxh, dictOf D.es D.n) ∈ R' := mo _ (.tail _ (.head _))
  refine wpAny_execs_cons (law_12 hsc X T F11 N12 c4' (tl _ mna) K.nm K.n4 fun h12 k12 sl zs F12 N13 SA => ?_)
  dsimp only
  refine wpAny_execs_cons (law_13 hsc X T K F12 N13 c3' (by k_extra "look") SA (tl _ mxh) (tl _ mdh) (.head _) (fun h13 k13 hne F13 N14 => ?_) fun h' tk st => hR _ _ st)
  dsimp only
  refine wpAny_execs_cons (law_14 hsc X T K F13 N14 (by k_extra "look") (tl _ (mo _ (.head _))) fun h14 k14 wh wu F14 N15 hwh => ?_)
  dsimp only
  clear F11 N12 F12 N13 F13 N14
  have hany := sc_any hne
  obtain ⟨y, r, hy⟩ : ∃ y r, scalarsOf3 D.ns 3 = y :: r := by
    cases q : scalarsOf3 D.ns 3 with
    | nil => exact absurd q hne
    | cons y r => exact ⟨y, r, rfl⟩
  have DU := due_of hy
  rw [hy] at SA
  cases SA with
  | cons y ty SA2 =>
    rename_i zs
    have hnsl : ∀ n ∈ D.ns, n.length ≤ 100 := fun n hn => words_len n (K.nw n hn)
    have htt := tt_len K.nw K.n4 K.n1
    refine wpAny_execs_cons (law_15 hsc X T K F14 N15 c3' c4' (ne_of_obj N15 (.head _) (.tail _ (.tail _ (.tail _ (.tail _ (.tail _ (.head _)))))) (by intro e; have := congrArg Obj.data e; cases this)) offR (wa := D.wa) (V := nnV D.ns) (tx := wh ++ Str.ofString " of type " ++ typeTextV D.ns ++ Str.ofString " is deprecated")
      (fun H u hH => native_null_c D.wa D.xh D.na D.ln hasC D.ns wh u H 0 (K.host hH mtd mo d6 g1 g2).1 (K.host hH mtd mo d6 g1 g2).2 (K.tup hH mo) hnsl K.n4 K.n1 hwh htt hany) fun h15 k15 v F15 rv z15 => ?_)
    obtain ⟨t, w1, w2, kq, N16⟩ := z15
    obtain ⟨H1, rv⟩ := rv
    dsimp only
    refine wpAny_execs_cons (law_16 hsc X T hnsl K.n4 K.n1 (nn_of hany) hwh htt F15 N16 (by k_extra "look") c4' mna K.nm fun h16 k16 nu F16 N17 => ?_)
    dsimp only
    refine wpAny_execs_cons (law_17 h17 hsc X T F16 N17 (by k_extra "look") DU (wa := D.wa) fun h17 k17 v2 F17 N18 rv2 => ?_)
    obtain ⟨H2, rv2⟩ := rv2
    dsimp only
    refine wpAny_execs_cons (law_18 hsc X T K F17 N18 (by k_extra "look") (by k_extra "look") (by k_extra "look") c3' DU (DU.rep rv g) (DU.rep rv2 g) mxh mdh fun h' tk st => hR _ _ st)
end Mine
open PySem PySem.W PyProof.Rows PySem.Calls Mine
theorem PySem.Challenge.cw_pq0857_01_holds : PySem.Challenge.rw_pq0857_01.Holds := by
  k_with_none
  refine holds_law Hd.wellSaid fun said => ?_
  refine W.holds_open (q := Hd.view) (loose := Hd.lo) (Xt := fun s => xlAt Hd.view [] s && recOk (RowW.records Hd.rW) s) (XP := XL Hd.view []) (Yf := Hook.obs Hd.Hk) (Ya := Hook.val Hd.Hk) (YP := Hook.says Hd.Hk) (N := 10458) Hd.left (Hook.of Hd.Hk) (Hook.keeps Hd.Hk) (fun s e => xl_of s (Bool.and_eq_true_iff.mp e).1) XL.keeps (by rfl) (by rfl) (by rfl) (fun s e => recFacts_of (Bool.and_eq_true_iff.mp e).2) (by rfl) said (by decide +kernel) ⟨rfl, rfl, rfl, rfl, rfl, by decide +kernel⟩ ?hw ?hc
  case hw => w_witness2
  case hc =>
    w_on
    k_fill
    intro w s₀ s₁ mg mb G Y fa o pm cd doc dV kV ho hd hcd hD hmg hg args vals as hpre hlay hrd hwl hlo
    have KX := kIn_of Y
    refine Ground.open G ?_
    intro T B D TE TW
    obtain ⟨_, _, M⟩ := bmod_of_top T
    wrow_args hpre hlay hrd hwl hlo
    all_goals (
      first | refine callC_kw (enter_call ?_) | refine enter_call ?_ | refine callC_kw (enter_callW ?_) | refine enter_callW ?_ | w_how
      w_top on
      try refine codeAny_mono ?_ (fun _ _ g => GoodW.toG g)
      have K0 := below_caller (Top.heap T)
      w_call any ho hd hcd hD T F
      clear hd
      k_drop)
    rename Top _ _ _ _ _ _ => T
    rename (Hd.K _).In _ => KX
    rename Heap.IsList _ _ _ => hl
    rename IntsAre _ _ => hi
    rename Fr _ _ _ _ => F
    rename News _ _ _ _ => N
    rename ¬ (_ : Int) < _ => hlen
    rename_i o6 o5 o4 o3 o2 o1 c6 c5 c4 c3 c2 c1 X0
    refine wpAny_mono (law_walk rfl rfl KX T hl hi (by omega) F N c1 c2 c3 c4 c5 c6 fun h' tk st => ?_) (fun _ _ x => x) fun _ _ x => x.elim
    dsimp only
    clear F N c1 c2 c3 c4 c5 c6 X0
    rename (_ = (#[] : Array GenState)) => hg
    exact ⟨.inl ⟨.bool true, .bool true, [], rfl, fun cls => rfl, .bool true, (by first | kernel_rfl | with_unfolding_all rfl | simp), unshared_nil⟩, st, rfl, hg⟩
