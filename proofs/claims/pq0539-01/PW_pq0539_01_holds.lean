import PyProof.Rows.All
import Wide.All
import OpenK.AllK
import Wide.FinOn
import KE.KUnpack
import KE.KTurns
import KE.KTryMore
import PySem.Challenge.RW_pq0539_01
section
open PySem PySem.Calls PySem.W PyProof.Rows
set_option Elab.async false
set_option linter.unusedVariables false
set_option maxRecDepth 100000
namespace Mine

noncomputable abbrev prg : Program := PySem.Challenge.rw_pq0539_01.row.prog
noncomputable def bd : List Stmt := prg.main.body
noncomputable def vw : Program := { prg with main := { prg.main with body := bd.filter fun s => match s with | .Assign .. => false | _ => true } }
noncomputable def fA (i : Nat) : Arguments := match bd[i]? with | some (.FunctionDef _ a ..) => a | _ => ⟨[], [], none, [], [], none, []⟩
noncomputable def fB (i : Nat) : List Stmt := match bd[i]? with | some (.FunctionDef _ _ b ..) => b | _ => []
noncomputable def fS (i : Nat) : Scope := match bd[i]? with | some (.FunctionDef _ _ _ _ _ _ s ..) => s | _ => default
noncomputable def envT : Env := { scope := prg.main.scope, locals := mainNs, globals := mainNs, cells := [], code := .ref 13, frame := some 14 }

noncomputable def o43 (P : Params) : Obj := ⟨.type "tuple", none, .seq #[] 0, #[]⟩
noncomputable def o44 (P : Params) : Obj := ⟨.none, none, .fields #[], #[]⟩
noncomputable def o45 (P : Params) : Obj := ⟨.type "code", none, .fields #[.str "<module>" 182, .str "<module>" 183, .str "/claim/cut.py" 184, .int 1 0, .int 0 0, .int 0 0, .int 0 0, .int 0 0, .ref 11, .bool false, .int 181 0, .ref 12, .none, .none, .none, .none, .int 185 0, .int 1 0, .str "/claim/cut.py" 186], #[]⟩
noncomputable def o46 (P : Params) : Obj := ⟨.type "frame", none, .plain, #[some (.ref 13), some (.ref 3), some (.ref 3), none, some (.str "__main__" 164), none, some (.ref 0)]⟩
noncomputable def heap46 (P : Params) : Heap := ⟨#[boot_o_0 P, boot_o_1 P, boot_o_2 P, boot_o_3 P, boot_o_4 P, boot_o_5 P, boot_o_6 P, boot_o_7 P, boot_o_8 P, boot_o_9 P, boot_o_10 P, o43 P, o44 P, o45 P, o46 P], ⟨[], [], [], 0, [], [], false, #[], [], 0, false, false, false, 0, [2000, 10, 10], false, 0, true, [], [], 0, false⟩⟩
noncomputable def tree47 (P : Params) : BT := .node (boot_o_0 P) (.node (boot_o_1 P) (.node (boot_o_3 P) (.node (boot_o_7 P) .nil .nil) (.node (o43 P) .nil .nil)) (.node (boot_o_5 P) (.node (boot_o_9 P) .nil .nil) (.node (o45 P) .nil .nil))) (.node (boot_o_2 P) (.node (boot_o_4 P) (.node (boot_o_8 P) .nil .nil) (.node (o44 P) .nil .nil)) (.node (boot_o_6 P) (.node (boot_o_10 P) .nil .nil) (.node (o46 P) .nil .nil)))
noncomputable def o49 (P : Params) : Obj := ⟨.none, none, .dict #[⟨PyData.keyHash P "type.__subclasses__.Exception.0", .str "type.__subclasses__.Exception.0" 205, .int 24 0⟩, ⟨PyData.keyHash P "type.__subclasses__.Exception.n", .str "type.__subclasses__.Exception.n" 206, .int 1 0⟩] 2, #[]⟩
noncomputable def sts49 : List Stmt := (bd.drop 0).take 2
noncomputable def o50 (P : Params) : Obj := ⟨.type "dict", none, .dict #[⟨PyData.keyHash P "__name__", .str "__name__" 165, .str "gmp.limbs" 187⟩, ⟨PyData.keyHash P "__doc__", .str "__doc__" 166, .none⟩, ⟨PyData.keyHash P "__package__", .str "__package__" 167, .none⟩, ⟨PyData.keyHash P "__loader__", .str "__loader__" 168, .builtin "__main__.__loader__#opaque"⟩, ⟨PyData.keyHash P "__spec__", .str "__spec__" 169, .none⟩, ⟨PyData.keyHash P "__annotations__", .str "__annotations__" 170, .ref 6⟩, ⟨PyData.keyHash P "__builtins__", .str "__builtins__" 171, .ref 4⟩, ⟨PyData.keyHash P "__file__", .str "__file__" 173, .str "/claim/cut.py" 172⟩, ⟨PyData.keyHash P "__cached__", .str "__cached__" 174, .none⟩, ⟨PyData.keyHash P "GmpError", .str "GmpError" 208, .ref 24⟩] 10, #[]⟩
noncomputable def o51 (P : Params) : Obj := ⟨.none, none, .fields #[.int 2 0, .int 0 0, .ref 20], #[]⟩
noncomputable def o52 (P : Params) : Obj := ⟨.type "tuple", none, .seq #[.type "Exception"] 0, #[]⟩
noncomputable def o53 (P : Params) : Obj := ⟨.type "builtin_function_or_method", none, .fields #[.builtin "type.__prepare__", .type "type"], #[]⟩
noncomputable def o54 (P : Params) : Obj := ⟨.type "dict", none, .dict #[⟨PyData.keyHash P "__module__", .str "__module__" 196, .str "gmp.limbs" 187⟩, ⟨PyData.keyHash P "__qualname__", .str "__qualname__" 198, .str "GmpError" 197⟩, ⟨PyData.keyHash P "__firstlineno__", .str "__firstlineno__" 200, .int 2 199⟩, ⟨PyData.keyHash P "__static_attributes__", .str "__static_attributes__" 201, .ref 22⟩] 4, #[]⟩
noncomputable def o55 (P : Params) : Obj := ⟨.type "tuple", none, .seq #[] 0, #[]⟩
noncomputable def o56 (P : Params) : Obj := ⟨.none, none, .fields #[], #[]⟩
noncomputable def o57 (P : Params) : Obj := ⟨.type "code", none, .fields #[.str "GmpError" 191, .str "GmpError" 192, .str "/claim/cut.py" 193, .int 2 0, .int 0 0, .int 0 0, .int 0 0, .int 0 0, .ref 18, .bool false, .int 181 0, .ref 19, .none, .none, .none, .none, .int 194 0, .int 2 0, .str "/claim/cut.py" 195], #[]⟩
noncomputable def o58 (P : Params) : Obj := ⟨.type "frame", none, .plain, #[some (.ref 20), some (.ref 3), some (.ref 17), none, some (.str "gmp.limbs" 187), none, some (.ref 0)]⟩
noncomputable def o59 (P : Params) : Obj := ⟨.type "tuple", none, .seq #[] 0, #[]⟩
noncomputable def o60 (P : Params) : Obj := ⟨.type "dict", none, .dict #[⟨PyData.keyHash P "__module__", .str "__module__" 196, .str "gmp.limbs" 187⟩, ⟨PyData.keyHash P "__firstlineno__", .str "__firstlineno__" 200, .int 2 199⟩, ⟨PyData.keyHash P "__static_attributes__", .str "__static_attributes__" 201, .ref 22⟩, ⟨PyData.keyHash P "__weakref__", .str "__weakref__" 203, .ref 25⟩, ⟨PyData.keyHash P "__doc__", .str "__doc__" 204, .none⟩] 3, #[]⟩
noncomputable def o61 (P : Params) : Obj := ⟨.type "type", none, .cls ⟨"GmpError", [.type "Exception"], [.ref 24, .type "Exception", .type "BaseException", .type "object"], 23, "GmpError", true, [], [], false, none, false⟩, #[some (.ref 15), none, some (.str "GmpError" 189), some (.str "GmpError" 197), some (.builtin "Exception.__new__"), some (.bool true)]⟩
noncomputable def o62 (P : Params) : Obj := ⟨.type "getset_descriptor", none, .fields #[.str "__weakref__" 202, .ref 24, .builtin "ExceptionGroup.__weakref__", .none], #[]⟩
noncomputable def o63 (P : Params) : Obj := ⟨.type "super", none, .fields #[.ref 24, .ref 24, .ref 24], #[]⟩
noncomputable def o64 (P : Params) : Obj := ⟨.type "builtin_function_or_method", none, .fields #[.builtin "object.__init_subclass__", .ref 24], #[]⟩
noncomputable def tree64 (P : Params) : BT := .node (boot_o_0 P) (.node (boot_o_1 P) (.node (o50 P) (.node (boot_o_7 P) (.node (o52 P) .nil .nil) (.node (o60 P) .nil .nil)) (.node (o43 P) (.node (o56 P) .nil .nil) (.node (o64 P) .nil .nil))) (.node (boot_o_5 P) (.node (boot_o_9 P) (.node (o54 P) .nil .nil) (.node (o62 P) .nil .nil)) (.node (o45 P) (.node (o58 P) .nil .nil) .nil))) (.node (o49 P) (.node (boot_o_4 P) (.node (boot_o_8 P) (.node (o53 P) .nil .nil) (.node (o61 P) .nil .nil)) (.node (o51 P) (.node (o57 P) .nil .nil) .nil)) (.node (boot_o_6 P) (.node (boot_o_10 P) (.node (o55 P) .nil .nil) (.node (o63 P) .nil .nil)) (.node (o46 P) (.node (o59 P) .nil .nil) .nil)))
noncomputable def o65 (P : Params) : Obj := ⟨.type "dict", none, .dict #[⟨PyData.keyHash P "__name__", .str "__name__" 165, .str "gmp.limbs" 187⟩, ⟨PyData.keyHash P "__doc__", .str "__doc__" 166, .none⟩, ⟨PyData.keyHash P "__package__", .str "__package__" 167, .none⟩, ⟨PyData.keyHash P "__loader__", .str "__loader__" 168, .builtin "__main__.__loader__#opaque"⟩, ⟨PyData.keyHash P "__spec__", .str "__spec__" 169, .none⟩, ⟨PyData.keyHash P "__annotations__", .str "__annotations__" 170, .ref 6⟩, ⟨PyData.keyHash P "__builtins__", .str "__builtins__" 171, .ref 4⟩, ⟨PyData.keyHash P "__file__", .str "__file__" 173, .str "/claim/cut.py" 172⟩, ⟨PyData.keyHash P "__cached__", .str "__cached__" 174, .none⟩, ⟨PyData.keyHash P "GmpError", .str "GmpError" 208, .ref 24⟩, ⟨PyData.keyHash P "NotExact", .str "NotExact" 224, .ref 37⟩] 11, #[]⟩
noncomputable def sts65 : List Stmt := (bd.drop 2).take 1
noncomputable def o66 (P : Params) : Obj := ⟨.none, none, .fields #[.int 2 0, .int 0 0, .ref 20, .int 4 0, .int 0 0, .ref 33], #[]⟩
noncomputable def o67 (P : Params) : Obj := ⟨.type "type", none, .cls ⟨"GmpError", [.type "Exception"], [.ref 24, .type "Exception", .type "BaseException", .type "object"], 23, "GmpError", true, [], [.ref 37], false, none, false⟩, #[some (.ref 15), none, some (.str "GmpError" 189), some (.str "GmpError" 197), some (.builtin "Exception.__new__"), some (.bool true)]⟩
noncomputable def o68 (P : Params) : Obj := ⟨.type "tuple", none, .seq #[.ref 24] 0, #[]⟩
noncomputable def o69 (P : Params) : Obj := ⟨.type "builtin_function_or_method", none, .fields #[.builtin "type.__prepare__", .type "type"], #[]⟩
noncomputable def o70 (P : Params) : Obj := ⟨.type "dict", none, .dict #[⟨PyData.keyHash P "__module__", .str "__module__" 216, .str "gmp.limbs" 187⟩, ⟨PyData.keyHash P "__qualname__", .str "__qualname__" 218, .str "NotExact" 217⟩, ⟨PyData.keyHash P "__firstlineno__", .str "__firstlineno__" 220, .int 4 219⟩, ⟨PyData.keyHash P "__static_attributes__", .str "__static_attributes__" 221, .ref 35⟩] 4, #[]⟩
noncomputable def o71 (P : Params) : Obj := ⟨.type "tuple", none, .seq #[] 0, #[]⟩
noncomputable def o72 (P : Params) : Obj := ⟨.none, none, .fields #[], #[]⟩
noncomputable def o73 (P : Params) : Obj := ⟨.type "code", none, .fields #[.str "NotExact" 211, .str "NotExact" 212, .str "/claim/cut.py" 213, .int 4 0, .int 0 0, .int 0 0, .int 0 0, .int 0 0, .ref 31, .bool false, .int 181 0, .ref 32, .none, .none, .none, .none, .int 214 0, .int 4 0, .str "/claim/cut.py" 215], #[]⟩
noncomputable def o74 (P : Params) : Obj := ⟨.type "frame", none, .plain, #[some (.ref 33), some (.ref 3), some (.ref 30), none, some (.str "gmp.limbs" 187), none, some (.ref 0)]⟩
noncomputable def o75 (P : Params) : Obj := ⟨.type "tuple", none, .seq #[] 0, #[]⟩
noncomputable def o76 (P : Params) : Obj := ⟨.type "dict", none, .dict #[⟨PyData.keyHash P "__module__", .str "__module__" 216, .str "gmp.limbs" 187⟩, ⟨PyData.keyHash P "__firstlineno__", .str "__firstlineno__" 220, .int 4 219⟩, ⟨PyData.keyHash P "__static_attributes__", .str "__static_attributes__" 221, .ref 35⟩, ⟨PyData.keyHash P "__doc__", .str "__doc__" 222, .none⟩] 2, #[]⟩
noncomputable def o77 (P : Params) : Obj := ⟨.type "type", none, .cls ⟨"NotExact", [.ref 24], [.ref 37, .ref 24, .type "Exception", .type "BaseException", .type "object"], 36, "NotExact", true, [], [], false, none, false⟩, #[some (.ref 28), none, some (.str "NotExact" 209), some (.str "NotExact" 217), some (.builtin "Exception.__new__"), some (.bool true)]⟩
noncomputable def o78 (P : Params) : Obj := ⟨.type "super", none, .fields #[.ref 37, .ref 37, .ref 37], #[]⟩
noncomputable def o79 (P : Params) : Obj := ⟨.type "builtin_function_or_method", none, .fields #[.builtin "object.__init_subclass__", .ref 37], #[]⟩
noncomputable def tree79 (P : Params) : BT := .node (boot_o_0 P) (.node (boot_o_1 P) (.node (o65 P) (.node (boot_o_7 P) (.node (o52 P) (.node (o71 P) .nil .nil) .nil) (.node (o60 P) (.node (o79 P) .nil .nil) .nil)) (.node (o43 P) (.node (o56 P) (.node (o75 P) .nil .nil) .nil) (.node (o64 P) .nil .nil))) (.node (boot_o_5 P) (.node (boot_o_9 P) (.node (o54 P) (.node (o73 P) .nil .nil) .nil) (.node (o62 P) .nil .nil)) (.node (o45 P) (.node (o58 P) (.node (o77 P) .nil .nil) .nil) (.node (o69 P) .nil .nil)))) (.node (o49 P) (.node (boot_o_4 P) (.node (boot_o_8 P) (.node (o53 P) (.node (o72 P) .nil .nil) .nil) (.node (o67 P) .nil .nil)) (.node (o66 P) (.node (o57 P) (.node (o76 P) .nil .nil) .nil) (.node (o68 P) .nil .nil))) (.node (boot_o_6 P) (.node (boot_o_10 P) (.node (o55 P) (.node (o74 P) .nil .nil) .nil) (.node (o63 P) .nil .nil)) (.node (o46 P) (.node (o59 P) (.node (o78 P) .nil .nil) .nil) (.node (o70 P) .nil .nil))))
noncomputable def o80 (P : Params) : Obj := ⟨.type "dict", none, .dict #[⟨PyData.keyHash P "__name__", .str "__name__" 165, .str "gmp.limbs" 187⟩, ⟨PyData.keyHash P "__doc__", .str "__doc__" 166, .none⟩, ⟨PyData.keyHash P "__package__", .str "__package__" 167, .none⟩, ⟨PyData.keyHash P "__loader__", .str "__loader__" 168, .builtin "__main__.__loader__#opaque"⟩, ⟨PyData.keyHash P "__spec__", .str "__spec__" 169, .none⟩, ⟨PyData.keyHash P "__annotations__", .str "__annotations__" 170, .ref 6⟩, ⟨PyData.keyHash P "__builtins__", .str "__builtins__" 171, .ref 4⟩, ⟨PyData.keyHash P "__file__", .str "__file__" 173, .str "/claim/cut.py" 172⟩, ⟨PyData.keyHash P "__cached__", .str "__cached__" 174, .none⟩, ⟨PyData.keyHash P "GmpError", .str "GmpError" 208, .ref 24⟩, ⟨PyData.keyHash P "NotExact", .str "NotExact" 224, .ref 37⟩, ⟨PyData.keyHash P "OutOfRange", .str "OutOfRange" 240, .ref 49⟩, ⟨PyData.keyHash P "normal", .str "normal" 248, .ref 58⟩, ⟨PyData.keyHash P "nat_of", .str "nat_of" 258, .ref 65⟩, ⟨PyData.keyHash P "compare", .str "compare" 267, .ref 72⟩, ⟨PyData.keyHash P "add", .str "add" 280, .ref 79⟩, ⟨PyData.keyHash P "sub", .str "sub" 294, .ref 86⟩] 17, #[]⟩
noncomputable def sts80 : List Stmt := (bd.drop 3).take 6
noncomputable def o81 (P : Params) : Obj := ⟨.none, none, .fields #[.int 2 0, .int 0 0, .ref 20, .int 4 0, .int 0 0, .ref 33, .int 6 0, .int 0 0, .ref 45, .int 8 0, .int 0 0, .ref 57, .int 13 0, .int 0 0, .ref 64, .int 21 0, .int 0 0, .ref 71, .int 28 0, .int 0 0, .ref 78, .int 43 0, .int 0 0, .ref 85], #[]⟩
noncomputable def o82 (P : Params) : Obj := ⟨.type "type", none, .cls ⟨"GmpError", [.type "Exception"], [.ref 24, .type "Exception", .type "BaseException", .type "object"], 23, "GmpError", true, [], [.ref 37, .ref 49], false, none, false⟩, #[some (.ref 15), none, some (.str "GmpError" 189), some (.str "GmpError" 197), some (.builtin "Exception.__new__"), some (.bool true)]⟩
noncomputable def o83 (P : Params) : Obj := ⟨.type "tuple", none, .seq #[.ref 24] 0, #[]⟩
noncomputable def o84 (P : Params) : Obj := ⟨.type "builtin_function_or_method", none, .fields #[.builtin "type.__prepare__", .type "type"], #[]⟩
noncomputable def o85 (P : Params) : Obj := ⟨.type "dict", none, .dict #[⟨PyData.keyHash P "__module__", .str "__module__" 232, .str "gmp.limbs" 187⟩, ⟨PyData.keyHash P "__qualname__", .str "__qualname__" 234, .str "OutOfRange" 233⟩, ⟨PyData.keyHash P "__firstlineno__", .str "__firstlineno__" 236, .int 6 235⟩, ⟨PyData.keyHash P "__static_attributes__", .str "__static_attributes__" 237, .ref 47⟩] 4, #[]⟩
noncomputable def o86 (P : Params) : Obj := ⟨.type "tuple", none, .seq #[] 0, #[]⟩
noncomputable def o87 (P : Params) : Obj := ⟨.none, none, .fields #[], #[]⟩
noncomputable def o88 (P : Params) : Obj := ⟨.type "code", none, .fields #[.str "OutOfRange" 227, .str "OutOfRange" 228, .str "/claim/cut.py" 229, .int 6 0, .int 0 0, .int 0 0, .int 0 0, .int 0 0, .ref 43, .bool false, .int 181 0, .ref 44, .none, .none, .none, .none, .int 230 0, .int 6 0, .str "/claim/cut.py" 231], #[]⟩
noncomputable def o89 (P : Params) : Obj := ⟨.type "frame", none, .plain, #[some (.ref 45), some (.ref 3), some (.ref 42), none, some (.str "gmp.limbs" 187), none, some (.ref 0)]⟩
noncomputable def o90 (P : Params) : Obj := ⟨.type "tuple", none, .seq #[] 0, #[]⟩
noncomputable def o91 (P : Params) : Obj := ⟨.type "dict", none, .dict #[⟨PyData.keyHash P "__module__", .str "__module__" 232, .str "gmp.limbs" 187⟩, ⟨PyData.keyHash P "__firstlineno__", .str "__firstlineno__" 236, .int 6 235⟩, ⟨PyData.keyHash P "__static_attributes__", .str "__static_attributes__" 237, .ref 47⟩, ⟨PyData.keyHash P "__doc__", .str "__doc__" 238, .none⟩] 2, #[]⟩
noncomputable def o92 (P : Params) : Obj := ⟨.type "type", none, .cls ⟨"OutOfRange", [.ref 24], [.ref 49, .ref 24, .type "Exception", .type "BaseException", .type "object"], 48, "OutOfRange", true, [], [], false, none, false⟩, #[some (.ref 40), none, some (.str "OutOfRange" 225), some (.str "OutOfRange" 233), some (.builtin "Exception.__new__"), some (.bool true)]⟩
noncomputable def o93 (P : Params) : Obj := ⟨.type "super", none, .fields #[.ref 49, .ref 49, .ref 49], #[]⟩
noncomputable def o94 (P : Params) : Obj := ⟨.type "builtin_function_or_method", none, .fields #[.builtin "object.__init_subclass__", .ref 49], #[]⟩
noncomputable def o95 (P : Params) : Obj := ⟨.type "tuple", none, .seq #[] 0, #[]⟩
noncomputable def o96 (P : Params) : Obj := ⟨.none, none, .fields #[], #[]⟩
noncomputable def o97 (P : Params) : Obj := ⟨.type "tuple", none, .seq #[.str "a" 244, .str "end" 245] 0, #[]⟩
noncomputable def o98 (P : Params) : Obj := ⟨.type "tuple", none, .seq #[] 0, #[]⟩
noncomputable def o99 (P : Params) : Obj := ⟨.none, none, .func ⟨"normal", "normal", fA 4, .stmts (fB 4), fS 4, 0, [], .none, .none, .none, .none, none, .none, .none, 0⟩, #[]⟩
noncomputable def o100 (P : Params) : Obj := ⟨.type "code", none, .fields #[.str "normal" 241, .str "normal" 242, .str "/claim/cut.py" 243, .int 8 0, .int 1 0, .int 0 0, .int 0 0, .int 3 0, .ref 52, .bool true, .int 181 0, .ref 53, .none, .ref 54, .ref 55, .ref 56, .int 246 0, .int 8 0, .str "/claim/cut.py" 247], #[]⟩
noncomputable def o101 (P : Params) : Obj := ⟨.type "function", none, .func ⟨"normal", "normal", fA 4, .stmts (fB 4), fS 4, 3, [], .none, .none, .none, .str "gmp.limbs" 187, none, .ref 57, .none, 0⟩, #[]⟩
noncomputable def o102 (P : Params) : Obj := ⟨.type "tuple", none, .seq #[] 0, #[]⟩
noncomputable def o103 (P : Params) : Obj := ⟨.none, none, .fields #[], #[]⟩
noncomputable def o104 (P : Params) : Obj := ⟨.type "tuple", none, .seq #[.str "number" 252, .str "w" 253, .str "found" 254, .str "mask" 255] 0, #[]⟩
noncomputable def o105 (P : Params) : Obj := ⟨.type "tuple", none, .seq #[] 0, #[]⟩
noncomputable def o106 (P : Params) : Obj := ⟨.none, none, .func ⟨"nat_of", "nat_of", fA 5, .stmts (fB 5), fS 5, 0, [], .none, .none, .none, .none, none, .none, .none, 0⟩, #[]⟩
noncomputable def o107 (P : Params) : Obj := ⟨.type "code", none, .fields #[.str "nat_of" 249, .str "nat_of" 250, .str "/claim/cut.py" 251, .int 13 0, .int 2 0, .int 0 0, .int 0 0, .int 3 0, .ref 59, .bool true, .int 181 0, .ref 60, .none, .ref 61, .ref 62, .ref 63, .int 256 0, .int 13 0, .str "/claim/cut.py" 257], #[]⟩
noncomputable def o108 (P : Params) : Obj := ⟨.type "function", none, .func ⟨"nat_of", "nat_of", fA 5, .stmts (fB 5), fS 5, 3, [], .none, .none, .none, .str "gmp.limbs" 187, none, .ref 64, .none, 0⟩, #[]⟩
noncomputable def o109 (P : Params) : Obj := ⟨.type "tuple", none, .seq #[] 0, #[]⟩
noncomputable def o110 (P : Params) : Obj := ⟨.none, none, .fields #[], #[]⟩
noncomputable def o111 (P : Params) : Obj := ⟨.type "tuple", none, .seq #[.str "a" 262, .str "b" 263, .str "at" 264] 0, #[]⟩
noncomputable def o112 (P : Params) : Obj := ⟨.type "tuple", none, .seq #[] 0, #[]⟩
noncomputable def o113 (P : Params) : Obj := ⟨.none, none, .func ⟨"compare", "compare", fA 6, .stmts (fB 6), fS 6, 0, [], .none, .none, .none, .none, none, .none, .none, 0⟩, #[]⟩
noncomputable def o114 (P : Params) : Obj := ⟨.type "code", none, .fields #[.str "compare" 259, .str "compare" 260, .str "/claim/cut.py" 261, .int 21 0, .int 2 0, .int 0 0, .int 0 0, .int 3 0, .ref 66, .bool true, .int 181 0, .ref 67, .none, .ref 68, .ref 69, .ref 70, .int 265 0, .int 21 0, .str "/claim/cut.py" 266], #[]⟩
noncomputable def o115 (P : Params) : Obj := ⟨.type "function", none, .func ⟨"compare", "compare", fA 6, .stmts (fB 6), fS 6, 3, [], .none, .none, .none, .str "gmp.limbs" 187, none, .ref 71, .none, 0⟩, #[]⟩
noncomputable def o116 (P : Params) : Obj := ⟨.type "tuple", none, .seq #[] 0, #[]⟩
noncomputable def o117 (P : Params) : Obj := ⟨.none, none, .fields #[], #[]⟩
noncomputable def o118 (P : Params) : Obj := ⟨.type "tuple", none, .seq #[.str "a" 271, .str "b" 272, .str "w" 273, .str "found" 274, .str "carry" 275, .str "mask" 276, .str "at" 277] 0, #[]⟩
noncomputable def o119 (P : Params) : Obj := ⟨.type "tuple", none, .seq #[] 0, #[]⟩
noncomputable def o120 (P : Params) : Obj := ⟨.none, none, .func ⟨"add", "add", fA 7, .stmts (fB 7), fS 7, 0, [], .none, .none, .none, .none, none, .none, .none, 0⟩, #[]⟩
noncomputable def o121 (P : Params) : Obj := ⟨.type "code", none, .fields #[.str "add" 268, .str "add" 269, .str "/claim/cut.py" 270, .int 28 0, .int 3 0, .int 0 0, .int 0 0, .int 3 0, .ref 73, .bool true, .int 181 0, .ref 74, .none, .ref 75, .ref 76, .ref 77, .int 278 0, .int 28 0, .str "/claim/cut.py" 279], #[]⟩
noncomputable def o122 (P : Params) : Obj := ⟨.type "function", none, .func ⟨"add", "add", fA 7, .stmts (fB 7), fS 7, 3, [], .none, .none, .none, .str "gmp.limbs" 187, none, .ref 78, .none, 0⟩, #[]⟩
noncomputable def o123 (P : Params) : Obj := ⟨.type "tuple", none, .seq #[] 0, #[]⟩
noncomputable def o124 (P : Params) : Obj := ⟨.none, none, .fields #[], #[]⟩
noncomputable def o125 (P : Params) : Obj := ⟨.type "tuple", none, .seq #[.str "a" 284, .str "b" 285, .str "w" 286, .str "found" 287, .str "borrow" 288, .str "base" 289, .str "at" 290, .str "limb" 291] 0, #[]⟩
noncomputable def o126 (P : Params) : Obj := ⟨.type "tuple", none, .seq #[] 0, #[]⟩
noncomputable def o127 (P : Params) : Obj := ⟨.none, none, .func ⟨"sub", "sub", fA 8, .stmts (fB 8), fS 8, 0, [], .none, .none, .none, .none, none, .none, .none, 0⟩, #[]⟩
noncomputable def o128 (P : Params) : Obj := ⟨.type "code", none, .fields #[.str "sub" 281, .str "sub" 282, .str "/claim/cut.py" 283, .int 43 0, .int 3 0, .int 0 0, .int 0 0, .int 3 0, .ref 80, .bool true, .int 181 0, .ref 81, .none, .ref 82, .ref 83, .ref 84, .int 292 0, .int 43 0, .str "/claim/cut.py" 293], #[]⟩
noncomputable def o129 (P : Params) : Obj := ⟨.type "function", none, .func ⟨"sub", "sub", fA 8, .stmts (fB 8), fS 8, 3, [], .none, .none, .none, .str "gmp.limbs" 187, none, .ref 85, .none, 0⟩, #[]⟩
noncomputable def tree129 (P : Params) : BT := .node (boot_o_0 P) (.node (boot_o_1 P) (.node (o80 P) (.node (boot_o_7 P) (.node (o52 P) (.node (o71 P) (.node (o106 P) .nil .nil) .nil) (.node (o90 P) (.node (o122 P) .nil .nil) .nil)) (.node (o60 P) (.node (o79 P) (.node (o114 P) .nil .nil) .nil) (.node (o98 P) .nil .nil))) (.node (o43 P) (.node (o56 P) (.node (o75 P) (.node (o110 P) .nil .nil) .nil) (.node (o94 P) (.node (o126 P) .nil .nil) .nil)) (.node (o64 P) (.node (o86 P) (.node (o118 P) .nil .nil) .nil) (.node (o102 P) .nil .nil)))) (.node (boot_o_5 P) (.node (boot_o_9 P) (.node (o54 P) (.node (o73 P) (.node (o108 P) .nil .nil) .nil) (.node (o92 P) (.node (o124 P) .nil .nil) .nil)) (.node (o62 P) (.node (o84 P) (.node (o116 P) .nil .nil) .nil) (.node (o100 P) .nil .nil))) (.node (o45 P) (.node (o58 P) (.node (o77 P) (.node (o112 P) .nil .nil) .nil) (.node (o96 P) (.node (o128 P) .nil .nil) .nil)) (.node (o69 P) (.node (o88 P) (.node (o120 P) .nil .nil) .nil) (.node (o104 P) .nil .nil))))) (.node (o49 P) (.node (boot_o_4 P) (.node (boot_o_8 P) (.node (o53 P) (.node (o72 P) (.node (o107 P) .nil .nil) .nil) (.node (o91 P) (.node (o123 P) .nil .nil) .nil)) (.node (o82 P) (.node (o83 P) (.node (o115 P) .nil .nil) .nil) (.node (o99 P) .nil .nil))) (.node (o81 P) (.node (o57 P) (.node (o76 P) (.node (o111 P) .nil .nil) .nil) (.node (o95 P) (.node (o127 P) .nil .nil) .nil)) (.node (o68 P) (.node (o87 P) (.node (o119 P) .nil .nil) .nil) (.node (o103 P) .nil .nil)))) (.node (boot_o_6 P) (.node (boot_o_10 P) (.node (o55 P) (.node (o74 P) (.node (o109 P) .nil .nil) .nil) (.node (o93 P) (.node (o125 P) .nil .nil) .nil)) (.node (o63 P) (.node (o85 P) (.node (o117 P) .nil .nil) .nil) (.node (o101 P) .nil .nil))) (.node (o46 P) (.node (o59 P) (.node (o78 P) (.node (o113 P) .nil .nil) .nil) (.node (o97 P) (.node (o129 P) .nil .nil) .nil)) (.node (o70 P) (.node (o89 P) (.node (o121 P) .nil .nil) .nil) (.node (o105 P) .nil .nil)))))
noncomputable def o130 (P : Params) : Obj := ⟨.type "dict", none, .dict #[⟨PyData.keyHash P "__name__", .str "__name__" 165, .str "gmp.points" 353⟩, ⟨PyData.keyHash P "__doc__", .str "__doc__" 166, .none⟩, ⟨PyData.keyHash P "__package__", .str "__package__" 167, .none⟩, ⟨PyData.keyHash P "__loader__", .str "__loader__" 168, .builtin "__main__.__loader__#opaque"⟩, ⟨PyData.keyHash P "__spec__", .str "__spec__" 169, .none⟩, ⟨PyData.keyHash P "__annotations__", .str "__annotations__" 170, .ref 6⟩, ⟨PyData.keyHash P "__builtins__", .str "__builtins__" 171, .ref 4⟩, ⟨PyData.keyHash P "__file__", .str "__file__" 173, .str "/claim/cut.py" 172⟩, ⟨PyData.keyHash P "__cached__", .str "__cached__" 174, .none⟩, ⟨PyData.keyHash P "GmpError", .str "GmpError" 208, .ref 24⟩, ⟨PyData.keyHash P "NotExact", .str "NotExact" 224, .ref 37⟩, ⟨PyData.keyHash P "OutOfRange", .str "OutOfRange" 240, .ref 49⟩, ⟨PyData.keyHash P "normal", .str "normal" 248, .ref 58⟩, ⟨PyData.keyHash P "nat_of", .str "nat_of" 258, .ref 65⟩, ⟨PyData.keyHash P "compare", .str "compare" 267, .ref 72⟩, ⟨PyData.keyHash P "add", .str "add" 280, .ref 79⟩, ⟨PyData.keyHash P "sub", .str "sub" 294, .ref 86⟩, ⟨PyData.keyHash P "shift_left", .str "shift_left" 309, .ref 93⟩, ⟨PyData.keyHash P "signed", .str "signed" 319, .ref 100⟩, ⟨PyData.keyHash P "s_of", .str "s_of" 327, .ref 107⟩, ⟨PyData.keyHash P "s_neg", .str "s_neg" 334, .ref 114⟩, ⟨PyData.keyHash P "s_add", .str "s_add" 343, .ref 121⟩, ⟨PyData.keyHash P "s_sub", .str "s_sub" 352, .ref 128⟩, ⟨PyData.keyHash P "scaled", .str "scaled" 363, .ref 135⟩, ⟨PyData.keyHash P "exact_small", .str "exact_small" 376, .ref 142⟩, ⟨PyData.keyHash P "halves_of", .str "halves_of" 385, .ref 149⟩, ⟨PyData.keyHash P "natural", .str "natural" 392, .ref 156⟩, ⟨PyData.keyHash P "from_four", .str "from_four" 398, .ref 161⟩, ⟨PyData.keyHash P "from_five", .str "from_five" 404, .ref 166⟩] 29, #[]⟩
noncomputable def sts130 : List Stmt := (bd.drop 9).take 14
noncomputable def o131 (P : Params) : Obj := ⟨.none, none, .fields #[.int 2 0, .int 0 0, .ref 20, .int 4 0, .int 0 0, .ref 33, .int 6 0, .int 0 0, .ref 45, .int 8 0, .int 0 0, .ref 57, .int 13 0, .int 0 0, .ref 64, .int 21 0, .int 0 0, .ref 71, .int 28 0, .int 0 0, .ref 78, .int 43 0, .int 0 0, .ref 85, .int 52 0, .int 0 0, .ref 92, .int 65 0, .int 0 0, .ref 99, .int 67 0, .int 0 0, .ref 106, .int 69 0, .int 0 0, .ref 113, .int 71 0, .int 0 0, .ref 120, .int 77 0, .int 0 0, .ref 127, .int 80 0, .int 0 0, .ref 134, .int 82 0, .int 0 0, .ref 141, .int 91 0, .int 0 0, .ref 148, .int 93 0, .int 0 0, .ref 155, .int 97 0, .int 0 0, .ref 160, .int 102 0, .int 0 0, .ref 165], #[]⟩
noncomputable def o132 (P : Params) : Obj := ⟨.type "tuple", none, .seq #[] 0, #[]⟩
noncomputable def o133 (P : Params) : Obj := ⟨.none, none, .fields #[], #[]⟩
noncomputable def o134 (P : Params) : Obj := ⟨.type "tuple", none, .seq #[.str "a" 298, .str "n" 299, .str "w" 300, .str "spots" 301, .str "few" 302, .str "found" 303, .str "carry" 304, .str "mask" 305, .str "one" 306] 0, #[]⟩
noncomputable def o135 (P : Params) : Obj := ⟨.type "tuple", none, .seq #[] 0, #[]⟩
noncomputable def o136 (P : Params) : Obj := ⟨.none, none, .func ⟨"shift_left", "shift_left", fA 9, .stmts (fB 9), fS 9, 0, [], .none, .none, .none, .none, none, .none, .none, 0⟩, #[]⟩
noncomputable def o137 (P : Params) : Obj := ⟨.type "code", none, .fields #[.str "shift_left" 295, .str "shift_left" 296, .str "/claim/cut.py" 297, .int 52 0, .int 3 0, .int 0 0, .int 0 0, .int 3 0, .ref 87, .bool true, .int 181 0, .ref 88, .none, .ref 89, .ref 90, .ref 91, .int 307 0, .int 52 0, .str "/claim/cut.py" 308], #[]⟩
noncomputable def o138 (P : Params) : Obj := ⟨.type "function", none, .func ⟨"shift_left", "shift_left", fA 9, .stmts (fB 9), fS 9, 3, [], .none, .none, .none, .str "gmp.limbs" 187, none, .ref 92, .none, 0⟩, #[]⟩
noncomputable def o139 (P : Params) : Obj := ⟨.type "tuple", none, .seq #[] 0, #[]⟩
noncomputable def o140 (P : Params) : Obj := ⟨.none, none, .fields #[], #[]⟩
noncomputable def o141 (P : Params) : Obj := ⟨.type "tuple", none, .seq #[.str "is_below" 315, .str "nat" 316] 0, #[]⟩
noncomputable def o142 (P : Params) : Obj := ⟨.type "tuple", none, .seq #[] 0, #[]⟩
noncomputable def o143 (P : Params) : Obj := ⟨.none, none, .func ⟨"signed", "signed", fA 11, .stmts (fB 11), fS 11, 0, [], .none, .none, .none, .none, none, .none, .none, 0⟩, #[]⟩
noncomputable def o144 (P : Params) : Obj := ⟨.type "code", none, .fields #[.str "signed" 312, .str "signed" 313, .str "/claim/cut.py" 314, .int 65 0, .int 2 0, .int 0 0, .int 0 0, .int 3 0, .ref 94, .bool true, .int 181 0, .ref 95, .none, .ref 96, .ref 97, .ref 98, .int 317 0, .int 65 0, .str "/claim/cut.py" 318], #[]⟩
noncomputable def o145 (P : Params) : Obj := ⟨.type "function", none, .func ⟨"signed", "signed", fA 11, .stmts (fB 11), fS 11, 3, [], .none, .none, .none, .str "gmp.signed" 310, none, .ref 99, .none, 0⟩, #[]⟩
noncomputable def o146 (P : Params) : Obj := ⟨.type "tuple", none, .seq #[] 0, #[]⟩
noncomputable def o147 (P : Params) : Obj := ⟨.none, none, .fields #[], #[]⟩
noncomputable def o148 (P : Params) : Obj := ⟨.type "tuple", none, .seq #[.str "number" 323, .str "w" 324] 0, #[]⟩
noncomputable def o149 (P : Params) : Obj := ⟨.type "tuple", none, .seq #[] 0, #[]⟩
noncomputable def o150 (P : Params) : Obj := ⟨.none, none, .func ⟨"s_of", "s_of", fA 12, .stmts (fB 12), fS 12, 0, [], .none, .none, .none, .none, none, .none, .none, 0⟩, #[]⟩
noncomputable def o151 (P : Params) : Obj := ⟨.type "code", none, .fields #[.str "s_of" 320, .str "s_of" 321, .str "/claim/cut.py" 322, .int 67 0, .int 2 0, .int 0 0, .int 0 0, .int 3 0, .ref 101, .bool true, .int 181 0, .ref 102, .none, .ref 103, .ref 104, .ref 105, .int 325 0, .int 67 0, .str "/claim/cut.py" 326], #[]⟩
noncomputable def o152 (P : Params) : Obj := ⟨.type "function", none, .func ⟨"s_of", "s_of", fA 12, .stmts (fB 12), fS 12, 3, [], .none, .none, .none, .str "gmp.signed" 310, none, .ref 106, .none, 0⟩, #[]⟩
noncomputable def o153 (P : Params) : Obj := ⟨.type "tuple", none, .seq #[] 0, #[]⟩
noncomputable def o154 (P : Params) : Obj := ⟨.none, none, .fields #[], #[]⟩
noncomputable def o155 (P : Params) : Obj := ⟨.type "tuple", none, .seq #[.str "x" 331] 0, #[]⟩
noncomputable def o156 (P : Params) : Obj := ⟨.type "tuple", none, .seq #[] 0, #[]⟩
noncomputable def o157 (P : Params) : Obj := ⟨.none, none, .func ⟨"s_neg", "s_neg", fA 13, .stmts (fB 13), fS 13, 0, [], .none, .none, .none, .none, none, .none, .none, 0⟩, #[]⟩
noncomputable def o158 (P : Params) : Obj := ⟨.type "code", none, .fields #[.str "s_neg" 328, .str "s_neg" 329, .str "/claim/cut.py" 330, .int 69 0, .int 1 0, .int 0 0, .int 0 0, .int 3 0, .ref 108, .bool true, .int 181 0, .ref 109, .none, .ref 110, .ref 111, .ref 112, .int 332 0, .int 69 0, .str "/claim/cut.py" 333], #[]⟩
noncomputable def o159 (P : Params) : Obj := ⟨.type "function", none, .func ⟨"s_neg", "s_neg", fA 13, .stmts (fB 13), fS 13, 3, [], .none, .none, .none, .str "gmp.signed" 310, none, .ref 113, .none, 0⟩, #[]⟩
noncomputable def o160 (P : Params) : Obj := ⟨.type "tuple", none, .seq #[] 0, #[]⟩
noncomputable def o161 (P : Params) : Obj := ⟨.none, none, .fields #[], #[]⟩
noncomputable def o162 (P : Params) : Obj := ⟨.type "tuple", none, .seq #[.str "x" 338, .str "y" 339, .str "w" 340] 0, #[]⟩
noncomputable def o163 (P : Params) : Obj := ⟨.type "tuple", none, .seq #[] 0, #[]⟩
noncomputable def o164 (P : Params) : Obj := ⟨.none, none, .func ⟨"s_add", "s_add", fA 14, .stmts (fB 14), fS 14, 0, [], .none, .none, .none, .none, none, .none, .none, 0⟩, #[]⟩
noncomputable def o165 (P : Params) : Obj := ⟨.type "code", none, .fields #[.str "s_add" 335, .str "s_add" 336, .str "/claim/cut.py" 337, .int 71 0, .int 3 0, .int 0 0, .int 0 0, .int 3 0, .ref 115, .bool true, .int 181 0, .ref 116, .none, .ref 117, .ref 118, .ref 119, .int 341 0, .int 71 0, .str "/claim/cut.py" 342], #[]⟩
noncomputable def o166 (P : Params) : Obj := ⟨.type "function", none, .func ⟨"s_add", "s_add", fA 14, .stmts (fB 14), fS 14, 3, [], .none, .none, .none, .str "gmp.signed" 310, none, .ref 120, .none, 0⟩, #[]⟩
noncomputable def o167 (P : Params) : Obj := ⟨.type "tuple", none, .seq #[] 0, #[]⟩
noncomputable def o168 (P : Params) : Obj := ⟨.none, none, .fields #[], #[]⟩
noncomputable def o169 (P : Params) : Obj := ⟨.type "tuple", none, .seq #[.str "x" 347, .str "y" 348, .str "w" 349] 0, #[]⟩
noncomputable def o170 (P : Params) : Obj := ⟨.type "tuple", none, .seq #[] 0, #[]⟩
noncomputable def o171 (P : Params) : Obj := ⟨.none, none, .func ⟨"s_sub", "s_sub", fA 15, .stmts (fB 15), fS 15, 0, [], .none, .none, .none, .none, none, .none, .none, 0⟩, #[]⟩
noncomputable def o172 (P : Params) : Obj := ⟨.type "code", none, .fields #[.str "s_sub" 344, .str "s_sub" 345, .str "/claim/cut.py" 346, .int 77 0, .int 3 0, .int 0 0, .int 0 0, .int 3 0, .ref 122, .bool true, .int 181 0, .ref 123, .none, .ref 124, .ref 125, .ref 126, .int 350 0, .int 77 0, .str "/claim/cut.py" 351], #[]⟩
noncomputable def o173 (P : Params) : Obj := ⟨.type "function", none, .func ⟨"s_sub", "s_sub", fA 15, .stmts (fB 15), fS 15, 3, [], .none, .none, .none, .str "gmp.signed" 310, none, .ref 127, .none, 0⟩, #[]⟩
noncomputable def o174 (P : Params) : Obj := ⟨.type "tuple", none, .seq #[] 0, #[]⟩
noncomputable def o175 (P : Params) : Obj := ⟨.none, none, .fields #[], #[]⟩
noncomputable def o176 (P : Params) : Obj := ⟨.type "tuple", none, .seq #[.str "x" 358, .str "n" 359, .str "w" 360] 0, #[]⟩
noncomputable def o177 (P : Params) : Obj := ⟨.type "tuple", none, .seq #[] 0, #[]⟩
noncomputable def o178 (P : Params) : Obj := ⟨.none, none, .func ⟨"scaled", "scaled", fA 17, .stmts (fB 17), fS 17, 0, [], .none, .none, .none, .none, none, .none, .none, 0⟩, #[]⟩
noncomputable def o179 (P : Params) : Obj := ⟨.type "code", none, .fields #[.str "scaled" 355, .str "scaled" 356, .str "/claim/cut.py" 357, .int 80 0, .int 3 0, .int 0 0, .int 0 0, .int 3 0, .ref 129, .bool true, .int 181 0, .ref 130, .none, .ref 131, .ref 132, .ref 133, .int 361 0, .int 80 0, .str "/claim/cut.py" 362], #[]⟩
noncomputable def o180 (P : Params) : Obj := ⟨.type "function", none, .func ⟨"scaled", "scaled", fA 17, .stmts (fB 17), fS 17, 3, [], .none, .none, .none, .str "gmp.points" 353, none, .ref 134, .none, 0⟩, #[]⟩
noncomputable def o181 (P : Params) : Obj := ⟨.type "tuple", none, .seq #[] 0, #[]⟩
noncomputable def o182 (P : Params) : Obj := ⟨.none, none, .fields #[], #[]⟩
noncomputable def o183 (P : Params) : Obj := ⟨.type "tuple", none, .seq #[.str "x" 367, .str "d" 368, .str "w" 369, .str "found" 370, .str "rest" 371, .str "limb" 372, .str "whole" 373] 0, #[]⟩
noncomputable def o184 (P : Params) : Obj := ⟨.type "tuple", none, .seq #[] 0, #[]⟩
noncomputable def o185 (P : Params) : Obj := ⟨.none, none, .func ⟨"exact_small", "exact_small", fA 18, .stmts (fB 18), fS 18, 0, [], .none, .none, .none, .none, none, .none, .none, 0⟩, #[]⟩
noncomputable def o186 (P : Params) : Obj := ⟨.type "code", none, .fields #[.str "exact_small" 364, .str "exact_small" 365, .str "/claim/cut.py" 366, .int 82 0, .int 3 0, .int 0 0, .int 0 0, .int 3 0, .ref 136, .bool true, .int 181 0, .ref 137, .none, .ref 138, .ref 139, .ref 140, .int 374 0, .int 82 0, .str "/claim/cut.py" 375], #[]⟩
noncomputable def o187 (P : Params) : Obj := ⟨.type "function", none, .func ⟨"exact_small", "exact_small", fA 18, .stmts (fB 18), fS 18, 3, [], .none, .none, .none, .str "gmp.points" 353, none, .ref 141, .none, 0⟩, #[]⟩
noncomputable def o188 (P : Params) : Obj := ⟨.type "tuple", none, .seq #[] 0, #[]⟩
noncomputable def o189 (P : Params) : Obj := ⟨.none, none, .fields #[], #[]⟩
noncomputable def o190 (P : Params) : Obj := ⟨.type "tuple", none, .seq #[.str "plus" 380, .str "minus" 381, .str "w" 382] 0, #[]⟩
noncomputable def o191 (P : Params) : Obj := ⟨.type "tuple", none, .seq #[] 0, #[]⟩
noncomputable def o192 (P : Params) : Obj := ⟨.none, none, .func ⟨"halves_of", "halves_of", fA 19, .stmts (fB 19), fS 19, 0, [], .none, .none, .none, .none, none, .none, .none, 0⟩, #[]⟩
noncomputable def o193 (P : Params) : Obj := ⟨.type "code", none, .fields #[.str "halves_of" 377, .str "halves_of" 378, .str "/claim/cut.py" 379, .int 91 0, .int 3 0, .int 0 0, .int 0 0, .int 3 0, .ref 143, .bool true, .int 181 0, .ref 144, .none, .ref 145, .ref 146, .ref 147, .int 383 0, .int 91 0, .str "/claim/cut.py" 384], #[]⟩
noncomputable def o194 (P : Params) : Obj := ⟨.type "function", none, .func ⟨"halves_of", "halves_of", fA 19, .stmts (fB 19), fS 19, 3, [], .none, .none, .none, .str "gmp.points" 353, none, .ref 148, .none, 0⟩, #[]⟩
noncomputable def o195 (P : Params) : Obj := ⟨.type "tuple", none, .seq #[] 0, #[]⟩
noncomputable def o196 (P : Params) : Obj := ⟨.none, none, .fields #[], #[]⟩
noncomputable def o197 (P : Params) : Obj := ⟨.type "tuple", none, .seq #[.str "x" 389] 0, #[]⟩
noncomputable def o198 (P : Params) : Obj := ⟨.type "tuple", none, .seq #[] 0, #[]⟩
noncomputable def o199 (P : Params) : Obj := ⟨.none, none, .func ⟨"natural", "natural", fA 20, .stmts (fB 20), fS 20, 0, [], .none, .none, .none, .none, none, .none, .none, 0⟩, #[]⟩
noncomputable def o200 (P : Params) : Obj := ⟨.type "code", none, .fields #[.str "natural" 386, .str "natural" 387, .str "/claim/cut.py" 388, .int 93 0, .int 1 0, .int 0 0, .int 0 0, .int 3 0, .ref 150, .bool true, .int 181 0, .ref 151, .none, .ref 152, .ref 153, .ref 154, .int 390 0, .int 93 0, .str "/claim/cut.py" 391], #[]⟩
noncomputable def o201 (P : Params) : Obj := ⟨.type "function", none, .func ⟨"natural", "natural", fA 20, .stmts (fB 20), fS 20, 3, [], .none, .none, .none, .str "gmp.points" 353, none, .ref 155, .none, 0⟩, #[]⟩
noncomputable def o202 (P : Params) : Obj := ⟨.type "tuple", none, .seq #[] 0, #[]⟩
noncomputable def o203 (P : Params) : Obj := ⟨.none, none, .fields #[], #[]⟩
noncomputable def o204 (P : Params) : Obj := ⟨.none, none, .func ⟨"from_four", "from_four", fA 21, .stmts (fB 21), fS 21, 0, [], .none, .none, .none, .none, none, .none, .none, 0⟩, #[]⟩
noncomputable def o205 (P : Params) : Obj := ⟨.type "code", none, .fields #[.str "from_four" 393, .str "from_four" 394, .str "/claim/cut.py" 395, .int 97 0, .int 5 0, .int 0 0, .int 0 0, .int 3 0, .ref 157, .bool true, .int 181 0, .ref 158, .none, .none, .none, .ref 159, .int 396 0, .int 97 0, .str "/claim/cut.py" 397], #[]⟩
noncomputable def o206 (P : Params) : Obj := ⟨.type "function", none, .func ⟨"from_four", "from_four", fA 21, .stmts (fB 21), fS 21, 3, [], .none, .none, .none, .str "gmp.points" 353, none, .ref 160, .none, 0⟩, #[]⟩
noncomputable def o207 (P : Params) : Obj := ⟨.type "tuple", none, .seq #[] 0, #[]⟩
noncomputable def o208 (P : Params) : Obj := ⟨.none, none, .fields #[], #[]⟩
noncomputable def o209 (P : Params) : Obj := ⟨.none, none, .func ⟨"from_five", "from_five", fA 22, .stmts (fB 22), fS 22, 0, [], .none, .none, .none, .none, none, .none, .none, 0⟩, #[]⟩
noncomputable def o210 (P : Params) : Obj := ⟨.type "code", none, .fields #[.str "from_five" 399, .str "from_five" 400, .str "/claim/cut.py" 401, .int 102 0, .int 6 0, .int 0 0, .int 0 0, .int 3 0, .ref 162, .bool true, .int 181 0, .ref 163, .none, .none, .none, .ref 164, .int 402 0, .int 102 0, .str "/claim/cut.py" 403], #[]⟩
noncomputable def o211 (P : Params) : Obj := ⟨.type "function", none, .func ⟨"from_five", "from_five", fA 22, .stmts (fB 22), fS 22, 3, [], .none, .none, .none, .str "gmp.points" 353, none, .ref 165, .none, 0⟩, #[]⟩
noncomputable def tree211 (P : Params) : BT := .node (boot_o_0 P) (.node (boot_o_1 P) (.node (o130 P) (.node (boot_o_7 P) (.node (o52 P) (.node (o71 P) (.node (o106 P) (.node (o172 P) .nil .nil) .nil) (.node (o140 P) (.node (o204 P) .nil .nil) .nil)) (.node (o90 P) (.node (o122 P) (.node (o188 P) .nil .nil) .nil) (.node (o156 P) .nil .nil))) (.node (o60 P) (.node (o79 P) (.node (o114 P) (.node (o180 P) .nil .nil) .nil) (.node (o148 P) .nil .nil)) (.node (o98 P) (.node (o132 P) (.node (o196 P) .nil .nil) .nil) (.node (o164 P) .nil .nil)))) (.node (o43 P) (.node (o56 P) (.node (o75 P) (.node (o110 P) (.node (o176 P) .nil .nil) .nil) (.node (o144 P) (.node (o208 P) .nil .nil) .nil)) (.node (o94 P) (.node (o126 P) (.node (o192 P) .nil .nil) .nil) (.node (o160 P) .nil .nil))) (.node (o64 P) (.node (o86 P) (.node (o118 P) (.node (o184 P) .nil .nil) .nil) (.node (o152 P) .nil .nil)) (.node (o102 P) (.node (o136 P) (.node (o200 P) .nil .nil) .nil) (.node (o168 P) .nil .nil))))) (.node (boot_o_5 P) (.node (boot_o_9 P) (.node (o54 P) (.node (o73 P) (.node (o108 P) (.node (o174 P) .nil .nil) .nil) (.node (o142 P) (.node (o206 P) .nil .nil) .nil)) (.node (o92 P) (.node (o124 P) (.node (o190 P) .nil .nil) .nil) (.node (o158 P) .nil .nil))) (.node (o62 P) (.node (o84 P) (.node (o116 P) (.node (o182 P) .nil .nil) .nil) (.node (o150 P) .nil .nil)) (.node (o100 P) (.node (o134 P) (.node (o198 P) .nil .nil) .nil) (.node (o166 P) .nil .nil)))) (.node (o45 P) (.node (o58 P) (.node (o77 P) (.node (o112 P) (.node (o178 P) .nil .nil) .nil) (.node (o146 P) (.node (o210 P) .nil .nil) .nil)) (.node (o96 P) (.node (o128 P) (.node (o194 P) .nil .nil) .nil) (.node (o162 P) .nil .nil))) (.node (o69 P) (.node (o88 P) (.node (o120 P) (.node (o186 P) .nil .nil) .nil) (.node (o154 P) .nil .nil)) (.node (o104 P) (.node (o138 P) (.node (o202 P) .nil .nil) .nil) (.node (o170 P) .nil .nil)))))) (.node (o49 P) (.node (boot_o_4 P) (.node (boot_o_8 P) (.node (o53 P) (.node (o72 P) (.node (o107 P) (.node (o173 P) .nil .nil) .nil) (.node (o141 P) (.node (o205 P) .nil .nil) .nil)) (.node (o91 P) (.node (o123 P) (.node (o189 P) .nil .nil) .nil) (.node (o157 P) .nil .nil))) (.node (o82 P) (.node (o83 P) (.node (o115 P) (.node (o181 P) .nil .nil) .nil) (.node (o149 P) .nil .nil)) (.node (o99 P) (.node (o133 P) (.node (o197 P) .nil .nil) .nil) (.node (o165 P) .nil .nil)))) (.node (o131 P) (.node (o57 P) (.node (o76 P) (.node (o111 P) (.node (o177 P) .nil .nil) .nil) (.node (o145 P) (.node (o209 P) .nil .nil) .nil)) (.node (o95 P) (.node (o127 P) (.node (o193 P) .nil .nil) .nil) (.node (o161 P) .nil .nil))) (.node (o68 P) (.node (o87 P) (.node (o119 P) (.node (o185 P) .nil .nil) .nil) (.node (o153 P) .nil .nil)) (.node (o103 P) (.node (o137 P) (.node (o201 P) .nil .nil) .nil) (.node (o169 P) .nil .nil))))) (.node (boot_o_6 P) (.node (boot_o_10 P) (.node (o55 P) (.node (o74 P) (.node (o109 P) (.node (o175 P) .nil .nil) .nil) (.node (o143 P) (.node (o207 P) .nil .nil) .nil)) (.node (o93 P) (.node (o125 P) (.node (o191 P) .nil .nil) .nil) (.node (o159 P) .nil .nil))) (.node (o63 P) (.node (o85 P) (.node (o117 P) (.node (o183 P) .nil .nil) .nil) (.node (o151 P) .nil .nil)) (.node (o101 P) (.node (o135 P) (.node (o199 P) .nil .nil) .nil) (.node (o167 P) .nil .nil)))) (.node (o46 P) (.node (o59 P) (.node (o78 P) (.node (o113 P) (.node (o179 P) .nil .nil) .nil) (.node (o147 P) (.node (o211 P) .nil .nil) .nil)) (.node (o97 P) (.node (o129 P) (.node (o195 P) .nil .nil) .nil) (.node (o163 P) .nil .nil))) (.node (o70 P) (.node (o89 P) (.node (o121 P) (.node (o187 P) .nil .nil) .nil) (.node (o155 P) .nil .nil)) (.node (o105 P) (.node (o139 P) (.node (o203 P) .nil .nil) .nil) (.node (o171 P) .nil .nil))))))
noncomputable def o212 (P : Params) : Obj := ⟨.type "dict", none, .dict #[⟨PyData.keyHash P "__name__", .str "__name__" 165, .str "law_pq0539_01" 439⟩, ⟨PyData.keyHash P "__doc__", .str "__doc__" 166, .none⟩, ⟨PyData.keyHash P "__package__", .str "__package__" 167, .none⟩, ⟨PyData.keyHash P "__loader__", .str "__loader__" 168, .builtin "__main__.__loader__#opaque"⟩, ⟨PyData.keyHash P "__spec__", .str "__spec__" 169, .none⟩, ⟨PyData.keyHash P "__annotations__", .str "__annotations__" 170, .ref 6⟩, ⟨PyData.keyHash P "__builtins__", .str "__builtins__" 171, .ref 4⟩, ⟨PyData.keyHash P "__file__", .str "__file__" 173, .str "/claim/cut.py" 172⟩, ⟨PyData.keyHash P "__cached__", .str "__cached__" 174, .none⟩, ⟨PyData.keyHash P "GmpError", .str "GmpError" 208, .ref 24⟩, ⟨PyData.keyHash P "NotExact", .str "NotExact" 224, .ref 37⟩, ⟨PyData.keyHash P "OutOfRange", .str "OutOfRange" 240, .ref 49⟩, ⟨PyData.keyHash P "normal", .str "normal" 248, .ref 58⟩, ⟨PyData.keyHash P "nat_of", .str "nat_of" 258, .ref 65⟩, ⟨PyData.keyHash P "compare", .str "compare" 267, .ref 72⟩, ⟨PyData.keyHash P "add", .str "add" 280, .ref 79⟩, ⟨PyData.keyHash P "sub", .str "sub" 294, .ref 86⟩, ⟨PyData.keyHash P "shift_left", .str "shift_left" 309, .ref 93⟩, ⟨PyData.keyHash P "signed", .str "signed" 319, .ref 100⟩, ⟨PyData.keyHash P "s_of", .str "s_of" 327, .ref 107⟩, ⟨PyData.keyHash P "s_neg", .str "s_neg" 334, .ref 114⟩, ⟨PyData.keyHash P "s_add", .str "s_add" 343, .ref 121⟩, ⟨PyData.keyHash P "s_sub", .str "s_sub" 352, .ref 128⟩, ⟨PyData.keyHash P "scaled", .str "scaled" 363, .ref 135⟩, ⟨PyData.keyHash P "exact_small", .str "exact_small" 376, .ref 142⟩, ⟨PyData.keyHash P "halves_of", .str "halves_of" 385, .ref 149⟩, ⟨PyData.keyHash P "natural", .str "natural" 392, .ref 156⟩, ⟨PyData.keyHash P "from_four", .str "from_four" 398, .ref 161⟩, ⟨PyData.keyHash P "from_five", .str "from_five" 404, .ref 166⟩, ⟨PyData.keyHash P "even_coefficients", .str "even_coefficients" 418, .ref 173⟩, ⟨PyData.keyHash P "odd_coefficients", .str "odd_coefficients" 432, .ref 180⟩, ⟨PyData.keyHash P "from_seven", .str "from_seven" 438, .ref 185⟩, ⟨PyData.keyHash P "_law_worth", .str "_law_worth" 446, .ref 190⟩, ⟨PyData.keyHash P "_law_at", .str "_law_at" 452, .ref 195⟩, ⟨PyData.keyHash P "_law_values", .str "_law_values" 461, .ref 202⟩, ⟨PyData.keyHash P "_law_four", .str "_law_four" 472, .ref 209⟩, ⟨PyData.keyHash P "_law_five", .str "_law_five" 487, .ref 216⟩, ⟨PyData.keyHash P "_law_seven", .str "_law_seven" 510, .ref 223⟩, ⟨PyData.keyHash P "_law_due", .str "_law_due" 516, .ref 228⟩, ⟨PyData.keyHash P "_law_heard", .str "_law_heard" 522, .ref 233⟩, ⟨PyData.keyHash P "law", .str "law" 528, .ref 238⟩] 41, #[]⟩
noncomputable def sts212 : List Stmt := (bd.drop 23).take 13
noncomputable def o213 (P : Params) : Obj := ⟨.none, none, .fields #[.int 2 0, .int 0 0, .ref 20, .int 4 0, .int 0 0, .ref 33, .int 6 0, .int 0 0, .ref 45, .int 8 0, .int 0 0, .ref 57, .int 13 0, .int 0 0, .ref 64, .int 21 0, .int 0 0, .ref 71, .int 28 0, .int 0 0, .ref 78, .int 43 0, .int 0 0, .ref 85, .int 52 0, .int 0 0, .ref 92, .int 65 0, .int 0 0, .ref 99, .int 67 0, .int 0 0, .ref 106, .int 69 0, .int 0 0, .ref 113, .int 71 0, .int 0 0, .ref 120, .int 77 0, .int 0 0, .ref 127, .int 80 0, .int 0 0, .ref 134, .int 82 0, .int 0 0, .ref 141, .int 91 0, .int 0 0, .ref 148, .int 93 0, .int 0 0, .ref 155, .int 97 0, .int 0 0, .ref 160, .int 102 0, .int 0 0, .ref 165, .int 111 0, .int 0 0, .ref 172, .int 116 0, .int 0 0, .ref 179, .int 122 0, .int 0 0, .ref 184, .int 131 0, .int 0 0, .ref 189, .int 133 0, .int 0 0, .ref 194, .int 135 0, .int 0 0, .ref 201, .int 142 0, .int 0 0, .ref 208, .int 145 0, .int 0 0, .ref 215, .int 151 0, .int 0 0, .ref 222, .int 160 0, .int 0 0, .ref 227, .int 165 0, .int 0 0, .ref 232, .int 177 0, .int 0 0, .ref 237], #[]⟩
noncomputable def o214 (P : Params) : Obj := ⟨.type "tuple", none, .seq #[] 0, #[]⟩
noncomputable def o215 (P : Params) : Obj := ⟨.none, none, .fields #[], #[]⟩
noncomputable def o216 (P : Params) : Obj := ⟨.type "tuple", none, .seq #[.str "even_one" 408, .str "even_two" 409, .str "at_zero" 410, .str "at_far" 411, .str "w" 412, .str "one" 413, .str "two" 414, .str "fourth" 415] 0, #[]⟩
noncomputable def o217 (P : Params) : Obj := ⟨.type "tuple", none, .seq #[] 0, #[]⟩
noncomputable def o218 (P : Params) : Obj := ⟨.none, none, .func ⟨"even_coefficients", "even_coefficients", fA 23, .stmts (fB 23), fS 23, 0, [], .none, .none, .none, .none, none, .none, .none, 0⟩, #[]⟩
noncomputable def o219 (P : Params) : Obj := ⟨.type "code", none, .fields #[.str "even_coefficients" 405, .str "even_coefficients" 406, .str "/claim/cut.py" 407, .int 111 0, .int 5 0, .int 0 0, .int 0 0, .int 3 0, .ref 167, .bool true, .int 181 0, .ref 168, .none, .ref 169, .ref 170, .ref 171, .int 416 0, .int 111 0, .str "/claim/cut.py" 417], #[]⟩
noncomputable def o220 (P : Params) : Obj := ⟨.type "function", none, .func ⟨"even_coefficients", "even_coefficients", fA 23, .stmts (fB 23), fS 23, 3, [], .none, .none, .none, .str "gmp.points" 353, none, .ref 172, .none, 0⟩, #[]⟩
noncomputable def o221 (P : Params) : Obj := ⟨.type "tuple", none, .seq #[] 0, #[]⟩
noncomputable def o222 (P : Params) : Obj := ⟨.none, none, .fields #[], #[]⟩
noncomputable def o223 (P : Params) : Obj := ⟨.type "tuple", none, .seq #[.str "odd_one" 422, .str "odd_two" 423, .str "odd_half" 424, .str "w" 425, .str "low" 426, .str "high" 427, .str "third" 428, .str "fifth" 429] 0, #[]⟩
noncomputable def o224 (P : Params) : Obj := ⟨.type "tuple", none, .seq #[] 0, #[]⟩
noncomputable def o225 (P : Params) : Obj := ⟨.none, none, .func ⟨"odd_coefficients", "odd_coefficients", fA 24, .stmts (fB 24), fS 24, 0, [], .none, .none, .none, .none, none, .none, .none, 0⟩, #[]⟩
noncomputable def o226 (P : Params) : Obj := ⟨.type "code", none, .fields #[.str "odd_coefficients" 419, .str "odd_coefficients" 420, .str "/claim/cut.py" 421, .int 116 0, .int 4 0, .int 0 0, .int 0 0, .int 3 0, .ref 174, .bool true, .int 181 0, .ref 175, .none, .ref 176, .ref 177, .ref 178, .int 430 0, .int 116 0, .str "/claim/cut.py" 431], #[]⟩
noncomputable def o227 (P : Params) : Obj := ⟨.type "function", none, .func ⟨"odd_coefficients", "odd_coefficients", fA 24, .stmts (fB 24), fS 24, 3, [], .none, .none, .none, .str "gmp.points" 353, none, .ref 179, .none, 0⟩, #[]⟩
noncomputable def o228 (P : Params) : Obj := ⟨.type "tuple", none, .seq #[] 0, #[]⟩
noncomputable def o229 (P : Params) : Obj := ⟨.none, none, .fields #[], #[]⟩
noncomputable def o230 (P : Params) : Obj := ⟨.none, none, .func ⟨"from_seven", "from_seven", fA 25, .stmts (fB 25), fS 25, 0, [], .none, .none, .none, .none, none, .none, .none, 0⟩, #[]⟩
noncomputable def o231 (P : Params) : Obj := ⟨.type "code", none, .fields #[.str "from_seven" 433, .str "from_seven" 434, .str "/claim/cut.py" 435, .int 122 0, .int 6 0, .int 0 0, .int 0 0, .int 3 0, .ref 181, .bool true, .int 181 0, .ref 182, .none, .none, .none, .ref 183, .int 436 0, .int 122 0, .str "/claim/cut.py" 437], #[]⟩
noncomputable def o232 (P : Params) : Obj := ⟨.type "function", none, .func ⟨"from_seven", "from_seven", fA 25, .stmts (fB 25), fS 25, 3, [], .none, .none, .none, .str "gmp.points" 353, none, .ref 184, .none, 0⟩, #[]⟩
noncomputable def o233 (P : Params) : Obj := ⟨.type "tuple", none, .seq #[] 0, #[]⟩
noncomputable def o234 (P : Params) : Obj := ⟨.none, none, .fields #[], #[]⟩
noncomputable def o235 (P : Params) : Obj := ⟨.none, none, .func ⟨"_law_worth", "_law_worth", fA 27, .stmts (fB 27), fS 27, 0, [], .none, .none, .none, .none, none, .none, .none, 0⟩, #[]⟩
noncomputable def o236 (P : Params) : Obj := ⟨.type "code", none, .fields #[.str "_law_worth" 441, .str "_law_worth" 442, .str "/claim/cut.py" 443, .int 131 0, .int 2 0, .int 0 0, .int 0 0, .int 3 0, .ref 186, .bool true, .int 181 0, .ref 187, .none, .none, .none, .ref 188, .int 444 0, .int 131 0, .str "/claim/cut.py" 445], #[]⟩
noncomputable def o237 (P : Params) : Obj := ⟨.type "function", none, .func ⟨"_law_worth", "_law_worth", fA 27, .stmts (fB 27), fS 27, 3, [], .none, .none, .none, .str "law_pq0539_01" 439, none, .ref 189, .none, 0⟩, #[]⟩
noncomputable def o238 (P : Params) : Obj := ⟨.type "tuple", none, .seq #[] 0, #[]⟩
noncomputable def o239 (P : Params) : Obj := ⟨.none, none, .fields #[], #[]⟩
noncomputable def o240 (P : Params) : Obj := ⟨.none, none, .func ⟨"_law_at", "_law_at", fA 28, .stmts (fB 28), fS 28, 0, [], .none, .none, .none, .none, none, .none, .none, 0⟩, #[]⟩
noncomputable def o241 (P : Params) : Obj := ⟨.type "code", none, .fields #[.str "_law_at" 447, .str "_law_at" 448, .str "/claim/cut.py" 449, .int 133 0, .int 2 0, .int 0 0, .int 0 0, .int 3 0, .ref 191, .bool true, .int 181 0, .ref 192, .none, .none, .none, .ref 193, .int 450 0, .int 133 0, .str "/claim/cut.py" 451], #[]⟩
noncomputable def o242 (P : Params) : Obj := ⟨.type "function", none, .func ⟨"_law_at", "_law_at", fA 28, .stmts (fB 28), fS 28, 3, [], .none, .none, .none, .str "law_pq0539_01" 439, none, .ref 194, .none, 0⟩, #[]⟩
noncomputable def o243 (P : Params) : Obj := ⟨.type "tuple", none, .seq #[] 0, #[]⟩
noncomputable def o244 (P : Params) : Obj := ⟨.none, none, .fields #[], #[]⟩
noncomputable def o245 (P : Params) : Obj := ⟨.type "tuple", none, .seq #[.str "coefficients" 456, .str "many" 457, .str "found" 458] 0, #[]⟩
noncomputable def o246 (P : Params) : Obj := ⟨.type "tuple", none, .seq #[] 0, #[]⟩
noncomputable def o247 (P : Params) : Obj := ⟨.none, none, .func ⟨"_law_values", "_law_values", fA 29, .stmts (fB 29), fS 29, 0, [], .none, .none, .none, .none, none, .none, .none, 0⟩, #[]⟩
noncomputable def o248 (P : Params) : Obj := ⟨.type "code", none, .fields #[.str "_law_values" 453, .str "_law_values" 454, .str "/claim/cut.py" 455, .int 135 0, .int 2 0, .int 0 0, .int 0 0, .int 3 0, .ref 196, .bool true, .int 181 0, .ref 197, .none, .ref 198, .ref 199, .ref 200, .int 459 0, .int 135 0, .str "/claim/cut.py" 460], #[]⟩
noncomputable def o249 (P : Params) : Obj := ⟨.type "function", none, .func ⟨"_law_values", "_law_values", fA 29, .stmts (fB 29), fS 29, 3, [], .none, .none, .none, .str "law_pq0539_01" 439, none, .ref 201, .none, 0⟩, #[]⟩
noncomputable def o250 (P : Params) : Obj := ⟨.type "tuple", none, .seq #[] 0, #[]⟩
noncomputable def o251 (P : Params) : Obj := ⟨.none, none, .fields #[], #[]⟩
noncomputable def o252 (P : Params) : Obj := ⟨.type "tuple", none, .seq #[.str "told" 465, .str "zero" 466, .str "plus" 467, .str "minus" 468, .str "far" 469] 0, #[]⟩
noncomputable def o253 (P : Params) : Obj := ⟨.type "tuple", none, .seq #[] 0, #[]⟩
noncomputable def o254 (P : Params) : Obj := ⟨.none, none, .func ⟨"_law_four", "_law_four", fA 30, .stmts (fB 30), fS 30, 0, [], .none, .none, .none, .none, none, .none, .none, 0⟩, #[]⟩
noncomputable def o255 (P : Params) : Obj := ⟨.type "code", none, .fields #[.str "_law_four" 462, .str "_law_four" 463, .str "/claim/cut.py" 464, .int 142 0, .int 1 0, .int 0 0, .int 0 0, .int 3 0, .ref 203, .bool true, .int 181 0, .ref 204, .none, .ref 205, .ref 206, .ref 207, .int 470 0, .int 142 0, .str "/claim/cut.py" 471], #[]⟩
noncomputable def o256 (P : Params) : Obj := ⟨.type "function", none, .func ⟨"_law_four", "_law_four", fA 30, .stmts (fB 30), fS 30, 3, [], .none, .none, .none, .str "law_pq0539_01" 439, none, .ref 208, .none, 0⟩, #[]⟩
noncomputable def o257 (P : Params) : Obj := ⟨.type "tuple", none, .seq #[] 0, #[]⟩
noncomputable def o258 (P : Params) : Obj := ⟨.none, none, .fields #[], #[]⟩
noncomputable def o259 (P : Params) : Obj := ⟨.type "tuple", none, .seq #[.str "told" 476, .str "zero" 477, .str "plus" 478, .str "minus" 479, .str "two" 480, .str "far" 481, .str "second" 482, .str "odd" 483, .str "third" 484] 0, #[]⟩
noncomputable def o260 (P : Params) : Obj := ⟨.type "tuple", none, .seq #[] 0, #[]⟩
noncomputable def o261 (P : Params) : Obj := ⟨.none, none, .func ⟨"_law_five", "_law_five", fA 31, .stmts (fB 31), fS 31, 0, [], .none, .none, .none, .none, none, .none, .none, 0⟩, #[]⟩
noncomputable def o262 (P : Params) : Obj := ⟨.type "code", none, .fields #[.str "_law_five" 473, .str "_law_five" 474, .str "/claim/cut.py" 475, .int 145 0, .int 1 0, .int 0 0, .int 0 0, .int 3 0, .ref 210, .bool true, .int 181 0, .ref 211, .none, .ref 212, .ref 213, .ref 214, .int 485 0, .int 145 0, .str "/claim/cut.py" 486], #[]⟩
noncomputable def o263 (P : Params) : Obj := ⟨.type "function", none, .func ⟨"_law_five", "_law_five", fA 31, .stmts (fB 31), fS 31, 3, [], .none, .none, .none, .str "law_pq0539_01" 439, none, .ref 215, .none, 0⟩, #[]⟩
noncomputable def o264 (P : Params) : Obj := ⟨.type "tuple", none, .seq #[] 0, #[]⟩
noncomputable def o265 (P : Params) : Obj := ⟨.none, none, .fields #[], #[]⟩
noncomputable def o266 (P : Params) : Obj := ⟨.type "tuple", none, .seq #[.str "told" 491, .str "zero" 492, .str "plus" 493, .str "minus" 494, .str "two" 495, .str "less" 496, .str "half" 497, .str "far" 498, .str "one" 499, .str "four" 500, .str "second" 501, .str "fourth" 502, .str "odd" 503, .str "odd_two" 504, .str "odd_half" 505, .str "third" 506, .str "fifth" 507] 0, #[]⟩
noncomputable def o267 (P : Params) : Obj := ⟨.type "tuple", none, .seq #[] 0, #[]⟩
noncomputable def o268 (P : Params) : Obj := ⟨.none, none, .func ⟨"_law_seven", "_law_seven", fA 32, .stmts (fB 32), fS 32, 0, [], .none, .none, .none, .none, none, .none, .none, 0⟩, #[]⟩
noncomputable def o269 (P : Params) : Obj := ⟨.type "code", none, .fields #[.str "_law_seven" 488, .str "_law_seven" 489, .str "/claim/cut.py" 490, .int 151 0, .int 1 0, .int 0 0, .int 0 0, .int 3 0, .ref 217, .bool true, .int 181 0, .ref 218, .none, .ref 219, .ref 220, .ref 221, .int 508 0, .int 151 0, .str "/claim/cut.py" 509], #[]⟩
noncomputable def o270 (P : Params) : Obj := ⟨.type "function", none, .func ⟨"_law_seven", "_law_seven", fA 32, .stmts (fB 32), fS 32, 3, [], .none, .none, .none, .str "law_pq0539_01" 439, none, .ref 222, .none, 0⟩, #[]⟩
noncomputable def o271 (P : Params) : Obj := ⟨.type "tuple", none, .seq #[] 0, #[]⟩
noncomputable def o272 (P : Params) : Obj := ⟨.none, none, .fields #[], #[]⟩
noncomputable def o273 (P : Params) : Obj := ⟨.none, none, .func ⟨"_law_due", "_law_due", fA 33, .stmts (fB 33), fS 33, 0, [], .none, .none, .none, .none, none, .none, .none, 0⟩, #[]⟩
noncomputable def o274 (P : Params) : Obj := ⟨.type "code", none, .fields #[.str "_law_due" 511, .str "_law_due" 512, .str "/claim/cut.py" 513, .int 160 0, .int 2 0, .int 0 0, .int 0 0, .int 3 0, .ref 224, .bool true, .int 181 0, .ref 225, .none, .none, .none, .ref 226, .int 514 0, .int 160 0, .str "/claim/cut.py" 515], #[]⟩
noncomputable def o275 (P : Params) : Obj := ⟨.type "function", none, .func ⟨"_law_due", "_law_due", fA 33, .stmts (fB 33), fS 33, 3, [], .none, .none, .none, .str "law_pq0539_01" 439, none, .ref 227, .none, 0⟩, #[]⟩
noncomputable def o276 (P : Params) : Obj := ⟨.type "tuple", none, .seq #[] 0, #[]⟩
noncomputable def o277 (P : Params) : Obj := ⟨.none, none, .fields #[], #[]⟩
noncomputable def o278 (P : Params) : Obj := ⟨.none, none, .func ⟨"_law_heard", "_law_heard", fA 34, .stmts (fB 34), fS 34, 0, [], .none, .none, .none, .none, none, .none, .none, 0⟩, #[]⟩
noncomputable def o279 (P : Params) : Obj := ⟨.type "code", none, .fields #[.str "_law_heard" 517, .str "_law_heard" 518, .str "/claim/cut.py" 519, .int 165 0, .int 3 0, .int 0 0, .int 0 0, .int 3 0, .ref 229, .bool true, .int 181 0, .ref 230, .none, .none, .none, .ref 231, .int 520 0, .int 165 0, .str "/claim/cut.py" 521], #[]⟩
noncomputable def o280 (P : Params) : Obj := ⟨.type "function", none, .func ⟨"_law_heard", "_law_heard", fA 34, .stmts (fB 34), fS 34, 3, [], .none, .none, .none, .str "law_pq0539_01" 439, none, .ref 232, .none, 0⟩, #[]⟩
noncomputable def o281 (P : Params) : Obj := ⟨.type "tuple", none, .seq #[] 0, #[]⟩
noncomputable def o282 (P : Params) : Obj := ⟨.none, none, .fields #[], #[]⟩
noncomputable def o283 (P : Params) : Obj := ⟨.none, none, .func ⟨"law", "law", fA 35, .stmts (fB 35), fS 35, 0, [], .none, .none, .none, .none, none, .none, .none, 0⟩, #[]⟩
noncomputable def o284 (P : Params) : Obj := ⟨.type "code", none, .fields #[.str "law" 523, .str "law" 524, .str "/claim/cut.py" 525, .int 177 0, .int 1 0, .int 0 0, .int 0 0, .int 3 0, .ref 234, .bool true, .int 181 0, .ref 235, .none, .none, .none, .ref 236, .int 526 0, .int 177 0, .str "/claim/cut.py" 527], #[]⟩
noncomputable def o285 (P : Params) : Obj := ⟨.type "function", none, .func ⟨"law", "law", fA 35, .stmts (fB 35), fS 35, 3, [], .none, .none, .none, .str "law_pq0539_01" 439, none, .ref 237, .none, 0⟩, #[]⟩
noncomputable def tree285 (P : Params) : BT := .node (boot_o_0 P) (.node (boot_o_1 P) (.node (o212 P) (.node (boot_o_7 P) (.node (o52 P) (.node (o71 P) (.node (o106 P) (.node (o172 P) .nil .nil) (.node (o238 P) .nil .nil)) (.node (o140 P) (.node (o204 P) .nil .nil) (.node (o270 P) .nil .nil))) (.node (o90 P) (.node (o122 P) (.node (o188 P) .nil .nil) (.node (o254 P) .nil .nil)) (.node (o156 P) (.node (o222 P) .nil .nil) .nil))) (.node (o60 P) (.node (o79 P) (.node (o114 P) (.node (o180 P) .nil .nil) (.node (o246 P) .nil .nil)) (.node (o148 P) (.node (o214 P) .nil .nil) (.node (o278 P) .nil .nil))) (.node (o98 P) (.node (o132 P) (.node (o196 P) .nil .nil) (.node (o262 P) .nil .nil)) (.node (o164 P) (.node (o230 P) .nil .nil) .nil)))) (.node (o43 P) (.node (o56 P) (.node (o75 P) (.node (o110 P) (.node (o176 P) .nil .nil) (.node (o242 P) .nil .nil)) (.node (o144 P) (.node (o208 P) .nil .nil) (.node (o274 P) .nil .nil))) (.node (o94 P) (.node (o126 P) (.node (o192 P) .nil .nil) (.node (o258 P) .nil .nil)) (.node (o160 P) (.node (o226 P) .nil .nil) .nil))) (.node (o64 P) (.node (o86 P) (.node (o118 P) (.node (o184 P) .nil .nil) (.node (o250 P) .nil .nil)) (.node (o152 P) (.node (o218 P) .nil .nil) (.node (o282 P) .nil .nil))) (.node (o102 P) (.node (o136 P) (.node (o200 P) .nil .nil) (.node (o266 P) .nil .nil)) (.node (o168 P) (.node (o234 P) .nil .nil) .nil))))) (.node (boot_o_5 P) (.node (boot_o_9 P) (.node (o54 P) (.node (o73 P) (.node (o108 P) (.node (o174 P) .nil .nil) (.node (o240 P) .nil .nil)) (.node (o142 P) (.node (o206 P) .nil .nil) (.node (o272 P) .nil .nil))) (.node (o92 P) (.node (o124 P) (.node (o190 P) .nil .nil) (.node (o256 P) .nil .nil)) (.node (o158 P) (.node (o224 P) .nil .nil) .nil))) (.node (o62 P) (.node (o84 P) (.node (o116 P) (.node (o182 P) .nil .nil) (.node (o248 P) .nil .nil)) (.node (o150 P) (.node (o216 P) .nil .nil) (.node (o280 P) .nil .nil))) (.node (o100 P) (.node (o134 P) (.node (o198 P) .nil .nil) (.node (o264 P) .nil .nil)) (.node (o166 P) (.node (o232 P) .nil .nil) .nil)))) (.node (o45 P) (.node (o58 P) (.node (o77 P) (.node (o112 P) (.node (o178 P) .nil .nil) (.node (o244 P) .nil .nil)) (.node (o146 P) (.node (o210 P) .nil .nil) (.node (o276 P) .nil .nil))) (.node (o96 P) (.node (o128 P) (.node (o194 P) .nil .nil) (.node (o260 P) .nil .nil)) (.node (o162 P) (.node (o228 P) .nil .nil) .nil))) (.node (o69 P) (.node (o88 P) (.node (o120 P) (.node (o186 P) .nil .nil) (.node (o252 P) .nil .nil)) (.node (o154 P) (.node (o220 P) .nil .nil) (.node (o284 P) .nil .nil))) (.node (o104 P) (.node (o138 P) (.node (o202 P) .nil .nil) (.node (o268 P) .nil .nil)) (.node (o170 P) (.node (o236 P) .nil .nil) .nil)))))) (.node (o49 P) (.node (boot_o_4 P) (.node (boot_o_8 P) (.node (o53 P) (.node (o72 P) (.node (o107 P) (.node (o173 P) .nil .nil) (.node (o239 P) .nil .nil)) (.node (o141 P) (.node (o205 P) .nil .nil) (.node (o271 P) .nil .nil))) (.node (o91 P) (.node (o123 P) (.node (o189 P) .nil .nil) (.node (o255 P) .nil .nil)) (.node (o157 P) (.node (o223 P) .nil .nil) .nil))) (.node (o82 P) (.node (o83 P) (.node (o115 P) (.node (o181 P) .nil .nil) (.node (o247 P) .nil .nil)) (.node (o149 P) (.node (o215 P) .nil .nil) (.node (o279 P) .nil .nil))) (.node (o99 P) (.node (o133 P) (.node (o197 P) .nil .nil) (.node (o263 P) .nil .nil)) (.node (o165 P) (.node (o231 P) .nil .nil) .nil)))) (.node (o213 P) (.node (o57 P) (.node (o76 P) (.node (o111 P) (.node (o177 P) .nil .nil) (.node (o243 P) .nil .nil)) (.node (o145 P) (.node (o209 P) .nil .nil) (.node (o275 P) .nil .nil))) (.node (o95 P) (.node (o127 P) (.node (o193 P) .nil .nil) (.node (o259 P) .nil .nil)) (.node (o161 P) (.node (o227 P) .nil .nil) .nil))) (.node (o68 P) (.node (o87 P) (.node (o119 P) (.node (o185 P) .nil .nil) (.node (o251 P) .nil .nil)) (.node (o153 P) (.node (o219 P) .nil .nil) (.node (o283 P) .nil .nil))) (.node (o103 P) (.node (o137 P) (.node (o201 P) .nil .nil) (.node (o267 P) .nil .nil)) (.node (o169 P) (.node (o235 P) .nil .nil) .nil))))) (.node (boot_o_6 P) (.node (boot_o_10 P) (.node (o55 P) (.node (o74 P) (.node (o109 P) (.node (o175 P) .nil .nil) (.node (o241 P) .nil .nil)) (.node (o143 P) (.node (o207 P) .nil .nil) (.node (o273 P) .nil .nil))) (.node (o93 P) (.node (o125 P) (.node (o191 P) .nil .nil) (.node (o257 P) .nil .nil)) (.node (o159 P) (.node (o225 P) .nil .nil) .nil))) (.node (o63 P) (.node (o85 P) (.node (o117 P) (.node (o183 P) .nil .nil) (.node (o249 P) .nil .nil)) (.node (o151 P) (.node (o217 P) .nil .nil) (.node (o281 P) .nil .nil))) (.node (o101 P) (.node (o135 P) (.node (o199 P) .nil .nil) (.node (o265 P) .nil .nil)) (.node (o167 P) (.node (o233 P) .nil .nil) .nil)))) (.node (o46 P) (.node (o59 P) (.node (o78 P) (.node (o113 P) (.node (o179 P) .nil .nil) (.node (o245 P) .nil .nil)) (.node (o147 P) (.node (o211 P) .nil .nil) (.node (o277 P) .nil .nil))) (.node (o97 P) (.node (o129 P) (.node (o195 P) .nil .nil) (.node (o261 P) .nil .nil)) (.node (o163 P) (.node (o229 P) .nil .nil) .nil))) (.node (o70 P) (.node (o89 P) (.node (o121 P) (.node (o187 P) .nil .nil) (.node (o253 P) .nil .nil)) (.node (o155 P) (.node (o221 P) .nil .nil) (.node (o285 P) .nil .nil))) (.node (o105 P) (.node (o139 P) (.node (o203 P) .nil .nil) (.node (o269 P) .nil .nil)) (.node (o171 P) (.node (o237 P) .nil .nil) .nil))))))
noncomputable def heap286 (P : Params) : Heap := ⟨#[boot_o_0 P, boot_o_1 P, o49 P, o212 P, boot_o_4 P, boot_o_5 P, boot_o_6 P, boot_o_7 P, boot_o_8 P, boot_o_9 P, boot_o_10 P, o43 P, o213 P, o45 P, o46 P, o52 P, o53 P, o54 P, o55 P, o56 P, o57 P, o58 P, o59 P, o60 P, o82 P, o62 P, o63 P, o64 P, o68 P, o69 P, o70 P, o71 P, o72 P, o73 P, o74 P, o75 P, o76 P, o77 P, o78 P, o79 P, o83 P, o84 P, o85 P, o86 P, o87 P, o88 P, o89 P, o90 P, o91 P, o92 P, o93 P, o94 P, o95 P, o96 P, o97 P, o98 P, o99 P, o100 P, o101 P, o102 P, o103 P, o104 P, o105 P, o106 P, o107 P, o108 P, o109 P, o110 P, o111 P, o112 P, o113 P, o114 P, o115 P, o116 P, o117 P, o118 P, o119 P, o120 P, o121 P, o122 P, o123 P, o124 P, o125 P, o126 P, o127 P, o128 P, o129 P, o132 P, o133 P, o134 P, o135 P, o136 P, o137 P, o138 P, o139 P, o140 P, o141 P, o142 P, o143 P, o144 P, o145 P, o146 P, o147 P, o148 P, o149 P, o150 P, o151 P, o152 P, o153 P, o154 P, o155 P, o156 P, o157 P, o158 P, o159 P, o160 P, o161 P, o162 P, o163 P, o164 P, o165 P, o166 P, o167 P, o168 P, o169 P, o170 P, o171 P, o172 P, o173 P, o174 P, o175 P, o176 P, o177 P, o178 P, o179 P, o180 P, o181 P, o182 P, o183 P, o184 P, o185 P, o186 P, o187 P, o188 P, o189 P, o190 P, o191 P, o192 P, o193 P, o194 P, o195 P, o196 P, o197 P, o198 P, o199 P, o200 P, o201 P, o202 P, o203 P, o204 P, o205 P, o206 P, o207 P, o208 P, o209 P, o210 P, o211 P, o214 P, o215 P, o216 P, o217 P, o218 P, o219 P, o220 P, o221 P, o222 P, o223 P, o224 P, o225 P, o226 P, o227 P, o228 P, o229 P, o230 P, o231 P, o232 P, o233 P, o234 P, o235 P, o236 P, o237 P, o238 P, o239 P, o240 P, o241 P, o242 P, o243 P, o244 P, o245 P, o246 P, o247 P, o248 P, o249 P, o250 P, o251 P, o252 P, o253 P, o254 P, o255 P, o256 P, o257 P, o258 P, o259 P, o260 P, o261 P, o262 P, o263 P, o264 P, o265 P, o266 P, o267 P, o268 P, o269 P, o270 P, o271 P, o272 P, o273 P, o274 P, o275 P, o276 P, o277 P, o278 P, o279 P, o280 P, o281 P, o282 P, o283 P, o284 P, o285 P], ⟨[], [], [], 0, [], [], false, #[], [], 0, false, false, false, 0, [2000, 10, 10], false, 0, true, [], [], 0, false⟩⟩
noncomputable def kf (P : Params) : Frag := [(2, o49 P), (3, o212 P), (15, o52 P), (22, o59 P), (23, o60 P), (24, o82 P), (25, o62 P), (28, o68 P), (35, o75 P), (36, o76 P), (37, o77 P), (40, o83 P), (47, o90 P), (48, o91 P), (49, o92 P), (52, o95 P), (54, o97 P), (55, o98 P), (57, o100 P), (58, o101 P), (59, o102 P), (61, o104 P), (62, o105 P), (64, o107 P), (65, o108 P), (66, o109 P), (68, o111 P), (69, o112 P), (71, o114 P), (72, o115 P), (73, o116 P), (75, o118 P), (76, o119 P), (78, o121 P), (79, o122 P), (80, o123 P), (82, o125 P), (83, o126 P), (85, o128 P), (86, o129 P), (87, o132 P), (89, o134 P), (90, o135 P), (92, o137 P), (93, o138 P), (94, o139 P), (96, o141 P), (97, o142 P), (99, o144 P), (100, o145 P), (101, o146 P), (103, o148 P), (104, o149 P), (106, o151 P), (107, o152 P), (108, o153 P), (110, o155 P), (111, o156 P), (113, o158 P), (114, o159 P), (115, o160 P), (117, o162 P), (118, o163 P), (120, o165 P), (121, o166 P), (122, o167 P), (124, o169 P), (125, o170 P), (127, o172 P), (128, o173 P), (129, o174 P), (131, o176 P), (132, o177 P), (134, o179 P), (135, o180 P), (136, o181 P), (138, o183 P), (139, o184 P), (141, o186 P), (142, o187 P), (143, o188 P), (145, o190 P), (146, o191 P), (148, o193 P), (149, o194 P), (150, o195 P), (152, o197 P), (153, o198 P), (155, o200 P), (156, o201 P), (157, o202 P), (160, o205 P), (161, o206 P), (162, o207 P), (165, o210 P), (166, o211 P), (167, o214 P), (169, o216 P), (170, o217 P), (172, o219 P), (173, o220 P), (174, o221 P), (176, o223 P), (177, o224 P), (179, o226 P), (180, o227 P), (181, o228 P), (184, o231 P), (185, o232 P), (186, o233 P), (189, o236 P), (190, o237 P), (191, o238 P), (194, o241 P), (195, o242 P), (196, o243 P), (198, o245 P), (199, o246 P), (201, o248 P), (202, o249 P), (203, o250 P), (205, o252 P), (206, o253 P), (208, o255 P), (209, o256 P), (210, o257 P), (212, o259 P), (213, o260 P), (215, o262 P), (216, o263 P), (217, o264 P), (219, o266 P), (220, o267 P), (222, o269 P), (223, o270 P), (224, o271 P), (227, o274 P), (228, o275 P), (229, o276 P), (232, o279 P), (233, o280 P), (234, o281 P), (237, o284 P), (238, o285 P)]
noncomputable def ka : List Addr := [2, 3, 15, 22, 23, 24, 25, 28, 35, 36, 37, 40, 47, 48, 49, 52, 54, 55, 57, 58, 59, 61, 62, 64, 65, 66, 68, 69, 71, 72, 73, 75, 76, 78, 79, 80, 82, 83, 85, 86, 87, 89, 90, 92, 93, 94, 96, 97, 99, 100, 101, 103, 104, 106, 107, 108, 110, 111, 113, 114, 115, 117, 118, 120, 121, 122, 124, 125, 127, 128, 129, 131, 132, 134, 135, 136, 138, 139, 141, 142, 143, 145, 146, 148, 149, 150, 152, 153, 155, 156, 157, 160, 161, 162, 165, 166, 167, 169, 170, 172, 173, 174, 176, 177, 179, 180, 181, 184, 185, 186, 189, 190, 191, 194, 195, 196, 198, 199, 201, 202, 203, 205, 206, 208, 209, 210, 212, 213, 215, 216, 217, 219, 220, 222, 223, 224, 227, 228, 229, 232, 233, 234, 237, 238]

noncomputable abbrev cE : Code := .body (behindTheImports prg) envT
noncomputable abbrev sh (t : BT) (n toks : Nat) (os : OsState) : SharedT := { tree := t, n, life := {}, gens := Array.mk [], drawn := {}, toks, os }
noncomputable abbrev tF : List Frame := [topFrame ⟨0, 0, 0, 0⟩]
noncomputable abbrev ann0 : Option Value := some (.ref 6)

/-- one piece of the top, from tree to tree -/
noncomputable abbrev Pc (n : Nat) (l : List Stmt) (a : Params → BT) (na ta : Nat) (p : Pos) (b : Params → BT) (nb tb : Nat) (q : Pos) : Prop :=
  ∀ w : World, (fun os => segRunT treeTable prg w 11 ann0 1 n (sh (a w.params) na ta os) (piecesOf l envT cE p tF)) = fun os => some (.next, sh (b w.params) nb tb os, cE, q)
theorem pc1 : Pc 206 sts49 tree47 15 187 ⟨0, 0, 0, 0⟩ tree64 28 209 ⟨2, 0, 3, 8⟩ := fun w => by
  rw [Fast.te10110043849684766642, Fast.te14364793385576792824]; kernel_rfl
theorem pc2 : Pc 214 sts65 tree64 28 209 ⟨2, 0, 3, 8⟩ tree79 40 225 ⟨4, 0, 5, 8⟩ := fun w => by
  rw [Fast.te10110043849684766642, Fast.te14364793385576792824]; kernel_rfl
theorem pc3 : Pc 378 sts80 tree79 40 225 ⟨4, 0, 5, 8⟩ tree129 87 295 ⟨43, 0, 51, 24⟩ := fun w => by
  rw [Fast.te10110043849684766642, Fast.te14364793385576792824]; kernel_rfl
theorem pc4 : Pc 385 sts130 tree129 87 295 ⟨43, 0, 51, 24⟩ tree211 167 405 ⟨102, 0, 110, 76⟩ := fun w => by
  rw [Fast.te10110043849684766642, Fast.te14364793385576792824]; kernel_rfl
theorem pc5 : Pc 384 sts212 tree211 167 405 ⟨102, 0, 110, 76⟩ tree285 239 529 ⟨177, 0, 192, 15⟩ := fun w => by
  rw [Fast.te10110043849684766642, Fast.te14364793385576792824]; kernel_rfl
theorem pcA : ∀ w : World, (fun os => topGo treeTable prg w 11 ann0 12 ⟨boot_heap w.params, Array.mk [], boot_drawn, boot_toks, os⟩ (topStub prg)) = fun os => some (⟨heap46 w.params, Array.mk [], {}, 187, os⟩, ⟨denote treeTable cE, cE, ⟨0, 0, 0, 0⟩, tF⟩) := fun w => by
  rw [Fast.te15667345088766844465, Fast.te11892475500146522536, Fast.te14364793385576792824]; kernel_rfl
theorem pcB : ∀ w : World, (fun os => segRun treeTable prg w 11 ann0 1 1 ⟨heap46 w.params, Array.mk [], {}, 187, os⟩ (blockOf (behindTheImports prg) envT cE ⟨0, 0, 0, 0⟩ tF)) = fun os => some (.next, (sh (tree47 w.params) 15 187 os).abs, cE, ⟨0, 0, 0, 0⟩) := fun w => by
  rw [Fast.te14374325043358763698, Fast.te14364793385576792824]; kernel_rfl
theorem pcZ : ∀ w : World, (fun os => topRun treeTable prg w 11 ann0 2 (sh (tree285 w.params) 239 529 os).abs ⟨doneF .next, cE, ⟨177, 0, 192, 15⟩, tF⟩) = fun os => some ⟨heap286 w.params, Array.mk [], {}, 529, os⟩ := fun w => by
  rw [Fast.te14082659384304107361, Fast.te14364793385576792824]; kernel_rfl
theorem bd_parts : behindTheImports prg = sts49 ++ (sts65 ++ (sts80 ++ (sts130 ++ (sts212 ++ [])))) := by kernel_rfl
theorem top_run (w : World) (os : OsState) : topRun treeTable prg w 11 ann0 (12 + (1 + (206 + (214 + (378 + (385 + (384 + 2))))))) ⟨boot_heap w.params, Array.mk [], boot_drawn, boot_toks, os⟩ (topStub prg) = some ⟨heap286 w.params, Array.mk [], {}, 529, os⟩ := by
  refine go_top (congrFun (pcA w) os) (piece_block (congrFun (pcB w) os) ?_)
  rw [show restOf (behindTheImports prg) envT cE ⟨0, 0, 0, 0⟩ tF = restOf (sts49 ++ (sts65 ++ (sts80 ++ (sts130 ++ (sts212 ++ []))))) envT cE ⟨0, 0, 0, 0⟩ tF from congrArg (fun l => restOf l envT cE ⟨0, 0, 0, 0⟩ tF) bd_parts]
  exact piece_app (segRun_of (congrFun (pc1 w) os)) (piece_app (segRun_of (congrFun (pc2 w) os)) (piece_app (segRun_of (congrFun (pc3 w) os)) (piece_app (segRun_of (congrFun (pc4 w) os)) (piece_app (segRun_of (congrFun (pc5 w) os)) (congrFun (pcZ w) os)))))

end Mine

end
section
open PySem PySem.Calls PySem.W PyProof.Rows
set_option Elab.async false
set_option linter.unusedVariables false
set_option maxRecDepth 100000
namespace Mine
noncomputable abbrev rw0 := PySem.Challenge.rw_pq0539_01
noncomputable abbrev S9 (w : World) (os : OsState) : Shared := ⟨heap286 w.params, Array.mk [], {}, 529, os⟩
noncomputable abbrev Xt0 : Shared → Bool := fun s => xlAt vw [] s && recOk rw0.row.records s
theorem ka_of (P : Params) : ka = (kf P).map (·.1) := by kernel_rfl
noncomputable def HK : Hook := kHook kf ka ka_of
theorem op1 : opening prg = plainProg prg.main.scope.names := by kernel_rfl
theorem op2 : ∀ s, fenceModules? prg s = some s := fun s => by kernel_rfl
theorem sz1 (w : World) : ((boot_heap w.params).isNs mainGlobals && (Array.mk [] : Array GenState).size == 0, (boot_heap w.params).objs.size, (boot_heap w.params).nsMap mainGlobals "__annotations__") = (true, 11, ann0) := by
  rw [Fast.te8920871248978507458]; kernel_rfl
theorem lk1 (w : World) : (fun os => staticsOk (importedModules prg.main.body) (boot_heap w.params) (heap286 w.params) && namesBound prg (heap286 w.params) && gensDone (S9 w os) && laidKept (boot_heap w.params) (heap286 w.params)) = fun _ => true := by
  rw [Fast.te5923862056798008813]; kernel_rfl
theorem lk2 (w : World) : (fun os => seen ((recsOf vw).map (·.name)) (ownsOf vw) [] { S9 w os with gens := #[] }) = fun _ => expectedOf vw := by
  rw [Fast.te5160383126252970620, Fast.te3399658132070893891, Fast.te5991557255702980513]; kernel_rfl
theorem lk3 (w : World) : (fun os => (S9 w os).heap.bltView) = fun _ => bltViewBooted := by kernel_rfl
theorem lk4 (w : World) : (fun os => (S9 w os).heap.keysOk (looseW vw []) ((recsOf vw).map (·.name)) ((litsOf vw).map (·.1)) ((clssOf vw (looseW vw [])).map (·.name)) && (S9 w os).heap.accountedOkI (importedModules prg.main.body) && (S9 w os).heap.isNs mainGlobals && (S9 w os).heap.isNs builtinsNs && tablesOk vw (S9 w os).heap && Xt0 (S9 w os) && (if true = true then (S9 w os).gens.size == 0 else !leftWithCleanup (S9 w os).gens)) = fun _ => true := by
  rw [Fast.te10880121769531294198, Fast.te821141287760084731, Fast.te3399658132070893891, Fast.te7409074990110511671, Fast.te13664370479719496447, Fast.te14722251495701143533, Fast.te5923862056798008813, Fast.te10994771534591457954]; kernel_rfl
theorem lk5 (w : World) : (fun os => tabsOk vw (S9 w os)) = fun _ => true := by
  rw [Fast.te479339242167458305]; kernel_rfl
theorem lk6 (w : World) : (fun os => pinSeenD vw (drecsOf vw) (S9 w os)) = fun _ => pinGoodD (drecsOf vw) := by
  rw [Fast.te16090120013241838585, Fast.te3247288618530077131]; kernel_rfl
theorem lk7 (w : World) : (fun os => plainSeenE vw (looseW vw []) (S9 w os)) = fun _ => plainGoodE vw (looseW vw []) := by
  rw [Fast.te2386780881361962483, Fast.te821141287760084731]; kernel_rfl
theorem lk8 (w : World) : (fun os => plainSeenD vw [] (S9 w os)) = fun _ => plainGoodD vw [] := by
  rw [Fast.te11698064438423848299]; kernel_rfl
theorem lk9 (w : World) : (fun os => wideSeen vw (S9 w os)) = fun _ => wideGood vw := by
  rw [Fast.te7317090234206586261]; kernel_rfl
theorem lk10 (w : World) : (fun os => clsSeenW vw [] (S9 w os)) = fun _ => clsGoodW vw [] := by
  rw [Fast.te7369524293546568484]; kernel_rfl
theorem lk11 (w : World) : (fun os => HK.obs (S9 w os)) = fun _ => HK.val w := by kernel_rfl
theorem look0 (w : World) (os : OsState) : openSeen vw [] (importedModules prg.main.body) Xt0 true (S9 w os) = openGood vw [] :=
  looks_pair (congrFun (lk2 w) os) (looks_pair (congrFun (lk3 w) os) (looks_pair (congrFun (lk4 w) os) (looks_pair (congrFun (lk5 w) os) (looks_pair (congrFun (lk6 w) os)
    (looks_pair (congrFun (lk7 w) os) (looks_pair (congrFun (lk8 w) os) (looks_pair (congrFun (lk9 w) os) (congrFun (lk10 w) os))))))))
theorem left0 : LeftO prg vw [] Xt0 HK.obs HK.val 4000 :=
  LeftO.of_pieces (boot_open op1 (by decide +kernel) op2) sz1 top_run (by decide +kernel)
    fun w => funext fun os => looks_pair (congrFun (lk1 w) os) (looks_pair (look0 w os) (congrFun (lk11 w) os))
theorem la1 : sreFenced prg.main = true := by kernel_rfl
theorem la2 : ((moduleNames prg.main.body).isEmpty || lookedIntoSs (moduleNames prg.main.body) prg.main.body) = true := by kernel_rfl
theorem la3 : namesResolve prg = true := by rw [Fast.te8377067652309620493]; kernel_rfl
theorem la4 : prg.boundNames.all (fun n => !worldNames.contains n) = true := by rw [Fast.te18344453789297297638, Fast.te14412699480532031325, Fast.te3471404346716756564]; kernel_rfl
theorem la5 : noRoadLSs { strict := !(importedModules prg.main.body).all cThrough.contains, foot := none, bare := (["vars", "dir", "locals"] : List Str).filter (readsOut prg prg.main.body) } prg.main.body = true := by rw [Fast.te8326940854005059898, Fast.te5923862056798008813, Fast.te3471404346716756564, Fast.te17691160309236699985, Fast.te13343964577679436407]; kernel_rfl
theorem la6 : namesMeet prg prg.main.body (fun _ n => attrL n) = true := by rw [Fast.te17119622794617984870, Fast.te17868728402115742887]; kernel_rfl
theorem looks0 : looksOpen prg = true := look_both (look_both (look_both (look_both (look_both la1 la2) la3) la4) la5) la6
theorem part0 : rw0.row.partSaid = true := by
  unfold OpenRow.partSaid
  iterate 13 (refine look_both ?_ ?_)
  · exact looks0
  all_goals kernel_rfl
theorem row0 : rw0.row.wellSaid = true := look_both (look_both part0 (by kernel_rfl)) (by kernel_rfl)
theorem sb1 : noClassBlock rw0.prog rw0.footing = true := by rw [Fast.te8179353310426384613]; kernel_rfl
theorem sb3 : rw0.bound'.all (fun n => !builtinNamed n || rw0.about == [n] || !rw0.reads n) = true := by rw [Fast.te797321630700447069]; kernel_rfl
theorem sb4 : rw0.own.contains rw0.name = true := by rw [Fast.te10792542408131684335, Fast.te3471404346716756564]; kernel_rfl
theorem sb5 : (rw0.own.eraseDups.length == rw0.own.length) = true := by rw [Fast.te10792542408131684335, Fast.te7723801398212525404]; kernel_rfl
theorem sb6 : rw0.own.all (fun n => !builtinNamed n) = true := by rw [Fast.te10792542408131684335]; kernel_rfl
theorem sb7 : namesMeet rw0.prog rw0.above (fun _ n => !rw0.own.contains n) = true := by rw [Fast.te17119622794617984870, Fast.te10792542408131684335, Fast.te3471404346716756564]; kernel_rfl
theorem sb8 : namesMeet rw0.prog rw0.footing (fun sc n => sc.kind == .module || sc.names.lookup n != some .globalExplicit) = true := by rw [Fast.te17119622794617984870]; kernel_rfl
theorem sb9 : namesMeet rw0.prog rw0.footing (fun sc n => (!(["type", "isinstance", "issubclass", "getattr", "hasattr"] : List Str).contains n || sc.names.lookup n == some .globalImplicit) && (rw0.may != some n || sc.kind == .module || sc.names.lookup n == some .globalImplicit)) = true := by rw [Fast.te17119622794617984870, Fast.te9572597257264208301, Fast.te3471404346716756564]; kernel_rfl
theorem sb11 : rw0.namesIt = true := by rw [Fast.te16286561074155671207]; kernel_rfl
theorem sb12 : defStands rw0.about rw0.above = true := by rw [Fast.te9558739934217749035]; kernel_rfl
theorem sb13 : noRoadLSs { strict := true, foot := some rw0.bound', writes := rw0.writes, may := rw0.may } rw0.footing = true := by rw [Fast.te8326940854005059898, Fast.te797321630700447069, Fast.te9572597257264208301]; kernel_rfl
theorem said0 : rw0.wellSaid = true := by
  unfold OpenLaw.wellSaid
  iterate 18 (refine look_both ?_ ?_)
  · exact row0
  · kernel_rfl
  · kernel_rfl
  · exact sb1
  · kernel_rfl
  · kernel_rfl
  · exact sb13
  · exact sb12
  · exact sb11
  · kernel_rfl
  · exact sb3
  · kernel_rfl
  · kernel_rfl
  · exact sb9
  · exact sb4
  · exact sb5
  · exact sb6
  · exact sb7
  · exact sb8
noncomputable def d0 : DefRec := ⟨"law", fA 35, fB 35, fS 35, match (bd[35]? : Option Stmt) with | some (Stmt.FunctionDef _ _ _ _ _ _ _ _ _ p) => p | _ => default⟩
theorem wit0 : rw0.row.toRowW.promised := ⟨[.list []], by decide +kernel, by decide +kernel⟩
theorem def0 : defOf vw rw0.row.name = some (d0, []) := by kernel_rfl
theorem def1 : rw0.row.prog.theDef rw0.row.name = some (d0.params, d0.body, d0.scope) := by kernel_rfl
theorem def2 : kwWritten? d0.params.kwonlyargs d0.params.kw_defaults = some [] := by kernel_rfl
theorem ok0 : (chainsOk vw && opensWell rw0.row.prog && (frees rw0.row.toRowW && rw0.row.within.isEmpty)) = true := by kernel_rfl
theorem bare0 : rw0.row.prog.bare := ⟨rfl, rfl, rfl, rfl, rfl, by decide +kernel⟩
theorem hd (h : WalkO vw [] (XL vw []) HK.says rw0.row.toRowW d0 [] fun f vs => PySem.call f vs) : rw0.Holds :=
  holds_law said0 fun said => holds_open (q := vw) (loose := []) (Xt := Xt0) (XP := XL vw []) (Yf := HK.obs) (Ya := HK.val) (YP := HK.says) (N := 4000) left0 HK.of HK.keeps
    (fun s e => xl_of s (Bool.and_eq_true_iff.mp e).1) XL.keeps def0 def1 def2 (fun s e => recFacts_of (Bool.and_eq_true_iff.mp e).2) (by kernel_rfl) said ok0 bare0 wit0 h
end Mine

end
section
set_option linter.unusedVariables false
namespace Mine

def nl (w n : Nat) : Nat := if n = 0 then 0 else Nat.log2 n / w + 1
def dg (w n j : Nat) : Int := ((n / 2 ^ (w * j) % 2 ^ w : Nat) : Int)
def digs (w n k : Nat) : List Int := (List.range k).map (dg w n)
def limbs (w n : Nat) : List Int := digs w n (nl w n)

theorem nl_zero (w : Nat) : nl w 0 = 0 := by simp [nl]
theorem nl_le_iff {w : Nat} (hw : 0 < w) (n k : Nat) : nl w n ≤ k ↔ n < 2 ^ (w * k) := by
  unfold nl
  by_cases h : n = 0
  · simp [h, Nat.pow_pos]
  · rw [if_neg h]
    have h1 := Nat.log2_lt (n := n) (k := w * k) h
    rw [← h1]
    have h2 : Nat.log2 n / w + 1 ≤ k ↔ Nat.log2 n / w < k := Iff.rfl
    rw [h2, Nat.div_lt_iff_lt_mul hw, Nat.mul_comm]
theorem lt_pow_nl {w : Nat} (hw : 0 < w) (n : Nat) : n < 2 ^ (w * nl w n) := (nl_le_iff hw n _).mp (Nat.le_refl _)
theorem lt_nl_iff {w : Nat} (hw : 0 < w) (n k : Nat) : k < nl w n ↔ 2 ^ (w * k) ≤ n := by
  have := nl_le_iff hw n k
  lia

theorem digs_length (w n k : Nat) : (digs w n k).length = k := by simp [digs]
theorem limbs_length (w n : Nat) : (limbs w n).length = nl w n := digs_length _ _ _
theorem digs_get {w n k j : Nat} (h : j < k) : (digs w n k)[j]? = some (dg w n j) := by simp [digs, h]
theorem digs_succ (w n k : Nat) : digs w n (k + 1) = digs w n k ++ [dg w n k] := by simp [digs, List.range_succ]
theorem digs_take {w n k j : Nat} (h : j ≤ k) : (digs w n k).take j = digs w n j := by
  unfold digs
  rw [← List.map_take, List.take_range, Nat.min_eq_left h]
theorem dg_nonneg (w n j : Nat) : 0 ≤ dg w n j := Int.natCast_nonneg _
theorem dg_lt (w n j : Nat) : dg w n j < 2 ^ w := by
  have := Nat.mod_lt (n / 2 ^ (w * j)) (Nat.two_pow_pos w)
  unfold dg
  exact_mod_cast this
theorem dg_zero {w n j : Nat} (h : n < 2 ^ (w * j)) : dg w n j = 0 := by
  unfold dg
  rw [Nat.div_eq_of_lt h]
  simp
theorem pow_succ_mul (w i : Nat) : 2 ^ (w * (i + 1)) = 2 ^ (w * i) * 2 ^ w := by rw [Nat.mul_succ, Nat.pow_add]
/-- the digit at the top -/
theorem dg_top {w n : Nat} (hw : 0 < w) (h : n ≠ 0) : dg w n (nl w n - 1) ≠ 0 := by
  have h1 : 0 < nl w n := by
    unfold nl; rw [if_neg h]; exact Nat.succ_pos _
  have h2 := (lt_nl_iff hw n (nl w n - 1)).mp (by lia)
  have h3 := lt_pow_nl hw n
  have e : nl w n = (nl w n - 1) + 1 := by lia
  rw [e, pow_succ_mul] at h3
  have h4 : n / 2 ^ (w * (nl w n - 1)) < 2 ^ w := by
    rw [Nat.div_lt_iff_lt_mul (Nat.two_pow_pos _), Nat.mul_comm]; exact h3
  have h5 : 0 < n / 2 ^ (w * (nl w n - 1)) := Nat.div_pos h2 (Nat.two_pow_pos _)
  unfold dg
  rw [Nat.mod_eq_of_lt h4]
  lia

/-! the carry of a sum -/
def cy (w A D i : Nat) : Nat := (A % 2 ^ (w * i) + D % 2 ^ (w * i)) / 2 ^ (w * i)
theorem cy_zero (w A D : Nat) : cy w A D 0 = 0 := by simp [cy, Nat.mod_one]
theorem dgn (w n j : Nat) : dg w n j = ((n / 2 ^ (w * j) % 2 ^ w : Nat) : Int) := rfl
theorem cy_step (w A D i : Nat) : (cy w A D i + A / 2 ^ (w * i) % 2 ^ w + D / 2 ^ (w * i) % 2 ^ w) / 2 ^ w = cy w A D (i + 1) ∧
    (cy w A D i + A / 2 ^ (w * i) % 2 ^ w + D / 2 ^ (w * i) % 2 ^ w) % 2 ^ w = (A + D) / 2 ^ (w * i) % 2 ^ w := by
  have hP : 0 < 2 ^ (w * i) := Nat.two_pow_pos _
  unfold cy
  rw [pow_succ_mul]
  generalize 2 ^ (w * i) = P at hP ⊢
  generalize 2 ^ w = B
  refine ⟨?_, ?_⟩
  · rw [Nat.mod_mul, Nat.mod_mul, ← Nat.div_div_eq_div_mul]
    have : A % P + P * (A / P % B) + (D % P + P * (D / P % B)) = A % P + D % P + P * (A / P % B + D / P % B) := by
      rw [Nat.mul_add]; lia
    rw [this, Nat.add_mul_div_left _ _ hP, Nat.add_assoc]
  · have e : (A + D) / P = A / P + D / P + (A % P + D % P) / P := by
      have h1 := Nat.div_add_mod A P
      have h2 := Nat.div_add_mod D P
      have : A + D = (A % P + D % P) + P * (A / P + D / P) := by rw [Nat.mul_add]; lia
      rw [this, Nat.add_mul_div_left _ _ hP]
      have h3 : ((A % P + D % P) + P * (A / P + D / P)) = A + D := this.symm
      lia
    rw [e]
    have : (A / P + D / P + (A % P + D % P) / P) = ((A % P + D % P) / P + A / P + D / P) := by lia
    rw [this]
    simp [Nat.add_mod, Nat.mod_mod]
theorem cy_end {w A D i : Nat} (hA : A < 2 ^ (w * i)) (hD : D < 2 ^ (w * i)) : cy w A D i = (A + D) / 2 ^ (w * i) ∧ cy w A D i ≤ 1 := by
  unfold cy
  rw [Nat.mod_eq_of_lt hA, Nat.mod_eq_of_lt hD]
  refine ⟨rfl, ?_⟩
  have : (A + D) / 2 ^ (w * i) < 2 := by
    rw [Nat.div_lt_iff_lt_mul (Nat.two_pow_pos _)]; lia
  lia
/-- the sum's limbs -/
theorem add_limbs {w A D : Nat} (hw : 0 < w) (hl : nl w D ≤ nl w A) :
    limbs w (A + D) = if 0 < (cy w A D (nl w A) : Int) then digs w (A + D) (nl w A) ++ [(cy w A D (nl w A) : Int)] else digs w (A + D) (nl w A) := by
  have hA := lt_pow_nl hw A
  have hD := (nl_le_iff hw D _).mp hl
  obtain ⟨e, hc⟩ := cy_end hA hD
  have hge : nl w A ≤ nl w (A + D) := by
    have : ¬ nl w (A + D) < nl w A := by
      intro h
      have h1 := (nl_le_iff hw (A + D) (nl w (A + D))).mp (Nat.le_refl _)
      have h2 := (lt_nl_iff hw A (nl w (A + D))).mp h
      lia
    lia
  by_cases h0 : cy w A D (nl w A) = 0
  · rw [if_neg (by lia)]
    have : A + D < 2 ^ (w * nl w A) := by
      rw [e] at h0
      exact (Nat.div_eq_zero_iff_lt (Nat.two_pow_pos _)).mp h0
    have h2 := (nl_le_iff hw (A + D) _).mpr this
    have : nl w (A + D) = nl w A := by lia
    unfold limbs
    rw [this]
  · rw [if_pos (by lia)]
    have hlt : A + D < 2 ^ (w * (nl w A + 1)) := by
      rw [pow_succ_mul]
      have h2 : (2 : Nat) ≤ 2 ^ w := by
        calc (2 : Nat) = 2 ^ 1 := rfl
          _ ≤ 2 ^ w := Nat.pow_le_pow_right (by decide) hw
      have : 2 ^ (w * nl w A) * 2 ≤ 2 ^ (w * nl w A) * 2 ^ w := Nat.mul_le_mul_left _ h2
      lia
    have h1 := (nl_le_iff hw (A + D) _).mpr hlt
    have h2 : 2 ^ (w * nl w A) ≤ A + D := by
      rw [e] at h0
      by_cases q : 2 ^ (w * nl w A) ≤ A + D
      · exact q
      · exact absurd (Nat.div_eq_of_lt (by lia)) h0
    have h3 := (lt_nl_iff hw (A + D) _).mpr h2
    have h4 : nl w (A + D) = nl w A + 1 := by lia
    unfold limbs
    rw [h4, digs_succ]
    congr 2
    unfold dg
    rw [← e]
    have : cy w A D (nl w A) < 2 ^ w := by
      have h2 : (2 : Nat) ≤ 2 ^ w := by
        calc (2 : Nat) = 2 ^ 1 := rfl
          _ ≤ 2 ^ w := Nat.pow_le_pow_right (by decide) hw
      lia
    rw [Nat.mod_eq_of_lt this]

/-! what is borrowed in a difference -/
def bw (w A D i : Nat) : Nat := if A % 2 ^ (w * i) < D % 2 ^ (w * i) then 1 else 0
theorem bw_zero (w A D : Nat) : bw w A D 0 = 0 := by simp [bw, Nat.mod_one]
theorem bw_step {w A D : Nat} (h : D ≤ A) (i : Nat) :
    let t : Int := dg w A i - bw w A D i - dg w D i
    (bw w A D (i + 1) : Int) = (if t < 0 then 1 else 0) ∧ dg w (A - D) i = (if t < 0 then t + 2 ^ w else t) := by
  have hP : 0 < 2 ^ (w * i) := Nat.two_pow_pos _
  have hB : 0 < 2 ^ w := Nat.two_pow_pos _
  unfold bw dg
  rw [pow_succ_mul]
  have hBi : ((2 : Int) ^ w) = ((2 ^ w : Nat) : Int) := by push_cast; rfl
  rw [hBi]
  generalize 2 ^ (w * i) = P at hP ⊢
  generalize 2 ^ w = B at hB ⊢
  have hx := Nat.mod_lt (A / P) hB
  have hy := Nat.mod_lt (D / P) hB
  have hra := Nat.mod_lt A hP
  have hrd := Nat.mod_lt D hP
  have ea := Nat.div_add_mod A P
  have ed := Nat.div_add_mod D P
  have ea2 := Nat.div_add_mod (A / P) B
  have ed2 := Nat.div_add_mod (D / P) B
  rw [Nat.mod_mul, Nat.mod_mul]
  generalize A % P = ra at *
  generalize D % P = rd at *
  have hq : D / P ≤ A / P := Nat.div_le_div_right h
  generalize A / P = qa at *
  generalize D / P = qd at *
  generalize qa % B = x at *
  generalize qd % B = y at *
  have hqq : qd / B ≤ qa / B := Nat.div_le_div_right hq
  generalize qa / B = ua at *
  generalize qd / B = ud at *
  -- the quotient of the difference
  have hdiv : (A - D) / P = qa - qd - (if ra < rd then 1 else 0) := by
    by_cases c : ra < rd
    · rw [if_pos c]
      have hlt : qd < qa := by
        rcases Nat.lt_or_ge qd qa with h' | h'
        · exact h'
        · exfalso
          have : qa = qd := by lia
          subst this
          lia
      have e : A - D = (P + ra - rd) + P * (qa - qd - 1) := by
        have h1 : P * (qa - qd - 1) + P + P * qd = P * qa := by
          rw [← Nat.mul_succ, ← Nat.mul_add]; congr 1; lia
        lia
      rw [e, Nat.add_mul_div_left _ _ hP, Nat.div_eq_of_lt (by lia)]; lia
    · rw [if_neg c]
      have e : A - D = (ra - rd) + P * (qa - qd) := by
        have h1 : P * (qa - qd) + P * qd = P * qa := by
          rw [← Nat.mul_add]; congr 1; lia
        lia
      rw [e, Nat.add_mul_div_left _ _ hP, Nat.div_eq_of_lt (by lia)]; lia
  have lex : (ra + P * x < rd + P * y) ↔ ((x : Int) - (if ra < rd then 1 else 0 : Nat) - y < 0) := by
    by_cases c : ra < rd
    · rw [if_pos c]
      constructor
      · intro h1
        by_cases h2 : y + 1 ≤ x
        · have := Nat.mul_le_mul_left P h2
          rw [Nat.mul_add] at this
          lia
        · lia
      · intro h1
        have h2 : x ≤ y := by lia
        have := Nat.mul_le_mul_left P h2
        lia
    · rw [if_neg c]
      constructor
      · intro h1
        by_cases h2 : y ≤ x
        · have := Nat.mul_le_mul_left P h2
          lia
        · lia
      · intro h1
        have h2 : x + 1 ≤ y := by lia
        have := Nat.mul_le_mul_left P h2
        rw [Nat.mul_add] at this
        lia
  refine ⟨?_, ?_⟩
  · by_cases c : ra + P * x < rd + P * y
    · rw [if_pos c, if_pos (lex.mp c)]; rfl
    · rw [if_neg c, if_neg (fun q => c (lex.mpr q))]; rfl
  · rw [hdiv]
    have hbig : qd + (if ra < rd then 1 else 0) ≤ qa := by
      by_cases c : ra < rd
      · rw [if_pos c]
        rcases Nat.lt_or_ge qd qa with h' | h'
        · lia
        · exfalso
          have : qa = qd := by lia
          subst this
          lia
      · rw [if_neg c]; lia
    generalize hb : (if ra < rd then 1 else 0 : Nat) = b at *
    have hb1 : b ≤ 1 := by rw [← hb]; split <;> lia
    by_cases c : ((x : Int) - (b : Int) - (y : Int) < 0)
    · rw [if_pos c]
      have hlt : ud < ua := by
        rcases Nat.lt_or_ge ud ua with h' | h'
        · exact h'
        · exfalso
          have : ua = ud := by lia
          subst this
          lia
      have e : qa - qd - b = (B + x - b - y) + B * (ua - ud - 1) := by
        have h1 : B * (ua - ud - 1) + B + B * ud = B * ua := by
          rw [← Nat.mul_succ, ← Nat.mul_add]; congr 1; lia
        lia
      rw [e, Nat.add_mul_mod_self_left, Nat.mod_eq_of_lt (by lia)]
      lia
    · rw [if_neg c]
      have e : qa - qd - b = (x - b - y) + B * (ua - ud) := by
        have h1 : B * (ua - ud) + B * ud = B * ua := by
          rw [← Nat.mul_add]; congr 1; lia
        lia
      rw [e, Nat.add_mul_mod_self_left, Nat.mod_eq_of_lt (by lia)]
      lia

/-! the highest place where two numbers part -/
theorem dg_mod {w a k j : Nat} (h : j < k) : dg w (a % 2 ^ (w * k)) j = dg w a j := by
  unfold dg
  congr 1
  have e : 2 ^ (w * k) = 2 ^ (w * j) * (2 ^ w * 2 ^ (w * (k - j - 1))) := by
    rw [← Nat.pow_add, ← Nat.pow_add]
    congr 1
    have : k = j + (1 + (k - j - 1)) := by lia
    rw [this, Nat.mul_add, Nat.mul_add]
    have : j + (1 + (k - j - 1)) - j - 1 = k - j - 1 := by lia
    rw [this]; lia
  rw [e, Nat.mod_mul_right_div_self, Nat.mod_mul_right_mod]
theorem top_diff {w : Nat} : ∀ (k a b : Nat), a < 2 ^ (w * k) → b < 2 ^ (w * k) → a ≠ b →
    ∃ j, j < k ∧ dg w a j ≠ dg w b j ∧ (∀ i, j < i → i < k → dg w a i = dg w b i) ∧ (dg w a j < dg w b j ↔ a < b)
  | 0, a, b, ha, hb, h => by simp at ha hb; lia
  | k + 1, a, b, ha, hb, h => by
    rw [pow_succ_mul] at ha hb
    have hP : 0 < 2 ^ (w * k) := Nat.two_pow_pos _
    have da : dg w a k = ((a / 2 ^ (w * k) : Nat) : Int) := by
      unfold dg
      rw [Nat.mod_eq_of_lt]
      rw [Nat.div_lt_iff_lt_mul hP, Nat.mul_comm]; exact ha
    have db : dg w b k = ((b / 2 ^ (w * k) : Nat) : Int) := by
      unfold dg
      rw [Nat.mod_eq_of_lt]
      rw [Nat.div_lt_iff_lt_mul hP, Nat.mul_comm]; exact hb
    by_cases e : a / 2 ^ (w * k) = b / 2 ^ (w * k)
    · have hm : a % 2 ^ (w * k) ≠ b % 2 ^ (w * k) := fun q => h (by
        rw [← Nat.div_add_mod a (2 ^ (w * k)), ← Nat.div_add_mod b (2 ^ (w * k)), e, q])
      obtain ⟨j, hj, h1, h2, h3⟩ := top_diff k _ _ (Nat.mod_lt _ hP) (Nat.mod_lt _ hP) hm
      rw [dg_mod hj, dg_mod hj] at h1 h3
      refine ⟨j, by lia, h1, fun i hi hik => ?_, ?_⟩
      · by_cases q : i = k
        · subst q; rw [da, db, e]
        · have := h2 i hi (by lia)
          rwa [dg_mod (by lia), dg_mod (by lia)] at this
      · rw [h3]
        have e1 := Nat.div_add_mod a (2 ^ (w * k))
        have e2 := Nat.div_add_mod b (2 ^ (w * k))
        rw [e] at e1
        lia
    · refine ⟨k, by lia, by rw [da, db]; lia, fun i h1 h2 => by lia, ?_⟩
      rw [da, db]
      constructor
      · intro q
        have q' : a / 2 ^ (w * k) < b / 2 ^ (w * k) := by lia
        rcases Nat.lt_or_ge a b with h' | h'
        · exact h'
        · have := Nat.div_le_div_right (c := 2 ^ (w * k)) h'; lia
      · intro q
        have := Nat.div_le_div_right (c := 2 ^ (w * k)) (Nat.le_of_lt q)
        lia

/-! a number moved up -/
def sy (w A f i : Nat) : Nat := (A % 2 ^ (w * i)) * 2 ^ f / 2 ^ (w * i)
theorem sy_zero (w A f : Nat) : sy w A f 0 = 0 := by simp [sy, Nat.mod_one]
theorem sy_lt (w A f i : Nat) : sy w A f i < 2 ^ f := by
  unfold sy
  rw [Nat.div_lt_iff_lt_mul (Nat.two_pow_pos _), Nat.mul_comm]
  exact Nat.mul_lt_mul_of_pos_left (Nat.mod_lt _ (Nat.two_pow_pos _)) (Nat.two_pow_pos _)
theorem sy_step (w A f s i : Nat) : (sy w A f i + A / 2 ^ (w * i) % 2 ^ w * 2 ^ f) / 2 ^ w = sy w A f (i + 1) ∧
    (sy w A f i + A / 2 ^ (w * i) % 2 ^ w * 2 ^ f) % 2 ^ w = (A * 2 ^ (w * s + f)) / 2 ^ (w * (s + i)) % 2 ^ w := by
  have hP : 0 < 2 ^ (w * i) := Nat.two_pow_pos _
  unfold sy
  refine ⟨?_, ?_⟩
  · rw [pow_succ_mul]
    generalize 2 ^ (w * i) = P at hP ⊢
    generalize 2 ^ w = B
    generalize 2 ^ f = F
    rw [Nat.mod_mul, ← Nat.div_div_eq_div_mul, Nat.add_mul, Nat.mul_assoc, Nat.add_mul_div_left _ _ hP]
  · have e : A * 2 ^ (w * s + f) / 2 ^ (w * (s + i)) = A * 2 ^ f / 2 ^ (w * i) := by
      rw [Nat.pow_add, Nat.mul_add, Nat.pow_add, ← Nat.mul_assoc, Nat.mul_right_comm, Nat.mul_comm (2 ^ (w * s)), Nat.mul_div_mul_right _ _ (Nat.two_pow_pos _)]
    rw [e]
    generalize 2 ^ (w * i) = P at hP ⊢
    generalize 2 ^ w = B
    generalize 2 ^ f = F
    have e2 : A * F / P = (A % P) * F / P + A / P * F := by
      have h1 := Nat.div_add_mod A P
      have : A * F = (A % P) * F + P * (A / P * F) := by
        rw [← Nat.mul_assoc, ← Nat.add_mul]; congr 1; lia
      rw [this, Nat.add_mul_div_left _ _ hP]
    rw [e2, Nat.add_mod, Nat.add_mod _ (A / P * F), Nat.mul_mod (A / P % B), Nat.mul_mod (A / P) F, Nat.mod_mod]
theorem dg_low {w A n j : Nat} (h : w * (j + 1) ≤ n) : dg w (A * 2 ^ n) j = 0 := by
  unfold dg
  have e : A * 2 ^ n = 2 ^ (w * j) * (2 ^ w * (A * 2 ^ (n - w * (j + 1)))) := by
    have : n = w * j + (w + (n - w * (j + 1))) := by rw [Nat.mul_add] at *; lia
    conv => lhs; rw [this, Nat.pow_add, Nat.pow_add]
    rw [Nat.mul_left_comm, ← Nat.mul_assoc A, Nat.mul_comm A, Nat.mul_assoc]
  rw [e, Nat.mul_div_cancel_left _ (Nat.two_pow_pos _), Nat.mul_mod_right]
  rfl
theorem digs_low {w A n : Nat} : ∀ s, w * s ≤ n → digs w (A * 2 ^ n) s = List.replicate s 0
  | 0, _ => rfl
  | s + 1, h => by
    rw [digs_succ, digs_low s (by rw [Nat.mul_add] at h; lia), dg_low h, List.replicate_succ']
theorem shift_limbs {w A s f : Nat} (hw : 0 < w) (hf : f < w) (hA : A ≠ 0) :
    limbs w (A * 2 ^ (w * s + f)) = if 0 < (sy w A f (nl w A) : Int) then digs w (A * 2 ^ (w * s + f)) (s + nl w A) ++ [(sy w A f (nl w A) : Int)] else digs w (A * 2 ^ (w * s + f)) (s + nl w A) := by
  have hlt := lt_pow_nl hw A
  have hpos : 0 < nl w A := by unfold nl; rw [if_neg hA]; exact Nat.succ_pos _
  have hge := (lt_nl_iff hw A (nl w A - 1)).mp (by lia)
  have e1 : sy w A f (nl w A) = A * 2 ^ f / 2 ^ (w * nl w A) := by
    unfold sy; rw [Nat.mod_eq_of_lt hlt]
  have hS : 2 ^ (w * (s + nl w A)) = 2 ^ (w * s) * 2 ^ (w * nl w A) := by rw [Nat.mul_add, Nat.pow_add]
  have hV : A * 2 ^ (w * s + f) = 2 ^ (w * s) * (A * 2 ^ f) := by rw [Nat.pow_add, Nat.mul_left_comm]
  have hlow : 2 ^ (w * (s + nl w A - 1)) ≤ A * 2 ^ (w * s + f) := by
    rw [hV]
    have : s + nl w A - 1 = s + (nl w A - 1) := by lia
    rw [this, Nat.mul_add, Nat.pow_add]
    refine Nat.mul_le_mul_left _ (Nat.le_trans hge ?_)
    exact Nat.le_mul_of_pos_right _ (Nat.two_pow_pos _)
  have hge2 := (lt_nl_iff hw _ _).mpr hlow
  by_cases h0 : sy w A f (nl w A) = 0
  · rw [if_neg (by lia)]
    have : A * 2 ^ (w * s + f) < 2 ^ (w * (s + nl w A)) := by
      rw [hV, hS]
      refine Nat.mul_lt_mul_of_pos_left ?_ (Nat.two_pow_pos _)
      rw [e1] at h0
      exact (Nat.div_eq_zero_iff_lt (Nat.two_pow_pos _)).mp h0
    have h2 := (nl_le_iff hw _ _).mpr this
    have : nl w (A * 2 ^ (w * s + f)) = s + nl w A := by lia
    unfold limbs
    rw [this]
  · rw [if_pos (by lia)]
    have hfB : 2 ^ f ≤ 2 ^ w := Nat.pow_le_pow_right (by decide) (by lia)
    have hup : A * 2 ^ (w * s + f) < 2 ^ (w * (s + nl w A + 1)) := by
      rw [pow_succ_mul, hV, hS, Nat.mul_assoc]
      refine Nat.mul_lt_mul_of_pos_left ?_ (Nat.two_pow_pos _)
      exact Nat.lt_of_lt_of_le (Nat.mul_lt_mul_of_pos_right hlt (Nat.two_pow_pos _)) (Nat.mul_le_mul_left _ hfB)
    have h1 := (nl_le_iff hw _ _).mpr hup
    have hge3 : 2 ^ (w * (s + nl w A)) ≤ A * 2 ^ (w * s + f) := by
      rw [hV, hS]
      refine Nat.mul_le_mul_left _ ?_
      rw [e1] at h0
      by_cases q : 2 ^ (w * nl w A) ≤ A * 2 ^ f
      · exact q
      · exact absurd (Nat.div_eq_of_lt (by lia)) h0
    have h3 := (lt_nl_iff hw _ _).mpr hge3
    have h4 : nl w (A * 2 ^ (w * s + f)) = s + nl w A + 1 := by lia
    unfold limbs
    rw [h4, digs_succ]
    congr 2
    unfold dg
    rw [hV, hS, Nat.mul_div_mul_left _ _ (Nat.two_pow_pos _), ← e1, Nat.mod_eq_of_lt]
    exact Nat.lt_of_lt_of_le (sy_lt _ _ _ _) hfB

/-! division by a small number, from the top -/
def ry (w A d L i : Nat) : Nat := A / 2 ^ (w * (L - i)) % d
theorem ry_step {w A d L i : Nat} (hd : 0 < d) (hi : i < L) :
    (ry w A d L i * 2 ^ w + A / 2 ^ (w * (L - 1 - i)) % 2 ^ w) % d = ry w A d L (i + 1) ∧
    (ry w A d L i * 2 ^ w + A / 2 ^ (w * (L - 1 - i)) % 2 ^ w) / d = A / d / 2 ^ (w * (L - 1 - i)) % 2 ^ w := by
  unfold ry
  have e0 : L - (i + 1) = L - 1 - i := by lia
  have e1 : L - i = (L - 1 - i) + 1 := by lia
  rw [e0, e1, pow_succ_mul, ← Nat.div_div_eq_div_mul, Nat.div_div_eq_div_mul A d, Nat.mul_comm d, ← Nat.div_div_eq_div_mul]
  have hB : 0 < 2 ^ w := Nat.two_pow_pos _
  generalize A / 2 ^ (w * (L - 1 - i)) = m
  generalize 2 ^ w = B at hB ⊢
  have hx := Nat.mod_lt m hB
  have em := Nat.div_add_mod m B
  have ed := Nat.div_add_mod (m / B) d
  have hr := Nat.mod_lt (m / B) hd
  have key : m = ((m / B % d) * B + m % B) + d * (m / B / d * B) := by
    have : B * (m / B) = (m / B % d) * B + d * (m / B / d * B) := by
      conv => lhs; rw [← ed, Nat.mul_comm, Nat.add_mul, Nat.mul_assoc]
      lia
    lia
  refine ⟨?_, ?_⟩
  · conv => rhs; rw [key]
    rw [Nat.add_mul_mod_self_left]
  · have h2 : m / d = (m / B % d * B + m % B) / d + m / B / d * B := by
      conv => lhs; rw [key]
      rw [Nat.add_mul_div_left _ _ hd]
    have h3 : (m / B % d * B + m % B) / d < B := by
      rw [Nat.div_lt_iff_lt_mul hd]
      have h4 : m / B % d * B + B ≤ d * B := by
        rw [← Nat.succ_mul]; exact Nat.mul_le_mul_right _ hr
      rw [Nat.mul_comm B d]
      lia
    rw [h2, Nat.add_mul_mod_self_right, Nat.mod_eq_of_lt h3]
theorem ry_zero {w A d L : Nat} (h : A < 2 ^ (w * L)) : ry w A d L 0 = 0 := by
  unfold ry
  rw [Nat.sub_zero, Nat.div_eq_of_lt h, Nat.zero_mod]
theorem ry_end (w A d L : Nat) : ry w A d L L = A % d := by
  unfold ry
  rw [Nat.sub_self, Nat.mul_zero, Nat.pow_zero, Nat.div_one]
theorem digs_rev (w n L : Nat) : ((List.range L).map fun i => dg w n (L - 1 - i)).reverse = digs w n L := by
  unfold digs
  rw [← List.map_reverse]
  apply List.ext_getElem
  · simp
  · intro i h1 h2
    simp only [List.length_map, List.length_reverse, List.length_range] at h1
    simp only [List.getElem_map, List.getElem_reverse, List.length_range, List.getElem_range]
    congr 1
    lia
end Mine

end
section
open PySem PySem.Calls PySem.W PyProof.Rows
set_option Elab.async false
set_option linter.unusedVariables false
namespace Mine

inductive PV where
  | none
  | bool (b : Bool)
  | int (i : Int)
  | list (xs : List PV)
  | tup (xs : List PV)
  | nat (w n : Nat)
  | sgn (w : Nat) (x : Int)

abbrev pis (ns : List Int) : List PV := ns.map .int
def lim (w n : Nat) : PV := .list (pis (limbs w n))

mutual
inductive Rep (X : Addr → Prop) (h : Heap) : Value → PV → Prop
  | none : Rep X h .none .none
  | bool (b : Bool) : Rep X h (.bool b) (.bool b)
  | int (i : Int) (t : Tok) : Rep X h (.int i t) (.int i)
  | list {a : Addr} {vs : List Value} {xs : List PV} : h.IsList a vs.toArray → ¬X a → Reps X h vs xs → Rep X h (.ref a) (.list xs)
  | tup {a : Addr} {vs : List Value} {xs : List PV} : h.IsTuple a vs.toArray → Reps X h vs xs → Rep X h (.ref a) (.tup xs)
  | nat {v : Value} {w n : Nat} : Rep X h v (lim w n) → Rep X h v (.nat w n)
  | sgn {v : Value} {w : Nat} {x : Int} : Rep X h v (.tup [.bool (decide (x < 0)), .nat w x.natAbs]) → Rep X h v (.sgn w x)
inductive Reps (X : Addr → Prop) (h : Heap) : List Value → List PV → Prop
  | nil : Reps X h [] []
  | cons {v : Value} {p : PV} {vs : List Value} {ps : List PV} : Rep X h v p → Reps X h vs ps → Reps X h (v :: vs) (p :: ps)
end
variable {X : Addr → Prop}

def SeqKeep (X : Addr → Prop) (h h' : Heap) : Prop := ∀ b o xs n, (X b → o.cls ≠ .type "list") → h.get? b = some o → o.data = .seq xs n → ∃ o', h'.get? b = some o' ∧ o'.cls = o.cls ∧ o'.data = o.data

theorem SeqKeep.refl (h : Heap) : SeqKeep X h h := fun _ o _ _ _ e _ => ⟨o, e, rfl, rfl⟩
theorem SeqKeep.isList {h h' : Heap} (k : SeqKeep X h h') {a : Addr} {xs : Array Value} (x : h.IsList a xs) (nx : ¬X a) : h'.IsList a xs := by
  obtain ⟨o, ho, hc, n, hd⟩ := x
  obtain ⟨o', ho', hc', hd'⟩ := k a o xs n (fun q => absurd q nx) ho hd
  exact ⟨o', ho', hc'.trans hc, n, hd'.trans hd⟩
theorem SeqKeep.isTuple {h h' : Heap} (k : SeqKeep X h h') {a : Addr} {xs : Array Value} (x : h.IsTuple a xs) : h'.IsTuple a xs := by
  obtain ⟨o, ho, hc, n, hd⟩ := x
  obtain ⟨o', ho', hc', hd'⟩ := k a o xs n (fun _ q => absurd (Value.type.inj (hc.symm.trans q)) (by decide)) ho hd
  exact ⟨o', ho', hc'.trans hc, n, hd'.trans hd⟩

/-- from one heap to another, list by list and tuple by tuple -/
theorem Rep.both {Y : Addr → Prop} {h h' : Heap} (hl : ∀ {a : Addr} {xs : Array Value}, h.IsList a xs → ¬X a → h'.IsList a xs ∧ ¬Y a) (ht : ∀ {a : Addr} {xs : Array Value}, h.IsTuple a xs → h'.IsTuple a xs) :
    (∀ {v : Value} {p : PV}, Rep X h v p → Rep Y h' v p) ∧ ∀ {vs : List Value} {ps : List PV}, Reps X h vs ps → Reps Y h' vs ps :=
  ⟨fun r => Rep.rec (motive_1 := fun v p _ => Rep Y h' v p) (motive_2 := fun vs ps _ => Reps Y h' vs ps) .none .bool .int (fun x n _ ih => .list (hl x n).1 (hl x n).2 ih) (fun x _ ih => .tup (ht x) ih) (fun _ ih => .nat ih) (fun _ ih => .sgn ih) .nil (fun _ _ a b => .cons a b) r,
   fun r => Reps.rec (motive_1 := fun v p _ => Rep Y h' v p) (motive_2 := fun vs ps _ => Reps Y h' vs ps) .none .bool .int (fun x n _ ih => .list (hl x n).1 (hl x n).2 ih) (fun x _ ih => .tup (ht x) ih) (fun _ ih => .nat ih) (fun _ ih => .sgn ih) .nil (fun _ _ a b => .cons a b) r⟩
theorem Rep.mono {h h' : Heap} (k : SeqKeep X h h') {v : Value} {p : PV} (r : Rep X h v p) : Rep X h' v p := (Rep.both (fun x n => ⟨k.isList x n, n⟩) k.isTuple).1 r
theorem Reps.mono {h h' : Heap} (k : SeqKeep X h h') {vs : List Value} {ps : List PV} (r : Reps X h vs ps) : Reps X h' vs ps := (Rep.both (fun x n => ⟨k.isList x n, n⟩) k.isTuple).2 r
theorem grow_list {Y : Addr → Prop} {h : Heap} (g : ∀ a, Y a → X a ∨ h.get? a = Option.none) {a : Addr} {xs : Array Value} (x : h.IsList a xs) (n : ¬X a) : h.IsList a xs ∧ ¬Y a := ⟨x, fun y => (g _ y).elim n fun e => let ⟨_, ho, _⟩ := x; nomatch ho.symm.trans e⟩
theorem Rep.grow {Y : Addr → Prop} {h : Heap} (g : ∀ a, Y a → X a ∨ h.get? a = Option.none) {v : Value} {p : PV} (r : Rep X h v p) : Rep Y h v p := (Rep.both (grow_list g) id).1 r
theorem Reps.grow {Y : Addr → Prop} {h : Heap} (g : ∀ a, Y a → X a ∨ h.get? a = Option.none) {vs : List Value} {ps : List PV} (r : Reps X h vs ps) : Reps Y h vs ps := (Rep.both (grow_list g) id).2 r
theorem isList_stays {h h' : Heap} (k : h.StaysIn h') {a : Addr} {xs : Array Value} (x : h.IsList a xs) : h'.IsList a xs := let ⟨o, e, r⟩ := x; ⟨o, k _ _ e, r⟩
theorem isTuple_stays {h h' : Heap} (k : h.StaysIn h') {a : Addr} {xs : Array Value} (x : h.IsTuple a xs) : h'.IsTuple a xs := let ⟨o, e, r⟩ := x; ⟨o, k _ _ e, r⟩
theorem SeqKeep.of_stays {h h' : Heap} (k : h.StaysIn h') : SeqKeep X h h' := fun b o _ _ _ e _ => ⟨o, k b o e, rfl, rfl⟩
theorem SeqKeep.of_but {h h' : Heap} {a : Addr} (s : Heap.SameBut a h h') (na : ∀ o xs n, h.get? a = some o → o.data = .seq xs n → X a ∧ o.cls = .type "list") : SeqKeep X h h' := fun b o xs n x e d => by
  by_cases q : b = a
  · subst q; exact absurd (na o xs n e d).2 (x (na o xs n e d).1)
  · exact ⟨o, (s.2 b q).trans e, rfl, rfl⟩
theorem SeqKeep.trans {h₁ h₂ h₃ : Heap} (x : SeqKeep X h₁ h₂) (y : SeqKeep X h₂ h₃) : SeqKeep X h₁ h₃ := fun b o xs n nx e d => by
  obtain ⟨o', e', c', d'⟩ := x b o xs n nx e d
  obtain ⟨o'', e'', c'', d''⟩ := y b o' xs n (fun q => c' ▸ nx q) e' (d'.trans d)
  exact ⟨o'', e'', c''.trans c', d''.trans d'⟩

theorem Reps.nil_inv {h : Heap} {vs : List Value} (r : Reps X h vs []) : vs = [] := by cases r; rfl
theorem Reps.cons_inv {h : Heap} {vs : List Value} {p : PV} {ps : List PV} (r : Reps X h vs (p :: ps)) : ∃ v us, vs = v :: us ∧ Rep X h v p ∧ Reps X h us ps := by cases r with | cons x r => exact ⟨_, _, rfl, x, r⟩
theorem Rep.int_inv {h : Heap} {v : Value} {i : Int} (r : Rep X h v (.int i)) : ∃ t, v = .int i t := by cases r; exact ⟨_, rfl⟩
theorem Reps.snoc {h : Heap} {v : Value} {p : PV} (x : Rep X h v p) {vs : List Value} {ps : List PV} (r : Reps X h vs ps) : Reps X h (vs ++ [v]) (ps ++ [p]) := by
  induction ps generalizing vs with
  | nil => obtain rfl := r.nil_inv; exact .cons x .nil
  | cons q ps ih => obtain ⟨u, us, rfl, a, b⟩ := r.cons_inv; exact .cons a (ih b)
theorem Reps.append {h : Heap} {ws : List Value} {qs : List PV} (x : Reps X h ws qs) {vs : List Value} {ps : List PV} (r : Reps X h vs ps) : Reps X h (vs ++ ws) (ps ++ qs) := by
  induction ps generalizing vs with
  | nil => obtain rfl := r.nil_inv; exact x
  | cons q ps ih => obtain ⟨u, us, rfl, a, b⟩ := r.cons_inv; exact .cons a (ih b)
theorem Reps.length {h : Heap} {vs : List Value} {ps : List PV} (r : Reps X h vs ps) : vs.length = ps.length := by
  induction ps generalizing vs with
  | nil => obtain rfl := r.nil_inv; rfl
  | cons q ps ih => obtain ⟨u, us, rfl, a, b⟩ := r.cons_inv; exact congrArg (· + 1) (ih b)
theorem Reps.get {h : Heap} {vs : List Value} {ps : List PV} (r : Reps X h vs ps) {i : Nat} {p : PV} (e : ps[i]? = some p) : ∃ v, vs[i]? = some v ∧ Rep X h v p := by
  induction ps generalizing vs i with
  | nil => cases e
  | cons q ps ih =>
    obtain ⟨u, us, rfl, a, b⟩ := r.cons_inv
    cases i with
    | zero => cases e; exact ⟨u, rfl, a⟩
    | succ i => exact ih b e
theorem Reps.reverse {h : Heap} {vs : List Value} {ps : List PV} (r : Reps X h vs ps) : Reps X h vs.reverse ps.reverse := by
  induction ps generalizing vs with
  | nil => obtain rfl := r.nil_inv; exact .nil
  | cons q ps ih =>
    obtain ⟨u, us, rfl, a, b⟩ := r.cons_inv
    rw [List.reverse_cons, List.reverse_cons]
    exact Reps.snoc a (ih b)
theorem Reps.take {h : Heap} {vs : List Value} {ps : List PV} (r : Reps X h vs ps) (n : Nat) : Reps X h (vs.take n) (ps.take n) := by
  induction ps generalizing vs n with
  | nil => obtain rfl := r.nil_inv; rw [List.take_nil, List.take_nil]; exact .nil
  | cons q ps ih =>
    obtain ⟨u, us, rfl, a, b⟩ := r.cons_inv
    cases n with
    | zero => exact .nil
    | succ n => exact .cons a (ih b n)
theorem Reps.toInts {h : Heap} {vs : List Value} {ns : List Int} (r : Reps X h vs (pis ns)) : IntsAre vs ns := by
  induction ns generalizing vs with
  | nil => obtain rfl := r.nil_inv; exact .nil
  | cons i ns ih =>
    obtain ⟨u, us, rfl, a, b⟩ := Reps.cons_inv (show Reps X h vs (.int i :: pis ns) from r)
    obtain ⟨t, rfl⟩ := a.int_inv
    exact .cons i t (ih b)
theorem Reps.of_ints {h : Heap} {vs : List Value} {ns : List Int} (r : IntsAre vs ns) : Reps X h vs (pis ns) := by
  induction r with
  | nil => exact .nil
  | cons i t _ ih => exact .cons (.int i t) ih

inductive Out where
  | ret (p : PV)
  | exc (c : Addr)

noncomputable abbrev KF (w : World) : Frag := kf w.params

structure Cx where
  w : World
  b : Heap
  g : Heap
  A : Around
  env : Env
  fenv : Env
  outer : List Env
  d : Nat
  oc : Bool
  X : Addr → Prop
  top : Bool

noncomputable abbrev Cx.M (C : Cx) : Model := model prg C.w

structure Bs (w : World) (b : Heap) : Prop where
  inn : (KF w).In b
  top : ∃ mean mg mb, Top vw (looseW vw []) mean mg mb b

structure Ok (C : Cx) : Prop where
  bs : Bs C.w C.b
  hh : C.A.handled = none
  fr : C.A.frames = some (C.fenv :: C.outer)
  ff : C.env.frame = C.fenv.frame
  kind : C.env.scope.kind = .function
  glob : C.env.globals = mainGlobals
  bi : C.env.builtins = builtinsNs
  off : C.g.get? C.env.locals = none
  bg : C.b.StaysIn C.g
  tp : C.top = true → C.b = C.g ∧ C.outer = [] ∧ C.fenv.frame = some C.env.locals
  depth : C.A.depth + C.d < recursionLimit
  units : C.A.units + 8 * C.d < cLine
  clo : ∀ x, C.env.kindOf x = some .cell → ∃ c, C.env.cells.lookup x = some c
  cel : C.oc = true → ∀ x c, C.env.cells.lookup x = some c → C.g.get? c = none ∧ ∀ y, C.env.cells.lookup y = some c → y = x

/-- the ground a call stands on -/
structure Gr (C : Cx) (h : Heap) : Prop where
  xs : ∀ a, C.X a → ∃ o its n, h.get? a = some o ∧ o.data = .seq its n
  stays : C.b.StaysIn h
  frames : h.FunFrames C.b (C.fenv :: C.outer)

def VarAt (X : Addr → Prop) (env : Env) (m : Str → Option Value) (h : Heap) (x : Str) (p : PV) : Prop :=
  (env.kindOf x = some .local ∧ ∃ v, m x = some v ∧ Rep X h v p) ∨ (env.kindOf x = some .cell ∧ ∃ c v, env.cells.lookup x = some c ∧ h.IsCell c (some v) ∧ Rep X h v p)

abbrev Sto := List (Str × PV)

structure Fs (C : Cx) (σ : Sto) (h : Heap) : Prop where
  xs : ∀ a, C.X a → ∃ o its n, h.get? a = some o ∧ o.data = .seq its n
  prot : C.g.StaysIn h
  frames : h.FunFrames C.b (C.fenv :: C.outer)
  vars : ∃ m, h.Ns C.env.locals m ∧ ∀ x p, σ.lookup x = some p → VarAt C.X C.env m h x p
  cells : ∀ x c, C.env.cells.lookup x = some c → ∃ v, h.IsCell c v

theorem Fs.gr {C : Cx} {σ : Sto} {h : Heap} (O : Ok C) (F : Fs C σ h) : Gr C h := ⟨F.xs, fun b o e => F.prot b o (O.bg b o e), F.frames⟩

theorem stays_trans {a b c : Heap} (x : a.StaysIn b) (y : b.StaysIn c) : a.StaysIn c := fun i o e => y i o (x i o e)
theorem stays_refl (a : Heap) : a.StaysIn a := fun _ _ e => e

theorem funFrames_stays {b h h' : Heap} {l : List Env} (k : h.StaysIn h') (F : h.FunFrames b l) : h'.FunFrames b l :=
  F.of_keeps fun a o e _ => ⟨o, k a o e, rfl⟩

theorem isCell_stays {h h' : Heap} (k : h.StaysIn h') {c : Addr} {v : Option Value} (x : h.IsCell c v) : h'.IsCell c v :=
  let ⟨o, e, d⟩ := x; ⟨o, k c o e, d⟩

theorem VarAt.stays {X : Addr → Prop} {env : Env} {m : Str → Option Value} {h h' : Heap} {x : Str} {p : PV} (k : h.StaysIn h') (V : VarAt X env m h x p) : VarAt X env m h' x p := by
  rcases V with ⟨a, v, b, c⟩ | ⟨a, c, v, e, f, g⟩
  · exact .inl ⟨a, v, b, c.mono (SeqKeep.of_stays k)⟩
  · exact .inr ⟨a, c, v, e, isCell_stays k f, g.mono (SeqKeep.of_stays k)⟩

theorem xs_stays {X : Addr → Prop} {h h' : Heap} (k : h.StaysIn h') (xs : ∀ a, X a → ∃ o its n, h.get? a = some o ∧ o.data = .seq its n) : ∀ a, X a → ∃ o its n, h'.get? a = some o ∧ o.data = .seq its n := fun a x =>
  let ⟨o, its, n, e, d⟩ := xs a x
  ⟨o, its, n, k _ _ e, d⟩
theorem xs_but {X : Addr → Prop} {h h' : Heap} {b : Addr} (hs : Heap.SameBut b h h') (nb : ∀ o its n, h.get? b = some o → o.data ≠ .seq its n) (xs : ∀ a, X a → ∃ o its n, h.get? a = some o ∧ o.data = .seq its n) : ∀ a, X a → ∃ o its n, h'.get? a = some o ∧ o.data = .seq its n := fun a x =>
  let ⟨o, its, n, e, d⟩ := xs a x
  ⟨o, its, n, (hs.2 a fun q => nb o its n (q ▸ e) d).trans e, d⟩
theorem Fs.stays {C : Cx} {σ : Sto} {h h' : Heap} (F : Fs C σ h) (k : h.StaysIn h') : Fs C σ h' := by
  obtain ⟨m, hn, hv⟩ := F.vars
  exact ⟨xs_stays k F.xs, stays_trans F.prot k, funFrames_stays k F.frames, ⟨m, hn.keeps k, fun x p e => (hv x p e).stays k⟩, fun x c e => let ⟨v, z⟩ := F.cells x c e; ⟨v, isCell_stays k z⟩⟩

theorem Gr.keep {C : Cx} {h h' : Heap} (G : Gr C h) (k : h.StaysIn h') : Gr C h' := ⟨xs_stays k G.xs, stays_trans G.stays k, funFrames_stays k G.frames⟩

theorem funFrames_but {b h h' : Heap} {a : Addr} (hs : Heap.SameBut a h h') (ha : ∀ o, h'.get? a = some o → ∀ vs, o.data ≠ .fields vs) (hex : (h.get? a).isSome → (h'.get? a).isSome) : ∀ {l : List Env}, h.FunFrames b l → h'.FunFrames b l := by
  intro l
  induction l with
  | nil => intro _; trivial
  | cons env rest ih =>
    rintro ⟨a1, ⟨L, o, hf, hb, ho, hd⟩, hr⟩
    by_cases q : L = a
    · subst q
      obtain ⟨o', ho'⟩ := Option.isSome_iff_exists.mp (hex (by rw [ho]; rfl))
      exact ⟨a1, ⟨_, o', hf, hb, ho', ha o' ho'⟩, ih hr⟩
    · exact ⟨a1, ⟨L, o, hf, hb, (hs.2 L q).trans ho, hd⟩, ih hr⟩

theorem isCell_but {h h' : Heap} {a c : Addr} {v : Option Value} (hs : Heap.SameBut a h h') (ne : c ≠ a) (x : h.IsCell c v) : h'.IsCell c v := let ⟨o, ho, hd⟩ := x; ⟨o, (hs.2 c ne).trans ho, hd⟩
theorem cell_ne_ns {h : Heap} {a c : Addr} {v : Option Value} {m : Str → Option Value} (x : h.IsCell c v) (hn : h.Ns a m) : c ≠ a := fun q => by
  obtain ⟨oc, hoc, hdc⟩ := x
  obtain ⟨oL, es, ep, hL, hLd, _⟩ := hn
  rw [q, hL] at hoc; cases hoc; rw [hLd] at hdc; cases hdc

/-- storing a local -/
theorem Fs.stores {C : Cx} (O : Ok C) {σ σ' : Sto} {h h' : Heap} {x : Str} {v : Value} (F : Fs C σ h) (hx : C.env.kindOf x = some .local) (m : Str → Option Value) (hn : h.Ns C.env.locals m)
    (hv : ∀ x p, σ.lookup x = some p → VarAt C.X C.env m h x p) (hn' : h'.Ns C.env.locals (fun y => if y = x then some v else m y)) (hs : Heap.SameBut C.env.locals h h')
    (hσ : ∀ y p, σ'.lookup y = some p → (y = x ∧ Rep C.X h v p) ∨ (y ≠ x ∧ σ.lookup y = some p)) : Fs C σ' h' := by
  obtain ⟨oL, es, ep, hL, hLd, _⟩ := id hn
  have nL : ∀ o xs n, h.get? C.env.locals = some o → o.data ≠ .seq xs n := fun o xs n e d => by
    rw [hL] at e; cases e; rw [hLd] at d; cases d
  have sk : SeqKeep C.X h h' := SeqKeep.of_but hs fun o xs n e d => absurd d (nL o xs n e)
  obtain ⟨oL', es', ep', hL', hLd', _⟩ := id hn'
  refine ⟨xs_but hs nL F.xs, fun b o e => hs.extBut b o (fun q => ?_) (F.prot b o e), funFrames_but hs (fun o e vs d => ?_) (fun _ => by rw [hL']; rfl) F.frames, ⟨_, hn', fun y q e => ?_⟩, fun y c e => ?_⟩
  · have := O.off; rw [← q, e] at this; cases this
  · rw [hL'] at e; cases e; rw [hLd'] at d; cases d
  · rcases hσ y q e with ⟨rfl, r⟩ | ⟨hy, e⟩
    · exact .inl ⟨hx, v, if_pos rfl, r.mono sk⟩
    · rcases hv y q e with ⟨a, v', b, c⟩ | ⟨a, c, v', e', f, g⟩
      · exact .inl ⟨a, v', (if_neg hy).trans b, c.mono sk⟩
      · exact .inr ⟨a, c, v', e', isCell_but hs (cell_ne_ns f hn) f, g.mono sk⟩
  · obtain ⟨v', z⟩ := F.cells y c e
    exact ⟨v', isCell_but hs (cell_ne_ns z hn) z⟩
theorem Fs.store {C : Cx} (O : Ok C) {σ : Sto} {h h' : Heap} {x : Str} {v : Value} {p : PV} (F : Fs C σ h) (hx : C.env.kindOf x = some .local) (m : Str → Option Value) (hn : h.Ns C.env.locals m)
    (hv : ∀ x p, σ.lookup x = some p → VarAt C.X C.env m h x p) (hn' : h'.Ns C.env.locals (fun y => if y = x then some v else m y)) (hs : Heap.SameBut C.env.locals h h') (r : Rep C.X h v p) : Fs C ((x, p) :: σ) h' :=
  F.stores O hx m hn hv hn' hs fun y q e => by
    rw [List.lookup_cons] at e
    by_cases hy : y = x
    · subst hy
      simp only [beq_self_eq_true, Option.some.injEq] at e
      exact .inl ⟨rfl, e ▸ r⟩
    · rw [show (y == x) = false by simpa using hy] at e
      exact .inr ⟨hy, e⟩

/-- storing a name that inner blocks hold -/
theorem Fs.storeC {C : Cx} (O : Ok C) {σ : Sto} {h h' : Heap} {x : Str} {c : Addr} {v : Value} {p : PV} (F : Fs C σ h) (hoc : C.oc = true) (hx : C.env.kindOf x = some .cell) (hc : C.env.cells.lookup x = some c)
    (hv' : h'.IsCell c (some v)) (hs : Heap.SameBut c h h') (r : Rep C.X h v p) : Fs C ((x, p) :: σ) h' := by
  obtain ⟨m, hn, hv⟩ := F.vars
  obtain ⟨hoff, hun⟩ := O.cel hoc x c hc
  obtain ⟨v₀, o₀, ho₀, hd₀⟩ := F.cells x c hc
  obtain ⟨o', ho', hd'⟩ := id hv'
  have nL : ∀ o xs n, h.get? c = some o → o.data ≠ .seq xs n := fun o xs n e d => by
    rw [ho₀] at e; cases e; rw [hd₀] at d; cases d
  have sk : SeqKeep C.X h h' := SeqKeep.of_but hs fun o xs n e d => absurd d (nL o xs n e)
  have hne : C.env.locals ≠ c := fun q => cell_ne_ns ⟨o₀, ho₀, hd₀⟩ hn q.symm
  refine ⟨xs_but hs nL F.xs, fun b o e => hs.extBut b o (fun q => ?_) (F.prot b o e), funFrames_but hs (fun o e vs d => ?_) (fun _ => by rw [ho']; rfl) F.frames, ⟨m, hn.sameBut hs hne, fun y q e => ?_⟩, fun y d e => ?_⟩
  · rw [← q, e] at hoff; cases hoff
  · rw [ho'] at e; cases e; rw [hd'] at d; cases d
  · rw [List.lookup_cons] at e
    by_cases hy : y = x
    · subst hy
      simp only [beq_self_eq_true, Option.some.injEq] at e
      subst e
      exact .inr ⟨hx, c, v, hc, hv', r.mono sk⟩
    · have hb : (y == x) = false := by simpa using hy
      rw [hb] at e
      rcases hv y q e with ⟨a, v', b, z⟩ | ⟨a, d, v', e', f, g⟩
      · exact .inl ⟨a, v', b, z.mono sk⟩
      · refine .inr ⟨a, d, v', e', isCell_but hs (fun q => hy ?_) f, g.mono sk⟩
        subst q
        exact hun y e'
  · by_cases q : d = c
    · subst q; exact ⟨_, hv'⟩
    · obtain ⟨v', z⟩ := F.cells y d e
      exact ⟨v', isCell_but hs q z⟩

/-- come out of a call, or noted in this frame -/
inductive Raised (C : Cx) (e c : Addr) (h : Heap) : Prop
  | flew (a0 : Value) : Heap.FlyingW C.b (C.fenv :: C.outer) e (.ref c) a0 h → Raised C e c h
  | held (a0 : Value) (L : Addr) : C.fenv.frame = some L → Heap.HeldW C.b (C.fenv :: C.outer) e (.ref c) a0 L h → Raised C e c h
theorem Fs.nx {C : Cx} {σ : Sto} {h h' : Heap} (F : Fs C σ h) (k : h.StaysIn h') : ¬C.X h'.objs.size := fun x => by
  obtain ⟨o, _, _, e, _⟩ := F.xs _ x
  have := k _ _ e
  rw [Heap.get?_none_of_le (Nat.le_refl _)] at this; cases this

def PostV (C : Cx) (k : Bool) (s : Shared) (Q : Value → Shared → Prop) (E : Value → Shared → Prop) : Out → Prop
  | .ret p => ∀ v h' tk, s.heap.StaysIn h' → (k = false → h' = s.heap) → Rep C.X h' v p → Q v { s with heap := h', toks := tk }
  | .exc c => ∀ e h' tk, s.heap.UpToSlots h' → Raised C e c h' → E (.ref e) { s with heap := h', toks := tk }

/-- an expression's outcome -/
def Ev (C : Cx) (k : Bool) (σ : Sto) (e : Expr) (o : Out) : Prop :=
  ∀ (s : Shared) (Q : Value → Shared → Prop) (E : Value → Shared → Prop), Fs C σ s.heap → PostV C k s Q E o → wpAny C.M C.A (eval e C.env) Q E s

/-- a test's outcome (no exception) -/
def Tst (C : Cx) (k : Bool) (σ : Sto) (e : Expr) (b : Bool) : Prop :=
  ∀ (s : Shared) (Q : Bool → Shared → Prop) (E : Value → Shared → Prop), Fs C σ s.heap → (∀ h' tk, s.heap.StaysIn h' → (k = false → h' = s.heap) → Q b { s with heap := h', toks := tk }) →
    wpAny C.M C.A (PySem.isTrue e C.env (eval e C.env)) Q E s

theorem Ev.up {C : Cx} {σ : Sto} {e : Expr} {p : PV} (h : Ev C false σ e (.ret p)) (k : Bool) : Ev C k σ e (.ret p) := fun s Q E F P =>
  h s Q E F fun v h' tk a b c => P v h' tk a (fun _ => b rfl) c

section
variable {C : Cx} {k : Bool} {σ : Sto}

/-- pass on: from a state one step further -/
theorem PostV.next {s : Shared} {Q : Value → Shared → Prop} {E : Value → Shared → Prop} {o : Out} (P : PostV C k s Q E o) {h' : Heap} {tk : Nat} (st : s.heap.StaysIn h') (e : k = false → h' = s.heap) :
    PostV C k { s with heap := h', toks := tk } Q E o := by
  cases o with
  | ret p => exact fun v h'' tk' a b c => P v h'' tk' (stays_trans st a) (fun z => (b z).trans (e z)) c
  | exc c => exact fun x h'' tk' a b => P x h'' tk' ((Heap.UpToSlots.of_keeps st).trans a) b

theorem ev_int {i : Int} {n : Nat} {pos : Pos} : Ev C k σ (.Constant (.int i) n pos) (.ret (.int i)) := fun s Q E _ P =>
  wpAny_Constant_int (P _ s.heap _ (stays_refl _) (fun _ => rfl) (.int _ _))
theorem ev_bool {b : Bool} {n : Nat} {pos : Pos} : Ev C k σ (.Constant (.bool b) n pos) (.ret (.bool b)) := fun s Q E _ P =>
  Constant_bool (P _ s.heap s.toks (stays_refl _) (fun _ => rfl) (.bool _))
theorem ev_none {n : Nat} {pos : Pos} : Ev C k σ (.Constant .none n pos) (.ret .none) := fun s Q E _ P =>
  Constant_none (P _ s.heap s.toks (stays_refl _) (fun _ => rfl) .none)
theorem ev_str {x : Str} {n : Nat} {pos : Pos} {s : Shared} {Q : Value → Shared → Prop} {E : Value → Shared → Prop} (h : ∀ t tk, Q (.str x t) { s with toks := tk }) (hx : x.length ≤ sizeLine) : wpAny C.M C.A (eval (.Constant (.str x) n pos) C.env) Q E s :=
  Calls.Constant_str (h _ _)

theorem ev_name (O : Ok C) {x : Str} {p : PV} {pos : Pos} (e : σ.lookup x = some p) (hd : (x == ("__debug__" : Str)) = false := by decide) : Ev C k σ (.Name x pos) (.ret p) := fun s Q E F P => by
  obtain ⟨m, hn, hv⟩ := F.vars
  refine wpAny_Name ?_ hd
  rcases hv x p e with ⟨a, v, b, c⟩ | ⟨a, c, v, e', f, g⟩
  · exact wpAny_loadName_local O.kind a hn b (P v s.heap s.toks (stays_refl _) (fun _ => rfl) c)
  · exact wpAny_loadName_cell O.kind a e' f (P v s.heap s.toks (stays_refl _) (fun _ => rfl) g)

/-- two parts, then an operation that only reckons -/
theorem ev_two {l r e : Expr} {p q z : PV} {op : Value → Value → Sem Value}
    (he : ∀ {s : Shared} {Q : Value → Shared → Prop} {E : Value → Shared → Prop}, wpAny C.M C.A (eval l C.env) (fun a s₁ => wpAny C.M C.A (eval r C.env) (fun b s₂ => wpAny C.M C.A (op a b) Q E s₂) E s₁) E s → wpAny C.M C.A (eval e C.env) Q E s)
    (hop : ∀ {s : Shared} {Q : Value → Shared → Prop} {E : Value → Shared → Prop} {a b : Value}, Fs C σ s.heap → Rep C.X s.heap a p → Rep C.X s.heap b q → (∀ v h' tk, s.heap.StaysIn h' → (k = false → h' = s.heap) → Rep C.X h' v z → Q v { s with heap := h', toks := tk }) → wpAny C.M C.A (op a b) Q E s)
    (hl : Ev C k σ l (.ret p)) (hr : Ev C k σ r (.ret q)) : Ev C k σ e (.ret z) := fun s Q E F P =>
  he (hl s _ E F fun a h₁ tk₁ s₁ e₁ r₁ => hr _ _ E (F.stays s₁) fun b h₂ tk₂ s₂ e₂ r₂ =>
    hop ((F.stays s₁).stays s₂) (r₁.mono (SeqKeep.of_stays s₂)) r₂ fun v h' tk s₃ e₃ r₃ => P v h' tk (stays_trans s₁ (stays_trans s₂ s₃)) (fun z => (e₃ z).trans ((e₂ z).trans (e₁ z))) r₃)
end
end Mine

end
section
open PySem PySem.Calls PySem.W PyProof.Rows
set_option Elab.async false
set_option linter.unusedVariables false
namespace Mine
variable {C : Cx} {k : Bool} {σ : Sto}

theorem PostV.refl {s : Shared} {Q E : Value → Shared → Prop} {p : PV} (P : PostV C k s Q E (.ret p)) {v : Value} {tk : Nat} (r : Rep C.X s.heap v p) : Q v { s with toks := tk } :=
  P v s.heap tk (stays_refl _) (fun _ => rfl) r

/-- int, int ↦ a value that stands by itself -/
theorem ev_ints {l r e : Expr} {a b : Int} {z : PV} {op : Value → Value → Sem Value}
    (hz : ∀ (s : Shared) (Q : Value → Shared → Prop) (E : Value → Shared → Prop) (t u : Tok), (∀ v tk, Rep C.X s.heap v z → Q v { s with toks := tk }) → wpAny C.M C.A (op (.int a t) (.int b u)) Q E s)
    (he : ∀ {s : Shared} {Q : Value → Shared → Prop} {E : Value → Shared → Prop}, wpAny C.M C.A (eval l C.env) (fun a s₁ => wpAny C.M C.A (eval r C.env) (fun b s₂ => wpAny C.M C.A (op a b) Q E s₂) E s₁) E s → wpAny C.M C.A (eval e C.env) Q E s)
    (hl : Ev C k σ l (.ret (.int a))) (hr : Ev C k σ r (.ret (.int b))) : Ev C k σ e (.ret z) :=
  ev_two he (fun {s Q E x y} _ rx ry h => by
    cases rx; cases ry
    exact hz _ _ _ _ _ fun v tk q => h v s.heap tk (stays_refl _) (fun _ => rfl) q) hl hr

section
variable {l r : Expr} {a b : Int} {pos : Pos}
theorem ev_add (hl : Ev C k σ l (.ret (.int a))) (hr : Ev C k σ r (.ret (.int b))) : Ev C k σ (.BinOp l .Add r pos) (.ret (.int (a + b))) :=
  ev_ints (op := binaryOp .Add) (fun _ _ _ _ _ h => add_int (h _ _ (.int _ _))) wpAny_BinOp hl hr
theorem ev_sub (hl : Ev C k σ l (.ret (.int a))) (hr : Ev C k σ r (.ret (.int b))) : Ev C k σ (.BinOp l .Sub r pos) (.ret (.int (a - b))) :=
  ev_ints (op := binaryOp .Sub) (fun _ _ _ _ _ h => sub_int (h _ _ (.int _ _))) wpAny_BinOp hl hr

theorem pylong_small {a b : Int} (hb : b.natAbs < 2 ^ 64) : Builtin.divisionGoesByPylong a b = false := by
  unfold Builtin.divisionGoesByPylong
  have : (if (b == 0) = true then 0 else b.natAbs.log2 / 30 + 1) ≤ 300 := by
    split
    · lia
    · rename_i hne
      have h0 : b.natAbs ≠ 0 := by
        intro q
        apply hne
        have : b = 0 := by lia
        simp [this]
      have := (Nat.log2_lt h0).mpr hb
      lia
  have h2 : decide ((if (b == 0) = true then 0 else b.natAbs.log2 / 30 + 1) > 300) = false := by
    apply decide_eq_false
    lia
  simp only [h2, Bool.false_and]
theorem bits_le {b : Int} (hb : b.natAbs < 2 ^ 64) : Builtin.Int.intBits b ≤ 64 := by
  unfold Builtin.Int.intBits
  split <;> first | lia | skip
  rename_i h0
  have hne : b.natAbs ≠ 0 := by
    intro q; apply h0; first | lia | (simp; lia)
  have := (Nat.log2_lt hne).mpr hb
  lia

theorem ev_mul (hl : Ev C k σ l (.ret (.int a))) (hr : Ev C k σ r (.ret (.int b))) (hb : IntMulOk a b) : Ev C k σ (.BinOp l .Mult r pos) (.ret (.int (a * b))) :=
  ev_ints (op := binaryOp .Mult) (fun _ _ _ _ _ h => PyProof.Rows.mul_int (h _ _ (.int _ _)) hb) wpAny_BinOp hl hr
theorem ev_floordiv (hl : Ev C k σ l (.ret (.int a))) (hr : Ev C k σ r (.ret (.int b))) (h0 : b ≠ 0) (hb : b.natAbs < 2 ^ 64) : Ev C k σ (.BinOp l .FloorDiv r pos) (.ret (.int (a.fdiv b))) :=
  ev_ints (op := binaryOp .FloorDiv) (fun _ _ _ _ _ h => PyProof.Rows.floordiv_int h0 (h _ _ (.int _ _)) (.inl (pylong_small hb))) wpAny_BinOp hl hr
theorem ev_mod (hl : Ev C k σ l (.ret (.int a))) (hr : Ev C k σ r (.ret (.int b))) (h0 : b ≠ 0) : Ev C k σ (.BinOp l .Mod r pos) (.ret (.int (a.fmod b))) :=
  ev_ints (op := binaryOp .Mod) (fun _ _ _ _ _ h => PyProof.Rows.mod_int' h0 (h _ _ (.int _ _))) wpAny_BinOp hl hr
theorem ev_and (hl : Ev C k σ l (.ret (.int a))) (hr : Ev C k σ r (.ret (.int b))) : Ev C k σ (.BinOp l .BitAnd r pos) (.ret (.int (Builtin.bitAnd a b))) :=
  ev_ints (op := binaryOp .BitAnd) (fun _ _ _ _ _ h => PyProof.Rows.and_int (h _ _ (.int _ _))) wpAny_BinOp hl hr
theorem ev_shl (hl : Ev C k σ l (.ret (.int a))) (hr : Ev C k σ r (.ret (.int b))) (h0 : 0 ≤ b) (h1 : b ≤ 1000000) (h2 : a.natAbs < 2 ^ 64) : Ev C k σ (.BinOp l .LShift r pos) (.ret (.int (a * 2 ^ b.toNat))) :=
  ev_ints (op := binaryOp .LShift) (fun _ _ _ _ _ h => PyProof.Rows.lshift_int_small h0 h1 h2 (h _ _ (.int _ _))) wpAny_BinOp hl hr
theorem ev_pow (hl : Ev C k σ l (.ret (.int a))) (hr : Ev C k σ r (.ret (.int b))) (h0 : 0 ≤ b) (h1 : b ≤ 1000000) (h2 : a.natAbs < 2 ^ 64) : Ev C k σ (.BinOp l .Pow r pos) (.ret (.int (a ^ b.toNat))) :=
  ev_ints (op := binaryOp .Pow) (fun _ _ _ _ _ h => PyProof.Rows.pow_int_small h0 h1 h2 (h _ _ (.int _ _))) wpAny_BinOp hl hr

theorem ev_lt (hl : Ev C k σ l (.ret (.int a))) (hr : Ev C k σ r (.ret (.int b))) (hb : behindInMarks .Lt r = false := by rfl) : Ev C k σ (.Compare l [.Lt] [r] pos) (.ret (.bool (decide (a < b)))) :=
  ev_ints (op := compareOp .Lt) (fun _ _ _ _ _ h => lt_int (h _ _ (.bool _))) (fun h => wpAny_Compare1 h hb) hl hr
theorem ev_gt (hl : Ev C k σ l (.ret (.int a))) (hr : Ev C k σ r (.ret (.int b))) (hb : behindInMarks .Gt r = false := by rfl) : Ev C k σ (.Compare l [.Gt] [r] pos) (.ret (.bool (decide (b < a)))) :=
  ev_ints (op := compareOp .Gt) (fun _ _ _ _ _ h => gt_int (h _ _ (.bool _))) (fun h => wpAny_Compare1 h hb) hl hr
theorem ev_eq (hl : Ev C k σ l (.ret (.int a))) (hr : Ev C k σ r (.ret (.int b))) (hb : behindInMarks .Eq r = false := by rfl) : Ev C k σ (.Compare l [.Eq] [r] pos) (.ret (.bool (a == b))) :=
  ev_ints (op := compareOp .Eq) (fun _ _ _ _ _ h => eq_int (h _ _ (.bool _))) (fun h => wpAny_Compare1 h hb) hl hr
theorem ev_ne (hl : Ev C k σ l (.ret (.int a))) (hr : Ev C k σ r (.ret (.int b))) (hb : behindInMarks .NotEq r = false := by rfl) : Ev C k σ (.Compare l [.NotEq] [r] pos) (.ret (.bool (a != b))) :=
  ev_ints (op := compareOp .NotEq) (fun _ _ _ _ _ h => ne_int (h _ _ (.bool _))) (fun h => wpAny_Compare1 h hb) hl hr
end

theorem ev_eqb {l r : Expr} {a b : Bool} {pos : Pos} (hl : Ev C k σ l (.ret (.bool a))) (hr : Ev C k σ r (.ret (.bool b))) (hb : behindInMarks .Eq r = false := by rfl) : Ev C k σ (.Compare l [.Eq] [r] pos) (.ret (.bool (a == b))) :=
  ev_two (op := compareOp .Eq) (fun h => wpAny_Compare1 h hb) (fun {s Q E x y} _ rx ry h => by
    cases rx; cases ry
    exact eq_bool (h _ s.heap s.toks (stays_refl _) (fun _ => rfl) (.bool _))) hl hr

theorem ev_neg {x : Expr} {a : Int} {pos : Pos} (h : Ev C k σ x (.ret (.int a))) : Ev C k σ (.UnaryOp .USub x pos) (.ret (.int (-a))) := fun s Q E F P =>
  UnaryOp_ (h s _ E F fun v h₁ tk₁ s₁ e₁ r₁ => by cases r₁; exact PyProof.Rows.neg_int (P _ h₁ _ s₁ e₁ (.int _ _)))
theorem ev_not {x : Expr} {a : Bool} {pos : Pos} (h : Ev C k σ x (.ret (.bool a))) : Ev C k σ (.UnaryOp .Not x pos) (.ret (.bool (!a))) := fun s Q E F P =>
  UnaryOp_ (h s _ E F fun v h₁ tk₁ s₁ e₁ r₁ => by cases r₁; exact not_of (wpAny_truthy_bool (P _ h₁ _ s₁ e₁ (.bool _))))

/-- a test by the value that the expression has -/
theorem tst_of {e : Expr} {b : Bool} (h : Ev C k σ e (.ret (.bool b)))
    (hp : ∀ whole, PySem.isTrue e C.env whole = (do let v ← whole; standAt e.pos; holding [v] (truthy v)) := by intro _; rfl) : Tst C k σ e b := fun s Q E F P =>
  isTrue_plain (h s _ E F fun v h₁ tk₁ s₁ e₁ r₁ => by cases r₁; exact wpAny_truthy_bool (P h₁ tk₁ s₁ e₁)) (hp _)
theorem tst_cmp {l r : Expr} {op : CmpOp} {p q : PV} {b : Bool} {pos : Pos} (hb : behindInMarks op r = false)
    (hop : ∀ (s : Shared) (Q : Value → Shared → Prop) (E : Value → Shared → Prop) (x y : Value), Rep C.X s.heap x p → Rep C.X s.heap y q → Q (.bool b) s → wpAny C.M C.A (compareOp op x y) Q E s)
    (hl : Ev C k σ l (.ret p)) (hr : Ev C k σ r (.ret q)) : Tst C k σ (.Compare l [op] [r] pos) b := fun s Q E F P =>
  wpAny_isTrue_Compare1 (hl s _ E F fun a h₁ tk₁ s₁ e₁ r₁ => hr _ _ E (F.stays s₁) fun b h₂ tk₂ s₂ e₂ r₂ =>
    hop _ _ _ _ _ (r₁.mono (SeqKeep.of_stays s₂)) r₂ (wpAny_truthy_bool (P h₂ tk₂ (stays_trans s₁ s₂) fun z => (e₂ z).trans (e₁ z)))) hb
section
variable {l r : Expr} {a b : Int} {pos : Pos}
theorem tst_lt (hl : Ev C k σ l (.ret (.int a))) (hr : Ev C k σ r (.ret (.int b))) (hb : behindInMarks .Lt r = false := by rfl) : Tst C k σ (.Compare l [.Lt] [r] pos) (decide (a < b)) :=
  tst_cmp hb (fun _ _ _ _ _ rx ry h => by cases rx; cases ry; exact lt_int h) hl hr
theorem tst_gt (hl : Ev C k σ l (.ret (.int a))) (hr : Ev C k σ r (.ret (.int b))) (hb : behindInMarks .Gt r = false := by rfl) : Tst C k σ (.Compare l [.Gt] [r] pos) (decide (b < a)) :=
  tst_cmp hb (fun _ _ _ _ _ rx ry h => by cases rx; cases ry; exact gt_int h) hl hr
theorem tst_eq (hl : Ev C k σ l (.ret (.int a))) (hr : Ev C k σ r (.ret (.int b))) (hb : behindInMarks .Eq r = false := by rfl) : Tst C k σ (.Compare l [.Eq] [r] pos) (a == b) :=
  tst_cmp hb (fun _ _ _ _ _ rx ry h => by cases rx; cases ry; exact eq_int h) hl hr
theorem tst_ne (hl : Ev C k σ l (.ret (.int a))) (hr : Ev C k σ r (.ret (.int b))) (hb : behindInMarks .NotEq r = false := by rfl) : Tst C k σ (.Compare l [.NotEq] [r] pos) (a != b) :=
  tst_cmp hb (fun _ _ _ _ _ rx ry h => by cases rx; cases ry; exact ne_int h) hl hr
theorem tst_eqb {a b : Bool} (hl : Ev C k σ l (.ret (.bool a))) (hr : Ev C k σ r (.ret (.bool b))) (hb : behindInMarks .Eq r = false := by rfl) : Tst C k σ (.Compare l [.Eq] [r] pos) (a == b) :=
  tst_cmp hb (fun _ _ _ _ _ rx ry h => by cases rx; cases ry; exact eq_bool h) hl hr
end
theorem tst_not {x : Expr} {b : Bool} {pos : Pos} (h : Tst C k σ x b) : Tst C k σ (.UnaryOp .Not x pos) (!b) := fun s Q E F P => isTrue_not (h s _ E F fun h' tk a b => P h' tk a b)
theorem tst_and {x y : Expr} {a b : Bool} {pos : Pos} (hx : Tst C k σ x a) (hy : a = true → Tst C k σ y b) : Tst C k σ (.BoolOp .And [x, y] pos) (a && b) := fun s Q E F P =>
  isTrue_and (hx s _ E F fun h₁ tk₁ s₁ e₁ => by
    cases a with
    | false => simp only [Bool.false_eq_true, if_false]; exact P h₁ tk₁ s₁ e₁
    | true =>
      simp only [if_true]
      refine isTrue_and (hy rfl _ _ E (F.stays s₁) fun h₂ tk₂ s₂ e₂ => ?_)
      have P' := P h₂ tk₂ (stays_trans s₁ s₂) (fun z => (e₂ z).trans (e₁ z))
      cases b with
      | false => simpa using P'
      | true => simp only [if_true]; exact isTrue_and_nil (by simpa using P'))
theorem tst_or {x y : Expr} {a b : Bool} {pos : Pos} (hx : Tst C k σ x a) (hy : a = false → Tst C k σ y b) : Tst C k σ (.BoolOp .Or [x, y] pos) (a || b) := fun s Q E F P =>
  isTrue_or (hx s _ E F fun h₁ tk₁ s₁ e₁ => by
    cases a with
    | true => simp only [if_true]; exact P h₁ tk₁ s₁ e₁
    | false =>
      simp only [Bool.false_eq_true, if_false]
      refine isTrue_or (hy rfl _ _ E (F.stays s₁) fun h₂ tk₂ s₂ e₂ => ?_)
      have P' := P h₂ tk₂ (stays_trans s₁ s₂) (fun z => (e₂ z).trans (e₁ z))
      cases b with
      | true => simpa using P'
      | false => simp only [Bool.false_eq_true, if_false]; exact isTrue_or_nil (by simpa using P'))

theorem ev_if {t x y : Expr} {b : Bool} {o : Out} {pos : Pos} (ht : Tst C k σ t b) (hx : b = true → Ev C k σ x o) (hy : b = false → Ev C k σ y o) : Ev C k σ (.IfExp t x y pos) o := fun s Q E F P =>
  IfExp_ (ht s _ E F fun h₁ tk₁ s₁ e₁ => by
    cases b with
    | true => simp only [if_true]; exact hx rfl _ _ E (F.stays s₁) (P.next s₁ e₁)
    | false => simp only [Bool.false_eq_true, if_false]; exact hy rfl _ _ E (F.stays s₁) (P.next s₁ e₁))

theorem ev_andb {x y : Expr} {a b : Bool} {pos : Pos} (hx : Ev C k σ x (.ret (.bool a))) (hy : a = true → Ev C k σ y (.ret (.bool b))) : Ev C k σ (.BoolOp .And [x, y] pos) (.ret (.bool (a && b))) := fun s Q E F P =>
  BoolOp_and (hx s _ E F fun v h₁ tk₁ s₁ e₁ r₁ => by
    cases r₁
    refine wpAny_truthy_bool ?_
    cases a with
    | false => simp only [Bool.false_eq_true, if_false]; exact P _ h₁ tk₁ s₁ e₁ (.bool _)
    | true =>
      simp only [if_true]
      exact BoolOp_one (hy rfl _ _ E (F.stays s₁) (P.next s₁ e₁)))

/-- the parts of a display, the arguments of a call -/
inductive OutL where
  | ret (ps : List PV)
  | exc (c : Addr)
def PostL (C : Cx) (k : Bool) (s : Shared) (Q : List Value → Shared → Prop) (E : Value → Shared → Prop) : OutL → Prop
  | .ret ps => ∀ vs h' tk, s.heap.StaysIn h' → (k = false → h' = s.heap) → Reps C.X h' vs ps → Q vs { s with heap := h', toks := tk }
  | .exc c => ∀ e h' tk, s.heap.UpToSlots h' → Raised C e c h' → E (.ref e) { s with heap := h', toks := tk }
def EvL (C : Cx) (k : Bool) (σ : Sto) (es : List Expr) (o : OutL) : Prop :=
  ∀ (pos : Pos) (s : Shared) (Q : List Value → Shared → Prop) (E : Value → Shared → Prop), Fs C σ s.heap → PostL C k s Q E o → wpAny C.M C.A (spliced (backTo pos (starEach es C.env))) Q E s
theorem evl_nil : EvL C k σ [] (.ret []) := fun pos s Q E F P => spliced_none (P [] s.heap s.toks (stays_refl _) (fun _ => rfl) .nil)
theorem evl_cons {e : Expr} {es : List Expr} {p : PV} {ps : List PV} (h : Ev C k σ e (.ret p)) (hs : EvL C k σ es (.ret ps)) (st : starEach (e :: es) C.env = (false, eval e C.env) :: starEach es C.env := by rfl) : EvL C k σ (e :: es) (.ret (p :: ps)) := fun pos s Q E F P =>
  spliced_more (h s _ E F fun v h₁ tk₁ s₁ e₁ r₁ => hs pos _ _ E (F.stays s₁) fun vs h₂ tk₂ s₂ e₂ r₂ =>
    P (v :: vs) h₂ tk₂ (stays_trans s₁ s₂) (fun z => (e₂ z).trans (e₁ z)) (.cons (r₁.mono (SeqKeep.of_stays s₂)) r₂)) st
theorem evl_exc {e : Expr} {es : List Expr} {c : Addr} (h : Ev C k σ e (.exc c)) (st : starEach (e :: es) C.env = (false, eval e C.env) :: starEach es C.env := by rfl) : EvL C k σ (e :: es) (.exc c) := fun pos s Q E F P =>
  spliced_more (h s _ E F P) st
theorem evl_later {e : Expr} {es : List Expr} {p : PV} {c : Addr} (h : Ev C k σ e (.ret p)) (hs : EvL C k σ es (.exc c)) (st : starEach (e :: es) C.env = (false, eval e C.env) :: starEach es C.env := by rfl) : EvL C k σ (e :: es) (.exc c) := fun pos s Q E F P =>
  spliced_more (h s _ E F fun v h₁ tk₁ s₁ e₁ r₁ => hs pos _ _ E (F.stays s₁) fun e h₂ tk₂ s₂ e₂ => P e h₂ tk₂ ((Heap.UpToSlots.of_keeps s₁).trans s₂) e₂) st

theorem push_stays (h : Heap) (o : Obj) : h.StaysIn (h.push o) := fun b o' e => Heap.get?_push_of_some o e

theorem ev_tuple {es : List Expr} {n : Nat} {pos : Pos} {ps : List PV} (h : EvL C true σ es (.ret ps)) (hz : ps.length ≤ 1000) : Ev C true σ (.Tuple es n pos) (.ret (.tup ps)) := fun s Q E F P =>
  Tuple_ (h pos s _ E F fun vs h₁ tk₁ s₁ e₁ r₁ => wpAny_newTuple (P _ _ _ (stays_trans s₁ (push_stays _ _)) (fun z => nomatch z)
    (.tup ⟨_, Heap.get?_push_size _ rfl, rfl, _, rfl⟩ (r₁.mono (SeqKeep.of_stays (push_stays _ _))))) (by rw [r₁.length, sizeLine_eq]; lia))
theorem ev_list {es : List Expr} {pos : Pos} {ps : List PV} (h : EvL C true σ es (.ret ps)) (hz : ps.length ≤ 1000) : Ev C true σ (.List es pos) (.ret (.list ps)) := fun s Q E F P =>
  List_ (h pos s _ E F fun vs h₁ tk₁ s₁ e₁ r₁ => wpAny_newList (P _ _ _ (stays_trans s₁ (push_stays _ _)) (fun z => nomatch z)
    (.list ⟨_, Heap.get?_push_size _ rfl, rfl, _, rfl⟩ (F.nx s₁) (r₁.mono (SeqKeep.of_stays (push_stays _ _))))) (by rw [r₁.length, sizeLine_eq]; lia))
theorem ev_tuple_exc {es : List Expr} {n : Nat} {pos : Pos} {c : Addr} (h : EvL C true σ es (.exc c)) : Ev C true σ (.Tuple es n pos) (.exc c) := fun s Q E F P => Tuple_ (h pos s _ E F P)

/-- an item at a place -/
theorem ev_item_tup {e i : Expr} {pos : Pos} {xs : List PV} {n : Int} {p : PV} (he : Ev C k σ e (.ret (.tup xs))) (hi : Ev C k σ i (.ret (.int n))) (h0 : 0 ≤ n) (h1 : n < 2 ^ 63) (hx : xs[n.toNat]? = some p)
    (hs : ∀ o v, subscripted i false o v = operate [o, v] (getItem o v) := by intros; rfl) : Ev C k σ (.Subscript e i pos) (.ret p) := fun s Q E F P =>
  Subscript_ (he s _ E F fun v h₁ tk₁ s₁ e₁ r₁ => hi _ _ E (F.stays s₁) fun w h₂ tk₂ s₂ e₂ r₂ => by
    cases r₂ with
    | int _ u =>
      cases r₁ with
      | tup ht hr =>
        obtain ⟨x, hv, rx⟩ := hr.get hx
        have hlt := (List.getElem?_eq_some_iff.mp hv).1
        refine item_tupleT (j := n.toNat) (isTuple_stays s₂ ht) (by lia) h1 ?_ hv (P _ h₂ _ (stays_trans s₁ s₂) (fun z => (e₂ z).trans (e₁ z)) (rx.mono (SeqKeep.of_stays s₂))) (hs _ _)
        unfold seqIndex?
        have hneg : ¬ n < 0 := by lia
        simp only [if_neg hneg]
        rw [if_pos]
        rw [Bool.and_eq_true]
        exact ⟨decide_eq_true h0, decide_eq_true (by lia)⟩)
theorem ev_item_list {e i : Expr} {pos : Pos} {xs : List PV} {n : Int} {p : PV} (he : Ev C k σ e (.ret (.list xs))) (hi : Ev C k σ i (.ret (.int n))) (h0 : 0 ≤ n) (h1 : n < 2 ^ 63) (hx : xs[n.toNat]? = some p)
    (hs : ∀ o v, subscripted i false o v = operate [o, v] (getItem o v) := by intros; rfl) : Ev C k σ (.Subscript e i pos) (.ret p) := fun s Q E F P =>
  Subscript_ (he s _ E F fun v h₁ tk₁ s₁ e₁ r₁ => hi _ _ E (F.stays s₁) fun w h₂ tk₂ s₂ e₂ r₂ => by
    cases r₂ with
    | int _ u =>
      cases r₁ with
      | list ht _ hr =>
        obtain ⟨x, hv, rx⟩ := hr.get hx
        have hl := isList_stays s₂ ht
        exact tail_any (ops := [_, _]) hl.typeIs slot_list_getitem.lookup (wpAny_getItem_list hl h0 h1 (by simpa using hv) (P _ h₂ _ (stays_trans s₁ s₂) (fun z => (e₂ z).trans (e₁ z)) (rx.mono (SeqKeep.of_stays s₂)))) (hs _ _))

/-- a global name in the function's place -/
def Callee (C : Cx) (fn : Str) (f : Value) : Prop := ∀ (s : Shared) (Q : Value → Shared → Prop) (E : Value → Shared → Prop) (pos : Pos), C.b.StaysIn s.heap → Q f s → wpAny C.M C.A (eval (.Name fn pos) C.env) Q E s
theorem callee_glob (O : Ok C) {fn : Str} {v : Value} (hk : C.env.kindOf fn = some .globalImplicit) (e : nsIn (KF C.w) mainGlobals fn = some (some v)) (hd : (fn == ("__debug__" : Str)) = false := by decide) : Callee C fn v := fun s Q E pos st h => by
  obtain ⟨mean, mg, mb, T⟩ := O.bs.top
  exact Name_function_global O.kind hk (loadGlobal_global (by rw [O.glob]; exact T.g.keeps st) (mg_of O.bs.inn T.g e) h) hd
theorem callee_boot (O : Ok C) {fn : Str} {v : Value} (hk : C.env.kindOf fn = some .globalImplicit) (e : nsIn (KF C.w) mainGlobals fn = some none) (hv : bootBuiltins fn = some v) (hn : fn ≠ "__name__" := by decide) (hd : (fn == ("__debug__" : Str)) = false := by decide) : Callee C fn v := fun s Q E pos st h => by
  obtain ⟨mean, mg, mb, T⟩ := O.bs.top
  exact Name_function_global O.kind hk (Calls.loadGlobal_builtin (by rw [O.glob]; exact T.g.keeps st) (mg_none_of O.bs.inn T.g e) (by rw [O.bi]; exact T.b.keeps st) ((T.builtins fn hn).trans hv) h) hd

/-- a call's contract -/
def Fn (w : World) (f : Addr) (d : Nat) (ps : List PV) (o : Out) : Prop :=
  ∀ (C : Cx), C.w = w → Ok C → d ≤ C.d → ∀ (s : Shared) (vs : List Value) (Q : Value → Shared → Prop) (E : Value → Shared → Prop), Gr C s.heap → Reps C.X s.heap vs ps → PostV C true s Q E o → wpAny C.M C.A (call (.ref f) vs) Q E s

theorem ev_call (O : Ok C) {fn : Str} {f : Addr} {d : Nat} {e : Expr} {es : List Expr} {ps : List PV} {o : Out} {p1 pos : Pos} (hc : Callee C fn (.ref f)) (kp : keepIn (KF C.w) (.ref f) = true)
    (ha : EvL C true σ (e :: es) (.ret ps)) (hf : Fn C.w f d ps o) (hd : d ≤ C.d) (hs : starEach (e :: es) C.env = (false, eval e C.env) :: starEach es C.env := by rfl)
    (hp : ∀ pos, (backTo pos (starEach es C.env)).any (·.1) = false := by intro _; rfl) : Ev C true σ (.Call (.Name fn p1) (e :: es) [] pos) o := fun s Q E F P => by
  refine Call_ (hc s _ E p1 (F.gr O).stays ?_)
  refine callWith_K O.bs.inn kp (ha pos s _ E F fun vs h₁ tk₁ s₁ e₁ r₁ => ?_) hs (hp pos)
  exact ⟨O.bs.inn.keeps ((F.stays s₁).gr O).stays, hf C rfl O hd _ _ _ E ((F.stays s₁).gr O) r₁ (P.next s₁ fun z => nomatch z)⟩
theorem ev_call_exc (O : Ok C) {fn : Str} {f : Addr} {e : Expr} {es : List Expr} {c : Addr} {p1 pos : Pos} (hc : Callee C fn (.ref f)) (kp : keepIn (KF C.w) (.ref f) = true)
    (ha : EvL C true σ (e :: es) (.exc c)) (hs : starEach (e :: es) C.env = (false, eval e C.env) :: starEach es C.env := by rfl)
    (hp : ∀ pos, (backTo pos (starEach es C.env)).any (·.1) = false := by intro _; rfl) : Ev C true σ (.Call (.Name fn p1) (e :: es) [] pos) (.exc c) := fun s Q E F P => by
  refine Call_ (hc s _ E p1 (F.gr O).stays ?_)
  exact callWith_K O.bs.inn kp (ha pos s _ E F P) hs (hp pos)

/-- built-in functions of one argument -/
theorem ev_builtin1 (O : Ok C) {fn : Str} {id : String} {e : Expr} {p z : PV} {p1 pos : Pos} (hc : Callee C fn (.builtin id))
    (hop : ∀ (s : Shared) (Q : Value → Shared → Prop) (E : Value → Shared → Prop) (v : Value), Rep C.X s.heap v p → (∀ y tk, Rep C.X s.heap y z → Q y { s with toks := tk }) → wpAny C.M C.A (call (.builtin id) [v]) Q E s)
    (he : Ev C k σ e (.ret p)) (hs : starEach [e] C.env = [(false, eval e C.env)] := by rfl) : Ev C k σ (.Call (.Name fn p1) [e] [] pos) (.ret z) := fun s Q E F P => by
  refine Call_ (hc s _ E p1 (F.gr O).stays ?_)
  refine PyProof.Rows.callWith_builtin1 (spliced_more (he s _ E F fun v h₁ tk₁ s₁ e₁ r₁ => spliced_none ?_) hs) hs
  exact hop _ _ _ _ r₁ fun y tk r => P y h₁ tk s₁ e₁ r
theorem ev_len (O : Ok C) {e : Expr} {xs : List PV} {p1 pos : Pos} (hc : Callee C "len" (.builtin "len")) (he : Ev C k σ e (.ret (.list xs))) (hz : xs.length < 2 ^ 62) (hs : starEach [e] C.env = [(false, eval e C.env)] := by rfl) :
    Ev C k σ (.Call (.Name "len" p1) [e] [] pos) (.ret (.int xs.length)) :=
  ev_builtin1 O hc (fun s Q E v r h => by
    cases r with
    | list hl _ hr =>
      refine len_list hl (by rw [List.size_toArray, hr.length]; lia) ?_
      rw [List.size_toArray, hr.length]
      exact h _ _ (.int _ _)) he hs
theorem ev_abs (O : Ok C) {e : Expr} {a : Int} {p1 pos : Pos} (hc : Callee C "abs" (.builtin "abs")) (he : Ev C k σ e (.ret (.int a))) (hs : starEach [e] C.env = [(false, eval e C.env)] := by rfl) :
    Ev C k σ (.Call (.Name "abs" p1) [e] [] pos) (.ret (.int (if a < 0 then -a else a))) :=
  ev_builtin1 O hc (fun s Q E v r h => by
    cases r with
    | int _ t => exact call_abs_int fun u tk => h _ _ (.int _ _)) he hs
end Mine

end
section
open PySem PySem.Calls PySem.W PyProof.Rows
set_option Elab.async false
set_option linter.unusedVariables false
namespace Mine
variable {C : Cx} {k : Bool} {σ : Sto}

inductive FO where
  | next (σ : Sto)
  | ret (p : PV)
  | exc (c : Addr)

def Out.fo : Out → FO
  | .ret p => .ret p
  | .exc c => .exc c

/-- raised within the frame: just made, or come out of a part -/
inductive RaisedS (C : Cx) (e c : Addr) (h : Heap) : Prop
  | made (h₀ : Heap) (args : List Value) : C.b.StaysIn h₀ → h₀.FunFrames C.b (C.fenv :: C.outer) → Heap.MadeExcOf h₀ h e (.ref c) args → RaisedS C e c h
  | flew : Raised C e c h → RaisedS C e c h

def PostS (C : Cx) (s : Shared) (Q : Flow → Shared → Prop) (E : Value → Shared → Prop) : FO → Prop
  | .next σ => ∀ h' tk, Fs C σ h' → Q .next { s with heap := h', toks := tk }
  | .ret p => ∀ v h' tk, C.g.StaysIn h' → h'.FunFrames C.b (C.fenv :: C.outer) → Rep C.X h' v p → Q (.ret v) { s with heap := h', toks := tk }
  | .exc c => ∀ e h' tk, C.g.UpToSlots h' → RaisedS C e c h' → E (.ref e) { s with heap := h', toks := tk }

def Ex1 (C : Cx) (σ : Sto) (st : Stmt) (o : FO) : Prop :=
  ∀ (s : Shared) (Q : Flow → Shared → Prop) (E : Value → Shared → Prop), Fs C σ s.heap → PostS C s Q E o → wpAny C.M C.A (exec st C.env) Q E s
def Ex (C : Cx) (σ : Sto) (sts : List Stmt) (o : FO) : Prop :=
  ∀ (s : Shared) (Q : Flow → Shared → Prop) (E : Value → Shared → Prop), Fs C σ s.heap → PostS C s Q E o → wpAny C.M C.A (execs sts C.env) Q E s

theorem ex_nil : Ex C σ [] (.next σ) := fun s Q E F P => wpAny_execs_nil (P s.heap s.toks F)
theorem ex_seq {st : Stmt} {rest : List Stmt} {σ₁ : Sto} {o : FO} (h : Ex1 C σ st (.next σ₁)) (r : Ex C σ₁ rest o) : Ex C σ (st :: rest) o := fun s Q E F P =>
  wpAny_execs_cons (h s _ E F fun h' tk F' => r _ _ E F' (by cases o <;> exact P))
theorem ex_ret {st : Stmt} {rest : List Stmt} {p : PV} (h : Ex1 C σ st (.ret p)) : Ex C σ (st :: rest) (.ret p) := fun s Q E F P =>
  wpAny_execs_cons (h s _ E F P)
theorem ex_exc {st : Stmt} {rest : List Stmt} {c : Addr} (h : Ex1 C σ st (.exc c)) : Ex C σ (st :: rest) (.exc c) := fun s Q E F P =>
  wpAny_execs_cons (h s _ E F P)

theorem PostS.excV (O : Ok C) {s : Shared} {Q : Flow → Shared → Prop} {E : Value → Shared → Prop} {c : Addr} (F : Fs C σ s.heap) (P : PostS C s Q E (.exc c)) {Q' : Value → Shared → Prop} {k : Bool} : PostV C k s Q' E (.exc c) :=
  fun e h' tk u r => P e h' tk ((Heap.UpToSlots.of_keeps F.prot).trans u) (.flew r)

theorem x_return (O : Ok C) {e : Expr} {pos : Pos} {o : Out} (h : Ev C true σ e o) : Ex1 C σ (.Return (some e) pos) o.fo := fun s Q E F P =>
  wpAny_Return_some (h s _ E F (by
    cases o with
    | ret p => exact fun v h' tk a b c => P v h' tk (stays_trans F.prot a) (funFrames_stays a F.frames) c
    | exc c => exact PostS.excV O F P))

theorem x_if (O : Ok C) {t : Expr} {body orelse : List Stmt} {pos : Pos} {b : Bool} {o : FO} (ht : Tst C true σ t b) (h1 : b = true → Ex C σ body o) (h2 : b = false → Ex C σ orelse o) : Ex1 C σ (.If t body orelse pos) o := fun s Q E F P =>
  wpAny_If (ht s _ E F fun h₁ tk₁ s₁ e₁ => by
    cases b with
    | true => simp only [if_true]; exact h1 rfl _ _ E (F.stays s₁) (by cases o <;> exact P)
    | false => simp only [Bool.false_eq_true, if_false]; exact h2 rfl _ _ E (F.stays s₁) (by cases o <;> exact P))

/-- a name that may be stored: a local, or a cell of the frame's own -/
inductive May (C : Cx) (x : Str) : Prop
  | loc : C.env.kindOf x = some .local → May C x
  | cell (c : Addr) : C.oc = true → C.env.kindOf x = some .cell → C.env.cells.lookup x = some c → May C x

/-- lists and tuples stay as they are -/
def SeqSame (h h' : Heap) : Prop := ∀ b o xs n, h.get? b = some o → o.data = .seq xs n → h'.get? b = some o
theorem SeqSame.keep {X : Addr → Prop} {h h' : Heap} (x : SeqSame h h') : SeqKeep X h h' := fun b o xs n _ e d => ⟨o, x b o xs n e d, rfl, rfl⟩
theorem SeqSame.trans {h h₁ h₂ : Heap} (x : SeqSame h h₁) (y : SeqSame h₁ h₂) : SeqSame h h₂ := fun b o xs n e d => y b o xs n (x b o xs n e d) d
theorem SeqSame.of_but {h h' : Heap} {a : Addr} (s : Heap.SameBut a h h') (na : ∀ o xs n, h.get? a = some o → o.data ≠ .seq xs n) : SeqSame h h' := fun b o xs n e d => (s.2 b fun q => na o xs n (q ▸ e) d).trans e

theorem x_put (O : Ok C) {x : Str} {p : PV} (hx : May C x) {s : Shared} {v : Value} {Q : Unit → Shared → Prop} {E : Value → Shared → Prop} (F : Fs C σ s.heap) (r : Rep C.X s.heap v p)
    (h : ∀ h' tk, SeqSame s.heap h' → Fs C ((x, p) :: σ) h' → Q () { s with heap := h', toks := tk }) : wpAny C.M C.A (storeName C.env x v) Q E s := by
  cases hx with
  | loc hx =>
    obtain ⟨m, hn, hv⟩ := F.vars
    refine wpAny_storeName_local hx hn (fun h' hn' hs => h h' _ (SeqSame.of_but hs ?_) (F.store O hx m hn hv hn' hs r)) (by rw [O.kind]; rfl)
    obtain ⟨oL, es, ep, hL, hLd, _⟩ := id hn
    exact fun o xs n e d => by
      rw [hL] at e; cases e; rw [hLd] at d; cases d
  | cell c hoc hx hc =>
    obtain ⟨v₀, hv₀⟩ := F.cells x c hc
    refine wpAny_storeName_cell O.kind hx hc hv₀ fun h' hv' hs => h h' s.toks (SeqSame.of_but hs ?_) (F.storeC O hoc hx hc hv' hs r)
    obtain ⟨o₀, ho₀, hd₀⟩ := hv₀
    exact fun o xs n e d => by
      rw [ho₀] at e; cases e; rw [hd₀] at d; cases d

theorem x_assign (O : Ok C) {x : Str} {e : Expr} {p : PV} {p1 pos : Pos} (hx : May C x) (h : Ev C true σ e (.ret p)) (hs : swapsWith e (some (.Name x p1)) pos.line C.env = pure false := by rfl) :
    Ex1 C σ (.Assign [.Name x p1] e pos) (.next ((x, p) :: σ)) := fun s Q E F P =>
  wpAny_Assign_Name (h s _ E F fun v h₁ tk₁ s₁ e₁ r₁ => x_put O hx (F.stays s₁) r₁ fun h' tk _ F' => P h' tk F') hs
theorem x_assign_exc (O : Ok C) {x : Str} {e : Expr} {c : Addr} {p1 pos : Pos} (h : Ev C true σ e (.exc c)) (hs : swapsWith e (some (.Name x p1)) pos.line C.env = pure false := by rfl) :
    Ex1 C σ (.Assign [.Name x p1] e pos) (.exc c) := fun s Q E F P =>
  wpAny_Assign_Name (h s _ E F (PostS.excV O F P)) hs

/-- names bound one after the other -/
def putAll : List Str → List PV → Sto → Sto
  | x :: xs, p :: ps, σ => putAll xs ps ((x, p) :: σ)
  | _, _, σ => σ
inductive Setters (env : Env) : List (Value → Sem Unit) → List Str → Prop
  | nil : Setters env [] []
  | cons {t : Value → Sem Unit} {x : Str} {ts : List (Value → Sem Unit)} {xs : List Str} : (∀ (M : Model) (A : Around) (v : Value) (Q : Unit → Shared → Prop) (E : Value → Shared → Prop) (s : Shared), wpAny M A (storeName env x v) Q E s → wpAny M A (t v) Q E s) →
      Setters env ts xs → Setters env (t :: ts) (x :: xs)
theorem x_stores_pre (O : Ok C) {ts' : List (Value → Sem Unit)} {vs' : List Value} {Q : Unit → Shared → Prop} {E : Value → Shared → Prop} {ts : List (Value → Sem Unit)} {xs : List Str} (hts : Setters C.env ts xs) : ∀ {ps : List PV} {vs : List Value} {s : Shared} {σ : Sto}, xs.length = ps.length → (∀ x ∈ xs, May C x) →
    Fs C σ s.heap → Reps C.X s.heap vs ps → (∀ h' tk, SeqSame s.heap h' → Fs C (putAll xs ps σ) h' → wpAny C.M C.A (assignInOrder ts' vs') Q E { s with heap := h', toks := tk }) → wpAny C.M C.A (assignInOrder (ts ++ ts') (vs ++ vs')) Q E s := by
  induction hts with
  | nil =>
    intro ps vs s σ hl _ F R h
    cases R with
    | nil => exact h s.heap s.toks (fun _ _ _ _ e _ => e) F
    | cons _ _ => cases hl
  | cons ht _ ih =>
    intro ps vs s σ hl hk F R h
    cases R with
    | nil => cases hl
    | cons r rs =>
      refine assignInOrder_cons (ht _ _ _ _ _ _ (x_put O (hk _ (.head _)) F r fun h' tk sk F' => ?_))
      exact ih (Nat.succ.inj hl) (fun y hy => hk y (.tail _ hy)) F' (rs.mono sk.keep) fun h'' tk sk' F'' => h h'' tk (sk.trans sk') F''
theorem x_stores (O : Ok C) {ts : List (Value → Sem Unit)} {xs : List Str} {ps : List PV} {vs : List Value} {s : Shared} {σ : Sto} {Q : Unit → Shared → Prop} {E : Value → Shared → Prop} (hts : Setters C.env ts xs) (hl : xs.length = ps.length) (hk : ∀ x ∈ xs, May C x)
    (F : Fs C σ s.heap) (R : Reps C.X s.heap vs ps) (h : ∀ h' tk, SeqSame s.heap h' → Fs C (putAll xs ps σ) h' → Q () { s with heap := h', toks := tk }) : wpAny C.M C.A (assignInOrder ts vs) Q E s := by
  have := x_stores_pre (ts' := []) (vs' := []) (Q := Q) (E := E) O hts hl hk F R fun h' tk sk F' => assignInOrder_nil (h h' tk sk F')
  rwa [List.append_nil, List.append_nil] at this

def nameStr (e : Expr) : Option Str := match e with | .Name x _ => some x | _ => none
def namesOf : List Expr → Option (List Str)
  | [] => some []
  | e :: r => match nameStr e with
    | some x => (namesOf r).map (x :: ·)
    | none => none
theorem isName_inv {e : Expr} (h : nameStr e ≠ none) : ∃ x p, e = .Name x p ∧ nameStr e = some x := by
  cases e <;> first | exact ⟨_, _, rfl, rfl⟩ | exact absurd rfl h
theorem namesOf_cons {e : Expr} {r : List Expr} {xs : List Str} (h : namesOf (e :: r) = some xs) : ∃ x p ys, e = .Name x p ∧ xs = x :: ys ∧ namesOf r = some ys := by
  cases hn : nameStr e with
  | none => unfold namesOf at h; rw [hn] at h; cases h
  | some x =>
    obtain ⟨y, p, rfl, e2⟩ := isName_inv (e := e) (by rw [hn]; exact Option.some_ne_none x)
    obtain rfl := Option.some.inj (hn.symm.trans e2)
    obtain ⟨ys, h1, h2⟩ := Option.map_eq_some_iff.mp (show (namesOf r).map (x :: ·) = some xs from h)
    exact ⟨x, p, ys, rfl, h2.symm, h1⟩
theorem assignEach_names (env : Env) {es : List Expr} {xs : List Str} (h : namesOf es = some xs) : (assignEach es env).length = xs.length ∧ (assignEach es env).findIdx? (·.1) = none ∧ Setters env ((assignEach es env).map (·.2)) xs := by
  induction es generalizing xs with
  | nil => cases h; exact ⟨rfl, rfl, .nil⟩
  | cons e r ih =>
    obtain ⟨x, p, ys, rfl, rfl, hy⟩ := namesOf_cons h
    obtain ⟨h1, h2, h3⟩ := ih hy
    refine ⟨congrArg (· + 1) h1, ?_, .cons (fun M A v Q E s h => PyProof.Rows.assign_Name h) h3⟩
    show List.findIdx? _ ((false, _) :: assignEach r env) = none
    rw [List.findIdx?_cons, h2]; rfl
theorem setters_bind (env : Env) : ∀ xs : List Str, Setters env (xs.map fun n => bindName env n) xs
  | [] => .nil
  | x :: xs => .cons (fun M A v Q E s h => wpAny_bindName h) (setters_bind env xs)

theorem extBut_stays {h h' : Heap} (x : Heap.ExtBut h.objs.size h h') : h.StaysIn h' := fun b o e => x b o (Nat.ne_of_lt (Heap.lt_size e)) e

theorem unpackTup (O : Ok C) {ps : List PV} {n : Nat} {s : Shared} {v : Value} {Q : List Value → Shared → Prop} {E : Value → Shared → Prop} (r : Rep C.X s.heap v (.tup ps)) (hn : n = ps.length)
    (h : ∀ vs h' tk, s.heap.StaysIn h' → Reps C.X h' vs ps → Q vs { s with heap := h', toks := tk }) : wpAny C.M C.A (unpackItems v n none) Q E s := by
  cases r with
  | tup ht hr =>
    rename_i a vs
    have hz : n = vs.toArray.size := by rw [List.size_toArray, hr.length, hn]
    subst hz
    refine wpAny_unpackItems_tuple O.hh ht fun h' he => ?_
    exact h vs h' s.toks (extBut_stays he) (hr.mono (SeqKeep.of_stays (extBut_stays he)))

/-- x, y = (a, b), and a tuple out of a call -/
theorem x_unpack (O : Ok C) {es : List Expr} {xs : List Str} {e : Expr} {ps : List PV} {n : Nat} {p1 pos : Pos} (he : namesOf es = some xs) (hl : xs.length = ps.length) (hk : ∀ x ∈ xs, May C x) (h : Ev C true σ e (.ret (.tup ps)))
    (hs : swapsWithSole [.Tuple es n p1] e pos.line C.env = pure false := by rfl) (hw : swappedStores [.Tuple es n p1] e C.env = pure none := by rfl) : Ex1 C σ (.Assign [.Tuple es n p1] e pos) (.next (putAll xs ps σ)) := fun s Q E F P => by
  refine Assign_Tuple (h s _ E F fun v h₁ tk₁ s₁ e₁ r₁ => ?_) hs hw
  cases r₁ with
  | tup ht hr =>
    obtain ⟨h1, h2, h3⟩ := assignEach_names C.env he
    refine wpAny_assign_Tuple O.hh ht (by rw [h1, hl, List.size_toArray, hr.length]) h2 fun h₂ he₂ => ?_
    have st := extBut_stays he₂
    exact x_stores O h3 hl hk ((F.stays s₁).stays st) (by simpa using hr.mono (SeqKeep.of_stays st)) fun h' tk _ F' => P h' tk F'
theorem x_swap (O : Ok C) {es : List Expr} {xs : List Str} {e : Expr} {ps : List PV} {n : Nat} {p1 pos : Pos} (hl : xs.length = ps.length) (hk : ∀ x ∈ xs, May C x) (h : Ev C true σ e (.ret (.tup ps)))
    (hw : swappedStores [.Tuple es n p1] e C.env = pure (some xs) := by rfl) (hs : swapsWithSole [.Tuple es n p1] e pos.line C.env = pure false := by rfl) : Ex1 C σ (.Assign [.Tuple es n p1] e pos) (.next (putAll xs.reverse ps.reverse σ)) := fun s Q E F P => by
  refine Assign_Tuple_swapped (h s _ E F fun v h₁ tk₁ s₁ e₁ r₁ => ?_) hs hw
  refine unpackTup O r₁ hl fun vs h₂ tk₂ s₂ r₂ => ?_
  exact x_stores O (setters_bind C.env xs.reverse) (by simpa using hl) (fun x hx => hk x (by simpa using hx)) ((F.stays s₁).stays s₂) r₂.reverse fun h' tk _ F' => P h' tk F'

theorem x_unpack_exc (O : Ok C) {es : List Expr} {e : Expr} {c : Addr} {n : Nat} {p1 pos : Pos} (h : Ev C true σ e (.exc c)) (hs : swapsWithSole [.Tuple es n p1] e pos.line C.env = pure false := by rfl) (hw : swappedStores [.Tuple es n p1] e C.env = pure none := by rfl) :
    Ex1 C σ (.Assign [.Tuple es n p1] e pos) (.exc c) := fun s Q E F P => Assign_Tuple (h s _ E F (PostS.excV O F P)) hs hw

/-- the way out of a frame by an exception -/
theorem leaving_out {C : Cx} {L : Addr} {e c : Addr} {s : Shared} {Q : Unit → Shared → Prop} {E : Value → Shared → Prop} (hfr : C.A.frames = some (C.fenv :: C.outer)) (hf : C.fenv.frame = some L) (R : RaisedS C e c s.heap)
    (h : ∀ h' a0, Heap.FlyingW C.b C.outer e (.ref c) a0 h' → s.heap.UpToSlots h' → Q () { s with heap := h' }) : wpAny C.M C.A (leaving C.fenv (.ref e)) Q E s := by
  cases R with
  | made h₀ args hb hF hx => exact wpAny_leaves_madeW hfr hf hb hF hx fun h' t x1 _ _ x4 => h h' _ x1 x4
  | flew r => cases r with
   | flew a0 r => exact wpAny_leaves_onW hfr hf r fun h' x1 x2 => h h' a0 x1 x2
   | held a0 L' hf' r =>
    rw [hf] at hf'
    cases hf'
    unfold leaving
    refine wpAny_bind (wpAny_noteFrame_againW hf r.2.2.2 ?_)
    refine wpAny_landsW r fun h' hfl u => ?_
    obtain ⟨k1, k2, ⟨_, _, k3⟩, k4⟩ := hfl
    exact h h' a0 ⟨k1, k2, k3, k4⟩ u

inductive Par (X : Addr → Prop) (h : Heap) : List (Str × Value) → Sto → Prop
  | nil : Par X h [] []
  | cons {x : Str} {v : Value} {p : PV} {a : List (Str × Value)} {b : Sto} : Rep X h v p → Par X h a b → Par X h ((x, v) :: a) ((x, p) :: b)
theorem Par.snoc {X : Addr → Prop} {h : Heap} {x : Str} {v : Value} {p : PV} (r : Rep X h v p) {a : List (Str × Value)} {b : Sto} (q : Par X h a b) : Par X h (a ++ [(x, v)]) (b ++ [(x, p)]) := by
  induction q with
  | nil => exact .cons r .nil
  | cons q _ ih => exact .cons q ih
theorem Par.reverse {X : Addr → Prop} {h : Heap} {a : List (Str × Value)} {b : Sto} (q : Par X h a b) : Par X h a.reverse b.reverse := by
  induction q with
  | nil => exact .nil
  | cons q _ ih =>
    rw [List.reverse_cons, List.reverse_cons]
    exact Par.snoc q ih
theorem Par.zip {X : Addr → Prop} {h : Heap} (xs : List Str) {vs : List Value} {ps : List PV} (r : Reps X h vs ps) : Par X h (xs.zip vs) (xs.zip ps) := by
  induction xs generalizing vs ps with
  | nil => rw [List.zip_nil_left, List.zip_nil_left]; exact .nil
  | cons x xs ih => cases ps with
    | nil => obtain rfl := r.nil_inv; rw [List.zip_nil_right, List.zip_nil_right]; exact .nil
    | cons p ps => obtain ⟨u, us, rfl, a, b⟩ := r.cons_inv; exact .cons a (ih b)
theorem Par.lookup {X : Addr → Prop} {h : Heap} {x : Str} {p : PV} {a : List (Str × Value)} {b : Sto} (q : Par X h a b) (e : b.lookup x = some p) : ∃ v, a.lookup x = some v ∧ Rep X h v p := by
  induction q with
  | nil => cases e
  | @cons y v q' a b r t ih =>
    rw [List.lookup_cons] at e ⊢
    cases hb : x == y with
    | true => rw [hb] at e; cases e; exact ⟨v, rfl, r⟩
    | false => rw [hb] at e; exact ih e
theorem lookup_mem {α : Type} {x : Str} {p : α} {b : List (Str × α)} (e : b.lookup x = some p) : (x, p) ∈ b := by
  induction b with
  | nil => cases e
  | cons y b ih =>
    rw [List.lookup_cons] at e
    cases hb : x == y.1 with
    | true => rw [hb] at e; cases e; rw [beq_iff_eq.mp hb]; exact .head _
    | false => rw [hb] at e; exact .tail _ (ih e)

theorem all0 {P : List Value → Prop} (h : P []) (vs : List Value) (e : vs.length = 0) : P vs := by cases vs with | nil => exact h | cons a r => cases e
theorem allS {P : List Value → Prop} {n : Nat} (h : ∀ a vs, vs.length = n → P (a :: vs)) (vs : List Value) (e : vs.length = n + 1) : P vs := by cases vs with | nil => cases e | cons a r => exact h a r (Nat.succ.inj e)
theorem all1 {P : List Value → Prop} (h : ∀ a, P [a]) : ∀ vs : List Value, vs.length = 1 → P vs := allS fun a => all0 (h a)
theorem all2 {P : List Value → Prop} (h : ∀ a b, P [a, b]) : ∀ vs : List Value, vs.length = 2 → P vs := allS fun a => allS fun b => all0 (h a b)
theorem all3 {P : List Value → Prop} (h : ∀ a b c, P [a, b, c]) : ∀ vs : List Value, vs.length = 3 → P vs := allS fun a => allS fun b => allS fun c => all0 (h a b c)
theorem all4 {P : List Value → Prop} (h : ∀ a b c d, P [a, b, c, d]) : ∀ vs : List Value, vs.length = 4 → P vs := allS fun a => allS fun b => allS fun c => allS fun d => all0 (h a b c d)
theorem all5 {P : List Value → Prop} (h : ∀ a b c d e, P [a, b, c, d, e]) : ∀ vs : List Value, vs.length = 5 → P vs := allS fun a => allS fun b => allS fun c => allS fun d => allS fun e => all0 (h a b c d e)
theorem all6 {P : List Value → Prop} (h : ∀ a b c d e f, P [a, b, c, d, e, f]) : ∀ vs : List Value, vs.length = 6 → P vs := allS fun a => allS fun b => allS fun c => allS fun d => allS fun e => allS fun f => all0 (h a b c d e f)

/-- a frame's context -/
noncomputable abbrev mkC (w : World) (X : Addr → Prop) (b g : Heap) (A : Around) (env : Env) (outer : List Env) (d : Nat) : Cx := ⟨w, b, g, A, env, env, outer, d, true, X, false⟩

theorem fn_of {w : World} {f : Addr} {d : Nat} {ps : List PV} {o : Out} {oc : Value} {od : Option Addr} {name qual : Str} {params : Arguments} {body : List Stmt} {scope : Scope} {dV kV doc pm cdv ct : Value} {an : Option Addr} {osl : Array (Option Value)} (xs : List Str)
    (ho : (KF w).lookup f = some ⟨oc, od, .func (fnOf name qual params body scope dV kV doc pm an cdv ct), osl⟩) (hcd : codeIn (KF w) cdv qual = true)
    (hbind : ∀ (s : Shared) (vs : List Value), vs.length = ps.length → BindsTo s (fnOf name qual params body scope dV kV doc pm an cdv ct) ⟨vs, []⟩ (xs.zip vs))
    (hloc : (xs.all fun x => decide (scope.names.lookup x = some .local)) = true) (hcell : ∀ x ∈ scope.names, x.2 ≠ .cell)
    (h : ∀ X b g A L outer dd, Ok (mkC w X b g A (envX qual scope L f cdv []) outer dd) → d ≤ dd → Ex (mkC w X b g A (envX qual scope L f cdv []) outer dd) ((xs.zip ps).reverse) body o.fo)
    (hco : scope.isCoroutine = false := by rfl) (hgen : scope.isGenerator = false := by rfl) (hk : scope.kind = .function := by rfl) : Fn w f (d + 1) ps o := by
  rintro C rfl O hd s vs Q E G R P
  refine wpAny_call ?_
  obtain ⟨mean, mg, mb, T⟩ := O.bs.top
  have hz := Heap.get?_none_of_le (h := s.heap) (Nat.le_refl _)
  have kindL : ∀ x ∈ xs, scope.names.lookup x = some .local := fun x hx => of_decide_eq_true (List.all_eq_true.mp hloc x hx)
  have zmem : ∀ x v, (x, v) ∈ xs.zip vs → x ∈ xs := fun x v hm => (List.of_mem_zip hm).1
  refine codeAny_call_def (fd := fnOf name qual params body scope dV kV doc pm an cdv ct) (body := body) (binds := xs.zip vs) (by have := O.depth; lia) (G.stays _ _ (O.bs.inn _ _ ho)) rfl (T.nolimit.keeps G.stays)
    (codeRec_of (O.bs.inn.keeps G.stays) hcd) rfl (hbind _ _ R.length) hcell (fun x hx => kindL _ (zmem x.1 x.2 hx)) (fun h₁ hns hk₁ => ?_) hco hgen hk
  have hO : Ok (mkC C.w C.X C.b s.heap (C.A.deeper (envX qual scope s.heap.objs.size f cdv [])) (envX qual scope s.heap.objs.size f cdv []) (C.fenv :: C.outer) (C.d - 1)) :=
    { bs := O.bs, hh := O.hh, fr := Around.frames_deeper O.fr, ff := rfl, kind := hk, glob := rfl, bi := rfl, off := hz, bg := G.stays, tp := fun q => Bool.noConfusion (show false = true from q),
      depth := by have := O.depth; show C.A.depth + 1 + (C.d - 1) < _; lia
      units := by have := O.units; show C.A.units + 3 + 8 * (C.d - 1) < _; lia
      clo := fun x q => absurd rfl (hcell _ (lookup_mem q))
      cel := fun _ x c e => nomatch e }
  have hb0 : C.b.get? s.heap.objs.size = none := by
    cases q : C.b.get? s.heap.objs.size with
    | none => rfl
    | some o => have := G.stays _ _ q; rw [hz] at this; cases this
  refine h C.X C.b s.heap _ s.heap.objs.size _ _ hO (by lia) _ _ _ ⟨xs_stays hk₁ G.xs, hk₁, ?_, ⟨_, hns, fun x p e => .inl ⟨?_, ?_⟩⟩, fun x c e => nomatch e⟩ ?_
  · exact Heap.FunFrames.cons (by show scope.kind ≠ .module; rw [hk]; decide) rfl hns hb0 (funFrames_stays hk₁ G.frames)
  · obtain ⟨v, hv, _⟩ := (Par.zip xs R).reverse.lookup e
    have := lookup_mem e
    exact kindL x (List.of_mem_zip (List.mem_reverse.mp this)).1
  · exact ((Par.zip xs (R.mono (SeqKeep.of_stays hk₁))).reverse).lookup e
  · cases o with
    | ret p => exact fun v h' tk a b c => P v h' tk a (fun z => nomatch z) c
    | exc c =>
      intro e h' tk u r
      refine leaving_out (C := mkC C.w C.X C.b s.heap (C.A.deeper (envX qual scope s.heap.objs.size f cdv [])) (envX qual scope s.heap.objs.size f cdv []) (C.fenv :: C.outer) (C.d - 1)) hO.fr rfl r fun h'' a0 x1 x2 => ?_
      exact P e h'' tk (u.trans x2) (.flew a0 x1)
end Mine

end
section
open PySem PySem.Calls PySem.W PyProof.Rows
set_option Elab.async false
set_option linter.unusedVariables false
namespace Mine
variable {C : Cx} {k : Bool} {σ : Sto}

/-- the same context, another part of the heap protected -/
abbrev Cx.at (C : Cx) (g : Heap) : Cx := { C with g := g, b := cond C.top g C.b }

theorem at_le {h : Heap} {hid : List Addr} (hb : C.b.StaysIn h) (hm : ∀ a ∈ hid, C.b.get? a = none) : C.b.StaysIn (hideAll h hid) ∧ C.b.StaysIn (C.at (hideAll h hid)).b := by
  have k : C.b.StaysIn (hideAll h hid) := fun b o e => hideAll_get _ (hb b o e) fun q => by rw [hm b q] at e; cases e
  refine ⟨k, ?_⟩
  show C.b.StaysIn (cond C.top _ C.b)
  cases C.top with
  | true => exact k
  | false => exact stays_refl _
theorem ok_at (O : Ok C) {h : Heap} {hid : List Addr} (hb : C.b.StaysIn h) (hm : ∀ a ∈ hid, C.b.get? a = none) (hL : C.env.locals ∈ hid) (hc : C.oc = true → ∀ x c, C.env.cells.lookup x = some c → c ∈ hid) : Ok (C.at (hideAll h hid)) := by
  obtain ⟨k, kb⟩ := at_le (C := C) hb hm
  have hbg : (C.at (hideAll h hid)).b.StaysIn (hideAll h hid) := by
    show (cond C.top _ C.b).StaysIn _
    cases C.top with
    | true => exact stays_refl _
    | false => exact k
  have hbs : Bs C.w (C.at (hideAll h hid)).b := ⟨O.bs.inn.keeps kb, let ⟨a, c, d, T⟩ := O.bs.top; ⟨a, c, d, T.keeps kb⟩⟩
  exact { bs := hbs, hh := O.hh, fr := O.fr, ff := O.ff, kind := O.kind, glob := O.glob, bi := O.bi, off := hideAll_none _ hL, bg := hbg
          tp := fun q => ⟨by show cond C.top _ C.b = _; rw [show C.top = true from q]; rfl, (O.tp q).2⟩
          depth := O.depth, units := O.units, clo := O.clo, cel := fun h1 x c e => ⟨hideAll_none _ (hc h1 x c e), (O.cel h1 x c e).2⟩ }
/-- the frames above the higher ground, and back -/
theorem frames_at (O : Ok C) {h : Heap} {hid : List Addr} (hL : C.env.locals ∈ hid) (F : h.FunFrames C.b (C.fenv :: C.outer)) : h.FunFrames (C.at (hideAll h hid)).b (C.fenv :: C.outer) := by
  cases ht : C.top with
  | false =>
    have e : (C.at (hideAll h hid)).b = C.b := by show cond C.top _ C.b = _; rw [ht]; rfl
    rw [e]; exact F
  | true =>
    have e : (C.at (hideAll h hid)).b = hideAll h hid := by show cond C.top _ C.b = _; rw [ht]; rfl
    obtain ⟨_, ho, hf⟩ := O.tp ht
    rw [e, ho]
    rw [ho] at F
    obtain ⟨k, ⟨L, o, hf', hb, hl, hd⟩, _⟩ := F
    rw [hf] at hf'
    cases hf'
    exact ⟨k, ⟨_, o, hf, hideAll_none _ hL, hl, hd⟩, trivial⟩

/-- all that is no record stays, but for what a loop's own iterator turns -/
def ItStep (wr : List Addr) (h h' : Heap) : Prop := (∀ b o, b ∉ wr → h.get? b = some o → h'.get? b = some o) ∧ ∀ b ∈ wr, ∃ o vs, h.get? b = some o ∧ o.data = .fields vs
theorem ItStep.keep {wr : List Addr} {h h' : Heap} (x : ItStep wr h h') {b : Addr} {o : Obj} (e : h.get? b = some o) (n : ∀ vs, o.data ≠ .fields vs) : h'.get? b = some o :=
  x.1 b o (fun q => by obtain ⟨o', vs, e', d⟩ := x.2 b q; rw [e] at e'; cases e'; exact n vs d) e
theorem ItStep.seq {X : Addr → Prop} {wr : List Addr} {h h' : Heap} (x : ItStep wr h h') : SeqKeep X h h' := fun b o xs n _ e d => ⟨o, x.keep e (fun vs q => by rw [d] at q; cases q), rfl, rfl⟩
theorem ItStep.ns {wr : List Addr} {h h' : Heap} (x : ItStep wr h h') {a : Addr} {m : Str → Option Value} (hn : h.Ns a m) : h'.Ns a m := by
  obtain ⟨o, es, ep, e, d, r⟩ := hn
  exact ⟨o, es, ep, x.keep e (fun vs q => by rw [d] at q; cases q), d, r⟩
theorem ItStep.cell {wr : List Addr} {h h' : Heap} (x : ItStep wr h h') {c : Addr} {v : Option Value} (hc : h.IsCell c v) : h'.IsCell c v := by
  obtain ⟨o, e, d⟩ := hc
  exact ⟨o, x.keep e (fun vs q => by rw [d] at q; cases q), d⟩
theorem ItStep.frames {wr : List Addr} {h h' b : Heap} (x : ItStep wr h h') {l : List Env} (F : h.FunFrames b l) : h'.FunFrames b l := F.of_keeps fun a o e n => ⟨o, x.keep e n, rfl⟩
theorem ItStep.stays {wr : List Addr} {g h h' : Heap} (x : ItStep wr h h') (k : g.StaysIn h) (n : ∀ b ∈ wr, g.get? b = none) : g.StaysIn h' := fun b o e =>
  x.1 b o (fun q => by rw [n b q] at e; cases e) (k b o e)

theorem Fs.step {wr : List Addr} {h h' : Heap} (F : Fs C σ h) (x : ItStep wr h h') (n : ∀ b ∈ wr, C.g.get? b = none) : Fs C σ h' := by
  obtain ⟨m, hn, hv⟩ := F.vars
  refine ⟨fun a q => let ⟨o, its, k, e, d⟩ := F.xs a q; ⟨o, its, k, x.keep e (fun vs z => by rw [d] at z; cases z), d⟩, x.stays F.prot n, x.frames F.frames, ⟨m, x.ns hn, fun y p e => ?_⟩, fun y c e => let ⟨v, z⟩ := F.cells y c e; ⟨v, x.cell z⟩⟩
  rcases hv y p e with ⟨a, v, b, r⟩ | ⟨a, c, v, e', f, r⟩
  · exact .inl ⟨a, v, b, r.mono x.seq⟩
  · exact .inr ⟨a, c, v, e', x.cell f, r.mono x.seq⟩

/-- what a loop goes over: its items, in the heap that stood before the iterator was made -/
structure Src (C : Cx) (target : Expr) (h₀ r₀ : Heap) (ps : List PV) (I : Addr) (fp wr : List Addr) (P Md : Nat → Value → Heap → Prop) (St : Nat → Heap → Prop) : Prop where
  W : KTurns prg C.w C.A target I fp wr ps.length P Md St
  self : ∀ s Q E, St 0 s.heap → Q (.ref I) s → wpAny C.M C.A (pyIter (.ref I)) Q E s
  fresh : ∀ b ∈ wr, h₀.get? b = none
  seqs : ∀ b ∈ fp, b ∈ wr ∨ ∃ o xs n, h₀.get? b = some o ∧ o.data = .seq xs n ∧ (C.X b → o.cls ≠ .type "list")
  fld : ∀ i h, St i h → ∀ b ∈ wr, ∃ o vs, h.get? b = some o ∧ o.data = .fields vs
  rep : ∀ Y i v h p, (∀ a, Y a → C.X a ∨ r₀.get? a = none) → P i v h → SeqKeep Y r₀ h → ps[i]? = some p → Rep Y h v p

theorem KTurns_of {w : World} {A : Around} {target : Expr} {I : Addr} {fp wr : List Addr} {n : Nat} {P : Nat → Value → Prop} {St : Nat → Heap → Prop} (W : Walks prg w A I fp wr n P St) (ht : ∀ v, letOwnedTupleGo target (.ref I) v = pure ()) :
    KTurns prg w A target I fp wr n (fun i v _ => P i v) (fun i v h => P i v ∧ St (i + 1) h) St :=
  KTurns.ofWalks W fun i v s Q E _ h => by rw [ht v]; exact wpAny_pure h

def isTupT (e : Expr) : Bool := match e with | .Tuple .. => true | _ => false
theorem src_list (O : Ok C) {target : Expr} (ht : (∀ r v, letOwnedTupleGo target (.ref r) v = pure ()) ∨ isTupT target = true) {a : Addr} {vs : List Value} {ps : List PV} {h r₀ : Heap} (hl : h.IsList a vs.toArray) (nx : ¬C.X a) (hr : Reps C.X r₀ vs ps) :
    Src C target h r₀ ps h.objs.size [h.objs.size, a] [h.objs.size] (fun i v _ => vs.toArray[i]? = some v) (fun i v h' => vs.toArray[i]? = some v ∧ (h'.IsListIter h.objs.size a (i + 1) ∧ h'.IsList a vs.toArray)) (fun i h' => h'.IsListIter h.objs.size a i ∧ h'.IsList a vs.toArray) := by
  obtain ⟨ol, hol, hcl, nl, hdl⟩ := id hl
  have hne : a ≠ h.objs.size := Nat.ne_of_lt (Heap.lt_size hol)
  have W := Walks.list (prog := prg) (w := C.w) O.hh h.objs.size a hne vs.toArray
  have hz : vs.toArray.size = ps.length := by rw [List.size_toArray, hr.length]
  rw [hz] at W
  refine ⟨KTurns.ofWalks W fun i v s Q E st h => ?_, fun s Q E a b => W.self 0 s Q E a b, fun b hb => ?_, fun b hb => ?_, fun i h' st b hb => ?_, fun Y i v h' p gy hv sk e => ?_⟩
  · rcases ht with ht | ht
    · rw [ht]; exact wpAny_pure h
    · cases target <;> first | cases ht | skip
      cases v <;> first | exact wpAny_letOwnedTupleGo_listiter st.1 h | exact wpAny_pure h
  · rw [List.mem_singleton.mp hb]; exact Heap.get?_none_of_le (Nat.le_refl _)
  · rcases List.mem_cons.mp hb with rfl | hb
    · exact .inl (.head _)
    · rw [List.mem_singleton.mp hb]; exact .inr ⟨ol, _, nl, hol, hdl, fun q => absurd q nx⟩
  · rw [List.mem_singleton.mp hb]
    obtain ⟨o, ho, _, hd⟩ := st.1
    exact ⟨o, _, ho, hd⟩
  · obtain ⟨v', hv', r⟩ := hr.get e
    have : v = v' := by
      have q : vs[i]? = some v := by simpa using hv
      rw [hv'] at q; exact (Option.some.inj q).symm
    subst this
    exact (r.grow gy).mono sk

theorem src_tuple (O : Ok C) {target : Expr} (ht : ∀ r v, letOwnedTupleGo target (.ref r) v = pure ()) {a : Addr} {vs : List Value} {ps : List PV} {h r₀ : Heap} (hl : h.IsTuple a vs.toArray) (hr : Reps C.X r₀ vs ps) :
    Src C target h r₀ ps h.objs.size [h.objs.size, a] [h.objs.size] (fun i v _ => vs.toArray[i]? = some v) (fun i v h' => vs.toArray[i]? = some v ∧ (h'.IsTupleIter h.objs.size a (i + 1) ∧ h'.IsTuple a vs.toArray)) (fun i h' => h'.IsTupleIter h.objs.size a i ∧ h'.IsTuple a vs.toArray) := by
  obtain ⟨ol, hol, hcl, nl, hdl⟩ := id hl
  have hne : a ≠ h.objs.size := Nat.ne_of_lt (Heap.lt_size hol)
  have W := Walks.tuple (prog := prg) (w := C.w) O.hh h.objs.size a hne vs.toArray
  have hz : vs.toArray.size = ps.length := by rw [List.size_toArray, hr.length]
  rw [hz] at W
  refine ⟨KTurns_of W (ht _), fun s Q E a b => W.self 0 s Q E a b, fun b hb => ?_, fun b hb => ?_, fun i h' st b hb => ?_, fun Y i v h' p gy hv sk e => ?_⟩
  · rw [List.mem_singleton.mp hb]; exact Heap.get?_none_of_le (Nat.le_refl _)
  · rcases List.mem_cons.mp hb with rfl | hb
    · exact .inl (.head _)
    · rw [List.mem_singleton.mp hb]; exact .inr ⟨ol, _, nl, hol, hdl, fun _ q => absurd (Value.type.inj (hcl.symm.trans q)) (by decide)⟩
  · rw [List.mem_singleton.mp hb]
    obtain ⟨o, ho, _, hd⟩ := st.1
    exact ⟨o, _, ho, hd⟩
  · obtain ⟨v', hv', r⟩ := hr.get e
    have : v = v' := by
      have q : vs[i]? = some v := by simpa using hv
      rw [hv'] at q; exact (Option.some.inj q).symm
    subst this
    exact (r.grow gy).mono sk

/-- the ints of a range -/
def rints (a c : Int) (n : Nat) : List Int := (List.range n).map fun (i : Nat) => a + (i : Int) * c
theorem src_range (O : Ok C) {target : Expr} (ht : ∀ r v, letOwnedTupleGo target (.ref r) v = pure ()) (a c : Int) (n : Nat) {h₀ r₀ : Heap} {I : Addr} (hI : h₀.get? I = none) :
    Src C target h₀ r₀ (pis (rints a c n)) I [I] [I] (fun i v _ => ∃ t, v = .int (a + i * c) t) (fun i v h' => (∃ t, v = .int (a + i * c) t) ∧ IsRangeIter h' I (a + ((i + 1 : Nat) : Int) * c) ((n : Int) - ((i + 1 : Nat) : Int)) c) (fun i h' => IsRangeIter h' I (a + (i : Nat) * c) ((n : Int) - (i : Nat)) c) := by
  have W := Walks.range (prog := prg) (w := C.w) O.hh I a c n
  have hz : n = (pis (rints a c n)).length := by simp [rints]
  have W' : Walks prg C.w C.A I [I] [I] (pis (rints a c n)).length (fun i v => ∃ t, v = .int (a + i * c) t) (fun i h => IsRangeIter h I (a + (i : Nat) * c) ((n : Int) - (i : Nat)) c) := hz ▸ W
  refine ⟨KTurns_of W' (ht _), fun s Q E a b => W'.self 0 s Q E a b, fun b hb => ?_, fun b hb => .inl hb, fun i h' st b hb => ?_, fun Y i v h' p gy hv sk e => ?_⟩
  · rw [List.mem_singleton.mp hb]; exact hI
  · rw [List.mem_singleton.mp hb]
    exact ⟨_, _, st, rfl⟩
  · obtain ⟨t, rfl⟩ := hv
    have hlt : i < n := by
      have := (List.getElem?_eq_some_iff.mp e).1
      simpa [rints] using this
    have : p = .int (a + i * c) := by
      simp [rints, List.getElem?_map, hlt] at e
      exact e.symm
    subst this
    exact .int _ _

theorem src_rev (O : Ok C) {target : Expr} (ht : ∀ r v, letOwnedTupleGo target (.ref r) v = pure ()) {a : Addr} {vs : List Value} {ps : List PV} {h r₀ : Heap} {I : Addr} (hI : h.get? I = none) (hl : h.IsList a vs.toArray) (nx : ¬C.X a) (hr : Reps C.X r₀ vs ps) :
    Src C target h r₀ ps.reverse I [I, a] [I] (fun i v _ => vs.toArray[vs.toArray.size - 1 - i]? = some v) (fun i v h' => vs.toArray[vs.toArray.size - 1 - i]? = some v ∧ (i + 1 ≤ vs.toArray.size ∧ h'.IsRevIter I a ((vs.toArray.size : Int) - 1 - ((i + 1 : Nat) : Int)) ∧ h'.IsList a vs.toArray))
      (fun i h' => i ≤ vs.toArray.size ∧ h'.IsRevIter I a ((vs.toArray.size : Int) - 1 - (i : Int)) ∧ h'.IsList a vs.toArray) := by
  obtain ⟨ol, hol, hcl, nl, hdl⟩ := id hl
  have hne : a ≠ I := fun q => by rw [q, hI] at hol; cases hol
  have W := Walks.listRev (prog := prg) (w := C.w) O.hh I a hne vs.toArray
  have hz : vs.toArray.size = ps.reverse.length := by rw [List.size_toArray, hr.length, List.length_reverse]
  have W' : Walks prg C.w C.A I [I, a] [I] ps.reverse.length (fun i v => vs.toArray[vs.toArray.size - 1 - i]? = some v) (fun i h => i ≤ vs.toArray.size ∧ h.IsRevIter I a ((vs.toArray.size : Int) - 1 - (i : Int)) ∧ h.IsList a vs.toArray) := by rw [← hz]; exact W
  refine ⟨KTurns_of W' (ht _), fun s Q E a b => W'.self 0 s Q E a b, fun b hb => ?_, fun b hb => ?_, fun i h' st b hb => ?_, fun Y i v h' p gy hv sk e => ?_⟩
  · rw [List.mem_singleton.mp hb]; exact hI
  · rcases List.mem_cons.mp hb with rfl | hb
    · exact .inl (.head _)
    · rw [List.mem_singleton.mp hb]; exact .inr ⟨ol, _, nl, hol, hdl, fun q => absurd q nx⟩
  · rw [List.mem_singleton.mp hb]
    obtain ⟨o, ho, _, hd⟩ := st.2.1
    exact ⟨o, _, ho, hd⟩
  · have hlt : i < ps.length := by
      have := (List.getElem?_eq_some_iff.mp e).1
      simpa using this
    rw [List.getElem?_reverse hlt] at e
    obtain ⟨v', hv', r⟩ := hr.get e
    have : v = v' := by
      have q : vs[vs.length - 1 - i]? = some v := by simpa using hv
      rw [hr.length, hv'] at q; exact (Option.some.inj q).symm
    subst this
    exact (r.grow gy).mono sk

/-- a loop by an invariant -/
theorem for_core {target : Expr} {body : List Stmt} {ps : List PV} {s : Shared} {Q : Flow → Shared → Prop} {E : Value → Shared → Prop} {h₀ r₀ : Heap} {I : Addr} {fp wr : List Addr} {P Md : Nat → Value → Heap → Prop} {St : Nat → Heap → Prop}
    (S : Src C target h₀ r₀ ps I fp wr P Md St) (J : Nat → Heap → Prop) (hst : St 0 s.heap) (hsk : SeqKeep C.X r₀ s.heap) (hj : J 0 s.heap) (jstep : ∀ i h h', J i h → ItStep wr h h' → J i h')
    (turn : ∀ i v p h tk, ps[i]? = some p → J i h → Rep C.X h v p → SeqKeep C.X r₀ h → St (i + 1) h →
      wpAny C.M C.A (assign target C.env v) (fun _ s₂ => wpAny C.M C.A (execs body C.env) (fun f s₃ => match f with
        | .next => ∃ h' tk', s₃ = { s with heap := h', toks := tk' } ∧ J (i + 1) h' ∧ SeqKeep C.X r₀ h' ∧ St (i + 1) h'
        | .ret v => Q (.ret v) s₃
        | _ => False) (fun _ _ => False) s₂) (fun _ _ => False) { s with heap := h, toks := tk })
    (done : ∀ h tk, J ps.length h → SeqKeep C.X r₀ h → Q .next { s with heap := h, toks := tk }) :
    codeAny C.M C.A (.forLoop target (.ref I) body [] C.env) (fun r s' => match r with | .ok f => Q f s' | .error e => cameBackBy C.M C.A C.env E e s') s := by
  refine codeAny_forLoop_any
    (fun k s' => ∃ h' tk i, s' = { s with heap := h', toks := tk } ∧ St i h' ∧ J i h' ∧ SeqKeep C.X r₀ h' ∧ i ≤ ps.length ∧ k = ps.length + 1 - i) ?_ (ps.length + 1)
    ⟨s.heap, s.toks, 0, rfl, hst, hj, hsk, Nat.zero_le _, rfl⟩
  rintro k s' ⟨h', tk, i, rfl, hst', hJ, sk, hi, rfl⟩
  by_cases hlt : i < ps.length
  · have hp : ps[i]? = some ps[i] := List.getElem?_eq_getElem hlt
    refine S.W.item i _ _ _ hlt hst' fun v h₂ tk₂ hMd hk₂ => ?_
    refine S.W.go i v _ _ _ hMd fun h₃ hP hst₃ hk₃ => ?_
    have step : ItStep wr h' h₃ := ⟨fun b o nb e => hk₃ b o nb (hk₂ b o nb e), S.fld i h' hst'⟩
    have sk₃ := sk.trans step.seq
    refine wpAny_mono (turn i v ps[i] h₃ tk₂ hp (jstep i h' h₃ hJ step) (S.rep C.X i v h₃ _ (fun _ x => .inl x) hP sk₃ hp) sk₃ hst₃) (fun _ s₂ h₂ => ?_) fun _ _ f => f.elim
    refine wpAny_mono h₂ (fun f s₃ h₃ => ?_) fun _ _ f => f.elim
    cases f with
    | next =>
      obtain ⟨h'', tk'', rfl, hJ', sk', hst''⟩ := h₃
      exact ⟨ps.length + 1 - (i + 1), by lia, h'', tk'', i + 1, rfl, hst'', hJ', sk', hlt, rfl⟩
    | ret v => exact h₃
    | cont => exact h₃.elim
    | brk => exact h₃.elim
  · have hin : i = ps.length := by lia
    subst hin
    refine S.W.done _ _ _ hst' fun h₂ tk₂ hk₂ => ?_
    have step : ItStep wr h' h₂ := ⟨hk₂, S.fld _ h' hst'⟩
    exact wpAny_execs_nil (done h₂ tk₂ (jstep _ _ _ hJ step) (sk.trans step.seq))
end Mine

end
section
open PySem PySem.Calls PySem.W PyProof.Rows
set_option Elab.async false
set_option linter.unusedVariables false
namespace Mine
variable {C : Cx} {k : Bool} {σ : Sto}

theorem Fs.weaken {h : Heap} {σ' : Sto} (F : Fs C σ h) (hs : ∀ y p, σ'.lookup y = some p → σ.lookup y = some p) : Fs C σ' h := by
  obtain ⟨m, hn, hv⟩ := F.vars
  exact ⟨F.xs, F.prot, F.frames, ⟨m, hn, fun y p e => hv y p (hs y p e)⟩, F.cells⟩

theorem plain_ne_ns {h : Heap} {l a : Addr} {items : Array Value} {m : Str → Option Value} (x : h.PlainList l items) (hn : h.Ns a m) : l ≠ a := fun q => by
  obtain ⟨o, ho, c, n, d⟩ := x.isList
  obtain ⟨oL, es, ep, hL, hLd, _⟩ := hn
  rw [q, hL] at ho; cases ho; rw [hLd] at d; cases d
theorem plain_but {h h' : Heap} {l a : Addr} {items : Array Value} (hs : Heap.SameBut a h h') (ne : l ≠ a) (x : h.PlainList l items) : h'.PlainList l items := by
  obtain ⟨n, e⟩ := x
  exact ⟨n, (hs.2 l ne).trans e⟩

def Itr (C : Cx) (σ : Sto) (target iter : Expr) (ps : List PV) : Prop :=
  ∀ (s : Shared) (Q : Value → Shared → Prop) (E : Value → Shared → Prop), Fs C σ s.heap →
    (∀ h₀ I fp wr P Md St h' tk, s.heap.StaysIn h₀ → h₀.StaysIn h' → Src C target h₀ h₀ ps I fp wr P Md St → St 0 h' → Q (.ref I) { s with heap := h', toks := tk }) →
    wpAny C.M C.A (eval iter C.env) (fun xv s₁ => wpAny C.M C.A (pyIter xv) Q E s₁) E s

theorem range_iter (O : Ok C) {s : Shared} {Q : Value → Shared → Prop} {E : Value → Shared → Prop} {a b c : Int} {t u v : Tok} {n : Nat} {r : Addr} (hr : IsRange s.heap r a b c t u v) (hs : Builtin.Range.small a b c = true) (hn : Builtin.Range.rangeSize a b c = (n : Int))
    (h : ∀ h', s.heap.StaysIn h' → IsRangeIter h' s.heap.objs.size (a + ((0 : Nat) : Int) * c) ((n : Int) - ((0 : Nat) : Int)) c → Q (.ref s.heap.objs.size) { s with heap := h' }) : wpAny C.M C.A (pyIter (.ref r)) Q E s := by
  refine wpAny_pyIter_range hr hs (h _ (push_stays _ _) ?_)
  rw [hn]
  simpa using Heap.get?_push_size _ rfl

section
variable {target : Expr} {p1 pos : Pos}
/-- range(a, b, c) by its three ints -/
theorem range_core (O : Ok C) (ht : ∀ r v, letOwnedTupleGo target (.ref r) v = pure ()) {a b c : Int} {n : Nat} (hs : Builtin.Range.small a b c = true) (hn : Builtin.Range.rangeSize a b c = (n : Int)) {s : Shared} {Q : Value → Shared → Prop} {E : Value → Shared → Prop} {t u v : Tok} {h₁ : Heap} {tk₁ : Nat} (st : s.heap.StaysIn h₁)
    (h : ∀ h₀ I fp wr P Md St h' tk, s.heap.StaysIn h₀ → h₀.StaysIn h' → (∀ r₀, Src C target h₀ r₀ (pis (rints a c n)) I fp wr P Md St) → St 0 h' → (∀ z ∈ fp, s.heap.get? z = none) → Q (.ref I) { s with heap := h', toks := tk }) :
    wpAny C.M C.A (pyIter (.ref h₁.objs.size)) Q E { s with heap := h₁.push { cls := .type "range", data := .fields #[.int a t, .int b u, .int c v] }, toks := tk₁ } := by
  refine range_iter O (IsRange.new h₁ a b c t u v) hs hn fun h' st' hit => ?_
  have st2 : s.heap.StaysIn (h₁.push { cls := .type "range", data := .fields #[.int a t, .int b u, .int c v] }) := stays_trans st (push_stays _ _)
  have hI := Heap.get?_none_of_le (h := h₁.push { cls := .type "range", data := .fields #[.int a t, .int b u, .int c v] }) (Nat.le_refl _)
  refine h _ _ _ _ _ _ _ h' tk₁ st2 st' (fun r₀ => src_range (r₀ := r₀) O ht a c n hI) hit fun z hz => ?_
  have ez := List.mem_singleton.mp hz
  subst ez
  show s.heap.get? (h₁.push { cls := .type "range", data := .fields #[.int a t, .int b u, .int c v] }).objs.size = none
  cases q : s.heap.get? (h₁.push { cls := .type "range", data := .fields #[.int a t, .int b u, .int c v] }).objs.size with
  | none => rfl
  | some o => have := st2 _ _ q; rw [hI] at this; cases this

end
/-! slices, list * int, list + list -/
theorem mul_core {l : Addr} {items : Array Value} {kk : Nat} {x : Int} {u : Tok} {s : Shared} {Q : Value → Shared → Prop} {E : Value → Shared → Prop}
    (hl : s.heap.get? l = some { cls := .type "list", dict := none, data := .seq items kk, slots := #[] }) (hlo : -(2 ^ 63 : Int) ≤ x) (hhi : x < 2 ^ 63) (hsz : items.size * x.toNat ≤ 2 ^ 24)
    (h : Q (.ref s.heap.objs.size) { s with heap := s.heap.push { cls := .type "list", data := .seq (List.foldl (fun x1 x2 => x1 ++ x2) #[] (List.replicate (if items.isEmpty = true then 0 else x.toNat) items)) } }) :
    wpAny C.M C.A (binaryOp .Mult (.ref l) (.int x u)) Q E s :=
  wpAny_binaryOp_repeat_ref (T := "list") (U := "int") (by decide) ⟨_, hl, rfl⟩ (fun s' => typeIs_int s' x u) noFill_list_mul F.fills_int_mul F.slot_int_rmul repeat_list F.slot_int_index.lookup
    (call_meets F.slot_int_rmul (typeIs_int s x u) F.entry_int_rmul (F.args_int_rmul_2 _ _) (int___rmul___int_list x u l items kk)
      ⟨hl, rfl, ⟨_, hl, rfl⟩, call_meets F.slot_list_mul ⟨_, hl, rfl⟩ F.entry_list_mul (F.args_list_mul_2 _ _)
        (AutoListH.list___mul___list_int_3 l items kk x u (by simp [Builtin.List.listFitsIndex]; lia) (by lia) (by simp [Builtin.List.listTooLong, sizeLine]; lia))
        ⟨hl, h⟩⟩)

theorem add_core {l b : Addr} {vs ws : List Value} {s : Shared} {Q : Value → Shared → Prop} {E : Value → Shared → Prop} (hl : s.heap.IsList l vs.toArray) (hb : s.heap.IsList b ws.toArray)
    (h : Q (.ref s.heap.objs.size) { s with heap := s.heap.push { cls := .type "list", data := .seq (vs ++ ws).toArray } }) (hsz : vs.length + ws.length ≤ sizeLine) :
    wpAny C.M C.A (binaryOp .Add (.ref l) (.ref b)) Q E s := by
  obtain ⟨⟨cls, dd, data, sl⟩, ho, hc, n, hd⟩ := id hl
  obtain ⟨⟨cls2, dd2, data2, sl2⟩, ho2, hc2, n2, hd2⟩ := id hb
  simp only at hc hd hc2 hd2
  subst hc hd hc2 hd2
  have e : vs.toArray ++ ws.toArray = (vs ++ ws).toArray := by simp
  refine concat_meets ⟨_, ho, rfl⟩ ⟨_, ho2, rfl⟩ noFill_list_add seq_list_add PySem.F.slot_list_add PySem.F.entry_list_add (PySem.F.args_list_add_2 _ _) (list_addW l b vs.toArray ws.toArray n n2 dd dd2 sl sl2 (by simpa using hsz)) ⟨ho, ho2, ?_⟩
  rw [e]
  exact h
theorem ev_slice {e : Expr} {lo hi st : Option Expr} {p1 pos : Pos} {xs ys : List PV} {vl vu vk : Option Int} (he : Ev C true σ e (.ret (.list xs)))
    (hlo : ∀ (s : Shared) (Q : Value → Shared → Prop) (E : Value → Shared → Prop), Fs C σ s.heap → (∀ v tk, IsPart v vl → Q v { s with toks := tk }) → wpAny C.M C.A (evalPart lo C.env) Q E s)
    (hhi : ∀ (s : Shared) (Q : Value → Shared → Prop) (E : Value → Shared → Prop), Fs C σ s.heap → (∀ v tk, IsPart v vu → Q v { s with toks := tk }) → wpAny C.M C.A (evalPart hi C.env) Q E s)
    (hst : ∀ (s : Shared) (Q : Value → Shared → Prop) (E : Value → Shared → Prop), Fs C σ s.heap → (∀ v tk, IsPart v vk → Q v { s with toks := tk }) → wpAny C.M C.A (evalPart st C.env) Q E s)
    (h0 : vk ≠ some 0) (hp : ∀ (vs : List Value), vs.length = xs.length → ∀ h : Heap, Reps C.X h vs xs → ∃ ws, slicePick vs.toArray vl vu vk = ws.toArray ∧ Reps C.X h ws ys) (hz : xs.length ≤ 1000)
    (hs : ∀ o i, ∃ ops, subscripted (.Slice lo hi st p1) false o i = operate ops (getItem o i)) (ht : ∀ o r, letTemporaryGo e o r = pure () := by intro _ _; rfl) :
    Ev C true σ (.Subscript e (.Slice lo hi st p1) pos) (.ret (.list ys)) := fun s Q E F P =>
  Subscript_ (he s _ E F fun v h₁ tk₁ s₁ e₁ r₁ => by
    cases r₁ with
    | list hl nx hr =>
      rename_i l vs
      refine wpAny_Slice (hlo _ _ E (F.stays s₁) fun vlo tk pl => hhi _ _ E (F.stays s₁) fun vhi tk pu => hst _ _ E (F.stays s₁) fun vst tk pk => ?_)
      obtain ⟨ops, hops⟩ := hs (.ref l) (.ref h₁.objs.size)
      obtain ⟨ws, hw, hrw⟩ := hp vs hr.length h₁ hr
      have st1 := push_stays h₁ { cls := .type "slice", data := .fields #[vlo, vhi, vst] }
      refine subscriptTail_ops (ops := ops) (Heap.IsList.typeIs (s := { s with heap := h₁.push { cls := .type "slice", data := .fields #[vlo, vhi, vst] } }) (hl.push _)) list_getitem_lookup
        (wpAny_getItem_list_slice (hl.push _) (Heap.IsSliceOf.new ..) pl pu pk h0 ?_ (by rw [List.size_toArray, hr.length, sizeLine_eq]; lia)) hops (ht _)
      have st2 := push_stays (h₁.push { cls := .type "slice", data := .fields #[vlo, vhi, vst] }) { cls := .type "list", data := .seq (slicePick vs.toArray vl vu vk) }
      exact P _ _ _ (stays_trans s₁ (stays_trans st1 st2)) (fun z => nomatch z) (.list ⟨_, Heap.get?_push_size _ rfl, rfl, _, congrArg (Data.seq · 0) hw⟩ (F.nx (stays_trans s₁ st1)) ((hrw.mono (SeqKeep.of_stays st1)).mono (SeqKeep.of_stays st2))))
theorem part_none {s : Shared} {Q : Value → Shared → Prop} {E : Value → Shared → Prop} (h : ∀ v tk, IsPart v none → Q v { s with toks := tk }) : wpAny C.M C.A (evalPart none C.env) Q E s := wpAny_pure (h _ _ .none)
theorem part_some {e : Expr} {i : Int} (he : Ev C false σ e (.ret (.int i))) {s : Shared} {Q : Value → Shared → Prop} {E : Value → Shared → Prop} (F : Fs C σ s.heap) (h : ∀ v tk, IsPart v (some i) → Q v { s with toks := tk }) : wpAny C.M C.A (evalPart (some e) C.env) Q E s := by
  rw [evalPart_some]
  exact he s Q E F fun v h' tk a b r => by
    have := b rfl; subst this
    cases r with
    | int _ t => exact h _ _ (.int _ _)
/-- e[:n] -/
theorem ev_upto {e n : Expr} {p1 pos : Pos} {xs : List PV} {i : Nat} (he : Ev C true σ e (.ret (.list xs))) (hn : Ev C false σ n (.ret (.int i))) (hz : xs.length ≤ 1000) (ht : ∀ o r, letTemporaryGo e o r = pure () := by intro _ _; rfl) :
    Ev C true σ (.Subscript e (.Slice none (some n) none p1) pos) (.ret (.list (xs.take i))) :=
  ev_slice he (fun s Q E F h => part_none h) (fun s Q E F h => part_some hn F h) (fun s Q E F h => part_none h) (by decide) (fun vs hl h r => ⟨vs.take i, by rw [slicePick_upto'], r.take i⟩) hz (fun o i => ⟨_, rfl⟩) ht
/-- e[::-1] -/
theorem ev_rev {e n : Expr} {p1 pos : Pos} {xs : List PV} (he : Ev C true σ e (.ret (.list xs))) (hn : Ev C false σ n (.ret (.int (-1)))) (hz : xs.length ≤ 1000) (ht : ∀ o r, letTemporaryGo e o r = pure () := by intro _ _; rfl) :
    Ev C true σ (.Subscript e (.Slice none none (some n) p1) pos) (.ret (.list xs.reverse)) :=
  ev_slice he (fun s Q E F h => part_none h) (fun s Q E F h => part_none h) (fun s Q E F h => part_some hn F h) (by decide) (fun vs hl h r => ⟨vs.reverse, krv_pick vs.toArray, r.reverse⟩) hz (fun o i => ⟨_, rfl⟩) ht


/-! a new list -/
def New (C : Cx) (σ : Sto) (e : Expr) (us : List Int) : Prop :=
  ∀ (s : Shared) (Q : Value → Shared → Prop) (E : Value → Shared → Prop), Fs C σ s.heap →
    (∀ l h' tk, s.heap.StaysIn h' → s.heap.get? l = none → (∃ vs, h'.PlainList l vs.toArray ∧ IntsAre vs us) → Q (.ref l) { s with heap := h', toks := tk }) → wpAny C.M C.A (eval e C.env) Q E s
theorem foldl_rep (v : Value) : ∀ (n : Nat) (acc : List Value), List.foldl (fun x1 x2 => x1 ++ x2) acc.toArray (List.replicate n #[v]) = (acc ++ List.replicate n v).toArray
  | 0, acc => by simp
  | n + 1, acc => by
    rw [List.replicate_succ, List.foldl_cons]
    have : acc.toArray ++ #[v] = (acc ++ [v]).toArray := by simp
    rw [this, foldl_rep v n (acc ++ [v])]
    simp [List.replicate_succ, List.append_assoc]
theorem ints_rep (i : Int) (t : Tok) : ∀ n : Nat, IntsAre (List.replicate n (.int i t)) (List.replicate n i)
  | 0 => .nil
  | n + 1 => by rw [List.replicate_succ, List.replicate_succ]; exact .cons i t (ints_rep i t n)
theorem new_zeros {e : Expr} {n m p1 pos} {a : Nat} {z : Int} (he : Ev C true σ e (.ret (.int a))) (ha : a ≤ 1000) : New C σ (.BinOp (.List [.Constant (.int z) n m] p1) .Mult e pos) (List.replicate a z) := fun s Q E F P =>
  wpAny_BinOp (List_ (spliced_more (wpAny_Constant_int (spliced_none (wpAny_newList (he _ _ E (F.stays (push_stays _ _)) fun v h' tk st eq r => by
    cases r with
    | int _ u =>
      refine mul_core (st _ _ (Heap.get?_push_size _ rfl)) (by lia) (by lia) (by simp; lia) ?_
      refine P _ _ _ (stays_trans (push_stays _ _) (stays_trans st (push_stays _ _))) ?_ ⟨List.replicate a (.int z s.toks), ⟨0, ?_⟩, ints_rep _ _ _⟩
      · cases q : s.heap.get? _ with
        | none => rfl
        | some o =>
          have := st _ _ (push_stays s.heap { cls := .type "list", data := .seq [Value.int z s.toks].toArray } _ _ q)
          rw [Heap.get?_none_of_le (Nat.le_refl _)] at this; cases this
      · have e1 := foldl_rep (.int z s.toks) a []
        simp only [List.nil_append] at e1
        have e2 : ((a : Int).toNat) = a := by lia
        rw [← e1]
        have e3 : (if ([Value.int z s.toks].toArray).isEmpty = true then 0 else ((a : Int).toNat)) = a := by rw [e2]; simp
        have := Heap.get?_push_size h' (o := { cls := .type "list", data := .seq (List.foldl (fun x1 x2 => x1 ++ x2) #[] (List.replicate (if ([Value.int z s.toks].toArray).isEmpty = true then 0 else ((a : Int).toNat)) [Value.int z s.toks].toArray)) }) rfl
        rw [e3] at this
        exact this) (by rw [sizeLine_eq]; simp)))) rfl))
theorem Fs.dict {h : Heap} (F : Fs C σ h) : ∃ oL es ep, h.get? C.env.locals = some oL ∧ oL.data = .dict es ep := by
  obtain ⟨m, ⟨oL, es, ep, e, d, _⟩, _⟩ := F.vars
  exact ⟨oL, es, ep, e, d⟩
theorem Ok.bL (O : Ok C) : C.b.get? C.env.locals = none := by
  cases q : C.b.get? C.env.locals with
  | none => rfl
  | some o => have := O.bg _ _ q; rw [O.off] at this; cases this
theorem Ok.bnone (O : Ok C) {a : Addr} (h : C.g.get? a = none) : C.b.get? a = none := by
  cases q : C.b.get? a with
  | none => rfl
  | some o => have := O.bg _ _ q; rw [h] at this; cases this

end Mine

end
section
open PySem PySem.Calls PySem.W PyProof.Rows
set_option Elab.async false
set_option linter.unusedVariables false
namespace Mine
theorem tst_cast {C : Cx} {k : Bool} {σ : Sto} {e : Expr} {b b' : Bool} (h : Tst C k σ e b) (q : b = b') : Tst C k σ e b' := q ▸ h
theorem ev_cast {C : Cx} {k : Bool} {σ : Sto} {e : Expr} {o o' : Out} (h : Ev C k σ e o) (q : o = o') : Ev C k σ e o' := q ▸ h

theorem x_aug {C : Cx} {σ : Sto} (O : Ok C) {y : Str} {e : Expr} {a b z : Int} {op : Operator} {p1 pos : Pos} (hk : C.env.kindOf y = some .local) (hy : May C y) (ha : σ.lookup y = some (.int a)) (h : Ev C true σ e (.ret (.int b)))
    (hz : ∀ (s : Shared) (Q : Value → Shared → Prop) (E : Value → Shared → Prop) (t u : Tok), (∀ t' tk, Q (.int z t') { s with toks := tk }) → wpAny C.M C.A (inplaceOp op (.int a t) (.int b u)) Q E s) :
    Ex1 C σ (.AugAssign (.Name y p1) op e pos) (.next ((y, .int z) :: σ)) := fun s Q E F P => by
  refine wpAny_AugAssign_Name ?_
  obtain ⟨m, hn, hv⟩ := F.vars
  rcases hv y _ ha with ⟨hk', v, hm, rv⟩ | ⟨hk', _⟩
  · cases rv with
    | int _ t =>
      refine wpAny_loadName_local O.kind hk' hn hm ?_
      refine h s _ E F fun v h₁ tk₁ s₁ e₁ r₁ => ?_
      cases r₁ with
      | int _ u => exact hz _ _ _ _ _ fun t' tk => x_put O hy (F.stays s₁) (.int z t') fun h' tk' _ F' => P h' tk' F'
  · rw [hk] at hk'; cases hk'
theorem x_augsub {C : Cx} {σ : Sto} (O : Ok C) {y : Str} {e : Expr} {a b : Int} {p1 pos : Pos} (hk : C.env.kindOf y = some .local) (ha : σ.lookup y = some (.int a)) (h : Ev C true σ e (.ret (.int b))) :
    Ex1 C σ (.AugAssign (.Name y p1) .Sub e pos) (.next ((y, .int (a - b)) :: σ)) := x_aug O hk (.loc hk) ha h fun _ _ _ _ _ h => PyProof.Rows.isub_int (h _ _)

theorem g_len (w : World) : nsIn (KF w) mainGlobals "len" = some none := by rfl
theorem g_abs (w : World) : nsIn (KF w) mainGlobals "abs" = some none := by rfl
theorem g_range (w : World) : nsIn (KF w) mainGlobals "range" = some none := by rfl
theorem g_reversed (w : World) : nsIn (KF w) mainGlobals "reversed" = some none := by rfl

theorem pis_get {ns : List Int} {i : Nat} {a : Int} (h : ns[i]? = some a) : (pis ns)[i]? = some (.int a) := by rw [List.getElem?_map, h]; rfl
theorem pis_digs {w n k : Nat} {z : Int} {j : Nat} (hz : z = (j : Int)) (h : j < k) : (pis (digs w n k))[z.toNat]? = some (.int (dg w n j)) := by
  subst hz
  rw [Int.toNat_natCast]
  exact pis_get (digs_get h)

def AllIn (b : Sto) : Sto → Prop
  | [] => True
  | q :: r => b.lookup q.1 = some q.2 ∧ AllIn b r
theorem AllIn.mem {b : Sto} : ∀ {a : Sto}, AllIn b a → ∀ q ∈ a, b.lookup q.1 = some q.2
  | _ :: _, ⟨h, _⟩, _, .head _ => h
  | _ :: _, ⟨_, t⟩, q, .tail _ m => t.mem q m
theorem sub_of {a b : Sto} (h : AllIn b a) : ∀ y p, a.lookup y = some p → b.lookup y = some p := fun y p e => h.mem _ (lookup_mem e)
theorem int_eq {a b : Int} (h : a = b) : some (PV.int a) = some (PV.int b) := by rw [h]

def msk (w : Nat) : Int := ((2 ^ w - 1 : Nat) : Int)
theorem band_msk (t w : Nat) : Builtin.bitAnd (t : Int) (msk w) = ((t % 2 ^ w : Nat) : Int) := by
  unfold Builtin.bitAnd msk
  have h1 : decide ((0 : Int) ≤ (t : Int)) = true := decide_eq_true (by lia)
  have h2 : decide ((0 : Int) ≤ ((2 ^ w - 1 : Nat) : Int)) = true := decide_eq_true (by lia)
  rw [h1, h2]
  simp only [Int.toNat_natCast]
  rw [Nat.and_two_pow_sub_one_eq_mod]
theorem fdiv_nat (t d : Nat) : Int.fdiv (t : Int) (d : Int) = ((t / d : Nat) : Int) := by
  rw [Int.fdiv_eq_ediv_of_nonneg _ (by lia)]; rfl
theorem fmod_nat (t d : Nat) : Int.fmod (t : Int) (d : Int) = ((t % d : Nat) : Int) := by
  rw [Int.fmod_eq_emod_of_nonneg _ (by lia)]; rfl
theorem shr_nat (t w : Nat) : Int.fdiv (t : Int) (2 ^ ((w : Int).toNat)) = ((t / 2 ^ w : Nat) : Int) := by
  rw [Int.toNat_natCast]
  have : ((2 : Int) ^ w) = ((2 ^ w : Nat) : Int) := by push_cast; rfl
  rw [this, fdiv_nat]
theorem msk_eq (w : Nat) : (1 : Int) * 2 ^ ((w : Int).toNat) - 1 = msk w := by
  unfold msk
  rw [Int.toNat_natCast]
  have := Nat.two_pow_pos w
  have h : ((2 : Int) ^ w) = ((2 ^ w : Nat) : Int) := by push_cast; rfl
  rw [h]; lia
theorem rints_get {a c z : Int} {n i : Nat} (h : (rints a c n)[i]? = some z) : z = a + (i : Int) * c ∧ i < n := by
  have hlt : i < n := by
    have := (List.getElem?_eq_some_iff.mp h).1
    simpa [rints] using this
  refine ⟨?_, hlt⟩
  simp [rints, hlt] at h
  exact h.symm
theorem rints_length (a c : Int) (n : Nat) : (rints a c n).length = n := by simp [rints]

theorem lim_len {w n : Nat} : (pis (limbs w n)).length = nl w n := by rw [List.length_map, limbs_length]
theorem ev_lenlim {C : Cx} {k : Bool} {σ : Sto} (O : Ok C) {e : Expr} {w n : Nat} {p1 pos : Pos} (hk : C.env.kindOf (Str.ofString "len") = some .globalImplicit) (he : Ev C k σ e (.ret (lim w n))) (hz : nl w n ≤ 200) (hs : starEach [e] C.env = [(false, eval e C.env)] := by rfl) :
    Ev C k σ (.Call (.Name "len" p1) [e] [] pos) (.ret (.int (nl w n))) :=
  ev_cast (ev_len O (callee_boot O hk (g_len _) PyProof.Rows.Boot.«len») he (by rw [lim_len]; lia) hs) (by rw [lim_len])
theorem ev_dg {C : Cx} {k : Bool} {σ : Sto} {e i : Expr} {pos : Pos} {w n j : Nat} {z : Int} (he : Ev C k σ e (.ret (lim w n))) (hi : Ev C k σ i (.ret (.int z))) (hz : z = (j : Int)) (h : j < nl w n) (hb : nl w n ≤ 200)
    (hs : ∀ o v, subscripted i false o v = operate [o, v] (getItem o v) := by intros; rfl) : Ev C k σ (.Subscript e i pos) (.ret (.int (dg w n j))) :=
  ev_item_list he hi (by lia) (by lia) (pis_digs hz h) hs

end Mine

end
section
open PySem PySem.Calls PySem.W PyProof.Rows
set_option Elab.async false
set_option linter.unusedVariables false
namespace Mine
variable {C : Cx} {k : Bool} {σ : Sto}

def pOpt : Option (List Int) → PV
  | none => .none
  | some ns => .list (pis ns)

/-- a value read under another description -/
theorem ev_conv {e : Expr} {p q : PV} (h : Ev C k σ e (.ret p)) (c : ∀ {h : Heap} {v : Value}, Rep C.X h v p → Rep C.X h v q) : Ev C k σ e (.ret q) := fun s Q E F P =>
  h s Q E F fun v h' tk a b r => P v h' tk a b (c r)

theorem Rep.unnat {X : Addr → Prop} {h : Heap} {v : Value} {w n : Nat} : Rep X h v (.nat w n) → Rep X h v (lim w n)
  | .nat r => r
theorem Rep.unsgn {X : Addr → Prop} {h : Heap} {v : Value} {w : Nat} {x : Int} : Rep X h v (.sgn w x) → Rep X h v (.tup [.bool (decide (x < 0)), .nat w x.natAbs])
  | .sgn r => r

/-- an operation on two values that only reckons -/
def Hop (C : Cx) (op : Value → Value → Sem Value) (p q z : PV) : Prop :=
  ∀ (s : Shared) (Q : Value → Shared → Prop) (E : Value → Shared → Prop) (x y : Value), ¬C.X s.heap.objs.size → Rep C.X s.heap x p → Rep C.X s.heap y q → (∀ v h' tk, s.heap.StaysIn h' → Rep C.X h' v z → Q v { s with heap := h', toks := tk }) → wpAny C.M C.A (op x y) Q E s
theorem ev_bin {l r : Expr} {p q z : PV} {op : Operator} {pos : Pos} (h : Hop C (binaryOp op) p q z) (hl : Ev C true σ l (.ret p)) (hr : Ev C true σ r (.ret q)) : Ev C true σ (.BinOp l op r pos) (.ret z) :=
  ev_two (op := binaryOp op) wpAny_BinOp (fun {s Q E a b} F rx ry hh => h _ _ _ _ _ (F.nx (stays_refl _)) rx ry fun v h' tk a b => hh v h' tk a (fun z => nomatch z) b) hl hr
/-- a comparison -/
def Cop (C : Cx) (op : CmpOp) (p q : PV) (b : Bool) : Prop :=
  ∀ (s : Shared) (Q : Value → Shared → Prop) (E : Value → Shared → Prop) (x y : Value), Rep C.X s.heap x p → Rep C.X s.heap y q → Q (.bool b) s → wpAny C.M C.A (compareOp op x y) Q E s
theorem ev_cmp {l r : Expr} {p q : PV} {b : Bool} {op : CmpOp} {pos : Pos} (h : Cop C op p q b) (hb : behindInMarks op r = false) (hl : Ev C true σ l (.ret p)) (hr : Ev C true σ r (.ret q)) : Ev C true σ (.Compare l [op] [r] pos) (.ret (.bool b)) :=
  ev_two (op := compareOp op) (fun h => wpAny_Compare1 h hb) (fun {s Q E a b} _ rx ry hh => h _ _ _ _ _ rx ry (hh _ s.heap s.toks (stays_refl _) (fun _ => rfl) (.bool _))) hl hr

def onInt (p : PV) (k : Int → Prop) : Prop := match p with | .int i => k i | _ => False
def onBool (p : PV) (k : Bool → Prop) : Prop := match p with | .bool i => k i | _ => False
def onList (p : PV) (k : List PV → Prop) : Prop := match p with | .list xs => k xs | .nat w n => k (pis (limbs w n)) | _ => False
def onItems (p : PV) (k : List PV → Prop) : Prop := match p with | .list xs => k xs | .tup xs => k xs | .nat w n => k (pis (limbs w n)) | _ => False
def isL (p : PV) : Bool := match p with | .list _ => true | .nat _ _ => true | _ => false
theorem onInt_inv {p : PV} {k : Int → Prop} (h : onInt p k) : ∃ i, p = .int i ∧ k i := by
  cases p <;> first | exact ⟨_, rfl, h⟩ | exact h.elim
theorem onInt2 {p q : PV} {k : Int → Int → Prop} (h : onInt p fun a => onInt q fun b => k a b) : ∃ a b, p = .int a ∧ q = .int b ∧ k a b := by
  cases p <;> first | exact h.elim | skip
  cases q <;> first | exact h.elim | exact ⟨_, _, rfl, rfl, h⟩
theorem onBool_inv {p : PV} {k : Bool → Prop} (h : onBool p k) : ∃ i, p = .bool i ∧ k i := by
  cases p <;> first | exact ⟨_, rfl, h⟩ | exact h.elim
theorem onList_inv {p : PV} {k : List PV → Prop} (h : onList p k) : ∃ xs, (∀ {X : Addr → Prop} {h : Heap} {v : Value}, Rep X h v p → Rep X h v (.list xs)) ∧ k xs := by
  cases p <;> first | exact ⟨_, fun r => r, h⟩ | exact ⟨_, fun r => r.unnat, h⟩ | exact h.elim

def opB (op : Operator) (p q : PV) (k : PV → Prop) : Prop := match op with
  | .Add => cond (isL p) (onList p fun xs => onList q fun ys => xs.length + ys.length ≤ 1000 ∧ k (.list (xs ++ ys))) (onInt p fun a => onInt q fun b => k (.int (a + b)))
  | .Sub => onInt p fun a => onInt q fun b => k (.int (a - b))
  | .Mult => onInt p fun a => onInt q fun b => IntMulOk a b ∧ k (.int (a * b))
  | .FloorDiv => onInt p fun a => onInt q fun b => (b ≠ 0 ∧ b.natAbs < 2 ^ 64) ∧ k (.int (a.fdiv b))
  | .Mod => onInt p fun a => onInt q fun b => b ≠ 0 ∧ k (.int (a.fmod b))
  | .BitAnd => onInt p fun a => onInt q fun b => k (.int (Builtin.bitAnd a b))
  | .LShift => onInt p fun a => onInt q fun b => (0 ≤ b ∧ b ≤ 1000000 ∧ a.natAbs < 2 ^ 64) ∧ k (.int (a * 2 ^ b.toNat))
  | .Pow => onInt p fun a => onInt q fun b => (0 ≤ b ∧ b ≤ 1000000 ∧ a.natAbs < 2 ^ 64) ∧ k (.int (a ^ b.toNat))
  | _ => False

theorem hop_ints {op : Operator} {a b z : Int} (h : ∀ (s : Shared) (Q : Value → Shared → Prop) (E : Value → Shared → Prop) (t u : Tok), (∀ t' tk, Q (.int z t') { s with toks := tk }) → wpAny C.M C.A (binaryOp op (.int a t) (.int b u)) Q E s) :
    Hop C (binaryOp op) (.int a) (.int b) (.int z) := fun s Q E x y _ rx ry hh => by
  cases rx; cases ry
  exact h s Q E _ _ fun t' tk => hh _ s.heap tk (stays_refl _) (.int _ _)

theorem opB_hop {op : Operator} {p q : PV} {k : PV → Prop} (h : opB op p q k) : ∃ z, k z ∧ Hop C (binaryOp op) p q z := by
  cases op <;> try exact h.elim
  case Add =>
    unfold opB at h
    cases hL : isL p with
    | true =>
      rw [hL] at h
      obtain ⟨xs, c1, h⟩ := onList_inv h
      obtain ⟨ys, c2, hz, h⟩ := onList_inv h
      refine ⟨_, h, fun s Q E x y nx rx ry hh => ?_⟩
      cases c1 rx with
      | list ha _ hra => cases c2 ry with
        | list hb _ hrb =>
          refine add_core ha hb (hh _ _ s.toks (push_stays _ _) (.list ⟨_, Heap.get?_push_size _ rfl, rfl, _, rfl⟩ nx ?_)) (by rw [hra.length, hrb.length, sizeLine_eq]; lia)
          exact Reps.append (hrb.mono (SeqKeep.of_stays (push_stays _ _))) (hra.mono (SeqKeep.of_stays (push_stays _ _)))
    | false =>
      rw [hL] at h
      obtain ⟨a, b, rfl, rfl, h⟩ := onInt2 h
      exact ⟨_, h, hop_ints fun _ _ _ _ _ hh => add_int (hh _ _)⟩
  case Sub =>
    obtain ⟨a, b, rfl, rfl, h⟩ := onInt2 h
    exact ⟨_, h, hop_ints fun _ _ _ _ _ hh => sub_int (hh _ _)⟩
  case Mult =>
    obtain ⟨a, b, rfl, rfl, hb, h⟩ := onInt2 h
    exact ⟨_, h, hop_ints fun _ _ _ _ _ hh => PyProof.Rows.mul_int (hh _ _) hb⟩
  case FloorDiv =>
    obtain ⟨a, b, rfl, rfl, ⟨h0, hb⟩, h⟩ := onInt2 h
    exact ⟨_, h, hop_ints fun _ _ _ _ _ hh => PyProof.Rows.floordiv_int h0 (hh _ _) (.inl (pylong_small hb))⟩
  case Mod =>
    obtain ⟨a, b, rfl, rfl, h0, h⟩ := onInt2 h
    exact ⟨_, h, hop_ints fun _ _ _ _ _ hh => PyProof.Rows.mod_int' h0 (hh _ _)⟩
  case BitAnd =>
    obtain ⟨a, b, rfl, rfl, h⟩ := onInt2 h
    exact ⟨_, h, hop_ints fun _ _ _ _ _ hh => PyProof.Rows.and_int (hh _ _)⟩
  case LShift =>
    obtain ⟨a, b, rfl, rfl, ⟨h0, h1, h2⟩, h⟩ := onInt2 h
    exact ⟨_, h, hop_ints fun _ _ _ _ _ hh => PyProof.Rows.lshift_int_small h0 h1 h2 (hh _ _)⟩
  case Pow =>
    obtain ⟨a, b, rfl, rfl, ⟨h0, h1, h2⟩, h⟩ := onInt2 h
    exact ⟨_, h, hop_ints fun _ _ _ _ _ hh => PyProof.Rows.pow_int_small h0 h1 h2 (hh _ _)⟩

def cmpI (op : CmpOp) (a b : Int) (k : Bool → Prop) : Prop := match op with
  | .Lt => k (decide (a < b))
  | .Gt => k (decide (b < a))
  | .Eq => k (a == b)
  | .NotEq => k (a != b)
  | _ => False
def cmpB (g : Bool) (op : CmpOp) (p q : PV) (k : Bool → Prop) : Prop := match p with
  | .int a => onInt q fun b => cmpI op a b k
  | .bool a => onBool q fun b => op = .Eq ∧ k (a == b)
  | _ => g = true ∧ ((op = .NotEq ∧ ∃ a b : Option (List Int), p = pOpt a ∧ q = pOpt b ∧ k (!decide (a = b))) ∨ (op = .IsNot ∧ ∃ a : Option (List Int), p = pOpt a ∧ q = .none ∧ k a.isSome))

theorem reads_pOpt {h : Heap} {v : Value} {a : Option (List Int)} (r : Rep C.X h v (pOpt a)) : ∃ as, Reads h v (match a with | none => PyData.none | some ns => .list (ns.map PyData.int)) as := by
  cases a with
  | none => cases r with | none => exact ⟨_, .none⟩
  | some ns => cases r with
    | list hl _ hr => exact ⟨_, reads_of_ints hl hr.toInts⟩
theorem eqv_none (ns : List Int) : PyData.eqv .none (.list (ns.map PyData.int)) = false ∧ PyData.eqv (.list (ns.map PyData.int)) .none = false := ⟨by simp [PyData.eqv], by simp [PyData.eqv]⟩

theorem cmpB_cop {g : Bool} {op : CmpOp} {p q : PV} {k : Bool → Prop} (hg : g = true → C.A.units + 64 < cLine) (h : cmpB g op p q k) : ∃ b, k b ∧ Cop C op p q b := by
  have other : g = true ∧ ((op = .NotEq ∧ ∃ a b : Option (List Int), p = pOpt a ∧ q = pOpt b ∧ k (!decide (a = b))) ∨ (op = .IsNot ∧ ∃ a : Option (List Int), p = pOpt a ∧ q = .none ∧ k a.isSome)) → ∃ b, k b ∧ Cop C op p q b := by
    rintro ⟨gt, (⟨rfl, a, b, rfl, rfl, hk⟩ | ⟨rfl, a, rfl, rfl, hk⟩)⟩ <;> have hu := hg gt
    · refine ⟨_, hk, fun s Q E x y rx ry hh => ?_⟩
      cases a with
      | none => cases rx with
        | none => cases b with
          | none => cases ry with | none => exact ne_dataH .none .none (by rfl) (by rfl) hu (by simpa [PyData.eqv] using hh)
          | some ms => cases ry with
            | list hl _ hr =>
              refine ne_dataH .none (reads_of_ints hl hr.toInts) (by rfl) (shaped_ints ms) hu ?_
              rw [(eqv_none ms).1]; exact hh
      | some ns => cases rx with
        | list hl _ hr => cases b with
          | none => cases ry with
            | none =>
              refine ne_dataH (reads_of_ints hl hr.toInts) .none (shaped_ints ns) (by rfl) hu ?_
              rw [(eqv_none ns).2]; exact hh
          | some ms => cases ry with
            | list hl' _ hr' =>
              refine ne_intsK hl hr.toInts hl' hr'.toInts hu ?_
              have e : decide (some ns = some ms) = decide (ns = ms) := by simp
              rw [e] at hh; exact hh
    · refine ⟨_, hk, fun s Q E x y rx ry hh => ?_⟩
      cases ry with
      | none =>
        cases a with
        | none => cases rx with | none => exact isnot_none_none hh
        | some ns => cases rx with | list hl _ hr => exact isnot_none_ne (by intro q; cases q) hh
  cases p <;> try exact other h
  case int a =>
    obtain ⟨b, rfl, h⟩ := onInt_inv h
    cases op <;> try exact h.elim
    · exact ⟨_, h, fun s Q E x y rx ry hh => by cases rx; cases ry; exact eq_int hh⟩
    · exact ⟨_, h, fun s Q E x y rx ry hh => by cases rx; cases ry; exact ne_int hh⟩
    · exact ⟨_, h, fun s Q E x y rx ry hh => by cases rx; cases ry; exact lt_int hh⟩
    · exact ⟨_, h, fun s Q E x y rx ry hh => by cases rx; cases ry; exact gt_int hh⟩
  case bool a =>
    cases q <;> first | exact h.elim | skip
    obtain ⟨rfl, h⟩ := h
    exact ⟨_, h, fun s Q E x y rx ry hh => by cases rx; cases ry; exact eq_bool hh⟩

/-- an own class of exceptions is raised, with one text -/
theorem x_raise (O : Ok C) {x t : Str} {a : Addr} {n : Nat} {pos np cpos p2 : Pos} (hk : C.env.kindOf x = some .globalImplicit) (e : nsIn (KF C.w) mainGlobals x = some (some (.ref a)))
    (q : excIn (KF C.w) a [.type "Exception", .type "BaseException", .type "object"] "Exception.__new__" = true) (hd : (x == ("__debug__" : Str)) = false) :
    Ex1 C σ (.Raise (some (.Call (.Name x np) [.Constant (.str t) n p2] [] cpos)) none pos) (.exc a) := fun s Q E F P => by
  obtain ⟨mean, mg, mb, T⟩ := O.bs.top
  have OC := own_of_in O.bs.inn (topRead_of T) e q
  obtain ⟨tl, N, nm, qq, bs, hdct, sn, sub, ab, col, dd, k0, k1, k2, k3, k5, mN, hC, hN, hni, TT⟩ := OC.obj
  have st := (F.gr O).stays
  refine wpAny_Raise_call_subT (C := a) (nm := nm) (q := qq) (N := N) (bs := bs) (bm := tl) (hdct := hdct) (sn := sn) (sub := sub) (ab := ab) (col := col) (dd := dd) (k0 := k0) (k1 := k1) (k2 := k2) (k3 := k3) (k5 := k5)
    PySem.F.excBase_Exception (mN := mN) (TT.hasType PySem.F.excBase_Exception.hasBase) O.hh rfl hni ?_
  refine callee_glob O hk e hd s _ E np st ⟨rfl, ?_⟩
  refine Calls.evalArgs_plain (spliced_more (Calls.Constant_str (spliced_none ⟨rfl, by rw [sizeLine_eq]; show 1 ≤ _; decide, st _ _ hC, hN.keeps st, TT.keeps st, fun h' e' hm => ?_⟩)) rfl)
  exact P e' h' _ ((Heap.UpToSlots.of_keeps F.prot).trans (Heap.UpToSlots.of_keeps hm.keeps)) (.made s.heap _ st F.frames hm)
end Mine

end
section
open PySem PySem.Calls PySem.W PyProof.Rows
set_option Elab.async false
set_option linter.unusedVariables false
namespace Mine
variable {C : Cx} {k : Bool} {σ : Sto}

theorem closure_go (env : Env) : ∀ (l : List (Str × NameKind)) (cs : List (Str × Addr)), (∀ x c, cs.lookup x = some c → env.cells.lookup x = some c) → (∀ x ∈ l, x.2 = .free → ∃ c, env.cells.lookup x.1 = some c) →
    ∃ cl, (forIn l cs (fun (x : Str × NameKind) (r : List (Str × Addr)) => match x with | (name, kind) => if (kind == .free) = true then (do let y ← cellOf env name; pure (ForInStep.yield ((name, y) :: r))) else (do pure PUnit.unit; pure (ForInStep.yield r))) : Sem (List (Str × Addr))) = pure cl ∧
      (∀ x c, cl.lookup x = some c → env.cells.lookup x = some c) ∧ (∀ x ∈ l, x.2 = .free → ∃ c, cl.lookup x.1 = some c) ∧ ∀ x c, cs.lookup x = some c → ∃ c, cl.lookup x = some c
  | [], cs, h, _ => ⟨cs, rfl, h, (fun x hx => nomatch hx), fun x c e => ⟨c, e⟩⟩
  | (n, k) :: l, cs, h, hf => by
    rw [List.forIn_cons]
    by_cases hk : k = .free
    · obtain ⟨c, hc⟩ := hf (n, k) (.head _) hk
      subst hk
      have hcell : cellOf env n = pure c := by unfold cellOf; rw [hc]
      obtain ⟨cl, e, h1, h2, h3⟩ := closure_go env l ((n, c) :: cs) (fun x c' e => by
        rw [List.lookup_cons] at e
        cases hb : x == n with
        | true => rw [hb] at e; cases e; rw [beq_iff_eq.mp hb]; exact hc
        | false => rw [hb] at e; exact h x c' e) (fun x hx => hf x (.tail _ hx))
      refine ⟨cl, ?_, h1, fun x hx hxf => ?_, fun x c' e' => ?_⟩
      · dsimp only
        rw [if_pos (by rfl), hcell]
        exact e
      · rcases List.mem_cons.mp hx with rfl | hx
        · exact h3 _ c (by simp)
        · exact h2 x hx hxf
      · cases hb : x == n with
        | true => exact h3 x c (by rw [List.lookup_cons, hb])
        | false => exact h3 x c' (by rw [List.lookup_cons, hb]; exact e')
    · obtain ⟨cl, e, h1, h2, h3⟩ := closure_go env l cs h (fun x hx => hf x (.tail _ hx))
      refine ⟨cl, ?_, h1, fun x hx hxf => ?_, h3⟩
      · dsimp only
        rw [if_neg (by simpa using hk)]
        exact e
      · rcases List.mem_cons.mp hx with rfl | hx
        · exact absurd hxf hk
        · exact h2 x hx hxf
theorem closure_ok {scope : Scope} {env : Env} (hf : ∀ x ∈ scope.names, x.2 = .free → ∃ c, env.cells.lookup x.1 = some c) :
    ∃ cl, closureFor scope env = pure cl ∧ (∀ x c, cl.lookup x = some c → env.cells.lookup x = some c) ∧ (∀ x ∈ scope.names, x.2 = .free → ∃ c, cl.lookup x.1 = some c) := by
  obtain ⟨cl, e, h1, h2, _⟩ := closure_go env scope.names [] (fun x c e => nomatch e) hf
  refine ⟨cl, ?_, h1, h2⟩
  unfold closureFor
  exact congrArg (fun m => m >>= fun cs => (pure cs : Sem (List (Str × Addr)))) e

/-- what a comprehension's loop leaves -/
def CompP (M : Model) (A : Around) (E : Value → Shared → Prop) (use : Option (Value → Sem Unit)) (Q : Value → Shared → Prop) (acc : Value) (cenv : Env) (r : Result) (s' : Shared) : Prop :=
  match r, use with
  | .ok _, none => ∃ m, s'.heap.Ns cenv.locals m ∧ ∀ h', Heap.SameBut cenv.locals s'.heap h' → Q acc { s' with heap := h' }
  | .ok _, some u => wpAny M A (u acc) (fun _ s'' => ∃ m, s''.heap.Ns cenv.locals m ∧ ∀ h', Heap.SameBut cenv.locals s''.heap h' → Q .none { s'' with heap := h' }) E s'
  | .error x, _ => ∃ m, s'.heap.Ns cenv.locals m ∧ ∀ h', Heap.SameBut cenv.locals s'.heap h' → wpAny M A (passOn "comprehension.variables-let-go" x cenv : Sem Value) Q E { s' with heap := h' }

theorem comp_rule {M : Model} {A : Around} {E : Value → Shared → Prop} {s : Shared} {env : Env} {e : Expr} {scope : Scope} {pos : Pos} {newAcc first : Sem Value} {g : Comprehension} {gs : List Comprehension} {cl : List (Str × Addr)}
    {use : Option (Value → Sem Unit)} {Q : Value → Shared → Prop} (hcl : clausesOf e = g :: gs) (hs : ∀ x, foldedSetIterable g.iter env x = pure x) (hclos : closureFor scope env = pure cl)
    (hkind : scope.kind = .function) (hnames : ∀ x ∈ scope.names, x.2 = .local → scope.names.lookup x.1 = some .local)
    (h : wpAny M A first (fun x s₁ => wpAny M A (pyIter x) (fun it s₂ => wpAny M A newAcc (fun acc s₃ => wpAny M A (newFunctionEnv scope env.globals cl [] env.qual none .none (some env)) (fun cenv s₄ =>
      codeAny M A (.compStart e 0 it acc { cenv with scope := relabel scope env }) (CompP M A E use Q acc { cenv with scope := relabel scope env }) s₄) E s₃) E s₂) E s₁) E s) :
    wpAny M A (comprehension e scope env pos newAcc false first use) Q E s := by
  unfold comprehension
  rw [hclos, hcl]
  refine wpAny_bind (wpAny_mono h (fun x s₁ h₁ => wpAny_bind (wpAny_standAt (wpAny_bind (wpAny_of_eq (hs x) (wpAny_bind (wpAny_holding (wpAny_mono h₁ (fun it s₂ h₂ =>
    wpAny_standIf (wpAny_bind (wpAny_mono h₂ (fun acc s₃ h₃ => wpAny_bind (wpAny_pure (wpAny_bind (wpAny_mono h₃ (fun cenv s₄ h₄ => ?_) fun _ _ z => z)))) fun _ _ z => z))) fun _ _ z => z))))))) fun _ _ z => z)
  dsimp only
  have kl : ∀ l : List (Str × NameKind), (∀ x ∈ l, x ∈ scope.names) → ∀ x ∈ l, x.2 = .local → Env.kindOf { cenv with scope := relabel scope env } x.1 = some .local := fun l hl x hx q => lookup_relabel_local (hnames x (hl x hx) q)
  refine wpAny_holding (wpAny_bind (wpAny_attempt (wpAny_holding (wpAny_run (codeAny_mono h₄ fun r s' hr => ?_)))))
  have lg := fun vs (hl : ∀ x ∈ vs, x ∈ scope.names) cf s m hn Q h => wpAny_comp_letGo (M := M) (A := A) (E := E) (cenv := { cenv with scope := relabel scope env }) (cellsOf := cf) (Q := Q) hkind vs s m (kl vs hl) hn h
  cases r with
  | ok f =>
    cases use with
    | none =>
      obtain ⟨m, hn, hr⟩ := hr
      exact wpAny_bind (wpAny_holding (lg _ (fun x hx => (List.mem_filter.mp (List.mem_reverse.mp hx)).1) _ s' m hn _ fun h' m' _ hs' => wpAny_pure (hr h' hs')))
    | some u =>
      refine wpAny_bind (wpAny_rule (wpAny_bind (wpAny_holding (wpAny_mono hr (fun _ s'' hr' => ?_) fun _ _ z => z))))
      obtain ⟨m, hn, hr'⟩ := hr'
      refine wpAny_bind (lg _ (fun x hx => ?_) _ s'' m hn _ fun h' m' _ hs' => wpAny_pure (hr' h' hs'))
      rcases List.mem_append.mp hx with q | q
      · exact (List.mem_filter.mp (List.mem_reverse.mp (List.mem_of_mem_drop q))).1
      · exact (List.mem_filter.mp (List.mem_reverse.mp (List.mem_of_mem_take q))).1
  | error x =>
    have hr' : ∃ m, s'.heap.Ns cenv.locals m ∧ ∀ h', Heap.SameBut cenv.locals s'.heap h' → wpAny M A (passOn "comprehension.variables-let-go" x { cenv with scope := relabel scope env } : Sem Value) Q E { s' with heap := h' } := by cases use <;> exact hr
    obtain ⟨m, hn, hr⟩ := hr'
    exact wpAny_bind (wpAny_holding (lg _ (fun x hx => (List.mem_filter.mp (List.mem_reverse.mp hx)).1) _ s' m hn _ fun h' m' _ hs' => hr h' hs'))
end Mine

end
section
open PySem PySem.Calls PySem.W PyProof.Rows
set_option Elab.async false
set_option linter.unusedVariables false
namespace Mine
variable {C : Cx} {k : Bool} {σ : Sto}

/-- a comprehension's own context -/
abbrev Cx.comp (C : Cx) (scope : Scope) (cl : List (Str × Addr)) (D : Addr) (g : Heap) (Y : Addr → Prop) : Cx := { C with env := compEnvC scope cl D C.env, g := g, oc := false, X := Y, top := false }

def BindOk (C : Cx) (σ : Sto) (t : Expr) (p : PV) (σ' : Sto) : Prop := ∀ (s : Shared) (v : Value) (Q : Unit → Shared → Prop) (E : Value → Shared → Prop), Fs C σ s.heap → Rep C.X s.heap v p →
  (∀ h' tk, Fs C σ' h' → Q () { s with heap := h', toks := tk }) → wpAny C.M C.A (assign t C.env v) Q E s
def TestsOk (C : Cx) (σ : Sto) (ifs : List Expr) (b : Bool) : Prop := ∀ (s : Shared) (Q : Bool → Shared → Prop) (E : Value → Shared → Prop), Fs C σ s.heap →
  (∀ h' tk, s.heap.StaysIn h' → Q b { s with heap := h', toks := tk }) →
  wpAny C.M C.A (forIn ifs true fun c r => if r = true then do let ok ← isTrue c C.env (eval c C.env); pure (ForInStep.yield ok) else pure (ForInStep.yield r)) Q E s
def TurnOk (C : Cx) (σ : Sto) (t : Expr) (ifs : List Expr) (elt : Expr) (p : PV) (oo : Option Out) : Prop :=
  ∃ σ' b, BindOk C σ t p σ' ∧ TestsOk C σ' ifs b ∧ (b = true → ∃ o, oo = some o ∧ Ev C true σ' elt o) ∧ (b = false → oo = none)
def runG (G : PV → Option Out) : List PV → List PV → Out
  | [], acc => .ret (.list acc)
  | p :: r, acc => match G p with
    | none => runG G r acc
    | some o => match o with
      | .ret q => runG G r (acc ++ [q])
      | .exc c => .exc c

theorem plain_ne {h : Heap} {l a : Addr} {items : Array Value} {m : Str → Option Value} (x : h.PlainList l items) (hn : h.Ns a m) : a ≠ l := fun q => plain_ne_ns x hn q.symm

/-- noted once more in the same frame, by a comprehension that ends -/
theorem held_again {base : Heap} {l : List Env} {e L : Addr} {cls a0 : Value} {M : Model} {A : Around} {env : Env} {s : Shared} {Q : Value → Shared → Prop} {E : Value → Shared → Prop} {w : String} (hf : env.frame = some L) (x : Heap.HeldW base l e cls a0 L s.heap)
    (h : ∀ h', Heap.HeldW base l e cls a0 L h' → s.heap.UpToSlots h' → E (.ref e) { s with heap := h' }) : wpAny M A (PySem.passOn w (.ref e) env : Sem Value) Q E s := by
  obtain ⟨hkb, hen, hl, oe, vs, T, oT, ts, he, hcls, hd, h1, hnT, hTe, hT, hdT, h3⟩ := x
  have hsz3 : 3 < ts.size := (Array.getElem?_eq_some_iff.mp h3).1
  have other : ∀ b, b ≠ T → (s.heap.update T (Obj.mapFields (·.setIfInBounds 3 (rawInt L)))).get? b = s.heap.get? b := fun b hb => Heap.get?_update_other _ _ (Ne.symm hb)
  have noRecord : ∀ b o, s.heap.get? b = some o → (∀ vs, o.data ≠ .fields vs) → b ≠ T := fun b o hb hnf q => by
    rw [q, hT] at hb; injection hb with hb; subst hb; exact hnf ts hdT
  unfold PySem.passOn
  rw [hf]
  refine wpAny_bind (wpAny_field he hd h1 ?_)
  rw [if_neg (show ¬(Value.ref T == Value.none) = true from by simp)]
  refine wpAny_bind ?_
  unfold setFlight
  refine wpAny_bind (wpAny_field he hd h1 ?_)
  rw [if_pos (show (Value.ref T != Value.none) = true from by simp)]
  refine wpAny_setField hT hdT hsz3 (wpAny_throw (h _ ⟨fun b o hbo => (other b fun q => by rw [q, hnT] at hbo; cases hbo).trans (hkb b o hbo), hen,
    hl.of_keeps fun b o hb hnf => ⟨o, (other b (noRecord b o hb hnf)).trans hb, rfl⟩, ?_⟩ fun b o hb hnf => ⟨o.slots, (other b (noRecord b o hb hnf)).trans hb⟩))
  exact ⟨oe, vs, T, _, _, (other e (Ne.symm hTe)).trans he, hcls, hd, h1, hnT, hTe, Heap.get?_update_self _ hT (Obj.isFreed_of_fields (Obj.data_mapFields hdT _)), Obj.data_mapFields hdT _, by simp [hsz3]⟩

theorem held_but {base h h' : Heap} {l : List Env} {e L D : Addr} {cls a0 : Value} {m : Str → Option Value} (x : Heap.HeldW base l e cls a0 L h) (hn : h.Ns D m) (hb : base.get? D = none) (hs : Heap.SameBut D h h') (hfr : h'.FunFrames base l) : Heap.HeldW base l e cls a0 L h' := by
  obtain ⟨hkb, hen, hl, oe, vs, T, oT, ts, he, hcls, hd, h1, hnT, hTe, hT, hdT, h3⟩ := x
  obtain ⟨oD, es, ep, hD, hDd, _⟩ := hn
  have ne : ∀ b o vs, h.get? b = some o → o.data = .fields vs → b ≠ D := fun b o vs e d q => by
    rw [q, hD] at e; cases e; rw [hDd] at d; cases d
  exact ⟨fun b o e => hs.extBut b o (fun q => by rw [q, hb] at e; cases e) (hkb b o e), hen, hfr, oe, vs, T, oT, ts, (hs.2 e (ne e oe vs he hd)).trans he, hcls, hd, h1, hnT, hTe, (hs.2 T (ne T oT ts hT hdT)).trans hT, hdT, h3⟩

theorem noteFrame_eq {e : Value} {env env' : Env} (h : env.frame = env'.frame) : noteFrame e env = noteFrame e env' := by
  unfold noteFrame PySem.frameOf
  rw [h]
theorem note_held {C' : Cx} (hb : C'.b = C.b) (hfe : C'.fenv = C.fenv) (ho : C'.outer = C.outer) (hfr : C.A.frames = some (C.fenv :: C.outer)) {env : Env} (hef : env.frame = C.fenv.frame) {L e c : Addr} {s : Shared} {Q : Unit → Shared → Prop} {E : Value → Shared → Prop} (hf : C.fenv.frame = some L) (R : Raised C' e c s.heap)
    (h : ∀ a0 h', Heap.HeldW C.b (C.fenv :: C.outer) e (.ref c) a0 L h' → s.heap.UpToSlots h' → Q () { s with heap := h' }) : wpAny C.M C.A (noteFrame (.ref e) env) Q E s := by
  rw [noteFrame_eq hef]
  cases R with
  | flew a0 r =>
    rw [hb, hfe, ho] at r
    exact wpAny_looks_onW hfr hf r fun h' x u => h a0 h' x u
  | held a0 L' q r =>
    rw [hfe] at q
    rw [hb, hfe, ho] at r
    rw [hf] at q
    cases q
    exact wpAny_noteFrame_againW hf r.2.2.2 (h a0 s.heap r fun b o e _ => ⟨o.slots, e⟩)
theorem comp_run (O : Ok C) {elt target iter : Expr} {ifs : List Expr} {scope : Scope} {pos p0 : Pos} {use : Option (Value → Sem Unit)} {s : Shared} {Q : Value → Shared → Prop} {E : Value → Shared → Prop} {items : List PV} {σf : Sto} {G : PV → Option Out}
    (F : Fs C σ s.heap) (hit : Itr C σ target iter items) (hz : items.length ≤ 1000) (hkind : scope.kind = .function) (hnames : ∀ x ∈ scope.names, x.2 = .local → scope.names.lookup x.1 = some .local)
    (hfree : ∀ x ∈ scope.names, x.2 = .free → C.env.kindOf x.1 = some .cell) (hcell : ∀ x ∈ scope.names, x.2 ≠ .cell) (hlook : ∀ x, (relabel scope C.env).names.lookup x = some .cell → (x, NameKind.free) ∈ scope.names)
    (hf : ∀ x p, σf.lookup x = some p → σ.lookup x = some p ∧ (relabel scope C.env).names.lookup x = some .cell)
    (hturn : ∀ cl D g Y, Ok (C.comp scope cl D g Y) → ∀ p ∈ items, TurnOk (C.comp scope cl D g Y) σf target ifs elt p (G p))
    (hs : ∀ x, foldedSetIterable iter C.env x = pure x)
    (hQ : ∀ accs, runG G items [] = .ret (.list accs) → ∀ (cenv : Env) acc h' tk m, s.heap.StaysIn h' → h'.Ns cenv.locals m → s.heap.get? cenv.locals = none → Rep C.X h' (.ref acc) (.list accs) → CompP C.M C.A E use Q (.ref acc) cenv (.ok .next) { s with heap := h', toks := tk })
    (hE : ∀ c, runG G items [] = .exc c → ∀ e h' tk, s.heap.UpToSlots h' → Raised C e c h' → E (.ref e) { s with heap := h', toks := tk }) :
    wpAny C.M C.A (comprehension (.ListComp elt [⟨target, iter, ifs, 0⟩] scope pos) scope C.env p0 (newList []) false (eval iter C.env) use) Q E s := by
  obtain ⟨cl, hclos, hcl1, hcl2⟩ := closure_ok (scope := scope) (env := C.env) fun x hx hxf => O.clo _ (hfree x hx hxf)
  refine comp_rule rfl hs hclos hkind hnames (hit s _ E F fun h₀ I fp wr Pp Md St h₂ tk₂ s₀ s' Sr st => ?_)
  refine wpAny_newObj_type (wpAny_newFunctionEnv hcell (by intro y hy; simp at hy) (fun h₁ hns₁ hsb₁ => ?_) hkind)
  dsimp only at hns₁ hsb₁ ⊢
  generalize hH2 : h₂.push { cls := .type "list", dict := none, data := .seq ([] : List Value).toArray } = H2 at hns₁ hsb₁ ⊢
  generalize hAcc : h₂.objs.size = acc at *
  generalize hDD : H2.objs.size = D at *
  have hDA : D ≠ acc := by rw [← hDD, ← hH2, Heap.size_push, hAcc]; exact Nat.succ_ne_self _
  have an : h₂.get? acc = none := Heap.get?_none_of_le (by rw [hAcc]; exact Nat.le_refl _)
  have dn : h₂.get? D = none := Heap.get?_none_of_le (by rw [← hDD, ← hH2, Heap.size_push]; exact Nat.le_succ _)
  have old : h₂.StaysIn h₁ := fun b o e => hsb₁.extBut b o (fun q => by rw [q, dn] at e; cases e) (Heap.get?_push_of_some _ (hH2 ▸ Heap.get?_push_of_some _ e))
  have hacc : h₁.PlainList acc #[] := ⟨_, hsb₁.extBut _ _ hDA.symm (Heap.get?_push_of_some _ (by rw [← hH2, ← hAcc]; exact Heap.get?_push_size _ rfl))⟩
  have s02 : s.heap.StaysIn h₂ := stays_trans s₀ s'
  have nn : ∀ {a}, h₂.get? a = none → s.heap.get? a = none := fun {a} e => by
    cases q : s.heap.get? a with
    | none => rfl
    | some o => have := s02 _ _ q; rw [e] at this; cases this
  have wfr : ∀ b ∈ wr, s.heap.get? b = none := fun b hb => by
    cases q : s.heap.get? b with
    | none => rfl
    | some o => have := s₀ _ _ q; rw [Sr.fresh b hb] at this; cases this
  have fpx : ∀ {a}, h₂.get? a = none → a ∉ fp := fun {a} e hm => by
    rcases Sr.seqs a hm with hw | ⟨o, xs, n, ho, hd, _⟩
    · obtain ⟨o, vs, ho, _⟩ := Sr.fld 0 h₂ st a hw
      rw [e] at ho; cases ho
    · have := s' _ _ ho; rw [e] at this; cases this
  have bn : ∀ {a}, s.heap.get? a = none → C.b.get? a = none := fun {a} e => by
    cases q : C.b.get? a with
    | none => rfl
    | some o => have := F.prot _ _ (O.bg _ _ q); rw [e] at this; cases this
  have gx : ∀ a, C.X a ∨ a = acc → C.X a ∨ h₀.get? a = none := fun a q => q.imp id fun e => by
    cases q' : h₀.get? a with
    | none => rfl
    | some o => have := s' _ _ q'; rw [e, an] at this; cases this
  let cenv : Env := compEnvC scope cl D C.env
  let J : Nat → Heap → List PV → Prop := fun i h accs => (∀ b o, b ∉ wr → h₂.get? b = some o → h.get? b = some o) ∧ (∃ m, h.Ns D m) ∧ (∃ vs, h.PlainList acc vs.toArray ∧ Reps (fun a => C.X a ∨ a = acc) h vs accs ∧ vs.length ≤ i) ∧ St i h
  have loop : codeAny C.M C.A (.compLoop (.ListComp elt [⟨target, iter, ifs, 0⟩] scope pos) 0 (.ref I) (.ref acc) cenv) (CompP C.M C.A E use Q (.ref acc) cenv) { s with heap := h₁, toks := tk₂ + 0 } := by
    refine codeAny_loop rfl (fun kk s' => ∃ h tk i accs, s' = { s with heap := h, toks := tk } ∧ J i h accs ∧ runG G (items.drop i) accs = runG G items [] ∧ i ≤ items.length ∧ kk = items.length + 1 - i) ?_ (items.length + 1)
      ⟨h₁, _, 0, [], rfl, ⟨fun b o _ e => old b o e, ⟨_, hns₁⟩, ⟨[], hacc, .nil, Nat.le_refl _⟩, Sr.W.frame _ _ _ st fun b _ o e => old b o e⟩, rfl, Nat.zero_le _, rfl⟩
    rintro kk sx ⟨h, tk, i, accs, rfl, ⟨keep, ⟨m, hn⟩, ⟨vs, hpl, hrs, hvl⟩, hst⟩, hrun, hi, rfl⟩
    show wpAny _ C.A ((compTurn (.ListComp elt [⟨target, iter, ifs, 0⟩] scope pos) 0 (.ref I) (.ref acc) cenv).onRaise (fun x => do noteFrame x cenv; theTreesLotGoes x)) _ _ _
    refine wpAny_noted ?_
    rw [compTurn_list]
    refine wpAny_bind (wpAny_standAt (wpAny_bind ?_))
    have wrD : D ∉ wr := fun q => fpx dn (Sr.W.sub _ q)
    have wrA : acc ∉ wr := fun q => fpx an (Sr.W.sub _ q)
    by_cases hlt : i < items.length
    · have hp : items[i]? = some items[i] := List.getElem?_eq_getElem hlt
      refine Sr.W.item i _ _ _ hlt hst fun v h₃ tk₃ hMd hk₃ => wpAny_bind ?_
      refine Sr.W.go i v _ _ _ hMd fun h₄ hP hst₄ hk₄ => wpAny_bind ?_
      have up : ∀ b o, b ∉ wr → h.get? b = some o → h₄.get? b = some o := fun b o nb e => hk₄ b o nb (hk₃ b o nb e)
      have keep₄ : ∀ b o, b ∉ wr → h₂.get? b = some o → h₄.get? b = some o := fun b o nb e => up b o nb (keep b o nb e)
      have step : ItStep wr h₂ h₄ := ⟨keep₄, fun b hb => Sr.fld 0 h₂ st b hb⟩
      have old₄ : s.heap.StaysIn h₄ := fun b o e => keep₄ b o (fun q => by rw [wfr b q] at e; cases e) (s02 b o e)
      have rv := Sr.rep (fun a => C.X a ∨ a = acc) i v h₄ items[i] gx hP ((SeqKeep.of_stays s').trans step.seq) hp
      have hpl₄ : h₄.PlainList acc vs.toArray := hpl.at fun o e => up _ o wrA e
      have rs₄ : Reps (fun a => C.X a ∨ a = acc) h₄ vs accs := hrs.mono (ItStep.seq (wr := wr) ⟨up, Sr.fld i h hst⟩)
      have Ox : Ok (C.comp scope cl D (hideAll h₄ [D]) fun a => C.X a ∨ a = acc) :=
        { bs := O.bs, hh := O.hh, fr := O.fr, ff := O.ff, kind := hkind, glob := O.glob, bi := O.bi, off := hideAll_none _ (.head _)
          bg := fun b o e => hideAll_get _ (old₄ b o (F.prot b o (O.bg b o e))) fun q => by rw [List.mem_singleton.mp q, bn (nn dn)] at e; cases e
          tp := fun q => Bool.noConfusion (show false = true from q), depth := O.depth, units := O.units, clo := fun x q => hcl2 _ (hlook x q) rfl, cel := fun q => nomatch q }
      obtain ⟨oA, nA, hA⟩ : ∃ oA n, h₄.get? acc = some oA ∧ oA.cls = .type "list" ∧ oA.data = .seq vs.toArray n := let ⟨n, e⟩ := hpl₄; ⟨_, n, e, rfl, rfl⟩
      have Fx : Fs (C.comp scope cl D (hideAll h₄ [D]) fun a => C.X a ∨ a = acc) σf h₄ := by
        obtain ⟨m₀, hn₀, hv₀⟩ := F.vars
        refine ⟨fun a q => ?_, fun b o e => of_hideAll _ e, funFrames_stays old₄ F.frames, ⟨m, hn.at' fun o e => up _ o wrD e, fun x p e => ?_⟩, fun x c e => ?_⟩
        · rcases q with q | rfl
          · exact xs_stays old₄ F.xs a q
          · exact ⟨oA, _, nA, hA.1, hA.2.2⟩
        · obtain ⟨e1, e2⟩ := hf x p e
          have e3 := hfree _ (hlook x e2) rfl
          rcases hv₀ x p e1 with ⟨a, _⟩ | ⟨_, c, v', a1, a2, a3⟩
          · rw [e3] at a; cases a
          · obtain ⟨c', hc'⟩ := hcl2 _ (hlook x e2) rfl
            have := hcl1 _ _ hc'
            rw [a1] at this
            cases this
            refine .inr ⟨e2, c, v', hc', isCell_stays old₄ a2, (a3.grow fun a q => q.imp id fun q => ?_).mono (SeqKeep.of_stays old₄)⟩
            rw [q]; exact nn an
        · obtain ⟨v', z⟩ := F.cells x c (hcl1 _ _ e)
          exact ⟨v', isCell_stays old₄ z⟩
      obtain ⟨σ', b, hb, ht, h1, h2⟩ := hturn cl D _ _ Ox items[i] (List.getElem_mem hlt)
      refine hb _ v _ _ Fx rv fun h₅ tk₅ F₅ => wpAny_bind ?_
      refine ht _ _ _ F₅ fun h₆ tk₆ st₆ => ?_
      have up₆ : ∀ b o, b ≠ D → h₄.get? b = some o → h₆.get? b = some o := fun b o nb e => st₆ _ _ (F₅.prot b o (hideAll_get _ e fun q => nb (List.mem_singleton.mp q)))
      have F₆ := F₅.stays st₆
      have nx : runG G (items.drop i) accs = match G items[i] with | none => runG G (items.drop (i + 1)) accs | some o => match o with | .ret q => runG G (items.drop (i + 1)) (accs ++ [q]) | .exc c => .exc c := by
        rw [List.drop_eq_getElem_cons hlt]; rfl
      have hnD₄ := hn.at' fun o e => up _ o wrD e
      obtain ⟨oD, esD, epD, hD₄, hDd, _⟩ := id hnD₄
      have sk₆ : SeqKeep (fun a => C.X a ∨ a = acc) h₄ h₆ := fun b o xs n _ e d => ⟨o, up₆ b o (fun q => by rw [q, hD₄] at e; cases e; rw [hDd] at d; cases d) e, rfl, rfl⟩
      have hst₆ : St (i + 1) h₆ := Sr.W.frame _ _ _ hst₄ fun b hb o e => up₆ b o (fun q => fpx dn (q ▸ hb)) e
      have keep₆ : ∀ b o, b ∉ wr → h₂.get? b = some o → h₆.get? b = some o := fun b o nb e => up₆ b o (fun q => by rw [q, dn] at e; cases e) (keep₄ b o nb e)
      have hpl₆ : h₆.PlainList acc vs.toArray := hpl₄.at fun o e => up₆ _ o hDA.symm e
      have rs₆ := rs₄.mono sk₆
      obtain ⟨m₆, hn₆, _⟩ := F₆.vars
      cases b with
      | false => exact wpAny_pure ⟨rfl, items.length + 1 - (i + 1), by lia, h₆, tk₆, i + 1, accs, rfl, ⟨keep₆, ⟨m₆, hn₆⟩, ⟨vs, hpl₆, rs₆, by lia⟩, hst₆⟩, by rw [← hrun, nx, h2 rfl], hlt, rfl⟩
      | true =>
        obtain ⟨o, ho, hev⟩ := h1 rfl
        rw [ho] at nx
        refine wpAny_bind (wpAny_bind (hev _ _ _ F₆ ?_))
        cases o with
        | ret q =>
          intro v₇ h₇ tk₇ st₇ _ r₇
          refine wpAny_bind (wpAny_list_append_plain (items := vs.toArray) (hsz := by rw [List.size_toArray, sizeLine_eq]; lia) (hpl₆.at fun o e => st₇ _ o e) fun h₈ hpl₈ hs₈ => wpAny_pure (wpAny_pure ?_))
          have up₈ : ∀ b o, b ≠ acc → h₆.get? b = some o → h₈.get? b = some o := fun b o nb e => hs₈.extBut b o nb (st₇ b o e)
          refine ⟨rfl, items.length + 1 - (i + 1), by lia, h₈, tk₇, i + 1, accs ++ [q], rfl, ⟨fun b o nb e => up₈ b o (fun q => by rw [q, an] at e; cases e) (keep₆ b o nb e), ⟨m₆, hn₆.at' fun o e => up₈ _ o hDA e⟩, ⟨vs ++ [v₇], ?_, ?_, ?_⟩, Sr.W.frame _ _ _ hst₆ fun b hb o e => up₈ b o (fun q => fpx an (q ▸ hb)) e⟩, by rw [← hrun, nx], hlt, rfl⟩
          · have e : vs.toArray.push v₇ = (vs ++ [v₇]).toArray := by simp
            rw [← e]; exact hpl₈
          · refine (Reps.snoc r₇ (rs₆.mono (SeqKeep.of_stays st₇))).mono (SeqKeep.of_but hs₈ fun o xs n e d => ⟨.inr rfl, ?_⟩)
            obtain ⟨n, e'⟩ := hpl₆.at fun o e => st₇ _ o e
            rw [e'] at e; cases e; rfl
          · rw [List.length_append]; exact Nat.succ_le_succ hvl
        | exc c =>
          intro e h₇ tk₇ u₇ r₇
          obtain ⟨L, hL, _⟩ : ∃ L, C.fenv.frame = some L ∧ True := let ⟨_, ⟨L, _, q, _⟩, _⟩ := F.frames; ⟨L, q, trivial⟩
          refine note_held (C' := C.comp scope cl D (hideAll h₄ [D]) fun a => C.X a ∨ a = acc) rfl rfl rfl O.fr (env := cenv) O.ff hL r₇ fun a0 h₈ hh u₈ => ?_
          have hn₈ := u₈.ns (u₇.ns hn₆)
          refine ⟨m₆, hn₈, fun h₉ hs₉ => ?_⟩
          obtain ⟨oD', es', ep', hD', hDd', _⟩ := id hn₈
          have hfr₉ : h₉.FunFrames C.b (C.fenv :: C.outer) := F.frames.of_keeps fun b o e nf => by
            obtain ⟨sl, e'⟩ := (u₇.trans u₈) b o (keep₆ b o (fun q => by rw [wfr b q] at e; cases e) (s02 b o e)) nf
            exact ⟨_, hs₉.extBut b _ (fun q => by rw [show b = D from q, nn dn] at e; cases e) e', rfl⟩
          refine held_again (env := cenv) (O.ff.trans hL) (held_but hh hn₈ (bn (nn dn)) hs₉ hfr₉) fun h' hh' u' => ?_
          refine hE c (by rw [← hrun, nx]) e h' _ (fun b o e nf => ?_) (.held a0 L hL hh')
          obtain ⟨sl, e'⟩ := (u₇.trans u₈) b o (keep₆ b o (fun q => by rw [wfr b q] at e; cases e) (s02 b o e)) nf
          obtain ⟨sl', e''⟩ := u' b _ (hs₉.extBut b _ (fun q => by rw [show b = D from q, nn dn] at e; cases e) e') nf
          exact ⟨sl', e''⟩
    · have hin : i = items.length := by lia
      subst hin
      refine Sr.W.done _ _ _ hst fun h₃ tk₃ hk₃ => wpAny_pure ?_
      refine hQ accs (by rw [← hrun, List.drop_length]; rfl) cenv acc h₃ tk₃ m (fun b o e => hk₃ b o (fun q => by rw [wfr b q] at e; cases e) (keep b o (fun q => by rw [wfr b q] at e; cases e) (s02 b o e))) (hn.at' fun o e => hk₃ _ o wrD e) (nn dn)
        (.list (hpl.at fun o e => hk₃ _ o wrA e).isList (fun x => ?_) ((hrs.mono (ItStep.seq (wr := wr) ⟨hk₃, Sr.fld _ h hst⟩)).grow fun a x => .inl (.inl x)))
      obtain ⟨o, _, _, e, _⟩ := F.xs _ x
      have := s02 _ _ e
      rw [an] at this; cases this
  exact codeAny_compStart_list loop (Sr.self _ _ _ (Sr.W.frame _ _ _ st fun b _ o e => old b o e) loop)
end Mine

end
section
open PySem PySem.Calls PySem.W PyProof.Rows
set_option Elab.async false
set_option linter.unusedVariables false
namespace Mine
variable {C : Cx} {k : Bool} {σ : Sto}

def GoOk (target : Expr) : Prop := ∀ r v, letOwnedTupleGo target (.ref r) v = pure ()

theorem itr_list (O : Ok C) {target iter : Expr} {ps : List PV} (ht : GoOk target ∨ isTupT target = true) (he : Ev C true σ iter (.ret (.list ps))) : Itr C σ target iter ps := fun s Q E F h => he s _ E F fun v h₁ tk₁ s₁ e₁ r₁ => by
  cases r₁ with
  | list hl nx hr => exact wpAny_pyIter_list hl (h h₁ _ _ _ _ _ _ _ _ s₁ (push_stays _ _) (src_list O ht hl nx hr) ⟨⟨_, Heap.get?_push_size _ rfl, rfl, rfl⟩, isList_stays (push_stays _ _) hl⟩)
theorem itr_tup (O : Ok C) {target iter : Expr} {ps : List PV} (ht : GoOk target) (he : Ev C true σ iter (.ret (.tup ps))) : Itr C σ target iter ps := fun s Q E F h => he s _ E F fun v h₁ tk₁ s₁ e₁ r₁ => by
  cases r₁ with
  | tup hl hr => exact wpAny_pyIter_tuple hl (h h₁ _ _ _ _ _ _ _ _ s₁ (push_stays _ _) (src_tuple O ht hl hr) ⟨⟨_, Heap.get?_push_size _ rfl, rfl, rfl⟩, isTuple_stays (push_stays _ _) hl⟩)
theorem itr_range1 (O : Ok C) {target e : Expr} {p1 pos : Pos} {b : Int} (ht : GoOk target) (hc : Callee C "range" (.type "range")) (he : Ev C true σ e (.ret (.int b))) (hb0 : 0 ≤ b) (hb : b < 2 ^ 60) (hs : starEach [e] C.env = [(false, eval e C.env)]) :
    Itr C σ target (.Call (.Name "range" p1) [e] [] pos) (pis (rints 0 1 b.toNat)) := fun s Q E F h => by
  refine Call_ (hc s _ E p1 (F.gr O).stays ?_)
  refine PyProof.Rows.callWith_type1 (spliced_more (he s _ E F fun v h₁ tk₁ s₁ e₁ r₁ => spliced_none ?_) hs) hs
  cases r₁ with
  | int _ t => exact call_range_1 (range_core O ht (small_one (by lia) (by lia) (by lia) (by lia)) (by rw [rangeSize_nat]; congr 1; lia) (stays_refl _) fun h₀ I fp wr P Md St h' tk s₀ s' S st nf => h h₀ I fp wr P Md St h' tk (stays_trans s₁ s₀) s' (S _) st)

def enum (i : Nat) : List PV → List PV
  | [] => []
  | x :: r => .tup [.int i, x] :: enum (i + 1) r
theorem itr_range2' (O : Ok C) {target e f : Expr} {p1 pos : Pos} {a b : Int} (ht : GoOk target) (hc : Callee C "range" (.type "range")) (he : Ev C true σ e (.ret (.int a))) (hf : Ev C true σ f (.ret (.int b)))
    (ha : 0 ≤ a) (hab : a ≤ b) (hb : b < 2 ^ 60) (hs : starEach [e, f] C.env = (false, eval e C.env) :: starEach [f] C.env) (hs1 : starEach [f] C.env = (false, eval f C.env) :: starEach [] C.env) :
    Itr C σ target (.Call (.Name "range" p1) [e, f] [] pos) (pis (rints a 1 (b - a).toNat)) := fun s Q E F h => by
  refine Call_ (hc s _ E p1 (F.gr O).stays ?_)
  refine PyProof.Rows.callWith_type1 (spliced_more (he s _ E F fun v h₁ tk₁ s₁ e₁ r₁ => ?_) hs) hs (by rw [hs1]; rfl)
  refine spliced_more (hf _ _ E (F.stays s₁) fun v h₂ tk₂ s₂ e₂ r₂ => spliced_none ?_) hs1
  cases r₁; cases r₂
  exact call_range_2 (range_core O ht (small_one (by lia) (by lia) (by lia) (by lia)) (rangeSize_nat _ _) (stays_refl _) fun h₀ I fp wr P Md St h' tk s₀ s' S st nf => h h₀ I fp wr P Md St h' tk (stays_trans s₁ (stays_trans s₂ s₀)) s' (S _) st)
theorem itr_down' (O : Ok C) {target e f g : Expr} {p1 pos : Pos} {a b : Int} (ht : GoOk target) (hc : Callee C "range" (.type "range")) (he : Ev C true σ e (.ret (.int a))) (hf : Ev C true σ f (.ret (.int b))) (hg : Ev C true σ g (.ret (.int (-1))))
    (ha : a < 2 ^ 60) (hb : -2 ≤ b) (hab : b ≤ a) (hs : starEach [e, f, g] C.env = (false, eval e C.env) :: starEach [f, g] C.env) (hs1 : starEach [f, g] C.env = (false, eval f C.env) :: starEach [g] C.env) (hs2 : starEach [g] C.env = (false, eval g C.env) :: starEach [] C.env) :
    Itr C σ target (.Call (.Name "range" p1) [e, f, g] [] pos) (pis (rints a (-1) (a - b).toNat)) := fun s Q E F h => by
  refine Call_ (hc s _ E p1 (F.gr O).stays ?_)
  refine PyProof.Rows.callWith_type1 (spliced_more (he s _ E F fun v h₁ tk₁ s₁ e₁ r₁ => ?_) hs) hs (by rw [hs1, hs2]; rfl)
  refine spliced_more (hf _ _ E (F.stays s₁) fun v h₂ tk₂ s₂ e₂ r₂ => ?_) hs1
  refine spliced_more (hg _ _ E ((F.stays s₁).stays s₂) fun v h₃ tk₃ s₃ e₃ r₃ => spliced_none ?_) hs2
  cases r₁; cases r₂; cases r₃
  exact call_range_3 (by decide) (range_core O ht (small_down (by lia) (by lia) (by lia) (by lia)) (rangeSize_downNat _ _) (stays_refl _) fun h₀ I fp wr P Md St h' tk s₀ s' S st nf => h h₀ I fp wr P Md St h' tk (stays_trans s₁ (stays_trans s₂ (stays_trans s₃ s₀))) s' (S _) st) (.inl (pylong_small (by decide)))

theorem itr_rev (O : Ok C) {target e : Expr} {p1 pos : Pos} {ps : List PV} (ht : GoOk target) (hc : Callee C "reversed" (.type "reversed")) (he : Ev C true σ e (.ret (.list ps))) (hs : starEach [e] C.env = [(false, eval e C.env)]) :
    Itr C σ target (.Call (.Name "reversed" p1) [e] [] pos) ps.reverse := fun s Q E F h => by
  refine Call_ (hc s _ E p1 (F.gr O).stays ?_)
  refine PyProof.Rows.callWith_type1 (spliced_more (he s _ E F fun v h₁ tk₁ s₁ e₁ r₁ => spliced_none ?_) hs) hs
  cases r₁ with
  | @list l vs _ hl nx hr =>
    have hI : (h₁.push (revObj l ((vs.toArray.size : Int) - 1))).IsRevIter h₁.objs.size l ((vs.toArray.size : Int) - 1 - ((0 : Nat) : Int)) := ⟨_, Heap.get?_push_size _ rfl, rfl, by simp [revObj]⟩
    exact call_reversed_list hl (wpAny_pyIter_revIter hI (h h₁ _ _ _ _ _ _ _ tk₁ s₁ (push_stays _ _) (src_rev O ht (Heap.get?_none_of_le (Nat.le_refl _)) hl nx hr) ⟨Nat.zero_le _, hI, isList_stays (push_stays _ _) hl⟩))
theorem enum_get : ∀ (ps : List PV) (j i : Nat) (q : PV), (enum j ps)[i]? = some q → ∃ p, ps[i]? = some p ∧ q = .tup [.int ((j + i : Nat) : Int), p]
  | [], j, i, q, h => by simp [enum] at h
  | p :: ps, j, 0, q, h => by
    simp only [enum, List.getElem?_cons_zero, Option.some.injEq] at h
    exact ⟨p, rfl, h.symm⟩
  | p :: ps, j, i + 1, q, h => by
    simp only [enum, List.getElem?_cons_succ] at h ⊢
    obtain ⟨p', h1, h2⟩ := enum_get ps (j + 1) i q h
    exact ⟨p', h1, by rw [h2]; congr 3; lia⟩
theorem enum_length : ∀ (ps : List PV) (j : Nat), (enum j ps).length = ps.length
  | [], _ => rfl
  | _ :: ps, j => congrArg (· + 1) (enum_length ps (j + 1))

theorem itr_enum (O : Ok C) {target e : Expr} {p1 pos : Pos} {ps : List PV} (ht : isTupT target = true) (hc : Callee C "enumerate" (.type "enumerate")) (he : Ev C true σ e (.ret (.list ps))) (hs : starEach [e] C.env = [(false, eval e C.env)]) :
    Itr C σ target (.Call (.Name "enumerate" p1) [e] [] pos) (enum 0 ps) := fun s Q E F h => by
  refine Call_ (hc s _ E p1 (F.gr O).stays ?_)
  refine PyProof.Rows.callWith_type1 (spliced_more (he s _ E F fun v h₁ tk₁ s₁ e₁ r₁ => spliced_none ?_) hs) hs
  cases target <;> first | cases ht | skip
  rename_i es n pp
  cases r₁ with
  | @list l vs _ hl nx hr =>
    refine call_enumerate_list hl fun h' hen hit _ hk => wpAny_pyIter_enum hen ?_
    have hll : l < h₁.objs.size := let ⟨_, q, _⟩ := hl; Heap.lt_size q
    have fr : ∀ b ∈ [h₁.objs.size + 1, h₁.objs.size], h₁.get? b = none := fun b hb => Heap.get?_none_of_le (by
      rcases List.mem_cons.mp hb with rfl | hb
      · exact Nat.le_succ _
      · rw [List.mem_singleton.mp hb]; exact Nat.le_refl _)
    have W := KTurns.ofWalksU (elts := es) (k := n) (pos := pp) (WalksT.enumerate (prog := prg) (w := C.w) O.hh (h₁.objs.size + 1) h₁.objs.size l (Nat.succ_ne_self _) (Nat.ne_of_lt (Nat.lt_succ_of_lt hll)) (Nat.ne_of_lt hll) vs.toArray).toU
    have hz : vs.toArray.size = (enum 0 ps).length := by rw [List.size_toArray, hr.length, enum_length]
    rw [hz] at W
    have hl' : h'.IsList l vs.toArray := isList_stays hk hl
    refine h h₁ _ _ _ _ _ _ h' tk₁ s₁ hk ⟨W, fun s Q E st q => ?_, fr, fun b hb => ?_, fun i h st b hb => ?_, fun Y i v h p gy hP sk e => ?_⟩ ⟨⟨_, hen⟩, hit, hl'⟩
    · obtain ⟨⟨old, he⟩, _⟩ := st
      exact wpAny_pyIter_enum he q
    · rcases List.mem_cons.mp hb with rfl | hb
      · exact .inl (.head _)
      · rcases List.mem_cons.mp hb with rfl | hb
        · exact .inl (.tail _ (.head _))
        · rw [List.mem_singleton.mp hb]
          obtain ⟨o, ho, _, n, hd⟩ := hl
          exact .inr ⟨o, _, n, ho, hd, fun q => absurd q nx⟩
    · obtain ⟨⟨old, he⟩, ⟨oi, hoi, _, hdi⟩, _⟩ := st
      rcases List.mem_cons.mp hb with rfl | hb
      · exact ⟨_, _, he, rfl⟩
      · rw [List.mem_singleton.mp hb]; exact ⟨oi, _, hoi, hdi⟩
    · obtain ⟨T, vals, rfl, ⟨t, x, hx, rfl⟩, hT⟩ := hP
      obtain ⟨q, hq, rfl⟩ := enum_get ps 0 i p e
      obtain ⟨x', hx', rx⟩ := hr.get hq
      have : x = x' := by
        have q : vs[i]? = some x := by simpa using hx
        rw [hx'] at q; exact (Option.some.inj q).symm
      subst this
      rw [Nat.zero_add]
      exact .tup (vs := [.int i t, x]) hT (.cons (.int _ _) (.cons ((rx.grow gy).mono sk) .nil))
end Mine

end
section
open PySem PySem.Calls PySem.W PyProof.Rows
set_option Elab.async false
set_option linter.unusedVariables false
namespace Mine

/-- a callee's contract, under its name -/
def CallOk (w : World) (d : Nat) (f : Str) (vs : List PV) (o : Out) : Prop := ∃ a, nsIn (KF w) mainGlobals f = some (some (.ref a)) ∧ keepIn (KF w) (.ref a) = true ∧ Fn w a d vs o

def onTup (p : PV) (k : List PV → Prop) : Prop := match p with | .tup xs => k xs | _ => False
def onRet (o : Out) (k : PV → Prop) : Prop := match o with | .ret p => k p | .exc _ => False
def one {α : Type} (l : List α) (k : α → Prop) : Prop := match l with | [] => False | x :: r => match r with | [] => k x | _ :: _ => False
def two {α : Type} (l : List α) (k : α → α → Prop) : Prop := match l with | [] => False | x :: r => one r (k x)
def cstP (c : Const) (k : PV → Prop) : Prop := match c with | .int i => k (.int i) | .bool b => k (.bool b) | .none => k .none | _ => False
def tm (m : Bool) (K : Out → Prop) (p : PV) : Prop := cond m (onBool p fun _ => K (.ret p)) (K (.ret p))
def tmO (m : Bool) (K : Out → Prop) (o : Out) : Prop := match o with | .ret p => tm m K p | .exc c => cond m False (K (.exc c))
def plainArg (e : Expr) : Bool := match e with | .Starred .. => false | _ => true
def allW (f : Expr → (Out → Prop) → Prop) : List Expr → (OutL → Prop) → Prop
  | [], K => K (.ret [])
  | e :: es, K => f e fun o => match o with
    | .exc c => K (.exc c)
    | .ret p => allW f es fun ol => match ol with | .exc c => K (.exc c) | .ret ps => K (.ret (p :: ps))

/-- parts that do not raise, each by itself -/
def allR (f : Expr → (Out → Prop) → Prop) : List Expr → (List PV → Prop) → Prop
  | [], k => k []
  | e :: es, k => ∃ p, f e (fun o => o = .ret p) ∧ allR f es fun ps => k (p :: ps)
def isBin (e : Expr) : Bool := match e with | .BinOp .. => true | _ => false
/-- ints written out -/
def cInt0 (e : Expr) : Option Int := match e with | .Constant c _ _ => (match c with | .int i => some i | _ => none) | _ => none
def cInt (e : Expr) : Option Int := match e with
  | .Constant c _ _ => (match c with | .int i => some i | _ => none)
  | .UnaryOp op x _ => (match op with | .USub => (cInt0 x).map fun i => -i | _ => none)
  | .BinOp l op r _ => (match op with | .Sub => (match cInt0 l with | some a => (cInt0 r).map fun b => a - b | none => none) | _ => none)
  | _ => none

def itemP (p : PV) (i : Int) (k : PV → Prop) : Prop := match p with
  | .tup xs => (match xs[i.toNat]? with | some q => cond (decide (0 ≤ i) && decide (i < 2 ^ 63)) (k q) False | none => False)
  | .list xs => ∃ q, xs[i.toNat]? = some q ∧ (0 ≤ i ∧ i < 2 ^ 63) ∧ k q
  | .nat w n => ∃ j : Nat, i = (j : Int) ∧ j < nl w n ∧ nl w n ≤ 200 ∧ k (.int (dg w n j))
  | .sgn w x => cond (decide (i = 0)) (k (.bool (decide (x < 0)))) (cond (decide (i = 1)) (k (.nat w x.natAbs)) False)
  | _ => False
def isName (e : Expr) : Bool := match e with | .Name .. => true | _ => false
def intOf (p : PV) : Option Int := match p with | .int i => some i | _ => none
def nameI (σ : Sto) (e : Expr) : Option Int := match e with | .Name x _ => cond (x == "__debug__") none ((σ.lookup x).bind intOf) | _ => none
def sliceP (σ : Sto) (v : Expr) (lo up st : Option Expr) (p : PV) (k : PV → Prop) : Prop :=
  cond (isName v && lo.isNone) (onList p fun xs => xs.length ≤ 1000 ∧ match up with
    | some u => (match st with | none => (match (cInt u).or (nameI σ u) with | some i => 0 ≤ i ∧ k (.list (xs.take i.toNat)) | none => False) | some _ => False)
    | none => (match st with | some t => (match cInt t with | some i => cond (decide (i = -1)) (k (.list xs.reverse)) False | none => False) | none => False)) False

def lenP (p : PV) (k : PV → Prop) : Prop := match p with
  | .nat w n => nl w n < 2 ^ 62 ∧ k (.int (nl w n))
  | .list xs => xs.length < 2 ^ 62 ∧ k (.int xs.length)
  | _ => False
noncomputable def callB (w : World) (d : Nat) (fn : Str) (vs : List PV) (K : Out → Prop) : Prop :=
  cond (fn == "len") (one vs fun p => lenP p fun z => K (.ret z))
  (cond (fn == "abs") (one vs fun p => onInt p fun a => K (.ret (.int a.natAbs)))
  (cond (fn == "sum") (one vs fun p => ∃ ns, p = .list (pis ns) ∧ K (.ret (.int ns.sum)))
  (∃ o, CallOk w d fn vs o ∧ K o)))
def isGlob (sc : Scope) (fn : Str) : Bool := decide (sc.names.lookup fn = some .globalImplicit) && !(fn == "__debug__")

def one3 {α : Type} (l : List α) (k1 : α → Prop) (k2 : α → α → Prop) (k3 : α → α → α → Prop) : Prop := match l with | [] => False | a :: r => match r with | [] => k1 a | b :: r => match r with | [] => k2 a b | c :: r => match r with | [] => k3 a b c | _ :: _ => False
/-- comprehensions -/
def compScope (scope sc : Scope) : Scope := { scope with names := scope.names.map fun (n, k) => if (k == .free && sc.kind == .function && sc.names.lookup n == some .cell) then (n, .cell) else (n, k) }
def namesOf' (e : Expr) : Option (List Str) := match e with | .Name x _ => some [x] | .Tuple es _ _ => namesOf es | _ => none
def isLoc (sc : Scope) (x : Str) : Bool := decide (sc.names.lookup x = some .local)
def bindP (sc : Scope) (t : Expr) (p : PV) (σ : Sto) (k : Sto → Prop) : Prop := match t with
  | .Name x _ => cond (isLoc sc x) (k ((x, p) :: σ)) False
  | .Tuple es _ _ => (match namesOf es with
    | some xs => (match p with | .tup ps => cond (decide (xs.length = ps.length) && xs.all (isLoc sc)) (k (putAll xs ps σ)) False | _ => False)
    | none => False)
  | _ => False
abbrev Rec := Scope → Bool → Expr → Sto → (Out → Prop) → Prop
def iterW (rec : Rec) (sc : Scope) (target iter : Expr) (σ : Sto) (k : List PV → Prop) : Prop :=
  let usual := cond (isName target) (rec sc false iter σ fun o => onRet o fun p => onItems p k) (cond (isTupT target) (rec sc false iter σ fun o => onRet o fun p => onList p k) False)
  match iter with
  | .Call f args kws _ => (match f with
    | .Name fn _ => cond (isGlob sc fn && kws.isEmpty) (one3 args (fun a => cond (plainArg a)
        (cond (fn == "range") (cond (isName target) (rec sc false a σ fun o => onRet o fun p => onInt p fun b => (0 ≤ b ∧ b < 2 ^ 60) ∧ k (pis (rints 0 1 b.toNat))) False)
        (cond (fn == "reversed") (cond (isName target) (rec sc false a σ fun o => onRet o fun p => onList p fun xs => k xs.reverse) False)
        (cond (fn == "enumerate") (cond (isTupT target) (rec sc false a σ fun o => onRet o fun p => onList p fun xs => k (enum 0 xs)) False) False))) False) (fun a b => cond ((fn == "range" && isName target) && (plainArg a && plainArg b)) (rec sc false a σ fun o => onRet o fun p => onInt p fun x => rec sc false b σ fun o => onRet o fun p => onInt p fun y => (0 ≤ x ∧ x ≤ y ∧ y < 2 ^ 60) ∧ k (pis (rints x 1 (y - x).toNat))) False) fun a b c => cond ((fn == "range" && isName target) && (plainArg a && plainArg b && plainArg c)) (rec sc false a σ fun o => onRet o fun p => onInt p fun x => rec sc false b σ fun o => onRet o fun p => onInt p fun y => cInt c = some (-1) ∧ (x < 2 ^ 60 ∧ -2 ≤ y ∧ y ≤ x) ∧ k (pis (rints x (-1) (x - y).toNat))) False) False
    | _ => False)
  | _ => usual
def testsW (rec : Rec) (sc : Scope) (ifs : List Expr) (σ : Sto) (k : Bool → Prop) : Prop := match ifs with
  | [] => k true
  | t :: r => (match r with | [] => rec sc true t σ fun o => onRet o fun p => onBool p k | _ :: _ => False)
def turnW (rec : Rec) (sc : Scope) (target : Expr) (ifs : List Expr) (elt : Expr) (σ : Sto) (p : PV) (k : Option Out → Prop) : Prop :=
  bindP sc target p σ fun σ' => testsW rec sc ifs σ' fun b => (b = true → rec sc false elt σ' fun o => k (some o)) ∧ (b = false → k none)
def compChk (scope sc : Scope) : Bool := decide (scope.kind = .function) && decide (sc.kind = .function) && scope.names.all fun x => match x.2 with
  | .cell => false
  | .local => decide (scope.names.lookup x.1 = some .local)
  | .free => decide (sc.names.lookup x.1 = some .cell) && decide (scope.names.lookup x.1 = some .free)
  | _ => true
def noSet (e : Expr) : Bool := match e with | .Set .. => false | _ => true
def compW (rec : Rec) (sc : Scope) (elt : Expr) (gens : List Comprehension) (scope : Scope) (σ : Sto) (K : Out → Prop) : Prop := one gens fun g =>
  cond (compChk scope sc && decide (g.is_async = 0) && noSet g.iter) (iterW rec sc g.target g.iter σ fun items => items.length ≤ 1000 ∧ ∃ G : PV → Option Out,
    (∀ p ∈ items, turnW rec (compScope scope sc) g.target g.ifs elt (σ.filter fun q => decide ((compScope scope sc).names.lookup q.1 = some .cell)) p fun oo => oo = G p) ∧ K (runG G items [])) False

/-- two ways that come together again, if an outcome is given -/
def joinO (J : Option Out) (K : Out → Prop) (P : (Out → Prop) → Prop) : Prop := match J with | none => P K | some o => P (fun o' => o' = o) ∧ K o
noncomputable def W1 (w : World) (d : Nat) (rec : Rec) (sc : Scope) (m : Bool) (e : Expr) (σ : Sto) (K : Out → Prop) : Prop := match e with
  | .Constant c _ _ => cond m False (cstP c fun p => K (.ret p))
  | .Name x _ => cond (x == "__debug__") False (match σ.lookup x with | some p => tm m K p | none => False)
  | .BinOp l op r _ => cond m False (rec sc false l σ fun o => onRet o fun p => rec sc false r σ fun o' => onRet o' fun q => opB op p q fun z => K (.ret z))
  | .UnaryOp op x _ => (match op with
    | .USub => cond m False (rec sc false x σ fun o => onRet o fun p => onInt p fun a => K (.ret (.int (-a))))
    | .Not => rec sc m x σ fun o => onRet o fun p => onBool p fun b => K (.ret (.bool (!b)))
    | _ => False)
  | .BoolOp op vs _ => two vs fun x y => rec sc m x σ fun o => onRet o fun p => onBool p fun a => ∃ b, (match op with
    | .And => (a = true → rec sc m y σ fun o => o = .ret (.bool b)) ∧ K (.ret (.bool (a && b)))
    | .Or => m = true ∧ (a = false → rec sc m y σ fun o => o = .ret (.bool b)) ∧ K (.ret (.bool (a || b))))
  | .IfExp t a b _ => cond m False (∃ J, joinO J K fun K => rec sc true t σ fun o => onRet o fun p => onBool p fun c => (c = true → rec sc false a σ K) ∧ (c = false → rec sc false b σ K))
  | .Compare l ops rs _ => one ops fun op => one rs fun r => cond (behindInMarks op r) False (rec sc false l σ fun o => onRet o fun p => rec sc false r σ fun o' => onRet o' fun q => cmpB (decide (8 ≤ d)) op p q fun b => K (.ret (.bool b)))
  | .Subscript v i _ => (match i with
    | .Slice lo up st _ => cond m False (rec sc false v σ fun o => onRet o fun p => sliceP σ v lo up st p fun z => K (.ret z))
    | _ => rec sc false v σ fun o => onRet o fun p => rec sc false i σ fun o' => onRet o' fun q => onInt q fun j => itemP p j (tm m K))
  | .Call f args kws _ => (match f with
    | .Name fn _ => cond (isGlob sc fn && kws.isEmpty && !args.isEmpty && args.all plainArg) (allW (fun e K => rec sc false e σ K) args fun ol => match ol with
      | .exc c => (∃ a, nsIn (KF w) mainGlobals fn = some (some (.ref a)) ∧ keepIn (KF w) (.ref a) = true) ∧ cond m False (K (.exc c))
      | .ret vs => callB w d fn vs (tmO m K)) False
    | _ => False)
  | .Tuple es _ _ => cond (!m && es.all plainArg) (cond (es.all isBin) (allR (fun e K => rec sc false e σ K) es fun ps => cond (decide (ps.length ≤ 1000)) (K (.ret (.tup ps))) False) (allW (fun e K => rec sc false e σ K) es fun ol => match ol with | .exc c => K (.exc c) | .ret ps => cond (decide (ps.length ≤ 1000)) (K (.ret (.tup ps))) False)) False
  | .List es _ => cond (!m && es.all plainArg) (allW (fun e K => rec sc false e σ K) es fun ol => match ol with | .exc c => K (.exc c) | .ret ps => cond (decide (ps.length ≤ 1000)) (K (.ret (.list ps))) False) False
  | .ListComp elt gens scope _ => cond m False (compW rec sc elt gens scope σ K)
  | _ => False
noncomputable def W (w : World) (d : Nat) : Nat → Rec
  | 0 => fun _ _ _ _ _ => False
  | n + 1 => W1 w d (W w d n)

/-! statements -/
def augI (op : Operator) (a b : Int) (k : Int → Prop) : Prop := match op with
  | .Add => k (a + b)
  | .Sub => k (a - b)
  | .BitOr => k (Builtin.bitOr a b)
  | .RShift => 0 ≤ b ∧ k (a.fdiv (2 ^ b.toNat))
  | _ => False
def augP (rec : Rec) (sc : Scope) (σ : Sto) (y : Str) (op : Operator) (e : Expr) (k : Int → Prop) : Prop := match σ.lookup y with
  | some p => onInt p fun a => rec sc false e σ fun o => onRet o fun q => onInt q fun b => augI op a b k
  | none => False
def Sub (σ τ : Sto) : Prop := ∀ y p, τ.lookup y = some p → σ.lookup y = some p
def isComp (e : Expr) : Bool := match e with | .ListComp .. => true | .SetComp .. => true | .DictComp .. => true | _ => false
def mayP (sc : Scope) (x : Str) : Bool := decide (sc.names.lookup x = some .local) || decide (sc.names.lookup x = some .cell)
def thenS (o : Out) (k : PV → Prop) (K : FO → Prop) : Prop := match o with | .ret p => k p | .exc c => K (.exc c)
def isTup (e : Expr) : Option (List Expr) := match e with | .Tuple vs _ _ => some vs | _ => none
/-- whether the stores of a display are exchanged -/
def env0 (sc : Scope) : Env := { scope := sc, locals := 0, globals := 0, cells := [], qual := "", func := none, code := .none, frame := none, builtins := 0 }
def SwapIs (sc : Scope) (ts : List Expr) (e : Expr) (r : Option (List Str)) : Prop := ∀ (n : Nat) (p : Pos), swappedStores [.Tuple ts n p] e (env0 sc) = pure r
theorem SwapIs.at {env : Env} {ts : List Expr} {e : Expr} {r : Option (List Str)} (h : SwapIs env.scope ts e r) (n : Nat) (p : Pos) : swappedStores [.Tuple ts n p] e env = pure r := (h n p).symm ▸ rfl
def excNames (w : World) (x : Str) (a : Addr) : Prop := nsIn (KF w) mainGlobals x = some (some (.ref a)) ∧ excIn (KF w) a [.type "Exception", .type "BaseException", .type "object"] "Exception.__new__" = true
def joinS (J : Option Sto) (K : FO → Prop) (P : (FO → Prop) → Prop) : Prop := match J with | none => P K | some σ₁ => P (fun fo => match fo with | .next σ' => Sub σ' σ₁ | .ret p => K (.ret p) | .exc c => K (.exc c)) ∧ K (.next σ₁)
noncomputable def st1 (w : World) (sc : Scope) (wx : Rec) (ws : List Stmt → Sto → (FO → Prop) → Prop) (σ : Sto) (K : FO → Prop) (st : Stmt) : Prop := match st with
  | .Return v _ => (match v with | some e => wx sc false e σ fun o => K o.fo | none => False)
  | .Assign ts e _ => one ts fun t => (match t with
    | .Name x _ => cond (mayP sc x && (!isComp e || decide (sc.names.lookup x = some .local))) (wx sc false e σ fun o => thenS o (fun p => K (.next ((x, p) :: σ))) K) False
    | .Tuple es _ _ => (match namesOf es with
      | some xs => cond (xs.all (mayP sc) && !isComp e) (match isTup e with
        | none => wx sc false e σ fun o => thenS o (fun p => onItems p fun ps => xs.length = ps.length ∧ K (.next (putAll xs ps σ))) K
        | some vs => (SwapIs sc es e (some xs) ∧ wx sc false e σ fun o => thenS o (fun p => onTup p fun ps => xs.length = ps.length ∧ K (.next (putAll xs.reverse ps.reverse σ))) fun _ => False) ∨
          (SwapIs sc es e none ∧ wx sc false e σ fun o => thenS o (fun p => onItems p fun ps => xs.length = ps.length ∧ K (.next (putAll xs ps σ))) K)) False
      | none => False)
    | _ => False)
  | .If t body orelse _ => ∃ J, joinS J K fun K => wx sc true t σ fun o => onRet o fun p => onBool p fun b => (b = true → ws body σ K) ∧ (b = false → ws orelse σ K)
  | .AugAssign t op e _ => (match t with
    | .Name x _ => cond (isLoc sc x) (augP wx sc σ x op e fun z => K (.next ((x, .int z) :: σ))) False
    | _ => False)
  | .While t body orelse _ => cond orelse.isEmpty (∃ (N : Nat) (S : Nat → Sto), Sub σ (S 0) ∧ (∀ i, i ≤ N → wx sc true t (S i) fun o => o = .ret (.bool (decide (i < N)))) ∧
      (∀ i, i < N → ws body (S i) fun fo => ∃ σ', fo = .next σ' ∧ Sub σ' (S (i + 1))) ∧ K (.next (S N))) False
  | .For t iter body orelse _ => (match t with
    | .Name x _ => cond (mayP sc x && noSet iter && orelse.isEmpty) (iterW wx sc t iter σ fun items => ∃ (S : Nat → Sto) (I : Nat → Prop), Sub σ (S 0) ∧ I 0 ∧
        (∀ i a, items[i]? = some a → I i → ws body ((x, a) :: S i) fun fo => match fo with | .next σ' => Sub σ' (S (i + 1)) ∧ I (i + 1) | .ret p => K (.ret p) | .exc _ => False) ∧ (I items.length → K (.next (S items.length)))) False
    | _ => False)
  | .Raise v c _ => (match c with
    | some _ => False
    | none => (match v with
      | none => False
      | some e => (match e with
        | .Call f args kws _ => (match f with
          | .Name x _ => cond (isGlob sc x && kws.isEmpty) (one args fun a => match a with
            | .Constant t _ _ => (match t with | .str _ => ∃ c, excNames w x c ∧ K (.exc c) | _ => False)
            | _ => False) False
          | _ => False)
        | _ => False)))
  | _ => False
def thenK (k : Sto → Prop) (K : FO → Prop) (fo : FO) : Prop := match fo with | .next σ' => k σ' | .ret p => K (.ret p) | .exc c => K (.exc c)

/-! a list of ints of the frame's own, under the name x -/
def wo1 (rec : Rec) (sc : Scope) (x : Str) (wo : List Stmt → Sto → List Int → (Sto → List Int → Prop) → Prop) (σ : Sto) (us : List Int) (k : Sto → List Int → Prop) (st : Stmt) : Prop := match st with
  | .Assign ts e _ => one ts fun t => (match t with
    | .Name y _ => cond (isLoc sc y && !(y == x) && !isComp e) (rec sc false e σ fun o => onRet o fun p => k ((y, p) :: σ) us) False
    | _ => False)
  | .AugAssign t op e _ => (match t with
    | .Name y _ => cond (isLoc sc y && !(y == x)) (augP rec sc σ y op e fun z => k ((y, .int z) :: σ) us) False
    | _ => False)
  | .Expr e _ => (match e with
    | .Call f args kws p3 => (match f with
      | .Attribute v a p2 => (match v with
        | .Name y _ => cond (y == x && !(y == "__debug__") && a == "append" && kws.isEmpty && p2.endLine == p3.line) (one args fun e => cond (plainArg e) (rec sc false e σ fun o => onRet o fun p => onInt p fun i => us.length ≤ 1000 ∧ k σ (us ++ [i])) False) False
        | _ => False)
      | _ => False)
    | _ => False)
  | .If t body orelse _ => rec sc true t σ fun o => onRet o fun p => onBool p fun b => (b = true → wo body σ us k) ∧ (b = false → wo orelse σ us k)
  | .For t iter body orelse _ => (match t with
    | .Name y _ => cond (isLoc sc y && !(y == x) && noSet iter && orelse.isEmpty) (iterW rec sc t iter σ fun items => ∃ (S : Nat → Sto) (U : Nat → List Int), Sub σ (S 0) ∧ U 0 = us ∧
        (∀ i a, items[i]? = some a → wo body ((y, a) :: S i) (U i) fun σ' us' => Sub σ' (S (i + 1)) ∧ us' = U (i + 1)) ∧ k (S items.length) (U items.length)) False
    | _ => False)
  | .While t body orelse _ => cond orelse.isEmpty (∃ (N : Nat) (S : Nat → Sto) (U : Nat → List Int), Sub σ (S 0) ∧ U 0 = us ∧ (∀ i, i ≤ N → rec sc true t (S i) fun o => o = .ret (.bool (decide (i < N)))) ∧
      (∀ i, i < N → wo body (S i) (U i) fun σ' us' => Sub σ' (S (i + 1)) ∧ us' = U (i + 1)) ∧ k (S N) (U N)) False
  | _ => False
def WO (rec : Rec) (sc : Scope) (x : Str) : Nat → List Stmt → Sto → List Int → (Sto → List Int → Prop) → Prop
  | 0, _, _, _, _ => False
  | n + 1, sts, σ, us, k => match sts with
    | [] => k σ us
    | st :: rest => wo1 rec sc x (WO rec sc x n) σ us (fun σ' us' => WO rec sc x n rest σ' us' k) st
def isZeros (e : Expr) : Option (Int × Expr) := match e with
  | .BinOp l op r _ => (match op with
    | .Mult => (match l with
      | .List es _ => (match es with | [] => none | c :: t => (match t with | [] => (cInt0 c).map fun z => (z, r) | _ :: _ => none))
      | _ => none)
    | _ => none)
  | _ => none
def isDisp (e : Expr) : Option (List Expr) := match e with | .List es _ => some es | _ => none
def newW (rec : Rec) (sc : Scope) (e : Expr) (σ : Sto) (k : List Int → Prop) : Prop := match isDisp e with
  | some es => cond (es.all plainArg) (allW (fun e K => rec sc false e σ K) es fun ol => match ol with | .ret ps => ∃ us, ps = pis us ∧ us.length ≤ 1000 ∧ k us | .exc _ => False) False
  | none => (match isZeros e with
    | some (z, r) => rec sc false r σ fun o => onRet o fun p => onInt p fun a => (0 ≤ a ∧ a ≤ 1000) ∧ k (List.replicate a.toNat z)
    | none => False)
def isOwn (st : Stmt) : Bool := match st with
  | .Assign ts e _ => (match ts with
    | [] => false
    | t :: r => r.isEmpty && (match t with
      | .Name _ _ => (isDisp e).isSome
      | .Tuple _ _ _ => (match isTup e with | some (e0 :: _) => (isDisp e0).isSome || (isZeros e0).isSome | _ => false)
      | _ => false))
  | _ => false
def noCells (sc : Scope) : Bool := sc.names.all fun x => decide (x.2 ≠ .cell) && decide (x.2 ≠ .free)
noncomputable def ownW (rec : Rec) (sc : Scope) (n : Nat) (rest : List Stmt) (σ : Sto) (ws : List Stmt → Sto → Prop) (st : Stmt) : Prop := noCells sc = true ∧ match st with
  | .Assign ts e _ => one ts fun t => (match t with
    | .Name x _ => cond (isLoc sc x && (σ.lookup x).isNone) (newW rec sc e σ fun us => ∃ m, WO rec sc x n (rest.take m) σ us fun σ' us' => ws (rest.drop m) ((x, .list (pis us')) :: σ')) False
    | .Tuple es _ _ => (match namesOf es with
      | some (x :: xs) => (match isTup e with
        | some (e0 :: es') => cond ((x :: xs).all (isLoc sc) && (σ.lookup x).isNone && !xs.contains x && es'.all plainArg) (SwapIs sc es e (some (x :: xs)) ∧ newW rec sc e0 σ fun us => allW (fun e K => rec sc false e σ K) es' fun ol => (match ol with
          | .ret ps => ∃ is, ps = pis is ∧ xs.length = is.length ∧ is.length ≤ 10 ∧ ∃ m, WO rec sc x n (rest.take m) (putAll xs.reverse (pis is).reverse σ) us fun σ' us' => ws (rest.drop m) ((x, .list (pis us')) :: σ')
          | .exc _ => False)) False
        | _ => False)
      | _ => False)
    | _ => False)
  | _ => False
noncomputable def WS (w : World) (d : Nat) : Nat → Scope → List Stmt → Sto → (FO → Prop) → Prop
  | 0, _, _, _, _ => False
  | n + 1, sc, sts, σ, K => match sts with
    | [] => K (.next σ)
    | st :: rest => cond (isOwn st) (ownW (W w d n) sc n rest σ (fun sts σ' => WS w d n sc sts σ' K) st) (st1 w sc (W w d n) (WS w d n sc) σ (thenK (fun σ' => WS w d n sc rest σ' K) K) st)
end Mine

end
section
open PySem PySem.Calls PySem.W PyProof.Rows
set_option Elab.async false
set_option linter.unusedVariables false
namespace Mine

def EvM (C : Cx) (m : Bool) (σ : Sto) (e : Expr) (o : Out) : Prop := cond m (∃ b, o = .ret (.bool b) ∧ Tst C true σ e b) (Ev C true σ e o)
def Sound (w : World) (d : Nat) (rec : Rec) : Prop := ∀ C : Cx, C.w = w → d ≤ C.d → Ok C → ∀ m e σ K, rec C.env.scope m e σ K → ∃ o, K o ∧ EvM C m σ e o

variable {w : World} {d : Nat} {rec : Rec} {C : Cx} {σ : Sto} {K : Out → Prop}

theorem onRet_inv {o : Out} {k : PV → Prop} (h : onRet o k) : ∃ p, o = .ret p ∧ k p := by
  cases o with
  | ret p => exact ⟨p, rfl, h⟩
  | exc c => exact h.elim
theorem one_inv {α : Type} {l : List α} {k : α → Prop} (h : one l k) : ∃ x, l = [x] ∧ k x := by
  cases l with
  | nil => exact h.elim
  | cons x r => cases r with
    | nil => exact ⟨x, rfl, h⟩
    | cons _ _ => exact h.elim
theorem two_inv {α : Type} {l : List α} {k : α → α → Prop} (h : two l k) : ∃ x y, l = [x, y] ∧ k x y := by
  cases l with
  | nil => exact h.elim
  | cons x r =>
    obtain ⟨y, rfl, h⟩ := one_inv (show one r (k x) from h)
    exact ⟨x, y, rfl, h⟩
theorem one3_inv {α : Type} {l : List α} {k1 : α → Prop} {k2 : α → α → Prop} {k3 : α → α → α → Prop} (h : one3 l k1 k2 k3) : (∃ a, l = [a] ∧ k1 a) ∨ (∃ a b, l = [a, b] ∧ k2 a b) ∨ ∃ a b c, l = [a, b, c] ∧ k3 a b c := by
  cases l with
  | nil => exact h.elim
  | cons x r => cases r with
    | nil => exact .inl ⟨x, rfl, h⟩
    | cons y r =>
      cases r with
      | nil => exact .inr (.inl ⟨x, y, rfl, h⟩)
      | cons z r => cases r with
        | nil => exact .inr (.inr ⟨x, y, z, rfl, h⟩)
        | cons _ _ => exact h.elim
theorem cond_inv {b : Bool} {P : Prop} (h : cond b P False) : b = true ∧ P := by
  cases b with
  | true => exact ⟨rfl, h⟩
  | false => exact h.elim
theorem cond_inv' {b : Bool} {P : Prop} (h : cond b False P) : b = false ∧ P := by
  cases b with
  | false => exact ⟨rfl, h⟩
  | true => exact h.elim
theorem onTup_inv {p : PV} {k : List PV → Prop} (h : onTup p k) : ∃ xs, p = .tup xs ∧ k xs := by
  cases p <;> first | exact ⟨_, rfl, h⟩ | exact h.elim
theorem star_plain {e : Expr} (h : plainArg e = true) (es : List Expr) (env : Env) : starEach (e :: es) env = (false, eval e env) :: starEach es env := by
  cases e <;> first | rfl | cases h
theorem star_all : ∀ {es : List Expr}, es.all plainArg = true → ∀ env pos, (backTo pos (starEach es env)).any (·.1) = false
  | [], _, env, pos => rfl
  | e :: es, h, env, pos => by
    simp only [List.all_cons, Bool.and_eq_true] at h
    rw [star_plain h.1]
    exact star_all h.2 env pos

theorem Sound.ev (S : Sound w d rec) (hw : C.w = w) (hd : d ≤ C.d) (O : Ok C) {e : Expr} {K : Out → Prop} (h : rec C.env.scope false e σ K) : ∃ o, K o ∧ Ev C true σ e o := S C hw hd O false e σ K h
theorem Sound.ev1 (S : Sound w d rec) (hw : C.w = w) (hd : d ≤ C.d) (O : Ok C) {e : Expr} {k : PV → Prop} (h : rec C.env.scope false e σ fun o => onRet o k) : ∃ p, k p ∧ Ev C true σ e (.ret p) := by
  obtain ⟨o, h1, h2⟩ := S C hw hd O false e σ _ h
  obtain ⟨p, rfl, h1⟩ := onRet_inv h1
  exact ⟨p, h1, h2⟩
theorem Sound.evb (S : Sound w d rec) (hw : C.w = w) (hd : d ≤ C.d) (O : Ok C) {m : Bool} {e : Expr} {k : Bool → Prop} (h : rec C.env.scope m e σ fun o => onRet o fun p => onBool p k) : ∃ b, k b ∧ EvM C m σ e (.ret (.bool b)) := by
  obtain ⟨o, h1, h2⟩ := S C hw hd O m e σ _ h
  obtain ⟨p, rfl, h1⟩ := onRet_inv h1
  obtain ⟨b, rfl, h1⟩ := onBool_inv h1
  exact ⟨b, h1, h2⟩
theorem Sound.tst (S : Sound w d rec) (hw : C.w = w) (hd : d ≤ C.d) (O : Ok C) {e : Expr} {k : Bool → Prop} (h : rec C.env.scope true e σ fun o => onRet o fun p => onBool p k) : ∃ b, k b ∧ Tst C true σ e b := by
  obtain ⟨b, h1, b', e, h2⟩ := S.evb hw hd O h
  cases e
  exact ⟨b, h1, h2⟩

/-- a value that may be asked whether it is true -/
theorem tm_sound {m : Bool} {e : Expr} {p : PV} (hp : ∀ whole, PySem.isTrue e C.env whole = (do let v ← whole; standAt e.pos; holding [v] (truthy v))) (h : Ev C true σ e (.ret p)) (t : tm m K p) : ∃ o, K o ∧ EvM C m σ e o := by
  cases m with
  | false => exact ⟨_, t, h⟩
  | true =>
    obtain ⟨b, rfl, t⟩ := onBool_inv (show onBool p fun _ => K (.ret p) from t)
    exact ⟨_, t, b, rfl, tst_of h hp⟩
theorem tmO_sound {m : Bool} {e : Expr} {o : Out} (hp : ∀ whole, PySem.isTrue e C.env whole = (do let v ← whole; standAt e.pos; holding [v] (truthy v))) (h : Ev C true σ e o) (t : tmO m K o) : ∃ o, K o ∧ EvM C m σ e o := by
  cases o with
  | ret p => exact tm_sound hp h t
  | exc c =>
    obtain ⟨rfl, t⟩ := cond_inv' t
    exact ⟨_, t, h⟩

theorem allW_sound (S : Sound w d rec) (hw : C.w = w) (hd : d ≤ C.d) (O : Ok C) : ∀ {es : List Expr} {K : OutL → Prop}, es.all plainArg = true → allW (fun e K => rec C.env.scope false e σ K) es K →
    ∃ o, K o ∧ EvL C true σ es o ∧ (o = .ret [] → es = []) ∧ ∀ p, o = .ret [p] → ∃ e, es = [e] ∧ Ev C true σ e (.ret p)
  | [], K, _, h => ⟨_, h, evl_nil, fun _ => rfl, fun p q => by cases q⟩
  | e :: es, K, hp, h => by
    simp only [List.all_cons, Bool.and_eq_true] at hp
    obtain ⟨o, h1, h2⟩ := S.ev hw hd O h
    cases o with
    | exc c => exact ⟨_, h1, evl_exc h2 (star_plain hp.1 _ _), fun q => by (cases q), fun p q => by (cases q)⟩
    | ret p =>
      obtain ⟨ol, h3, h4, h5, _⟩ := allW_sound S hw hd O hp.2 h1
      cases ol with
      | exc c => exact ⟨_, h3, evl_later h2 h4 (star_plain hp.1 _ _), fun q => by (cases q), fun p q => by (cases q)⟩
      | ret ps => exact ⟨_, h3, evl_cons h2 h4 (star_plain hp.1 _ _), fun q => by (cases q), fun p' q => by cases q; exact ⟨e, by rw [h5 rfl], h2⟩⟩

theorem allR_sound (S : Sound w d rec) (hw : C.w = w) (hd : d ≤ C.d) (O : Ok C) : ∀ {es : List Expr} {k : List PV → Prop}, es.all plainArg = true → allR (fun e K => rec C.env.scope false e σ K) es k → ∃ ps, k ps ∧ EvL C true σ es (.ret ps)
  | [], k, _, h => ⟨[], h, evl_nil⟩
  | e :: es, k, hp, h => by
    simp only [List.all_cons, Bool.and_eq_true] at hp
    obtain ⟨p, h1, h2⟩ := h
    obtain ⟨o, rfl, he⟩ := S.ev hw hd O h1
    obtain ⟨ps, hk, hl⟩ := allR_sound S hw hd O hp.2 h2
    exact ⟨p :: ps, hk, evl_cons he hl (star_plain hp.1 _ _)⟩
theorem ev_list_exc {es : List Expr} {pos : Pos} {c : Addr} (h : EvL C true σ es (.exc c)) : Ev C true σ (.List es pos) (.exc c) := fun s Q E F P => List_ (h pos s _ E F P)

theorem cInt_ev {e : Expr} {i : Int} {k : Bool} (h : cInt e = some i) : Ev C k σ e (.ret (.int i)) := by
  have z : ∀ {e : Expr} {i : Int}, cInt0 e = some i → Ev C k σ e (.ret (.int i)) := fun {e i} h => by
    unfold cInt0 at h
    split at h
    · split at h
      · cases h; exact ev_int
      · cases h
    · cases h
  unfold cInt at h
  split at h
  · split at h
    · cases h; exact ev_int
    · cases h
  · split at h
    · obtain ⟨a, ha, rfl⟩ := Option.map_eq_some_iff.mp h
      exact ev_neg (z ha)
    · cases h
  · split at h
    · split at h
      · rename_i ha
        obtain ⟨b, hb, rfl⟩ := Option.map_eq_some_iff.mp h
        exact ev_sub (z ha) (z hb)
      · cases h
    · cases h
  · cases h

theorem sum_core (O : Ok C) {s : Shared} {l : Addr} {vs : List Value} {ns : List Int} {Q : Value → Shared → Prop} {E : Value → Shared → Prop} (hl : s.heap.IsList l vs.toArray) (hi : IntsAre vs ns)
    (h : ∀ h' tk t', s.heap.StaysIn h' → Q (.int ns.sum t') { s with heap := h', toks := tk }) : wpAny C.M C.A (call (.builtin "sum") [.ref l]) Q E s := by
  obtain ⟨xs, hx⟩ := hi.allInts.items
  refine sum_intListG (xs := xs) O.hh (hx ▸ hl) fun h' tk t' hk => ?_
  have e : ns = xs.toList.map (·.1) := by
    rw [← nums_intItems, ← hx]; exact hi.numsOf.symm
  rw [preSum_eq, List.take_of_length_le (by simp), ← e]
  exact h h' tk t' hk
theorem g_sum (w : World) : nsIn (KF w) mainGlobals "sum" = some none := by rfl
theorem g_rev (w : World) : nsIn (KF w) mainGlobals "reversed" = some none := by rfl
theorem g_enumerate (w : World) : nsIn (KF w) mainGlobals "enumerate" = some none := by rfl

theorem ev_sum (O : Ok C) {e : Expr} {ns : List Int} {p1 pos : Pos} (hc : Callee C "sum" (.builtin "sum")) (he : Ev C true σ e (.ret (.list (pis ns)))) (hs : starEach [e] C.env = [(false, eval e C.env)] := by rfl) :
    Ev C true σ (.Call (.Name "sum" p1) [e] [] pos) (.ret (.int ns.sum)) := fun s Q E F P => by
  refine Call_ (hc s _ E p1 (F.gr O).stays ?_)
  refine PyProof.Rows.callWith_builtin1 (spliced_more (he s _ E F fun v h₁ tk₁ s₁ e₁ r₁ => spliced_none ?_) hs) hs
  cases r₁ with
  | list hl _ hr => exact sum_core O hl hr.toInts fun h' tk t' st => P _ h' tk (stays_trans s₁ st) (fun z => nomatch z) (.int _ _)

theorem lenP_ev (O : Ok C) {e : Expr} {p1 pos : Pos} {p : PV} {k : PV → Prop} (hk : C.env.kindOf (Str.ofString "len") = some .globalImplicit) (he : Ev C true σ e (.ret p)) (hs : starEach [e] C.env = [(false, eval e C.env)]) (h : lenP p k) :
    ∃ z, k z ∧ Ev C true σ (.Call (.Name "len" p1) [e] [] pos) (.ret z) := by
  have hc := callee_boot O hk (g_len _) PyProof.Rows.Boot.«len»
  cases p <;> try exact h.elim
  case list xs => exact ⟨_, h.2, ev_len O hc he h.1 hs⟩
  case nat w n =>
    refine ⟨_, h.2, ?_⟩
    have e1 : (pis (limbs w n)).length = nl w n := lim_len
    rw [← e1]
    exact ev_len O hc (ev_conv he fun r => r.unnat) (by rw [e1]; exact h.1) hs

theorem isGlob_inv {fn : Str} (h : isGlob C.env.scope fn = true) : C.env.kindOf fn = some .globalImplicit ∧ (fn == ("__debug__" : Str)) = false := by
  simp only [isGlob, Bool.and_eq_true, decide_eq_true_eq, Bool.not_eq_true'] at h
  exact h

theorem callB_ev (O : Ok C) (hd : d ≤ C.d) {fn : Str} {e : Expr} {es : List Expr} {vs : List PV} {p1 pos : Pos} (hg : isGlob C.env.scope fn = true) (hp : (e :: es).all plainArg = true)
    (ha : EvL C true σ (e :: es) (.ret vs)) (hone : ∀ p, vs = [p] → es = [] ∧ Ev C true σ e (.ret p)) (h : callB C.w d fn vs K) : ∃ o, K o ∧ Ev C true σ (.Call (.Name fn p1) (e :: es) [] pos) o := by
  obtain ⟨hk, hdb⟩ := isGlob_inv hg
  have hpe : plainArg e = true ∧ es.all plainArg = true := by simpa only [List.all_cons, Bool.and_eq_true] using hp
  unfold callB at h
  by_cases c1 : (fn == "len") = true
  · rw [c1] at h
    obtain ⟨p, e1, g⟩ := one_inv h
    clear h; subst e1
    obtain ⟨rfl, he⟩ := hone p rfl
    obtain rfl := beq_iff_eq.mp c1
    obtain ⟨z, h1, h2⟩ := lenP_ev O hk he (star_plain hpe.1 _ _) g
    exact ⟨_, h1, h2⟩
  rw [Bool.not_eq_true] at c1
  rw [c1] at h
  by_cases c2 : (fn == "abs") = true
  · rw [c2] at h
    obtain ⟨p, e1, g⟩ := one_inv h
    clear h; subst e1
    obtain ⟨rfl, he⟩ := hone p rfl
    obtain ⟨a, e2, f⟩ := onInt_inv g
    clear g; subst e2
    obtain rfl := beq_iff_eq.mp c2
    refine ⟨_, f, ?_⟩
    have e1 : ((a.natAbs : Nat) : Int) = if a < 0 then -a else a := by split <;> lia
    rw [e1]
    exact ev_abs O (callee_boot O hk (g_abs _) PyProof.Rows.Boot.«abs») he (star_plain hpe.1 _ _)
  rw [Bool.not_eq_true] at c2
  rw [c2] at h
  by_cases c3 : (fn == "sum") = true
  · rw [c3] at h
    obtain ⟨p, e1, ns, e2, g⟩ := one_inv h
    clear h; subst e1; subst e2
    obtain ⟨rfl, he⟩ := hone _ rfl
    obtain rfl := beq_iff_eq.mp c3
    exact ⟨_, g, ev_sum O (callee_boot O hk (g_sum _) PyProof.Rows.Boot.«sum») he (star_plain hpe.1 _ _)⟩
  rw [Bool.not_eq_true] at c3
  rw [c3] at h
  obtain ⟨o, ⟨a, hn, kp, hf⟩, h⟩ := h
  exact ⟨o, h, ev_call O (callee_glob O hk hn hdb) kp ha hf hd (star_plain hpe.1 _ _) (fun pos => star_all hpe.2 _ pos)⟩

theorem itemP_ev {v i : Expr} {pos : Pos} {p : PV} {j : Int} {k : PV → Prop} (hv : Ev C true σ v (.ret p)) (hi : Ev C true σ i (.ret (.int j))) (h : itemP p j k) (hs : ∀ o v, subscripted i false o v = operate [o, v] (getItem o v)) :
    ∃ z, k z ∧ Ev C true σ (.Subscript v i pos) (.ret z) := by
  cases p <;> try exact h.elim
  case list xs =>
    obtain ⟨q, hq, ⟨h0, h1⟩, h⟩ := h
    exact ⟨_, h, ev_item_list hv hi h0 h1 hq hs⟩
  case tup xs =>
    simp only [itemP] at h
    cases hq : xs[j.toNat]? with
    | none => rw [hq] at h; exact h.elim
    | some q =>
      rw [hq] at h
      obtain ⟨hb, g⟩ := cond_inv h
      rw [Bool.and_eq_true] at hb
      exact ⟨_, g, ev_item_tup hv hi (of_decide_eq_true hb.1) (of_decide_eq_true hb.2) hq hs⟩
  case nat w n =>
    obtain ⟨i, rfl, h1, h2, h⟩ := h
    exact ⟨_, h, ev_dg (ev_conv hv fun r => r.unnat) hi rfl h1 h2 hs⟩
  case sgn w x =>
    have hv' := ev_conv hv fun r => r.unsgn
    simp only [itemP] at h
    by_cases c : j = 0
    · subst c
      exact ⟨_, h, ev_item_tup hv' hi (by decide) (by decide) rfl hs⟩
    · rw [decide_eq_false c] at h
      obtain ⟨hb, g⟩ := cond_inv (show cond (decide (j = 1)) _ False from h)
      obtain rfl := of_decide_eq_true hb
      exact ⟨_, g, ev_item_tup hv' hi (by decide) (by decide) rfl hs⟩

theorem nameI_ev (O : Ok C) {e : Expr} {i : Int} {k : Bool} (h : nameI σ e = some i) : Ev C k σ e (.ret (.int i)) := by
  unfold nameI at h
  split at h
  · rename_i x pos
    cases hd : x == ("__debug__" : Str) with
    | true => rw [hd] at h; cases h
    | false =>
      rw [hd] at h
      obtain ⟨p, hp, hi⟩ := Option.bind_eq_some_iff.mp (show (σ.lookup x).bind intOf = some i from h)
      cases p <;> first | (cases hi; done) | skip
      cases hi
      exact ev_name O hp hd
  · cases h
theorem sliceP_ev (O : Ok C) {v : Expr} {lo up st : Option Expr} {p1 pos : Pos} {p : PV} {k : PV → Prop} (hv : Ev C true σ v (.ret p)) (h : sliceP σ v lo up st p k) : ∃ z, k z ∧ Ev C true σ (.Subscript v (.Slice lo up st p1) pos) (.ret z) := by
  obtain ⟨hb, g⟩ := cond_inv h
  clear h
  rw [Bool.and_eq_true] at hb
  have ht : ∀ o r, letTemporaryGo v o r = pure () := by
    cases v <;> first | exact fun _ _ => rfl | cases hb.1
  obtain ⟨xs, cv, hz, f⟩ := onList_inv g
  clear g
  have hv := ev_conv hv cv
  cases lo with
  | some _ => cases hb.2
  | none =>
    cases up with
    | some u => cases st with
      | some _ => exact f.elim
      | none =>
        dsimp only at f
        split at f
        · rename_i i hi
          refine ⟨_, f.2, ev_upto hv (i := i.toNat) ?_ hz ht⟩
          rw [Int.toNat_of_nonneg f.1]
          rcases Option.or_eq_some_iff.mp hi with hi | ⟨_, hi⟩
          · exact cInt_ev hi
          · exact nameI_ev O hi
        · exact f.elim
    | none => cases st with
      | none => exact f.elim
      | some t =>
        dsimp only at f
        split at f
        · rename_i i hi
          obtain ⟨hc, f⟩ := cond_inv f
          obtain rfl := of_decide_eq_true hc
          exact ⟨_, f, ev_rev hv (cInt_ev hi) hz ht⟩
        · exact f.elim
end Mine

end
section
open PySem PySem.Calls PySem.W PyProof.Rows
set_option Elab.async false
set_option linter.unusedVariables false
namespace Mine
variable {w : World} {d : Nat} {rec : Rec} {C : Cx} {σ : Sto} {K : Out → Prop}

theorem goOk_name {e : Expr} (h : isName e = true) : GoOk e := by
  cases e <;> first | (cases h; done) | exact fun _ _ => rfl
theorem onItems_inv {p : PV} {k : List PV → Prop} (h : onItems p k) : ∃ xs, ((∀ {X : Addr → Prop} {h : Heap} {v : Value}, Rep X h v p → Rep X h v (.list xs)) ∨ p = .tup xs) ∧ k xs := by
  cases p <;> first | exact ⟨_, .inl fun r => r, h⟩ | exact ⟨_, .inl fun r => r.unnat, h⟩ | exact ⟨_, .inr rfl, h⟩ | exact h.elim

theorem iter_sound (S : Sound w d rec) (hw : C.w = w) (hd : d ≤ C.d) (O : Ok C) {target iter : Expr} {k : List PV → Prop} (h : iterW rec C.env.scope target iter σ k) : ∃ items, k items ∧ Itr C σ target iter items := by
  have usual : cond (isName target) (rec C.env.scope false iter σ fun o => onRet o fun p => onItems p k) (cond (isTupT target) (rec C.env.scope false iter σ fun o => onRet o fun p => onList p k) False) → ∃ items, k items ∧ Itr C σ target iter items := fun h => by
    cases hn : isName target with
    | true =>
      rw [hn] at h
      obtain ⟨p, hp, he⟩ := S.ev1 hw hd O h
      obtain ⟨xs, c, hk⟩ := onItems_inv hp
      rcases c with c | rfl
      · exact ⟨xs, hk, itr_list O (.inl (goOk_name hn)) (ev_conv he c)⟩
      · exact ⟨xs, hk, itr_tup O (goOk_name hn) he⟩
    | false =>
      rw [hn] at h
      obtain ⟨ht, h⟩ := cond_inv (show cond (isTupT target) _ False from h)
      obtain ⟨p, hp, he⟩ := S.ev1 hw hd O h
      obtain ⟨xs, c, hk⟩ := onList_inv hp
      exact ⟨xs, hk, itr_list O (.inr ht) (ev_conv he c)⟩
  cases iter <;> try exact usual h
  case Call f args kws pos =>
    cases f <;> try exact h.elim
    case Name fn p1 =>
      obtain ⟨hb, g⟩ := cond_inv h
      clear h
      simp only [Bool.and_eq_true, List.isEmpty_iff] at hb
      obtain ⟨hg, e2⟩ := hb
      subst e2
      obtain ⟨hk, hdb⟩ := isGlob_inv hg
      rcases one3_inv g with ⟨a, e1, f⟩ | ⟨a, b, e1, f⟩ | ⟨a, b, c, e1, f⟩
      rotate_left
      · clear g
        subst e1
        obtain ⟨hb, h⟩ := cond_inv f
        simp only [Bool.and_eq_true] at hb
        obtain ⟨⟨hr, hn⟩, ha, hb⟩ := hb
        obtain rfl := beq_iff_eq.mp hr
        obtain ⟨p, hp, he⟩ := S.ev1 hw hd O h
        obtain ⟨x, rfl, hp⟩ := onInt_inv hp
        obtain ⟨p, hp, hf⟩ := S.ev1 hw hd O hp
        obtain ⟨y, rfl, ⟨h1, h2, h3⟩, hk'⟩ := onInt_inv hp
        exact ⟨_, hk', itr_range2' O (goOk_name hn) (callee_boot O hk (g_range _) PyProof.Rows.Boot.«range») he hf h1 h2 h3 (star_plain ha _ _) (star_plain hb _ _)⟩
      · clear g
        subst e1
        obtain ⟨hb, h⟩ := cond_inv f
        simp only [Bool.and_eq_true] at hb
        obtain ⟨⟨hr, hn⟩, ⟨ha, hb⟩, hc⟩ := hb
        obtain rfl := beq_iff_eq.mp hr
        obtain ⟨p, hp, he⟩ := S.ev1 hw hd O h
        obtain ⟨x, rfl, hp⟩ := onInt_inv hp
        obtain ⟨p, hp, hf⟩ := S.ev1 hw hd O hp
        obtain ⟨y, rfl, hci, ⟨h1, h2, h3⟩, hk'⟩ := onInt_inv hp
        exact ⟨_, hk', itr_down' O (goOk_name hn) (callee_boot O hk (g_range _) PyProof.Rows.Boot.«range») he hf (cInt_ev hci) h1 h2 h3 (star_plain ha _ _) (star_plain hb _ _) (star_plain hc _ _)⟩
      clear g
      subst e1
      obtain ⟨hp, h⟩ := cond_inv f
      clear f
      by_cases c1 : (fn == "range") = true
      · rw [c1] at h
        obtain ⟨ht, h⟩ := cond_inv (show cond (isName target) _ False from h)
        obtain ⟨p, hp', he⟩ := S.ev1 hw hd O h
        obtain ⟨b, rfl, ⟨h0, h1⟩, hkk⟩ := onInt_inv hp'
        obtain rfl := beq_iff_eq.mp c1
        exact ⟨_, hkk, itr_range1 O (goOk_name ht) (callee_boot O hk (g_range _) PyProof.Rows.Boot.«range») he h0 h1 (star_plain hp _ _)⟩
      · rw [Bool.not_eq_true] at c1
        rw [c1] at h
        by_cases c2 : (fn == "reversed") = true
        · rw [c2] at h
          obtain ⟨ht, h⟩ := cond_inv (show cond (isName target) _ False from h)
          obtain ⟨p, hp', he⟩ := S.ev1 hw hd O h
          obtain ⟨xs, c, hkk⟩ := onList_inv hp'
          obtain rfl := beq_iff_eq.mp c2
          exact ⟨_, hkk, itr_rev O (goOk_name ht) (callee_boot O hk (g_rev _) PyProof.Rows.Boot.«reversed») (ev_conv he c) (star_plain hp _ _)⟩
        rw [Bool.not_eq_true] at c2
        rw [c2] at h
        obtain ⟨c2, h⟩ := cond_inv (show cond (fn == "enumerate") _ False from h)
        obtain ⟨ht, h⟩ := cond_inv h
        obtain ⟨p, hp', he⟩ := S.ev1 hw hd O h
        obtain ⟨xs, c, hkk⟩ := onList_inv hp'
        obtain rfl := beq_iff_eq.mp c2
        exact ⟨_, hkk, itr_enum O ht (callee_boot O hk (g_enumerate _) PyProof.Rows.Boot.«enumerate») (ev_conv he c) (star_plain hp _ _)⟩

theorem bind_sound (O : Ok C) {t : Expr} {p : PV} {k : Sto → Prop} (h : bindP C.env.scope t p σ k) : ∃ σ', k σ' ∧ BindOk C σ t p σ' := by
  cases t <;> try exact h.elim
  case Name x pos =>
    obtain ⟨hx, h⟩ := cond_inv h
    exact ⟨_, h, fun s v Q E F r P => PyProof.Rows.assign_Name (x_put O (.loc (of_decide_eq_true hx)) F r fun h' tk _ F' => P h' tk F')⟩
  case Tuple es n pos =>
    dsimp only [bindP] at h
    cases hn : namesOf es with
    | none => rw [hn] at h; exact h.elim
    | some xs =>
      rw [hn] at h
      cases p <;> try exact h.elim
      case tup ps =>
        obtain ⟨hb, h⟩ := cond_inv h
        rw [Bool.and_eq_true] at hb
        have hl := of_decide_eq_true hb.1
        refine ⟨_, h, fun s v Q E F r P => ?_⟩
        cases r with
        | tup ht hr =>
          obtain ⟨h1, h2, h3⟩ := assignEach_names C.env hn
          refine wpAny_assign_Tuple O.hh ht (by rw [h1, hl, List.size_toArray, hr.length]) h2 fun h₂ he₂ => ?_
          have st := extBut_stays he₂
          exact x_stores O h3 hl (fun x hx => .loc (of_decide_eq_true (List.all_eq_true.mp hb.2 x hx))) (F.stays st) (by simpa using hr.mono (SeqKeep.of_stays st)) fun h' tk _ F' => P h' tk F'

theorem turn_sound (S : Sound w d rec) (hw : C.w = w) (hd : d ≤ C.d) (O : Ok C) {target : Expr} {ifs : List Expr} {elt : Expr} {p : PV} {oo : Option Out} (h : turnW rec C.env.scope target ifs elt σ p fun x => x = oo) : TurnOk C σ target ifs elt p oo := by
  obtain ⟨σ', h, hb⟩ := bind_sound O h
  have fin : ∀ {b : Bool}, TestsOk C σ' ifs b → (b = true → rec C.env.scope false elt σ' fun o => some o = oo) ∧ (b = false → none = oo) → TurnOk C σ target ifs elt p oo := fun {b} ht h =>
    ⟨σ', b, hb, ht, fun q => let ⟨o, e, h2⟩ := S.ev hw hd O (h.1 q); ⟨o, e.symm, h2⟩, fun q => (h.2 q).symm⟩
  cases ifs with
  | nil => exact fin (b := true) (fun s Q E F P => wpAny_tests_nil (P s.heap s.toks (stays_refl _))) h
  | cons t r => cases r with
    | cons _ _ => exact h.elim
    | nil =>
      obtain ⟨b, h, ht⟩ := S.tst hw hd O h
      exact fin (fun s Q E F P => wpAny_tests_one (ht s _ E F fun h' tk st _ => P h' tk st)) h

def CompRuns (C : Cx) (σ : Sto) (elt target iter : Expr) (ifs : List Expr) (scope : Scope) (o : Out) : Prop := ∀ (pos p0 : Pos) (use : Option (Value → Sem Unit)) (s : Shared) (Q E : Value → Shared → Prop), Fs C σ s.heap →
  (∀ accs, o = .ret (.list accs) → ∀ (cenv : Env) acc h' tk m, s.heap.StaysIn h' → h'.Ns cenv.locals m → s.heap.get? cenv.locals = none → Rep C.X h' (.ref acc) (.list accs) → CompP C.M C.A E use Q (.ref acc) cenv (.ok .next) { s with heap := h', toks := tk }) →
  (∀ c, o = .exc c → ∀ e h' tk, s.heap.UpToSlots h' → Raised C e c h' → E (.ref e) { s with heap := h', toks := tk }) →
  wpAny C.M C.A (comprehension (.ListComp elt [⟨target, iter, ifs, 0⟩] scope pos) scope C.env p0 (newList []) false (eval iter C.env) use) Q E s
theorem runG_list (G : PV → Option Out) : ∀ (items acc : List PV), (∃ accs, runG G items acc = .ret (.list accs)) ∨ ∃ c, runG G items acc = .exc c
  | [], acc => .inl ⟨acc, rfl⟩
  | p :: r, acc => by
    unfold runG
    cases G p with
    | none => exact runG_list G r acc
    | some o => cases o with
      | ret q => exact runG_list G r _
      | exc c => exact .inr ⟨c, rfl⟩

theorem lookup_filter {σ : Sto} {f : Str → Bool} {x : Str} {p : PV} : ∀ {σ : Sto}, (σ.filter fun q => f q.1).lookup x = some p → σ.lookup x = some p ∧ f x = true
  | [], h => by cases h
  | (y, q) :: σ, h => by
    rw [List.filter_cons] at h
    cases hf : f y with
    | true =>
      simp only [hf, if_true] at h
      rw [List.lookup_cons] at h ⊢
      cases hb : x == y with
      | true => rw [hb] at h; exact ⟨h, by rw [beq_iff_eq.mp hb]; exact hf⟩
      | false => rw [hb] at h; exact lookup_filter (σ := σ) h
    | false =>
      simp only [hf] at h
      obtain ⟨h1, h2⟩ := lookup_filter (σ := σ) h
      refine ⟨?_, h2⟩
      rw [List.lookup_cons]
      cases hb : x == y with
      | true => rw [beq_iff_eq.mp hb, hf] at h2; cases h2
      | false => exact h1

theorem comp_parts (S : Sound w d rec) (hw : C.w = w) (hd : d ≤ C.d) (O : Ok C) {elt : Expr} {gens : List Comprehension} {scope : Scope} (h : compW rec C.env.scope elt gens scope σ K) :
    ∃ target iter ifs o, gens = [⟨target, iter, ifs, 0⟩] ∧ K o ∧ ((∃ accs, o = .ret (.list accs)) ∨ ∃ c, o = .exc c) ∧ CompRuns C σ elt target iter ifs scope o := by
  obtain ⟨g, rfl, f⟩ := one_inv h
  clear h
  obtain ⟨hb, f⟩ := cond_inv f
  obtain ⟨target, iter, ifs, ia⟩ := g
  simp only [Bool.and_eq_true, compChk] at hb
  obtain ⟨⟨⟨⟨hk, hsk⟩, hall⟩, hia⟩, hset⟩ := hb
  obtain rfl : ia = 0 := of_decide_eq_true hia
  obtain ⟨items, ⟨hz, G, hG, hK⟩, hit⟩ := iter_sound S hw hd O f
  refine ⟨target, iter, ifs, _, rfl, hK, runG_list G items [], fun pos p0 use s Q E F hQ hE => ?_⟩
  have kd : scope.kind = .function := of_decide_eq_true hk
  have all := fun x hx => List.all_eq_true.mp hall x hx
  have hfree : ∀ x ∈ scope.names, x.2 = .free → C.env.kindOf x.1 = some .cell := fun x hx q => by
    have := all x hx
    rw [q] at this
    simp only [Bool.and_eq_true, decide_eq_true_eq] at this
    exact this.1
  have hcell : ∀ x ∈ scope.names, x.2 ≠ .cell := fun x hx q => by
    have := all x hx
    rw [q] at this; cases this
  have hmem : ∀ x, (relabel scope C.env).names.lookup x = some .cell → (x, NameKind.free) ∈ scope.names := fun x q => by
    obtain ⟨⟨n, k⟩, hy, e⟩ := List.mem_map.mp (lookup_mem q)
    dsimp only at e
    split at e
    · rename_i hc
      simp only [Bool.and_eq_true, beq_iff_eq] at hc
      cases e
      rw [← hc.1.1]; exact hy
    · cases e
      exact absurd rfl (hcell _ hy)
  refine comp_run O F hit hz kd (fun x hx q => ?_) hfree hcell hmem (fun x p e => ?_) (fun cl D g Y Ox p hp => turn_sound (C := C.comp scope cl D g Y) S hw hd Ox (hG p hp)) (fun x => ?_) hQ hE
  · have := all x hx
    rw [q] at this
    exact of_decide_eq_true this
  · obtain ⟨h1, h2⟩ := lookup_filter (σ := σ) (f := fun y => decide ((compScope scope C.env.scope).names.lookup y = some .cell)) e
    exact ⟨h1, of_decide_eq_true h2⟩
  · cases iter <;> first | rfl | cases hset

theorem comp_sound (S : Sound w d rec) (hw : C.w = w) (hd : d ≤ C.d) (O : Ok C) {elt : Expr} {gens : List Comprehension} {scope : Scope} {pos : Pos} (h : compW rec C.env.scope elt gens scope σ K) : ∃ o, K o ∧ Ev C true σ (.ListComp elt gens scope pos) o := by
  obtain ⟨target, iter, ifs, o, rfl, hK, ho, hr⟩ := comp_parts S hw hd O h
  refine ⟨o, hK, fun s Q E F P => ?_⟩
  rw [eval_ListComp]
  refine hr pos _ none s Q E F (fun accs e cenv acc h' tk m st hn hnone r => ?_) fun c e => by rw [e] at P; exact P
  rw [e] at P
  refine ⟨m, hn, fun h'' hs => P _ h'' tk (fun b o e => hs.extBut b o (fun q => by rw [q, hnone] at e; cases e) (st b o e)) (fun z => nomatch z) (r.mono (SeqKeep.of_but hs fun o xs n e d => ?_))⟩
  obtain ⟨o', es, ep, e', d', _⟩ := hn
  rw [e] at e'; cases e'; rw [d] at d'; cases d'
end Mine

end
section
open PySem PySem.Calls PySem.W PyProof.Rows
set_option Elab.async false
set_option linter.unusedVariables false
namespace Mine
variable {w : World} {d : Nat} {rec : Rec} {C : Cx} {σ : Sto} {K : Out → Prop}

theorem evM_not {m : Bool} {x : Expr} {b : Bool} {pos : Pos} (h : EvM C m σ x (.ret (.bool b))) : EvM C m σ (.UnaryOp .Not x pos) (.ret (.bool (!b))) := by
  cases m with
  | false => exact ev_not h
  | true =>
    obtain ⟨b', e, t⟩ := h
    cases e
    exact ⟨_, rfl, tst_not t⟩
theorem evM_cmp {m : Bool} {l r : Expr} {p q : PV} {b : Bool} {op : CmpOp} {pos : Pos} (h : Cop C op p q b) (hb : behindInMarks op r = false) (hl : Ev C true σ l (.ret p)) (hr : Ev C true σ r (.ret q)) : EvM C m σ (.Compare l [op] [r] pos) (.ret (.bool b)) := by
  cases m with
  | false => exact ev_cmp h hb hl hr
  | true => exact ⟨_, rfl, tst_cmp hb h hl hr⟩

theorem W1_sound (S : Sound w d rec) : Sound w d (W1 w d rec) := by
  rintro C hw hd O m e σ K h
  have hu : decide (8 ≤ d) = true → C.A.units + 64 < cLine := fun q => by
    have := of_decide_eq_true q
    have := O.units
    lia
  cases e <;> try exact h.elim
  case BoolOp op vs pos =>
    obtain ⟨x, y, e1, g⟩ := two_inv h
    clear h; subst e1
    obtain ⟨a, ⟨b, g⟩, ha⟩ := S.evb hw hd O g
    have hy : ∀ {P : Prop}, (P → rec C.env.scope m y σ fun o => o = .ret (.bool b)) → P → EvM C m σ y (.ret (.bool b)) := fun q p => by
      obtain ⟨o, rfl, t⟩ := S C hw hd O m y σ _ (q p)
      exact t
    cases op with
    | And =>
      obtain ⟨g1, g2⟩ := g
      refine ⟨_, g2, ?_⟩
      cases m with
      | false => exact ev_andb ha fun q => hy g1 q
      | true =>
        obtain ⟨a', e1, t⟩ := ha
        cases e1
        refine ⟨_, rfl, tst_and t fun q => ?_⟩
        obtain ⟨b', e2, t'⟩ := hy g1 q
        cases e2
        exact t'
    | Or =>
      obtain ⟨rfl, g1, g2⟩ := g
      refine ⟨_, g2, ?_⟩
      obtain ⟨a', e1, t⟩ := ha
      cases e1
      refine ⟨_, rfl, tst_or t fun q => ?_⟩
      obtain ⟨b', e2, t'⟩ := hy g1 q
      cases e2
      exact t'
  case BinOp l op r pos =>
    obtain ⟨rfl, g⟩ := cond_inv' h
    obtain ⟨p, g, hl⟩ := S.ev1 hw hd O g
    obtain ⟨q, g, hr⟩ := S.ev1 hw hd O g
    obtain ⟨z, g, hz⟩ := opB_hop g
    exact ⟨_, g, ev_bin hz hl hr⟩
  case UnaryOp op x pos =>
    cases op <;> try exact h.elim
    case Not =>
      obtain ⟨b, g, hb⟩ := S.evb hw hd O h
      exact ⟨_, g, evM_not hb⟩
    case USub =>
      obtain ⟨rfl, g⟩ := cond_inv' h
      obtain ⟨p, g, hx⟩ := S.ev1 hw hd O g
      obtain ⟨a, e1, g⟩ := onInt_inv g
      subst e1
      exact ⟨_, g, ev_neg hx⟩
  case IfExp t a b pos =>
    obtain ⟨rfl, J, g⟩ := cond_inv' h
    have key : ∀ {K : Out → Prop}, (rec C.env.scope true t σ fun o => onRet o fun p => onBool p fun c => (c = true → rec C.env.scope false a σ K) ∧ (c = false → rec C.env.scope false b σ K)) → ∃ o, K o ∧ Ev C true σ (.IfExp t a b pos) o := fun g => by
      obtain ⟨c, g, hc⟩ := S.tst hw hd O g
      cases c with
      | true =>
        obtain ⟨o, g, ho⟩ := S.ev hw hd O (g.1 rfl)
        exact ⟨_, g, ev_if hc (fun _ => ho) fun q => nomatch q⟩
      | false =>
        obtain ⟨o, g, ho⟩ := S.ev hw hd O (g.2 rfl)
        exact ⟨_, g, ev_if hc (fun q => nomatch q) fun _ => ho⟩
    cases J with
    | none => exact key g
    | some o =>
      obtain ⟨o', e, h⟩ := key g.1
      subst e
      exact ⟨_, g.2, h⟩
  case ListComp elt gens scope pos =>
    obtain ⟨rfl, g⟩ := cond_inv' h
    exact comp_sound S hw hd O g
  case Compare l ops rs pos =>
    obtain ⟨op, e1, g⟩ := one_inv h
    clear h; subst e1
    obtain ⟨r, e1, f⟩ := one_inv g
    clear g; subst e1
    obtain ⟨hb, g⟩ := cond_inv' f
    obtain ⟨p, g, hl⟩ := S.ev1 hw hd O g
    obtain ⟨q, g, hr⟩ := S.ev1 hw hd O g
    obtain ⟨b, g, hc⟩ := cmpB_cop hu g
    exact ⟨_, g, evM_cmp hc hb hl hr⟩
  case Call f args kws pos =>
    cases f <;> try exact h.elim
    case Name fn p1 =>
      obtain ⟨hb, g⟩ := cond_inv h
      simp only [Bool.and_eq_true, List.isEmpty_iff, Bool.not_eq_true'] at hb
      obtain ⟨⟨⟨hg, rfl⟩, hne⟩, hp⟩ := hb
      cases args with
      | nil => cases hne
      | cons e es =>
        obtain ⟨ol, g', hl, _, hone⟩ := allW_sound S hw hd O hp g
        have hpe : plainArg e = true ∧ es.all plainArg = true := by simpa only [List.all_cons, Bool.and_eq_true] using hp
        cases ol with
        | exc c =>
          obtain ⟨⟨a, hn, kp⟩, g'⟩ := g'
          obtain ⟨rfl, g'⟩ := cond_inv' g'
          obtain ⟨hk, hdb⟩ := isGlob_inv hg
          subst hw
          exact ⟨_, g', ev_call_exc O (callee_glob O hk hn hdb) kp hl (star_plain hpe.1 _ _) (fun pos => star_all hpe.2 _ pos)⟩
        | ret vs =>
          subst hw
          obtain ⟨o, g2, g3⟩ := callB_ev (p1 := p1) (pos := pos) O hd hg hp hl (fun p e1 => by
            subst e1
            obtain ⟨e', e2, he⟩ := hone p rfl
            cases e2
            exact ⟨rfl, he⟩) g'
          exact tmO_sound (fun _ => rfl) g3 g2
  case Constant c n pos =>
    obtain ⟨rfl, g⟩ := cond_inv' h
    cases c <;> try exact g.elim
    case none => exact ⟨_, g, ev_none⟩
    case bool b => exact ⟨_, g, ev_bool⟩
    case int i => exact ⟨_, g, ev_int⟩
  case Subscript v i pos =>
    have usual : (rec C.env.scope false v σ fun o => onRet o fun p => rec C.env.scope false i σ fun o' => onRet o' fun q => onInt q fun j => itemP p j (tm m K)) → (∀ o v, subscripted i false o v = operate [o, v] (getItem o v)) → ∃ o, K o ∧ EvM C m σ (.Subscript v i pos) o := fun g hs => by
      obtain ⟨p, g, hv⟩ := S.ev1 hw hd O g
      obtain ⟨q, g, hi⟩ := S.ev1 hw hd O g
      obtain ⟨j, e1, g⟩ := onInt_inv g
      subst e1
      obtain ⟨z, g, hz⟩ := itemP_ev hv hi g hs
      exact tm_sound (fun _ => rfl) hz g
    cases i <;> first | exact usual h (fun _ _ => rfl) | skip
    case Slice lo up st p1 =>
      obtain ⟨rfl, g⟩ := cond_inv' h
      obtain ⟨p, g, hv⟩ := S.ev1 hw hd O g
      obtain ⟨z, g, hz⟩ := sliceP_ev O hv g
      exact ⟨_, g, hz⟩
  case Name x pos =>
    obtain ⟨hd', g⟩ := cond_inv' h
    cases hx : σ.lookup x with
    | none => rw [hx] at g; exact g.elim
    | some p =>
      rw [hx] at g
      exact tm_sound (fun _ => rfl) (ev_name O hx hd') g
  case List es pos =>
    obtain ⟨hb, g⟩ := cond_inv h
    simp only [Bool.and_eq_true, Bool.not_eq_true'] at hb
    obtain ⟨rfl, hp⟩ := hb
    obtain ⟨ol, g, hl, _⟩ := allW_sound S hw hd O hp g
    cases ol with
    | exc c => exact ⟨_, g, ev_list_exc hl⟩
    | ret ps =>
      obtain ⟨hz, g⟩ := cond_inv g
      exact ⟨_, g, ev_list hl (of_decide_eq_true hz)⟩
  case Tuple es n pos =>
    obtain ⟨hb, g⟩ := cond_inv h
    simp only [Bool.and_eq_true, Bool.not_eq_true'] at hb
    obtain ⟨rfl, hp⟩ := hb
    cases hbin : es.all isBin with
    | true =>
      rw [hbin] at g
      obtain ⟨ps, g, hl⟩ := allR_sound S hw hd O hp g
      obtain ⟨hz, g⟩ := cond_inv g
      exact ⟨_, g, ev_tuple hl (of_decide_eq_true hz)⟩
    | false =>
    rw [hbin] at g
    obtain ⟨ol, g, hl, _⟩ := allW_sound S hw hd O hp g
    cases ol with
    | exc c => exact ⟨_, g, ev_tuple_exc hl⟩
    | ret ps =>
      obtain ⟨hz, g⟩ := cond_inv g
      exact ⟨_, g, ev_tuple hl (of_decide_eq_true hz)⟩
theorem W_sound : ∀ n, Sound w d (W w d n)
  | 0 => fun C _ _ _ _ _ _ _ h => h.elim
  | n + 1 => W1_sound (W_sound n)
end Mine

end
section
open PySem PySem.Calls PySem.W PyProof.Rows
set_option Elab.async false
set_option linter.unusedVariables false
namespace Mine
variable {w : World} {d : Nat} {rec : Rec} {C : Cx} {σ : Sto}

theorem notComp_swaps {e : Expr} (h : isComp e = false) (t : Option Expr) (line : Nat) (env : Env) : swapsWith e t line env = pure false := by
  cases e <;> first | rfl | cases h
/-- the frame's own list is kept out of all values -/
abbrev Cx.ext (C : Cx) (l : Addr) : Cx := { C with X := fun a => C.X a ∨ a = l }
theorem Ok.ext (O : Ok C) (l : Addr) : Ok (C.ext l) :=
  { bs := O.bs, hh := O.hh, fr := O.fr, ff := O.ff, kind := O.kind, glob := O.glob, bi := O.bi, off := O.off, bg := O.bg, tp := O.tp, depth := O.depth, units := O.units, clo := O.clo, cel := O.cel }

structure Fo (C : Cx) (σ : Sto) (x : Str) (l : Addr) (us : List Int) (h : Heap) : Prop where
  fs : Fs (C.ext l) σ h
  off : C.g.get? l = none
  kx : C.env.kindOf x = some .local
  nl : ¬C.X l
  at_ : ∃ m, h.Ns C.env.locals m ∧ m x = some (.ref l)
  own : ∃ vs, h.PlainList l vs.toArray ∧ IntsAre vs us

theorem Fo.stays {x : Str} {l : Addr} {us : List Int} {h h' : Heap} (F : Fo C σ x l us h) (k : h.StaysIn h') : Fo C σ x l us h' :=
  ⟨F.fs.stays k, F.off, F.kx, F.nl, let ⟨m, a, b⟩ := F.at_; ⟨m, a.keeps k, b⟩, let ⟨vs, a, b⟩ := F.own; ⟨vs, a.at fun o e => k _ _ e, b⟩⟩
theorem Fo.weaken {x : Str} {l : Addr} {us : List Int} {h : Heap} {σ' : Sto} (F : Fo C σ x l us h) (hs : Sub σ σ') : Fo C σ' x l us h := ⟨F.fs.weaken hs, F.off, F.kx, F.nl, F.at_, F.own⟩
theorem Fo.step {x : Str} {l : Addr} {us : List Int} {wr : List Addr} {h h' : Heap} (F : Fo C σ x l us h) (st : ItStep wr h h') (n : ∀ b ∈ wr, C.g.get? b = none) : Fo C σ x l us h' :=
  ⟨F.fs.step st n, F.off, F.kx, F.nl, let ⟨m, a, b⟩ := F.at_; ⟨m, st.ns a, b⟩, let ⟨vs, ⟨c, e⟩, b⟩ := F.own; ⟨vs, ⟨c, st.keep e fun vs q => nomatch q⟩, b⟩⟩
theorem ns_eq {h : Heap} {a : Addr} {m m' : Str → Option Value} (x : h.Ns a m) (y : h.Ns a m') : m = m' := by
  obtain ⟨o, es, ep, e, d, _, f⟩ := x
  obtain ⟨o', es', ep', e', d', _, f'⟩ := y
  rw [e] at e'; cases e'; rw [d] at d'; cases d'
  funext z; rw [← f, ← f']
theorem Fo.both {x : Str} {l : Addr} {us : List Int} {h : Heap} (F : Fo C σ x l us h) : ∃ m, h.Ns C.env.locals m ∧ m x = some (.ref l) ∧ ∀ x p, σ.lookup x = some p → VarAt (C.ext l).X C.env m h x p :=
  let ⟨m, a, b⟩ := F.at_
  let ⟨_, a', b'⟩ := F.fs.vars
  ⟨m, a, b, ns_eq a' a ▸ b'⟩

/-- the list becomes a value -/
theorem Fo.done {x : Str} {l : Addr} {us : List Int} {h : Heap} (F : Fo C σ x l us h) : Fs C ((x, .list (pis us)) :: σ) h := by
  obtain ⟨m, hn, hx, hv⟩ := F.both
  obtain ⟨vs, hl, hi⟩ := F.own
  refine ⟨fun a q => F.fs.xs a (.inl q), F.fs.prot, F.fs.frames, ⟨m, hn, fun y p e => ?_⟩, F.fs.cells⟩
  rw [List.lookup_cons] at e
  by_cases hy : y = x
  · subst hy
    simp only [beq_self_eq_true, Option.some.injEq] at e
    subst e
    exact .inl ⟨F.kx, _, hx, .list hl.isList F.nl (Reps.of_ints hi)⟩
  · rw [show (y == x) = false by simpa using hy] at e
    have g : ∀ a, C.X a → (C.ext l).X a ∨ h.get? a = none := fun a q => .inl (.inl q)
    rcases hv y p e with ⟨a, v, b, c⟩ | ⟨a, c, v, e', f, c'⟩
    · exact .inl ⟨a, v, b, c.grow g⟩
    · exact .inr ⟨a, c, v, e', f, c'.grow g⟩

def ExOK (C : Cx) (x : Str) (σ : Sto) (us : List Int) (m : Sem Flow) (k : Sto → List Int → Prop) : Prop :=
  ∀ (l : Addr) (s : Shared) (Q : Flow → Shared → Prop) (E : Value → Shared → Prop), Fo C σ x l us s.heap → (∀ σ' us' h' tk, k σ' us' → Fo C σ' x l us' h' → Q .next { s with heap := h', toks := tk }) → wpAny C.M C.A m Q E s

theorem o_put (O : Ok C) {x y : Str} {l : Addr} {us : List Int} {p : PV} (hy : C.env.kindOf y = some .local) (hyx : y ≠ x) {s : Shared} {v : Value} {Q : Unit → Shared → Prop} {E : Value → Shared → Prop} (F : Fo C σ x l us s.heap) (r : Rep (C.ext l).X s.heap v p)
    (h : ∀ h' tk, Fo C ((y, p) :: σ) x l us h' → Q () { s with heap := h', toks := tk }) : wpAny C.M C.A (storeName C.env y v) Q E s := by
  obtain ⟨m, hn, hx, hv⟩ := F.both
  obtain ⟨vs, hl, hi⟩ := F.own
  exact wpAny_storeName_local hy hn (fun h' hn' hs => h h' _ ⟨F.fs.store (O.ext l) hy m hn hv hn' hs r, F.off, F.kx, F.nl, ⟨_, hn', by simp [Ne.symm hyx, hx]⟩, vs, plain_but hs (plain_ne_ns hl hn) hl, hi⟩) (by rw [O.kind]; rfl)

theorem augI_ok {op : Operator} {a b : Int} {k : Int → Prop} (h : augI op a b k) : ∃ z, k z ∧ ∀ (s : Shared) (Q : Value → Shared → Prop) (E : Value → Shared → Prop) (t u : Tok), (∀ t' tk, Q (.int z t') { s with toks := tk }) → wpAny C.M C.A (inplaceOp op (.int a t) (.int b u)) Q E s := by
  cases op <;> first | exact h.elim | skip
  · exact ⟨_, h, fun _ _ _ _ _ q => iadd_int (q _ _)⟩
  · exact ⟨_, h, fun _ _ _ _ _ q => PyProof.Rows.isub_int (q _ _)⟩
  · exact ⟨_, h.2, fun _ _ _ _ _ q => PyProof.Rows.irshift_int h.1 (q _ _)⟩
  · exact ⟨_, h, fun _ _ _ _ _ q => PyProof.Rows.ior_int (q _ _)⟩

theorem Sound.aug (S : Sound w d rec) (hw : C.w = w) (hd : d ≤ C.d) (O : Ok C) {y : Str} {op : Operator} {e : Expr} {k : Int → Prop} (h : augP rec C.env.scope σ y op e k) : ∃ a b z, σ.lookup y = some (.int a) ∧ Ev C true σ e (.ret (.int b)) ∧ k z ∧
    ∀ (s : Shared) (Q : Value → Shared → Prop) (E : Value → Shared → Prop) (t u : Tok), (∀ t' tk, Q (.int z t') { s with toks := tk }) → wpAny C.M C.A (inplaceOp op (.int a t) (.int b u)) Q E s := by
  unfold augP at h
  cases hp : σ.lookup y with
  | none => rw [hp] at h; exact h.elim
  | some p =>
    rw [hp] at h
    obtain ⟨a, rfl, h⟩ := onInt_inv h
    obtain ⟨q, h, he⟩ := S.ev1 hw hd O h
    obtain ⟨b, rfl, h⟩ := onInt_inv h
    obtain ⟨z, hz, hr⟩ := augI_ok (C := C) h
    exact ⟨a, b, z, rfl, he, hz, hr⟩

theorem append_rule {x : Str} {e : Expr} {p1 p2 p3 : Pos} {A : Around} {M : Model} {env : Env} {s : Shared} {Q : Value → Shared → Prop} {E : Value → Shared → Prop} (hp : p2.endLine = p3.line) (hs : starEach [e] env = [(false, eval e env)])
    (h : ∀ pl, wpAny M A (eval (.Name x p1) env) (fun ov s₁ => wpAny M A (getMethod ov "append" pl) (fun fx s₂ => wpAny M A (callWith p3 fx.1 fx.2 (backTo p3 (starEach [e] env)) []) Q E s₂) E s₁) E s) : wpAny M A (eval (.Call (.Attribute (.Name x p1) "append" p2) [e] [] p3) env) Q E s := by
  refine MethodCall_ (pl := do return (← importBound (.Name x p1) env).getD true) (h _) ?_
  have e1 : methodCallForm ([e].length + ([] : List (Option Str × Expr)).length) (backTo p3 (starEach [e] env)) (backToKw p3 (keywordEach [] env)) = true := by rw [hs]; rfl
  have e2 : methodCallPos true (.Name x p1) env p2 p3 = pure p3 := by unfold methodCallPos; rw [if_pos (by simp [hp])]
  show (do
      let ov ← eval (.Name x p1) env
      standAt p2.atName
      methodCall (.Name x p1) "append" p2 p3 env ov ([e].length + ([] : List (Option Str × Expr)).length) (backTo p3 (starEach [e] env)) (backToKw p3 (keywordEach [] env))) = _
  unfold methodCall
  rw [e1, e2]
  rfl

theorem IntsAre.snoc' {vs : List Value} {ns : List Int} (x : IntsAre vs ns) (i : Int) (t : Tok) : IntsAre (vs ++ [.int i t]) (ns ++ [i]) := by
  induction x with
  | nil => exact .cons i t .nil
  | cons n u _ ih => exact .cons n u ih

theorem o_append (O : Ok C) {x : Str} {us : List Int} {e : Expr} {p1 p2 p3 pos : Pos} {k : Sto → List Int → Prop} (h : ∀ l, ∃ p, Ev (C.ext l) true σ e (.ret p) ∧ ∃ i, p = .int i ∧ us.length ≤ 1000 ∧ k σ (us ++ [i])) (hxd : (x == ("__debug__" : Str)) = false) (hp : p2.endLine = p3.line)
    (hs : starEach [e] C.env = [(false, eval e C.env)]) : ExOK C x σ us (exec (.Expr (.Call (.Attribute (.Name x p1) "append" p2) [e] [] p3) pos) C.env) k := fun l s Q E F P => by
  obtain ⟨p, he, i, rfl, hz, hk⟩ := h l
  refine wpAny_Expr (append_rule hp hs fun pl => ?_) (by unfold interactive; rw [O.kind]; rfl) rfl
  obtain ⟨m, hn, hx, _⟩ := F.both
  refine wpAny_Name (wpAny_loadName_local O.kind F.kx hn hx ?_) hxd
  obtain ⟨vs, ⟨c, hl⟩, hin⟩ := id F.own
  refine Calls.getMethod_list_append hl rfl rfl ?_
  refine PyProof.Rows.callWith_method1 (spliced_more (he s _ E F.fs fun v h₁ tk₁ s₁ e₁ r₁ => spliced_none ?_) hs) hs
  cases r₁ with
  | int _ t =>
    have F₁ := F.stays s₁
    refine wpAny_list_append_plain (items := vs.toArray) (hsz := by rw [List.size_toArray, hin.length, sizeLine_eq]; lia) ⟨c, s₁ _ _ hl⟩ fun h' hpl hs' => P _ _ h' tk₁ hk ?_
    have hn₁ := hn.keeps s₁
    have hlL : C.env.locals ≠ l := (plain_ne_ns ⟨c, s₁ _ _ hl⟩ hn₁).symm
    obtain ⟨c', hl'⟩ := id hpl
    have sk : SeqKeep (C.ext l).X h₁ h' := SeqKeep.of_but hs' fun o xs n e d => ⟨.inr rfl, by rw [s₁ _ _ hl] at e; cases e; rfl⟩
    obtain ⟨m₁, hn₁', hv⟩ := F₁.fs.vars
    refine ⟨⟨fun a q => ?_, fun b o e => hs'.extBut b o (fun q => ?_) (F₁.fs.prot b o e), funFrames_but hs' (fun o e vs d => ?_) (fun _ => by rw [hl']; rfl) F₁.fs.frames, ⟨m₁, hn₁'.sameBut hs' hlL, fun y p e => ?_⟩, fun y cc e => ?_⟩, F.off, F.kx, F.nl, ⟨m, hn₁.sameBut hs' hlL, hx⟩, vs ++ [.int i t], ?_, IntsAre.snoc' hin i t⟩
    · by_cases ql : a = l
      · subst ql; exact ⟨_, _, _, hl', rfl⟩
      · obtain ⟨o, its, n, e, d⟩ := F₁.fs.xs a q
        exact ⟨o, its, n, (hs'.2 a ql).trans e, d⟩
    · have := F.off; rw [← q] at this; exact absurd (this.symm.trans e) (by intro q; cases q)
    · rw [hl'] at e; cases e; cases d
    · have cne : ∀ {cc v}, h₁.IsCell cc v → cc ≠ l := fun z q => by
        obtain ⟨oc, e1, d1⟩ := z
        rw [q, s₁ _ _ hl] at e1; cases e1; cases d1
      rcases hv y p e with ⟨a, v, b, r⟩ | ⟨a, cc, v, e', f, r⟩
      · exact .inl ⟨a, v, b, r.mono sk⟩
      · exact .inr ⟨a, cc, v, e', isCell_but hs' (cne f) f, r.mono sk⟩
    · obtain ⟨v, z⟩ := F₁.fs.cells y cc e
      refine ⟨v, isCell_but hs' (fun q => ?_) z⟩
      obtain ⟨oc, e1, d1⟩ := z
      rw [q, s₁ _ _ hl] at e1; cases e1; cases d1
    · have e : vs.toArray.push (.int i t) = (vs ++ [Value.int i t]).toArray := by simp
      rw [← e]; exact hpl
end Mine

end
section
open PySem PySem.Calls PySem.W PyProof.Rows
set_option Elab.async false
set_option linter.unusedVariables false
namespace Mine
variable {w : World} {d : Nat} {rec : Rec} {C : Cx} {σ : Sto}

theorem Fo.bnone {x : Str} {l a : Addr} {us : List Int} {h : Heap} (F : Fo C σ x l us h) (O : Ok C) (hm : a ∈ [C.env.locals, l]) : C.b.get? a = none := by
  have : C.g.get? a = none := by
    rcases List.mem_cons.mp hm with rfl | hm
    · exact O.off
    · rw [List.mem_singleton.mp hm]; exact F.off
  cases q : C.b.get? a with
  | none => rfl
  | some o => have := O.bg _ _ q; simp_all
/-- what a turn may change: the frame's dict and its own list -/
theorem Fo.under (O : Ok C) (hcl : C.env.cells = []) {x : Str} {l : Addr} {us : List Int} {h : Heap} (F : Fo C σ x l us h) : Ok (C.at (hideAll h [C.env.locals, l])) ∧ Fo (C.at (hideAll h [C.env.locals, l])) σ x l us h := by
  have ml : ∀ {a}, a ∈ [C.env.locals, l] → C.g.get? a = none := fun {a} hm => by
    rcases List.mem_cons.mp hm with rfl | hm
    · exact O.off
    · rw [List.mem_singleton.mp hm]; exact F.off
  obtain ⟨m, hn, hx, hv⟩ := F.both
  refine ⟨ok_at O (fun b o e => F.fs.prot b o (O.bg b o e)) (fun a hm => ?_) (.head _) fun oc y c e => ?_, ⟨⟨F.fs.xs, fun b o e => of_hideAll _ e, frames_at O (.head _) F.fs.frames, ⟨m, hn, hv⟩, F.fs.cells⟩, hideAll_none _ (.tail _ (.head _)), F.kx, F.nl, F.at_, F.own⟩⟩
  · cases q : C.b.get? a with
    | none => rfl
    | some o => have := O.bg _ _ q; rw [ml hm] at this; cases this
  · rw [hcl] at e; cases e
theorem Fo.over {x : Str} {l : Addr} {us us' : List Int} {σ' : Sto} {h h' : Heap} (O : Ok C) (F : Fo C σ x l us h) (F' : Fo (C.at (hideAll h [C.env.locals, l])) σ' x l us' h') : Fo C σ' x l us' h' ∧ SeqKeep (C.ext l).X h h' ∧ ∀ b o, b ≠ C.env.locals → b ≠ l → h.get? b = some o → h'.get? b = some o := by
  have up : ∀ b o, b ≠ C.env.locals → b ≠ l → h.get? b = some o → h'.get? b = some o := fun b o n1 n2 e => F'.fs.prot b o (hideAll_get _ e fun hm => by
    rcases List.mem_cons.mp hm with q | hm
    · exact n1 q
    · exact n2 (List.mem_singleton.mp hm))
  obtain ⟨m, ⟨oL, es, ep, eL, dL, _⟩, _⟩ := F.at_
  obtain ⟨vs, ⟨c, el⟩, _⟩ := F.own
  refine ⟨⟨⟨F'.fs.xs, fun b o e => up b o (fun q => ?_) (fun q => ?_) (F.fs.prot b o e), funFrames_base (at_le (fun b o e => F.fs.prot b o (O.bg b o e)) fun a hm => F.bnone O hm).2 F'.fs.frames, F'.fs.vars, F'.fs.cells⟩, F.off, F.kx, F.nl, F'.at_, F'.own⟩, fun b o xs n nx e d => ⟨o, up b o (fun q => ?_) (fun q => ?_) e, rfl, rfl⟩, up⟩
  · have := O.off; rw [← q, e] at this; cases this
  · have := F.off; rw [← q, e] at this; cases this
  · rw [q, eL] at e; cases e; rw [dL] at d; cases d
  · subst q; rw [el] at e; cases e; exact nx (.inr rfl) rfl

theorem o_for (O : Ok C) (hcl : C.env.cells = []) {x y : Str} {us : List Int} {iter : Expr} {body : List Stmt} {p1 pos : Pos} {k : Sto → List Int → Prop} (hk : C.env.kindOf y = some .local) (hyx : y ≠ x)
    (h : ∀ l, ∃ items, (∃ (S : Nat → Sto) (U : Nat → List Int), Sub σ (S 0) ∧ U 0 = us ∧ (∀ g, Ok (C.at g) → ∀ i a, items[i]? = some a → ExOK (C.at g) x ((y, a) :: S i) (U i) (execs body C.env) fun σ' us' => Sub σ' (S (i + 1)) ∧ us' = U (i + 1)) ∧ k (S items.length) (U items.length)) ∧ Itr (C.ext l) σ (.Name y p1) iter items)
    (hf : ∀ v, foldedSetIterable iter C.env v = pure v) : ExOK C x σ us (exec (.For (.Name y p1) iter body [] pos) C.env) k := fun l s Q E F P => by
  obtain ⟨items, ⟨S, U, h0, rfl, body_, hkk⟩, hit⟩ := h l
  refine wpAny_For (hit s _ E F.fs fun h₀ I fp wr Pp Md St h' tk s₀ s' Sr st => ?_) hf
  have F0 := F.stays (stays_trans s₀ s')
  have wn : ∀ b ∈ wr, C.g.get? b = none := fun b hb => by
    cases q : C.g.get? b with
    | none => rfl
    | some o => have := s₀ _ _ (F.fs.prot _ _ q); rw [Sr.fresh b hb] at this; cases this
  obtain ⟨m, ⟨oL, es, ep, eL, dL, _⟩, _⟩ := F.at_
  obtain ⟨vs, ⟨c, el⟩, _⟩ := F.own
  have fpL : ∀ b ∈ fp, b ≠ C.env.locals := fun b hb q => by
    have e0 := s₀ _ _ eL
    rcases Sr.seqs b hb with hw | ⟨o', xs, n, ho, hd', _⟩
    · have := Sr.fresh b hw; rw [q, e0] at this; cases this
    · rw [q, e0] at ho; cases ho; rw [dL] at hd'; cases hd'
  have fpl : ∀ b ∈ fp, b ≠ l := fun b hb q => by
    have e0 := s₀ _ _ el
    rcases Sr.seqs b hb with hw | ⟨o', xs, n, ho, hd', hc⟩
    · have := Sr.fresh b hw; rw [q, e0] at this; cases this
    · subst q; rw [e0] at ho; cases ho; exact hc (.inr rfl) rfl
  refine for_core (C := C.ext l) Sr (fun i h => Fo C (S i) x l (U i) h) st (SeqKeep.of_stays s') (F0.weaken h0) (fun i h h' Fj step => Fj.step step wn) (fun i v p h tk hp Fj rv sk hSt => ?_) (fun h tk Fj _ => P _ _ h tk hkk Fj)
  obtain ⟨Og, Fg⟩ := Fj.under O hcl
  refine PyProof.Rows.assign_Name (o_put (C := C.at _) Og hk hyx Fg rv fun h₂ tk₂ F₂ => ?_)
  refine body_ _ Og i p hp l _ _ _ F₂ fun σ' us' h₃ tk₃ ⟨hs, hu⟩ F₃ => ?_
  obtain ⟨F₃', sk₃, up⟩ := Fj.over O F₃
  subst hu
  exact ⟨h₃, tk₃, rfl, F₃'.weaken hs, sk.trans sk₃, Sr.W.frame _ _ _ hSt fun b hb o e => up b o (fpL b hb) (fpl b hb) e⟩

theorem o_while (O : Ok C) {x : Str} {us : List Int} {test : Expr} {body : List Stmt} {pos : Pos} {k : Sto → List Int → Prop} (N : Nat) (S : Nat → Sto) (U : Nat → List Int)
    (h0 : Sub σ (S 0)) (hu : U 0 = us) (ht : ∀ l i, i ≤ N → Tst (C.ext l) true (S i) test (decide (i < N)))
    (body_ : ∀ i, i < N → ExOK C x (S i) (U i) (execs body C.env) fun σ' us' => Sub σ' (S (i + 1)) ∧ us' = U (i + 1)) (hk : k (S N) (U N)) : ExOK C x σ us (exec (.While test body [] pos) C.env) k := fun l s Q E F P => by
  subst hu
  refine wpAny_While ?_
  refine codeAny_whileLoop (fun kk s' => ∃ h tk i, s' = { s with heap := h, toks := tk } ∧ Fo C (S i) x l (U i) h ∧ i ≤ N ∧ kk = N - i) ?_ N ⟨s.heap, s.toks, 0, rfl, F.weaken h0, Nat.zero_le _, rfl⟩
  rintro kk s' ⟨h, tk, i, rfl, Fi, hi, rfl⟩
  refine ht l i hi _ _ _ Fi.fs fun h' tk' st _ => ?_
  have Fi' := Fi.stays st
  by_cases c : i < N
  · simp only [c, decide_true, if_true]
    refine body_ i c l _ _ _ Fi' fun σ' us' h₂ tk₂ ⟨hs, hu⟩ F₂ => ?_
    subst hu
    exact ⟨N - (i + 1), by lia, h₂, tk₂, i + 1, rfl, F₂.weaken hs, c, rfl⟩
  · simp only [c, decide_false, Bool.false_eq_true, if_false]
    have : i = N := by lia
    subst this
    exact wpAny_execs_nil (P _ _ _ _ hk Fi')

theorem isLoc_ne {sc : Scope} {x y : Str} (h : (isLoc sc y && !(y == x)) = true) : sc.names.lookup y = some .local ∧ y ≠ x := by
  simp only [Bool.and_eq_true, Bool.not_eq_true', beq_eq_false_iff_ne] at h
  exact ⟨of_decide_eq_true h.1, h.2⟩

theorem wo1_sound {x : Str} {n : Nat} (hw : C.w = w) (hd : d ≤ C.d) (O : Ok C) (hcl : C.env.cells = []) {wo : List Stmt → Sto → List Int → (Sto → List Int → Prop) → Prop}
    (hwo : ∀ g, Ok (C.at g) → ∀ {sts : List Stmt} {σ : Sto} {us : List Int} {k : Sto → List Int → Prop}, wo sts σ us k → ExOK (C.at g) x σ us (execs sts C.env) k)
    (hwo' : ∀ {sts : List Stmt} {σ : Sto} {us : List Int} {k : Sto → List Int → Prop}, wo sts σ us k → ExOK C x σ us (execs sts C.env) k) {us : List Int} {k : Sto → List Int → Prop} {st : Stmt}
    (h : wo1 (W w d n) C.env.scope x wo σ us k st) : ExOK C x σ us (exec st C.env) k := by
  have S := W_sound (w := w) (d := d) n
  cases st <;> try exact h.elim
  case Assign ts e pos =>
    obtain ⟨t, e1, g⟩ := one_inv h
    clear h; subst e1
    cases t <;> try exact g.elim
    case Name y p1 =>
      obtain ⟨hb, f⟩ := cond_inv g
      rw [Bool.and_eq_true, Bool.not_eq_true'] at hb
      obtain ⟨hy, hyx⟩ := isLoc_ne hb.1
      intro l s Q E F P
      obtain ⟨p, hk, he⟩ := S.ev1 (C := C.ext l) hw hd (O.ext l) f
      exact wpAny_Assign_Name (he s _ E F.fs fun v h₁ tk₁ s₁ e₁ r₁ => o_put O hy hyx (F.stays s₁) r₁ fun h' tk F' => P _ _ h' tk hk F') (notComp_swaps hb.2 _ _ _)
  case AugAssign t op e pos =>
    cases t <;> try exact h.elim
    case Name y p1 =>
      obtain ⟨hb, f⟩ := cond_inv h
      obtain ⟨hy, hyx⟩ := isLoc_ne hb
      intro l s Q E F P
      obtain ⟨a, b, z, ha, he, hk, hz⟩ := S.aug (C := C.ext l) hw hd (O.ext l) f
      refine wpAny_AugAssign_Name ?_
      obtain ⟨m, hn, hx, hv⟩ := F.both
      rcases hv y _ ha with ⟨_, v, hm, rv⟩ | ⟨hk', _⟩
      · cases rv with
        | int _ t =>
          refine wpAny_loadName_local O.kind hy hn hm (he s _ E F.fs fun v h₁ tk₁ s₁ e₁ r₁ => ?_)
          cases r₁ with
          | int _ u => exact hz _ _ _ _ _ fun t' tk => o_put O hy hyx (F.stays s₁) (.int z t') fun h' tk' F' => P _ _ h' tk' hk F'
      · rw [show C.env.kindOf y = some .local from hy] at hk'; cases hk'
  case Expr e pos =>
    cases e <;> try exact h.elim
    case Call f args kws p3 =>
      cases f <;> try exact h.elim
      case Attribute v a p2 =>
        cases v <;> try exact h.elim
        case Name y p1 =>
          obtain ⟨hb, f⟩ := cond_inv h
          simp only [Bool.and_eq_true, Bool.not_eq_true', beq_iff_eq, List.isEmpty_iff] at hb
          obtain ⟨⟨⟨⟨e1, hdb⟩, e2⟩, e3⟩, hp⟩ := hb
          subst e1 e2 e3
          obtain ⟨e, e1, f'⟩ := one_inv f
          subst e1
          obtain ⟨hpl, f'⟩ := cond_inv f'
          exact o_append O (fun l => by
            obtain ⟨p, hk, he⟩ := S.ev1 (C := C.ext l) hw hd (O.ext l) f'
            obtain ⟨i, e, hk⟩ := onInt_inv hk
            exact ⟨p, he, i, e, hk⟩) hdb hp (star_plain hpl _ _)
  case If t body orelse pos =>
    intro l s Q E F P
    obtain ⟨b, g, hb⟩ := S.tst (C := C.ext l) hw hd (O.ext l) h
    refine wpAny_If (hb s _ E F.fs fun h₁ tk₁ s₁ e₁ => ?_)
    cases b with
    | true => simp only [if_true]; exact hwo' (g.1 rfl) l _ _ E (F.stays s₁) P
    | false => simp only [Bool.false_eq_true, if_false]; exact hwo' (g.2 rfl) l _ _ E (F.stays s₁) P
  case For t iter body orelse pos =>
    cases t <;> try exact h.elim
    case Name y p1 =>
      obtain ⟨hb, f⟩ := cond_inv h
      rw [Bool.and_eq_true, Bool.and_eq_true, List.isEmpty_iff] at hb
      obtain ⟨⟨hy, hset⟩, e⟩ := hb
      subst e
      obtain ⟨hy, hyx⟩ := isLoc_ne hy
      refine o_for O hcl hy hyx (fun l => ?_) fun v => by cases iter <;> first | rfl | cases hset
      obtain ⟨items, ⟨S', U, h0, hu, hb, hk⟩, hit⟩ := iter_sound (C := C.ext l) S hw hd (O.ext l) f
      exact ⟨items, ⟨S', U, h0, hu, fun g Og i a hi => hwo g Og (hb i a hi), hk⟩, hit⟩
  case While t body orelse pos =>
    obtain ⟨e, N, S', U, h0, hu, ht, hb, hk⟩ := cond_inv h
    obtain rfl := List.isEmpty_iff.mp e
    refine o_while O N S' U h0 hu (fun l i hi => ?_) (fun i hi => hwo' (hb i hi)) hk
    obtain ⟨o, e, b, e', ht⟩ := S (C.ext l) hw hd (O.ext l) true t (S' i) _ (ht i hi)
    rw [e] at e'
    cases e'
    exact ht

theorem WO_app {x : Str} {n : Nat} : ∀ (m : Nat) {C : Cx}, C.w = w → d ≤ C.d → Ok C → C.env.cells = [] → ∀ {sts : List Stmt} {σ : Sto} {us : List Int} {k : Sto → List Int → Prop}, WO (W w d n) C.env.scope x m sts σ us k →
    ∀ (tail : List Stmt) (l : Addr) (s : Shared) (Q : Flow → Shared → Prop) (E : Value → Shared → Prop), Fo C σ x l us s.heap → (∀ σ' us' h' tk, k σ' us' → Fo C σ' x l us' h' → wpAny C.M C.A (execs tail C.env) Q E { s with heap := h', toks := tk }) → wpAny C.M C.A (execs (sts ++ tail) C.env) Q E s
  | 0, C, _, _, _, _, _, _, _, _, h => h.elim
  | m + 1, C, hw, hd, O, hcl, sts, σ, us, k, h => by
    cases sts with
    | nil => exact fun tail l s Q E F P => P _ _ s.heap s.toks h F
    | cons st rest =>
      have h' : wo1 (W w d n) C.env.scope x (WO (W w d n) C.env.scope x m) σ us (fun σ' us' => WO (W w d n) C.env.scope x m rest σ' us' k) st := h
      have h1 := wo1_sound hw hd O hcl (fun g Og {sts σ us k} h => fun l s Q E F P => by
        have := WO_app m (C := C.at g) hw hd Og hcl h [] l s Q E F fun σ' us' h' tk hk F' => wpAny_execs_nil (P σ' us' h' tk hk F')
        rwa [List.append_nil] at this) (fun {sts σ us k} h => fun l s Q E F P => by
        have := WO_app m hw hd O hcl h [] l s Q E F fun σ' us' h' tk hk F' => wpAny_execs_nil (P σ' us' h' tk hk F')
        rwa [List.append_nil] at this) h'
      exact fun tail l s Q E F P => wpAny_execs_cons (h1 l s _ E F fun σ' us' h₁ tk₁ hk F₁ => WO_app m hw hd O hcl hk tail l _ _ E F₁ P)
end Mine

end
section
open PySem PySem.Calls PySem.W PyProof.Rows
set_option Elab.async false
set_option linter.unusedVariables false
namespace Mine
variable {w : World} {d : Nat} {rec : Rec} {C : Cx} {σ : Sto} {K : FO → Prop}

theorem PostS.to {s : Shared} {Q : Flow → Shared → Prop} {E : Value → Shared → Prop} {fo : FO} {h : Heap} {tk : Nat} (P : PostS C s Q E fo) : PostS C { s with heap := h, toks := tk } Q E fo := by cases fo <;> exact P

theorem isDisp_inv {e : Expr} {es : List Expr} (h : isDisp e = some es) : ∃ p, e = .List es p := by
  unfold isDisp at h
  split at h
  · cases h; exact ⟨_, rfl⟩
  · cases h
theorem isTup_inv {e : Expr} {es : List Expr} (h : isTup e = some es) : ∃ n p, e = .Tuple es n p := by
  unfold isTup at h
  split at h
  · cases h; exact ⟨_, _, rfl⟩
  · cases h
theorem cInt0_inv {e : Expr} {i : Int} (h : cInt0 e = some i) : ∃ n p, e = .Constant (.int i) n p := by
  unfold cInt0 at h
  split at h
  · split at h
    · cases h; exact ⟨_, _, rfl⟩
    · cases h
  · cases h
theorem isZeros_inv {e r : Expr} {z : Int} (h : isZeros e = some (z, r)) : ∃ n m p1 p, e = .BinOp (.List [.Constant (.int z) n m] p1) .Mult r p := by
  unfold isZeros at h
  split at h
  · split at h
    · split at h
      · split at h
        · cases h
        · split at h
          · obtain ⟨z', hz, e⟩ := Option.map_eq_some_iff.mp h
            obtain ⟨n, m, rfl⟩ := cInt0_inv hz
            cases e
            exact ⟨_, _, _, _, rfl⟩
          · cases h
      · cases h
    · cases h
  · cases h

theorem new_sound (S : Sound w d rec) (hw : C.w = w) (hd : d ≤ C.d) (O : Ok C) {e : Expr} {k : List Int → Prop} (h : newW rec C.env.scope e σ k) : ∃ us, k us ∧ New C σ e us ∧ isComp e = false ∧ plainArg e = true := by
  unfold newW at h
  split at h
  · rename_i es hes
    obtain ⟨p, rfl⟩ := isDisp_inv hes
    obtain ⟨hp, h⟩ := cond_inv h
    obtain ⟨ol, h, hl, _⟩ := allW_sound S hw hd O hp h
    cases ol with
    | exc c => exact h.elim
    | ret ps =>
      obtain ⟨us, rfl, hz, h⟩ := h
      refine ⟨us, h, fun s Q E F P => List_ (hl p s _ E F fun vs h₁ tk₁ s₁ e₁ r₁ => ?_), rfl, rfl⟩
      have hi := r₁.toInts
      refine wpAny_newList (P _ _ _ (stays_trans s₁ (push_stays _ _)) ?_ ⟨vs, ⟨_, Heap.get?_push_size _ rfl⟩, hi⟩) (by rw [hi.length, sizeLine_eq]; lia)
      cases q : s.heap.get? _ with
      | none => rfl
      | some o => have := s₁ _ _ q; rw [Heap.get?_none_of_le (Nat.le_refl _)] at this; cases this
  · split at h
    · rename_i z r hz
      obtain ⟨n, m, p1, p, rfl⟩ := isZeros_inv hz
      obtain ⟨q, h, he⟩ := S.ev1 hw hd O h
      obtain ⟨a, rfl, ⟨h0, h1⟩, h⟩ := onInt_inv h
      refine ⟨_, h, ?_, rfl, rfl⟩
      obtain ⟨b, rfl⟩ : ∃ b : Nat, a = (b : Int) := ⟨a.toNat, by lia⟩
      rw [Int.toNat_natCast]
      exact new_zeros he (by lia)
    · exact h.elim

/-- the list's first store -/
theorem Fs.own (O : Ok C) {x : Str} {l : Addr} {us : List Int} {h₀ h h' : Heap} {m : Str → Option Value} {σ₀ : Sto} (F₀ : Fs C σ₀ h₀) (hnew : h₀.get? l = none) (own : ∃ vs, h.PlainList l vs.toArray ∧ IntsAre vs us) (F : Fs (C.ext l) σ h) (hx : C.env.kindOf x = some .local) (hσ : σ.lookup x = none)
    (hn : h.Ns C.env.locals m) (hn' : h'.Ns C.env.locals (fun y => if y = x then some (.ref l) else m y)) (hs : Heap.SameBut C.env.locals h h') : Fo C σ x l us h' := by
  obtain ⟨vs, hl, hi⟩ := own
  obtain ⟨m', hn₂, hv⟩ := F.vars
  obtain rfl := ns_eq hn₂ hn
  refine ⟨F.stores (O.ext l) hx m' hn hv hn' hs fun y p e => .inr ⟨fun q => ?_, e⟩, ?_, hx, fun q => ?_, ⟨_, hn', if_pos rfl⟩, vs, plain_but hs (plain_ne_ns hl hn) hl, hi⟩
  · rw [q, hσ] at e; cases e
  · cases q : C.g.get? l with
    | none => rfl
    | some o => have := F₀.prot _ _ q; rw [hnew] at this; cases this
  · obtain ⟨o, _, _, e, _⟩ := F₀.xs l q
    rw [hnew] at e; cases e
theorem Fs.ext {l : Addr} {us : List Int} {h h' : Heap} (F : Fs C σ h) (hnew : h.get? l = none) (st : h.StaysIn h') (own : ∃ vs, h'.PlainList l vs.toArray ∧ IntsAre vs us) : Fs (C.ext l) σ h' := by
  obtain ⟨vs, ⟨c, hl⟩, _⟩ := own
  have g : ∀ a, (C.ext l).X a → C.X a ∨ h.get? a = none := fun a q => Or.imp id (fun (q : a = l) => by rw [q]; exact hnew) q
  have F' := F.stays st
  obtain ⟨m, hn, hv⟩ := F.vars
  refine ⟨fun a q => ?_, F'.prot, F'.frames, ⟨m, hn.keeps st, fun y p e => ?_⟩, F'.cells⟩
  · rcases q with q | rfl
    · exact F'.xs a q
    · exact ⟨_, _, _, hl, rfl⟩
  · rcases hv y p e with ⟨a, v, b, r⟩ | ⟨a, cc, v, e', f, r⟩
    · exact .inl ⟨a, v, b, (r.grow g).mono (SeqKeep.of_stays st)⟩
    · exact .inr ⟨a, cc, v, e', isCell_stays st f, (r.grow g).mono (SeqKeep.of_stays st)⟩

def ExK (C : Cx) (σ : Sto) (sts : List Stmt) (K : FO → Prop) : Prop := ∀ (s : Shared) (Q : Flow → Shared → Prop) (E : Value → Shared → Prop), Fs C σ s.heap → (∀ fo, K fo → PostS C s Q E fo) → wpAny C.M C.A (execs sts C.env) Q E s


theorem own_tail {x : Str} {n m m' : Nat} (hw : C.w = w) (hd : d ≤ C.d) (O : Ok C) (hcl : C.env.cells = []) {ws : List Stmt → Sto → Prop} (hws : ∀ {b : List Stmt} {σ : Sto}, ws b σ → ExK C σ b K) {rest : List Stmt} {us : List Int}
    (h : WO (W w d n) C.env.scope x m (rest.take m') σ us fun σ' us' => ws (rest.drop m') ((x, .list (pis us')) :: σ')) {l : Addr} {s : Shared} {Q : Flow → Shared → Prop} {E : Value → Shared → Prop} (F : Fo C σ x l us s.heap) (P : ∀ fo, K fo → PostS C s Q E fo) : wpAny C.M C.A (execs rest C.env) Q E s := by
  have := WO_app m hw hd O hcl h (rest.drop m') l s Q E F fun σ' us' h' tk hk F' => hws hk _ Q E F'.done fun fo hk => (P fo hk).to
  rwa [List.take_append_drop] at this

theorem lookup_putAll {x : Str} : ∀ {xs : List Str} {σ : Sto}, σ.lookup x = none → x ∉ xs → ∀ (ps : List PV), ∀ (_ : True), (putAll xs ps σ).lookup x = none
  | [], σ, h, _, ps, _ => by cases ps <;> exact h
  | y :: xs, σ, h, hx, [], _ => h
  | y :: xs, σ, h, hx, p :: ps, t => lookup_putAll (xs := xs) (by
      rw [List.lookup_cons, show (x == y) = false from beq_false_of_ne fun q => hx (by rw [q]; exact .head _)]; exact h) (fun q => hx (.tail _ q)) ps t
theorem own_sound {n m : Nat} (hw : C.w = w) (hd : d ≤ C.d) (O : Ok C) (hcl : noCells C.env.scope = true → C.env.cells = []) {ws : List Stmt → Sto → Prop} (hws : ∀ {b : List Stmt} {σ : Sto}, ws b σ → ExK C σ b K) {st : Stmt} {rest : List Stmt} (h : ownW (W w d n) C.env.scope m rest σ ws st) : ExK C σ (st :: rest) K := by
  obtain ⟨hnc, h⟩ := h
  have hcl := hcl hnc
  have S := W_sound (w := w) (d := d) n
  cases st <;> try exact h.elim
  case Assign ts e pos =>
    obtain ⟨t, e1, g⟩ := one_inv h
    clear h; subst e1
    cases t <;> try exact g.elim
    case Name x p1 =>
      obtain ⟨hb, f⟩ := cond_inv g
      rw [Bool.and_eq_true, Option.isNone_iff_eq_none] at hb
      have hx := of_decide_eq_true hb.1
      obtain ⟨us, ⟨m', hk⟩, hnew, hc, _⟩ := new_sound S hw hd O f
      intro s Q E F P
      refine wpAny_execs_cons (wpAny_Assign_Name (hnew s _ E F fun l h₁ tk₁ s₁ hn own => ?_) (notComp_swaps hc _ _ _))
      obtain ⟨mm, hns, _⟩ := F.vars
      exact wpAny_storeName_local hx (hns.keeps s₁) (fun h' hn' hs => own_tail hw hd O hcl hws hk (Fs.own O F hn own (F.ext hn s₁ own) hx hb.2 (hns.keeps s₁) hn' hs) fun fo hk => (P fo hk).to) (by rw [O.kind]; rfl)
    case Tuple es n1 p1 =>
      dsimp only [ownW] at g
      split at g
      · rename_i x xs hnm
        split at g
        · rename_i e0 es' ht
          obtain ⟨n2, p2, rfl⟩ := isTup_inv ht
          obtain ⟨hb, hsw, f⟩ := cond_inv g
          simp only [Bool.and_eq_true, List.all_cons, Option.isNone_iff_eq_none, Bool.not_eq_true'] at hb
          obtain ⟨⟨⟨⟨hx, hxs⟩, hσ⟩, hcx⟩, hp⟩ := hb
          have hx := of_decide_eq_true hx
          obtain ⟨us, hk, hnew, hc, hp0⟩ := new_sound S hw hd O f
          intro s Q E F P
          refine wpAny_execs_cons (Assign_Tuple_swapped ?_ rfl (hsw.at _ _))
          refine Tuple_ (spliced_more (hnew s _ E F fun l h₁ tk₁ s₁ hn own => ?_) (star_plain hp0 _ _))
          have Fl := F.ext hn s₁ own
          obtain ⟨ol, hk, hl, _⟩ := allW_sound (C := C.ext l) S hw hd (O.ext l) hp hk
          cases ol with
          | exc c => exact hk.elim
          | ret ps =>
            obtain ⟨is, rfl, hlen, hz, m', hk⟩ := hk
            refine hl p2 _ _ E Fl fun vs h₂ tk₂ s₂ e₂ r₂ => ?_
            have hi := r₂.toInts
            refine wpAny_newTuple ?_ (by rw [List.length_cons, hi.length, sizeLine_eq]; lia)
            rw [show (x :: xs).length = ((Value.ref l :: vs).toArray).size by simp [hlen, hi.length]]
            refine wpAny_unpackItems_tuple O.hh ⟨_, Heap.get?_push_size _ rfl, rfl, _, rfl⟩ fun h₃ he₃ => ?_
            have st3 := stays_trans (push_stays _ _) (extBut_stays he₃)
            have st := stays_trans s₂ st3
            have e2 : (Value.ref l :: vs).toArray.toList.reverse = vs.reverse ++ [Value.ref l] := by simp
            rw [List.reverse_cons, List.map_append, e2]
            refine x_stores_pre (C := C.ext l) (O.ext l) (setters_bind C.env xs.reverse) (ps := (pis is).reverse) (by simp [hlen]) (fun y hy => .loc (of_decide_eq_true (List.all_eq_true.mp hxs y (List.mem_reverse.mp hy)))) (Fl.stays st) (r₂.reverse.mono (SeqKeep.of_stays st3)) fun h₄ tk₄ sk₄ F₄ => ?_
            refine assignInOrder_cons (wpAny_bindName ?_)
            obtain ⟨mm, hns, _⟩ := F₄.vars
            refine wpAny_storeName_local hx hns (fun h' hn' hs => assignInOrder_nil (own_tail hw hd O hcl hws hk (Fs.own O F hn ?_ F₄ hx ?_ hns hn' hs) fun fo hk => (P fo hk).to)) (by rw [O.kind]; rfl)
            · obtain ⟨vs₀, ⟨c, hpl⟩, hu⟩ := own
              exact ⟨vs₀, ⟨c, sk₄ _ _ _ _ (st _ _ hpl) rfl⟩, hu⟩
            · exact lookup_putAll hσ (fun q => by rw [List.mem_reverse, ← List.contains_iff_mem, hcx] at q; cases q) _ trivial
        · exact g.elim
      · exact g.elim
end Mine

end
section
open PySem PySem.Calls PySem.W PyProof.Rows
set_option Elab.async false
set_option linter.unusedVariables false
namespace Mine
variable {w : World} {d : Nat} {rec : Rec} {C : Cx} {σ : Sto} {K : FO → Prop}

/-- the cells that a frame may store -/
def Cel (C : Cx) : Prop := C.oc = true ∧ (noCells C.env.scope = true → C.env.cells = [])
theorem may_of (O : Ok C) (H : Cel C) {x : Str} (h : mayP C.env.scope x = true) : May C x := by
  simp only [mayP, Bool.or_eq_true, decide_eq_true_eq] at h
  rcases h with h | h
  · exact .loc h
  · obtain ⟨c, b⟩ := O.clo x h
    exact .cell c H.1 h b

theorem swapped_none {e : Expr} (h : isTup e = none) (es : List Expr) (n : Nat) (p1 : Pos) (env : Env) : swappedStores [.Tuple es n p1] e env = pure none := by
  cases e <;> first | rfl | cases h

/-- x, y = a list, a tuple -/
theorem x_unpackI (O : Ok C) {es : List Expr} {xs : List Str} {e : Expr} {p : PV} {n : Nat} {p1 pos : Pos} {k : List PV → Prop} (he : namesOf es = some xs) (hk : ∀ x ∈ xs, May C x) (h : Ev C true σ e (.ret p)) (hi : onItems p k)
    (hs : swapsWithSole [.Tuple es n p1] e pos.line C.env = pure false) (hw : swappedStores [.Tuple es n p1] e C.env = pure none) : ∃ ps, k ps ∧ (xs.length = ps.length → Ex1 C σ (.Assign [.Tuple es n p1] e pos) (.next (putAll xs ps σ))) := by
  have key : ∀ {ps : List PV}, (∀ {h : Heap} {v : Value}, Rep C.X h v p → Rep C.X h v (.list ps)) → xs.length = ps.length → Ex1 C σ (.Assign [.Tuple es n p1] e pos) (.next (putAll xs ps σ)) := fun cv hl s Q E F P => by
    refine Assign_Tuple (h s _ E F fun v h₁ tk₁ s₁ e₁ r₁ => ?_) hs hw
    cases cv r₁ with
    | list ht nx hr =>
      rename_i a vs
      obtain ⟨h1, h2, h3⟩ := assignEach_names C.env he
      rw [assign_Tuple]
      refine wpAny_bind (wpAny_standAt ?_)
      unfold unpack
      have e3 : (assignEach es C.env).length = vs.toArray.size := by rw [h1, hl, List.size_toArray, hr.length]
      rw [e3, h2]
      refine wpAny_bind (wpAny_holding (kun_itemsOf O.hh ht fun h₂ he₂ => ?_))
      have st := extBut_stays he₂
      exact x_stores O h3 hl hk ((F.stays s₁).stays st) (by simpa using hr.mono (SeqKeep.of_stays st)) fun h' tk _ F' => P h' tk F'
  cases p <;> try exact hi.elim
  case list xs => exact ⟨_, hi, key fun r => r⟩
  case nat w n => exact ⟨_, hi, key fun r => r.unnat⟩
  case tup ps => exact ⟨_, hi, fun hl => x_unpack O he hl hk h hs hw⟩

theorem Sound.evS (S : Sound w d rec) (hw : C.w = w) (hd : d ≤ C.d) (O : Ok C) {e : Expr} {k : PV → Prop} {K : FO → Prop} (h : rec C.env.scope false e σ fun o => thenS o k K) :
    (∃ p, k p ∧ Ev C true σ e (.ret p)) ∨ ∃ c, K (.exc c) ∧ Ev C true σ e (.exc c) := by
  obtain ⟨o, h1, h2⟩ := S.ev hw hd O h
  cases o with
  | ret p => exact .inl ⟨p, h1, h2⟩
  | exc c => exact .inr ⟨c, h1, h2⟩

theorem funFrames_but' {b h h' h₀ : Heap} {D : Addr} (hs : Heap.SameBut D h h') (hD : h₀.get? D = none) : ∀ {l : List Env}, h₀.FunFrames b l → h.FunFrames b l → h'.FunFrames b l
  | [], _, _ => trivial
  | _ :: _, ⟨_, ⟨L, o, hf, _, ho, _⟩, r₀⟩, ⟨k, ⟨L', o', hf', hb', ho', hd'⟩, r⟩ => ⟨k, ⟨L', o', hf', hb', (hs.2 L' fun q => by
      rw [hf] at hf'
      cases hf'
      rw [q, hD] at ho; cases ho).trans ho', hd'⟩, funFrames_but' hs hD r₀ r⟩
theorem Fs.but {σ' : Sto} {h h' h₀ : Heap} {D : Addr} {m : Str → Option Value} (F₀ : Fs C σ' h₀) (F : Fs C σ h) (hs : Heap.SameBut D h h') (hD : h₀.get? D = none) (hn : h.Ns D m) : Fs C σ h' := by
  obtain ⟨m₁, hn₁, hv⟩ := F.vars
  obtain ⟨oD, es, ep, eD, dD, _⟩ := id hn
  have hL : C.env.locals ≠ D := fun q => by
    obtain ⟨m₀, ⟨o, _, _, e, _⟩, _⟩ := F₀.vars
    rw [q, hD] at e; cases e
  have nD : ∀ o xs n, h.get? D = some o → o.data ≠ .seq xs n := fun o xs n e d => by
    rw [eD] at e; cases e; rw [dD] at d; cases d
  have sk : SeqKeep C.X h h' := SeqKeep.of_but hs fun o xs n e d => absurd d (nD o xs n e)
  refine ⟨xs_but hs nD F.xs, fun b o e => hs.extBut b o (fun q => ?_) (F.prot b o e), funFrames_but' hs hD F₀.frames F.frames, ⟨m₁, hn₁.sameBut hs hL, fun y p e => ?_⟩, fun y c e => ?_⟩
  · have := F₀.prot b o e
    rw [q, hD] at this; cases this
  · rcases hv y p e with ⟨a, v, b, c⟩ | ⟨a, c, v, e', f, g⟩
    · exact .inl ⟨a, v, b, c.mono sk⟩
    · exact .inr ⟨a, c, v, e', isCell_but hs (cell_ne_ns f hn) f, g.mono sk⟩
  · obtain ⟨v, z⟩ := F.cells y c e
    exact ⟨v, isCell_but hs (cell_ne_ns z hn) z⟩

theorem cells_list (O : Ok C) (H : Cel C) : ∃ hc : List Addr, (∀ x c, C.env.cells.lookup x = some c → c ∈ hc) ∧ ∀ c ∈ hc, C.g.get? c = none ∧ ∃ x, C.env.cells.lookup x = some c :=
  ⟨(C.env.cells.filter fun q => decide (C.env.cells.lookup q.1 = some q.2)).map (·.2), fun x c h => List.mem_map.mpr ⟨(x, c), List.mem_filter.mpr ⟨lookup_mem h, decide_eq_true h⟩, rfl⟩, fun c h => by
    obtain ⟨⟨x, c'⟩, hm, rfl⟩ := List.mem_map.mp h
    have := of_decide_eq_true (List.mem_filter.mp hm).2
    exact ⟨(O.cel H.1 x c' this).1, x, this⟩⟩

/-! statements by what may come of them -/
def Ex1K (C : Cx) (σ : Sto) (st : Stmt) (K : FO → Prop) : Prop := ∀ (s : Shared) (Q : Flow → Shared → Prop) (E : Value → Shared → Prop), Fs C σ s.heap → (∀ fo, K fo → PostS C s Q E fo) → wpAny C.M C.A (exec st C.env) Q E s
theorem of_ex1 {st : Stmt} (h : ∃ fo, K fo ∧ Ex1 C σ st fo) : Ex1K C σ st K := fun s Q E F P => let ⟨_, hk, hx⟩ := h; hx s Q E F (P _ hk)
/-- what a turn may change: the frame's dict and its cells -/
theorem Fs.under {h : Heap} {hc : List Addr} (O : Ok C) (hc1 : ∀ x c, C.env.cells.lookup x = some c → c ∈ hc) (hc2 : ∀ c ∈ hc, C.g.get? c = none ∧ ∃ x, C.env.cells.lookup x = some c) (F : Fs C σ h) : Ok (C.at (hideAll h (C.env.locals :: hc))) ∧ Fs (C.at (hideAll h (C.env.locals :: hc))) σ h :=
  ⟨ok_at O (fun b o e => F.prot b o (O.bg b o e)) (fun a hm => (List.mem_cons.mp hm).elim (fun q => q ▸ O.bL) fun hm => O.bnone (hc2 a hm).1) (.head _) fun _ y c e => .tail _ (hc1 y c e), ⟨F.xs, fun b o e => of_hideAll _ e, frames_at O (.head _) F.frames, F.vars, F.cells⟩⟩
theorem Fs.noseq {h : Heap} {hc : List Addr} (hc2 : ∀ c ∈ hc, C.g.get? c = none ∧ ∃ x, C.env.cells.lookup x = some c) (F : Fs C σ h) : ∀ c ∈ C.env.locals :: hc, ∃ o, h.get? c = some o ∧ ∀ xs n, o.data ≠ .seq xs n := fun c hm => by
  rcases List.mem_cons.mp hm with rfl | hm
  · obtain ⟨o, es, ep, e, d⟩ := F.dict
    exact ⟨o, e, fun xs n q => by rw [d] at q; cases q⟩
  · obtain ⟨x, hx⟩ := (hc2 c hm).2
    obtain ⟨v, o, e, d⟩ := F.cells x c hx
    exact ⟨o, e, fun xs n q => by rw [d] at q; cases q⟩
theorem Fs.back (O : Ok C) {h h' : Heap} {hc : List Addr} (hc2 : ∀ c ∈ hc, C.g.get? c = none ∧ ∃ x, C.env.cells.lookup x = some c) (F : Fs C σ h) (f : h'.FunFrames (C.at (hideAll h (C.env.locals :: hc))).b (C.fenv :: C.outer)) : h'.FunFrames C.b (C.fenv :: C.outer) :=
  funFrames_base (at_le (fun b o e => F.prot b o (O.bg b o e)) fun a hm => (List.mem_cons.mp hm).elim (fun q => q ▸ O.bL) fun hm => O.bnone (hc2 a hm).1).2 f
theorem Fs.over {h h' : Heap} {hc : List Addr} {σ' : Sto} (O : Ok C) (hc2 : ∀ c ∈ hc, C.g.get? c = none ∧ ∃ x, C.env.cells.lookup x = some c) (F : Fs C σ h) (g : (C.at (hideAll h (C.env.locals :: hc))).g.StaysIn h') :
    C.g.StaysIn h' ∧ SeqKeep C.X h h' ∧ ∀ b o, b ∉ C.env.locals :: hc → h.get? b = some o → h'.get? b = some o := by
  have up : ∀ b o, b ∉ C.env.locals :: hc → h.get? b = some o → h'.get? b = some o := fun b o n e => g b o (hideAll_get _ e n)
  refine ⟨fun b o e => up b o (fun q => ?_) (F.prot b o e), fun b o xs n _ e d => ⟨o, up b o (fun q => ?_) e, rfl, rfl⟩, up⟩
  · rcases List.mem_cons.mp q with q | q
    · have := O.off; rw [← q, e] at this; cases this
    · rw [(hc2 b q).1] at e; cases e
  · obtain ⟨o', e', d'⟩ := F.noseq hc2 b q
    rw [e] at e'; cases e'; exact d' xs n d

theorem x_forK (O : Ok C) {hc : List Addr} (hc1 : ∀ x c, C.env.cells.lookup x = some c → c ∈ hc) (hc2 : ∀ c ∈ hc, C.g.get? c = none ∧ ∃ x, C.env.cells.lookup x = some c) {t : Str} {iter : Expr} {body : List Stmt} {p1 pos : Pos} {items : List PV} (S : Nat → Sto) (I : Nat → Prop) (hkt : May C t)
    (h0 : Sub σ (S 0)) (hI : I 0) (hit : Itr C σ (.Name t p1) iter items)
    (body_ : ∀ g, Ok (C.at g) → ∀ i a, items[i]? = some a → I i → ExK (C.at g) ((t, a) :: S i) body fun fo => match fo with | .next σ' => Sub σ' (S (i + 1)) ∧ I (i + 1) | .ret p => K (.ret p) | .exc _ => False)
    (hend : I items.length → K (.next (S items.length))) (hf : ∀ v, foldedSetIterable iter C.env v = pure v) : Ex1K C σ (.For (.Name t p1) iter body [] pos) K := fun s Q E F P => by
  refine wpAny_For (hit s _ E F fun h₀ I' fp wr Pp Md St h' tk s₀ s' Sr st => ?_) hf
  have wn : ∀ b ∈ wr, C.g.get? b = none := fun b hb => by
    cases q : C.g.get? b with
    | none => rfl
    | some o => have := s₀ _ _ (F.prot _ _ q); rw [Sr.fresh b hb] at this; cases this
  have fpX : ∀ b ∈ fp, b ∉ C.env.locals :: hc := fun b hb q => by
    obtain ⟨o, e, d⟩ := F.noseq hc2 b q
    have e0 := s₀ _ _ e
    rcases Sr.seqs b hb with hw | ⟨o', xs, n, ho, hd, _⟩
    · have := Sr.fresh b hw; rw [e0] at this; cases this
    · rw [e0] at ho; cases ho; exact d xs n hd
  refine for_core Sr (fun i h => Fs C (S i) h ∧ I i) st (SeqKeep.of_stays s') ⟨(F.stays (stays_trans s₀ s')).weaken h0, hI⟩ (fun i h h' Fj step => ⟨Fj.1.step step wn, Fj.2⟩) (fun i v p h tk hp Fj rv sk hSt => ?_) (fun h tk Fj _ => (P _ (hend Fj.2)) h tk Fj.1)
  obtain ⟨Og, Fg⟩ := Fj.1.under O hc1 hc2
  have hkt' : May (C.at (hideAll h (C.env.locals :: hc))) t := by
    cases hkt with
    | loc a => exact .loc a
    | cell c a b d => exact .cell c a b d
  refine PyProof.Rows.assign_Name (x_put (C := C.at _) Og hkt' Fg rv fun h₂ tk₂ _ F₂ => ?_)
  refine body_ _ Og i p hp Fj.2 _ _ _ F₂ fun fo hk => ?_
  cases fo with
  | exc c => exact hk.elim
  | next σ' =>
    intro h₃ tk₃ F₃
    obtain ⟨g₃, sk₃, up⟩ := Fs.over (σ' := σ') O hc2 Fj.1 F₃.prot
    exact ⟨h₃, tk₃, rfl, ⟨Fs.weaken (C := C) ⟨F₃.xs, g₃, Fj.1.back O hc2 F₃.frames, F₃.vars, F₃.cells⟩ hk.1, hk.2⟩, sk.trans sk₃, Sr.W.frame _ _ _ hSt fun b hb o e => up b o (fpX b hb) e⟩
  | ret p' =>
    intro v₂ h₃ tk₃ g₃ f₃ r₃
    exact P _ hk v₂ h₃ tk₃ (Fs.over (σ' := σ) O hc2 Fj.1 g₃).1 (Fj.1.back O hc2 f₃) r₃

theorem x_whileK (O : Ok C) {test : Expr} {body : List Stmt} {pos : Pos} (N : Nat) (S : Nat → Sto) (h0 : Sub σ (S 0)) (ht : ∀ i, i ≤ N → Tst C true (S i) test (decide (i < N)))
    (body_ : ∀ i, i < N → ExK C (S i) body fun fo => ∃ σ', fo = .next σ' ∧ Sub σ' (S (i + 1))) (hk : K (.next (S N))) : Ex1K C σ (.While test body [] pos) K := fun s Q E F P => by
  refine wpAny_While ?_
  refine codeAny_whileLoop (fun kk s' => ∃ h tk i, s' = { s with heap := h, toks := tk } ∧ Fs C (S i) h ∧ i ≤ N ∧ kk = N - i) ?_ N ⟨s.heap, s.toks, 0, rfl, F.weaken h0, Nat.zero_le _, rfl⟩
  rintro kk s' ⟨h, tk, i, rfl, Fi, hi, rfl⟩
  refine ht i hi _ _ _ Fi fun h' tk' st _ => ?_
  have Fi' := Fi.stays st
  by_cases c : i < N
  · simp only [c, decide_true, if_true]
    refine body_ i c _ _ _ Fi' fun fo ⟨σ', e, hs⟩ => ?_
    subst e
    exact fun h₂ tk₂ F₂ => ⟨N - (i + 1), by lia, h₂, tk₂, i + 1, rfl, F₂.weaken hs, c, rfl⟩
  · simp only [c, decide_false, Bool.false_eq_true, if_false]
    have : i = N := by lia
    subst this
    exact wpAny_execs_nil (P _ hk h' _ Fi')

/-- x = [.. for ..], the stores exchanged -/
theorem x_used (O : Ok C) {x : Str} {elt target iter : Expr} {ifs : List Expr} {scope : Scope} {cpos p1 pos : Pos} {o : Out} (hx : C.env.kindOf x = some .local) (hr : CompRuns C σ elt target iter ifs scope o)
    (hs : swapsWith (.ListComp elt [⟨target, iter, ifs, 0⟩] scope cpos) (some (.Name x p1)) pos.line C.env = pure true) : Ex1 C σ (.Assign [.Name x p1] (.ListComp elt [⟨target, iter, ifs, 0⟩] scope cpos) pos) (match o with | .ret p => .next ((x, p) :: σ) | .exc c => .exc c) := fun s Q E F P => by
  rw [exec_Assign_Name_used _ _ _ _ hs]
  refine wpAny_bind (wpAny_standAt (wpAny_bind ?_))
  show wpAny _ C.A (do let _ ← comprehension (.ListComp elt [⟨target, iter, ifs, 0⟩] scope cpos) scope C.env _ (newList []) false (eval iter C.env) (some (assign (.Name x p1) C.env))) _ _ s
  refine wpAny_bind (wpAny_mono (hr cpos _ (some (assign (.Name x p1) C.env)) s (fun _ s' => Q .next s') E F (fun accs e cenv acc h' tk m st hn hnone r => ?_) fun c e e' h' tk u r => ?_) (fun _ s' hq => wpAny_pure (wpAny_pure hq)) fun _ _ e => e)
  · subst e
    have F' := F.stays st
    obtain ⟨m₁, hn₁, hv₁⟩ := F'.vars
    have hL : cenv.locals ≠ C.env.locals := fun q => by
      obtain ⟨m₀, ⟨o, _, _, e, _⟩, _⟩ := F.vars
      rw [← q, hnone] at e; cases e
    show wpAny _ C.A (assign (.Name x p1) C.env (.ref acc)) _ _ _
    refine PyProof.Rows.assign_Name (wpAny_storeName_local hx hn₁ (fun h₂ hn₂ hs₂ => ⟨m, hn.sameBut hs₂ hL, fun h₃ hs₃ => ?_⟩) (by rw [O.kind]; rfl))
    have F₂ := F'.store O hx m₁ hn₁ hv₁ hn₂ hs₂ r
    exact P h₃ _ (F.but F₂ hs₃ hnone (hn.sameBut hs₂ hL))
  · subst e
    exact P e' h' tk ((Heap.UpToSlots.of_keeps F.prot).trans u) (.flew r)
theorem swaps_comp (elt : Expr) (gens : List Comprehension) (scope : Scope) (cpos p1 : Pos) (x : Str) (line : Nat) (env : Env) : ∃ b, swapsWith (.ListComp elt gens scope cpos) (some (.Name x p1)) line env = pure b := ⟨_, rfl⟩

theorem st1_sound {n : Nat} {sc : Scope} (hsc : C.env.scope = sc) (hw : C.w = w) (hd : d ≤ C.d) (O : Ok C) (H : Cel C) {ws : List Stmt → Sto → (FO → Prop) → Prop} (hws : ∀ {C : Cx}, C.w = w → d ≤ C.d → Ok C → Cel C → C.env.scope = sc → ∀ {b : List Stmt} {σ : Sto} {K : FO → Prop}, ws b σ K → ExK C σ b K)
    {st : Stmt} (h : st1 w sc (W w d n) ws σ K st) : Ex1K C σ st K := by
  subst hsc
  have S := W_sound (w := w) (d := d) n
  cases st <;> try exact h.elim
  case Return v pos =>
    refine of_ex1 ?_
    cases v with
    | none => exact h.elim
    | some e =>
      obtain ⟨o, h1, h2⟩ := S.ev hw hd O h
      exact ⟨_, h1, x_return O h2⟩
  case Assign ts e pos =>
    refine of_ex1 ?_
    obtain ⟨t, e1, g⟩ := one_inv h
    clear h; subst e1
    cases t <;> try exact g.elim
    case Name x p1 =>
      obtain ⟨hb, f⟩ := cond_inv g
      rw [Bool.and_eq_true] at hb
      obtain ⟨hx, hc⟩ := hb
      cases hcc : isComp e with
      | false =>
        rcases S.evS hw hd O f with ⟨p, h1, h2⟩ | ⟨c, h1, h2⟩
        · exact ⟨_, h1, x_assign O (may_of O H hx) h2 (notComp_swaps hcc _ _ _)⟩
        · exact ⟨_, h1, x_assign_exc O h2 (notComp_swaps hcc _ _ _)⟩
      | true =>
        rw [hcc] at hc
        have hx' : C.env.kindOf x = some .local := of_decide_eq_true (show decide (C.env.scope.names.lookup x = some .local) = true from hc)
        cases n with
        | zero => exact f.elim
        | succ n =>
          cases e <;> first | (cases hcc; done) | skip
          case ListComp elt gens scope cpos =>
            obtain ⟨target, iter, ifs, o, e1, h1, ho, hr⟩ := comp_parts (W_sound (w := w) (d := d) n) hw hd O (show compW (W w d n) C.env.scope elt gens scope σ fun o => thenS o (fun p => K (.next ((x, p) :: σ))) K from f)
            subst e1
            obtain ⟨b, hs⟩ := swaps_comp elt [⟨target, iter, ifs, 0⟩] scope cpos p1 x pos.line C.env
            cases b with
            | true => exact ⟨_, by cases o <;> exact h1, x_used O hx' hr hs⟩
            | false =>
              rcases S.evS hw hd O f with ⟨p, h1, h2⟩ | ⟨c, h1, h2⟩
              · exact ⟨_, h1, x_assign O (.loc hx') h2 hs⟩
              · exact ⟨_, h1, x_assign_exc O h2 hs⟩
          all_goals exact f.elim
    case Tuple es n1 p1 =>
      dsimp only [st1] at g
      cases hn : namesOf es with
      | none => rw [hn] at g; exact g.elim
      | some xs =>
        rw [hn] at g
        obtain ⟨hb, f⟩ := cond_inv g
        rw [Bool.and_eq_true, Bool.not_eq_true'] at hb
        have hm : ∀ x ∈ xs, May C x := fun x hx => may_of O H (List.all_eq_true.mp hb.1 x hx)
        have hs : swapsWithSole [.Tuple es n1 p1] e pos.line C.env = pure false := by exact notComp_swaps hb.2 (some (.Tuple es n1 p1)) pos.line C.env
        have usual : swappedStores [.Tuple es n1 p1] e C.env = pure none → (W w d n C.env.scope false e σ fun o => thenS o (fun p => onItems p fun ps => xs.length = ps.length ∧ K (.next (putAll xs ps σ))) K) → ∃ fo, K fo ∧ Ex1 C σ (.Assign [.Tuple es n1 p1] e pos) fo := fun hw' f => by
          rcases S.evS hw hd O f with ⟨p, h1, h2⟩ | ⟨c, h1, h2⟩
          · obtain ⟨ps, ⟨hl, h3⟩, h4⟩ := x_unpackI O hn hm h2 h1 hs hw'
            exact ⟨_, h3, h4 hl⟩
          · exact ⟨_, h1, x_unpack_exc O h2 hs hw'⟩
        cases ht : isTup e with
        | none =>
          rw [ht] at f
          exact usual (swapped_none ht _ _ _ _) f
        | some vs =>
          rw [ht] at f
          rcases f with ⟨hsw, f⟩ | ⟨hno, f⟩
          · rcases S.evS hw hd O f with ⟨p, h1, h2⟩ | ⟨c, h1, h2⟩
            · obtain ⟨ps, e1, hl, h3⟩ := onTup_inv h1
              subst e1
              exact ⟨_, h3, x_swap O hl hm h2 (hsw.at _ _) hs⟩
            · exact h1.elim
          · exact usual (hno.at _ _) f
  case If t body orelse pos =>
    obtain ⟨J, h⟩ := h
    cases J with
    | some σ₁ =>
      obtain ⟨h, hj⟩ := h
      obtain ⟨b, g, hb⟩ := S.tst hw hd O h
      have key : ∀ fo, (match fo with | .next σ' => Sub σ' σ₁ | .ret p => K (.ret p) | .exc c => K (.exc c)) → ∀ (s : Shared) (Q : Flow → Shared → Prop) (E : Value → Shared → Prop), (∀ fo, K fo → PostS C s Q E fo) → PostS C s Q E fo := fun fo hk s Q E P => by
        cases fo with
        | next σ' => exact fun h' tk F' => P _ hj h' tk (F'.weaken hk)
        | ret p => exact P _ hk
        | exc c => exact P _ hk
      intro s Q E F P
      refine wpAny_If (hb s _ E F fun h₁ tk₁ s₁ e₁ => ?_)
      cases b with
      | true => simp only [if_true]; exact hws hw hd O H rfl (g.1 rfl) _ _ E (F.stays s₁) fun fo hk => (key fo hk _ _ _ P).to
      | false => simp only [Bool.false_eq_true, if_false]; exact hws hw hd O H rfl (g.2 rfl) _ _ E (F.stays s₁) fun fo hk => (key fo hk _ _ _ P).to
    | none =>
    obtain ⟨b, g, hb⟩ := S.tst hw hd O (show W w d n C.env.scope true t σ _ from h)
    intro s Q E F P
    refine wpAny_If (hb s _ E F fun h₁ tk₁ s₁ e₁ => ?_)
    cases b with
    | true => simp only [if_true]; exact hws hw hd O H rfl (g.1 rfl) _ _ E (F.stays s₁) fun fo hk => (P fo hk).to
    | false => simp only [Bool.false_eq_true, if_false]; exact hws hw hd O H rfl (g.2 rfl) _ _ E (F.stays s₁) fun fo hk => (P fo hk).to
  case AugAssign t op e pos =>
    cases t <;> try exact h.elim
    case Name y p1 =>
      obtain ⟨hb, f⟩ := cond_inv h
      obtain ⟨a, b, z, ha, he, hk, hz⟩ := S.aug hw hd O f
      exact of_ex1 ⟨_, hk, x_aug O (of_decide_eq_true hb) (.loc (of_decide_eq_true hb)) ha he hz⟩
  case While t body orelse pos =>
    obtain ⟨e, N, S', h0, ht, hb, hk⟩ := cond_inv h
    obtain rfl := List.isEmpty_iff.mp e
    refine x_whileK O N S' h0 (fun i hi => ?_) (fun i hi => hws hw hd O H rfl (hb i hi)) hk
    obtain ⟨o, e, b, e', ht⟩ := S C hw hd O true t (S' i) _ (ht i hi)
    rw [e] at e'
    cases e'
    exact ht
  case For t iter body orelse pos =>
    cases t <;> try exact h.elim
    case Name x p1 =>
      obtain ⟨hb, g⟩ := cond_inv h
      simp only [Bool.and_eq_true, List.isEmpty_iff] at hb
      obtain ⟨⟨hx, hset⟩, e⟩ := hb
      subst e
      obtain ⟨items, ⟨S', I, hs, hI, hbody, hend⟩, hit⟩ := iter_sound S hw hd O g
      obtain ⟨hc, hc1, hc2⟩ := cells_list O H
      exact x_forK O hc1 hc2 S' I (may_of O H hx) hs hI hit (fun g Og i a hi hI => hws (C := C.at g) hw hd Og H rfl (hbody i a hi hI)) hend (fun v => by cases iter <;> first | rfl | cases hset)
  case Raise v c pos =>
    refine of_ex1 ?_
    cases c with
    | some _ => exact h.elim
    | none => cases v with
      | none => exact h.elim
      | some e => cases e <;> try exact h.elim
                  case Call f args kws cpos =>
                    cases f <;> try exact h.elim
                    case Name x np =>
                      obtain ⟨hb, g⟩ := cond_inv h
                      clear h
                      simp only [Bool.and_eq_true, List.isEmpty_iff] at hb
                      obtain ⟨hg, e2⟩ := hb
                      subst e2
                      obtain ⟨a, e1, f⟩ := one_inv g
                      clear g
                      subst e1
                      cases a <;> try exact f.elim
                      case Constant t n' p2 =>
                        cases t <;> try exact f.elim
                        case str t =>
                          obtain ⟨c, ⟨hn, hx⟩, g⟩ := f
                          obtain ⟨hk, hdb⟩ := isGlob_inv hg
                          subst hw
                          exact ⟨_, g, x_raise O hk hn hx hdb⟩

theorem WS_sound : ∀ (n : Nat) {C : Cx}, C.w = w → d ≤ C.d → Ok C → Cel C → ∀ {sts : List Stmt} {σ : Sto} {K : FO → Prop}, WS w d n C.env.scope sts σ K → ExK C σ sts K
  | 0, C, _, _, _, _, sts, σ, K, h => h.elim
  | n + 1, C, hw, hd, O, H, sts, σ, K, h => by
    cases sts with
    | nil => exact fun s Q E F P => wpAny_execs_nil (P _ h s.heap s.toks F)
    | cons st rest =>
      have h' : cond (isOwn st) (ownW (W w d n) C.env.scope n rest σ (fun sts σ' => WS w d n C.env.scope sts σ' K) st) (st1 w C.env.scope (W w d n) (WS w d n C.env.scope) σ (thenK (fun σ' => WS w d n C.env.scope rest σ' K) K) st) := h
      cases hown : isOwn st with
      | true =>
        rw [hown] at h'
        exact own_sound hw hd O H.2 (fun hb => WS_sound n hw hd O H hb) h'
      | false =>
        rw [hown] at h'
        have h1 := st1_sound rfl hw hd O H (fun {C'} hw hd O H hsc {b σ K} hb => WS_sound n hw hd O H (by rw [hsc]; exact hb)) h'
        refine fun s Q E F P => wpAny_execs_cons (h1 s _ E F fun fo hk => ?_)
        cases fo with
        | next σ' => exact fun h' tk F' => WS_sound n hw hd O H hk _ _ E F' fun fo hk => (P fo hk).to
        | ret p => exact P _ hk
        | exc c => exact P _ hk
end Mine

end
section
open PySem PySem.Calls PySem.W PyProof.Rows
set_option Elab.async false
set_option linter.unusedVariables false
namespace Mine

theorem fn_ws {w : World} {f : Addr} {d : Nat} {ps : List PV} {o : Out} {oc : Value} {od : Option Addr} {name qual : Str} {params : Arguments} {body : List Stmt} {scope : Scope} {dV kV doc pm cdv ct : Value} {an : Option Addr} {osl : Array (Option Value)} (n : Nat) (xs : List Str)
    (ho : (KF w).lookup f = some ⟨oc, od, .func (fnOf name qual params body scope dV kV doc pm an cdv ct), osl⟩) (hcd : codeIn (KF w) cdv qual = true)
    (hbind : ∀ (s : Shared) (vs : List Value), vs.length = ps.length → BindsTo s (fnOf name qual params body scope dV kV doc pm an cdv ct) ⟨vs, []⟩ (xs.zip vs))
    (hloc : (xs.all fun x => decide (scope.names.lookup x = some .local)) = true) (hcell : (scope.names.all fun x => decide (x.2 ≠ .cell)) = true)
    (hco : scope.isCoroutine = false) (hgen : scope.isGenerator = false) (hk : scope.kind = .function)
    (h : WS w d n scope body ((xs.zip ps).reverse) (fun fo => fo = o.fo)) : Fn w f (d + 1) ps o :=
  fn_of xs ho hcd hbind hloc (fun x hx => of_decide_eq_true (List.all_eq_true.mp hcell x hx)) (fun X b g A L outer dd O hd => by
    exact fun s Q E F P => WS_sound (C := mkC w X b g A (envX qual scope L f cdv []) outer dd) n rfl hd O ⟨rfl, fun _ => rfl⟩ h s Q E F fun fo e => e ▸ P) hco hgen hk

theorem Fn.to {w : World} {f : Addr} {d : Nat} {ps : List PV} {p q : PV} (h : Fn w f d ps (.ret p)) (c : ∀ {X : Addr → Prop} {h : Heap} {v : Value}, Rep X h v p → Rep X h v q) : Fn w f d ps (.ret q) := fun C hw O hd s vs Q E G R P =>
  h C hw O hd s vs Q E G R fun v h' tk a b r => P v h' tk a b (c r)
theorem Fn.from {w : World} {f : Addr} {d : Nat} {ps qs : List PV} {o : Out} (h : Fn w f d ps o) (c : ∀ {X : Addr → Prop} {h : Heap} {vs : List Value}, Reps X h vs qs → Reps X h vs ps) : Fn w f d qs o := fun C hw O hd s vs Q E G R P =>
  h C hw O hd s vs Q E G (c R) P
theorem Fn.deep {w : World} {f : Addr} {d e : Nat} {ps : List PV} {o : Out} (h : Fn w f d ps o) (le : d ≤ e) : Fn w f e ps o := fun C hw O hd => h C hw O (Nat.le_trans le hd)
theorem CallOk.deep {w : World} {f : Str} {d e : Nat} {ps : List PV} {o : Out} (h : CallOk w d f ps o) (le : d ≤ e) : CallOk w e f ps o := let ⟨a, b, c, z⟩ := h; ⟨a, b, c, z.deep le⟩

theorem rep_sgn {X : Addr → Prop} {h : Heap} {v : Value} {w n : Nat} {x : Int} {b : Bool} (hb : b = decide (x < 0)) (hn : n = x.natAbs) (r : Rep X h v (.tup [.bool b, .nat w n])) : Rep X h v (.sgn w x) := by
  subst hb hn; exact .sgn r

end Mine

end
section
open PySem PySem.Calls PySem.W PyProof.Rows
set_option Elab.async false
set_option linter.unusedVariables false
namespace Mine

theorem retb {a b : Bool} (h : a = b) : Out.ret (.bool a) = Out.ret (.bool b) := h ▸ rfl
theorem band_dg (w t n i : Nat) (h : t % 2 ^ w = n / 2 ^ (w * i) % 2 ^ w) : digs w n i ++ [Builtin.bitAnd (t : Int) (msk w)] = digs w n (i + 1) := by
  rw [digs_succ, band_msk, h]; rfl
theorem nat_le_int (a : Nat) : (0 : Int) ≤ a := Int.natCast_nonneg a

set_option maxRecDepth 10000
theorem k_natof (wd : World) {w n : Nat} (hw : 0 < w) (hw2 : w ≤ 1000) (hn : nl w n ≤ 200) : CallOk wd 1 "nat_of" [.int n, .int w] (.ret (.nat w n)) :=
  ⟨65, rfl, rfl, Fn.to (p := lim w n) (fn_ws 20 ["number", "w"] rfl rfl (fun s => all2 fun a b => BindsTo.of_eq rfl) rfl rfl rfl rfl rfl (by
    refine ⟨none, fun q => ?_, fun _ => ?_⟩
    · have := of_decide_eq_true q; lia
    refine ⟨rfl, fun _ _ => rfl, [], rfl, by decide, ⟨nat_le_int w, by lia, by decide⟩, [msk w], ?_, rfl, (by decide : 1 ≤ 10), 1, ?_⟩
    · rw [← msk_eq]; rfl
    refine ⟨nl w n, fun i => [("number", .int ((n / 2 ^ (w * i) : Nat) : Int)), ("mask", .int (msk w)), ("w", .int w)], fun i => digs w n i, sub_of ⟨int_eq (by simp), rfl, rfl, trivial⟩, rfl, fun i hi => retb (decide_eq_decide.mpr ?_), fun i hi => ⟨?_, nat_le_int w, sub_of ⟨int_eq ?_, rfl, rfl, trivial⟩, band_dg w _ n i rfl⟩, rfl⟩
    · rw [lt_nl_iff hw n i]
      exact Int.natCast_pos.trans (Nat.div_pos_iff.trans (and_iff_right (Nat.two_pow_pos _)))
    · rw [digs_length]; lia
    · rw [shr_nat, pow_succ_mul, Nat.div_div_eq_div_mul])) .nat⟩
end Mine

end
section
open PySem PySem.Calls PySem.W PyProof.Rows
set_option Elab.async false
set_option linter.unusedVariables false
namespace Mine

theorem pis_get' {w n k j : Nat} {z : Int} (hz : z = (j : Int)) (h : j < k) : (pis (digs w n k))[z.toNat]? = some (.int (dg w n j)) := pis_digs hz h

theorem norm_test {w n k i : Nat} (hw : 0 < w) (hle : nl w n ≤ k) (hi : i ≤ k - nl w n) : (decide ((0 : Int) < ((k - i : Nat) : Int)) && (dg w n (k - i - 1) == 0)) = decide (i < k - nl w n) := by
  by_cases c : i < k - nl w n
  · have h2 : dg w n (k - i - 1) = 0 := dg_zero ((nl_le_iff hw n _).mp (by lia))
    rw [decide_eq_true c, decide_eq_true (by lia), h2]; rfl
  · rw [decide_eq_false c, Bool.and_eq_false_iff]
    by_cases h0 : nl w n = 0
    · exact .inl (decide_eq_false (by lia))
    · have hne : n ≠ 0 := fun q => h0 (by rw [q]; exact nl_zero w)
      have e : k - i - 1 = nl w n - 1 := by lia
      exact .inr (by rw [e]; exact beq_false_of_ne (dg_top hw hne))

set_option maxRecDepth 10000
theorem k_normal (wd : World) {w n k : Nat} (hw : 0 < w) (hn : n < 2 ^ (w * k)) (hk : k ≤ 200) : CallOk wd 1 "normal" [.list (pis (digs w n k))] (.ret (.nat w n)) :=
  ⟨58, rfl, rfl, Fn.to (p := lim w n) (fn_ws 20 ["a"] rfl rfl (fun s => all1 fun a => BindsTo.of_eq rfl) rfl rfl rfl rfl rfl (by
    have hle := (nl_le_iff hw n k).mpr hn
    have len : (pis (digs w n k)).length = k := by rw [List.length_map, digs_length]
    refine ⟨by rw [len]; lia, k - nl w n, fun i => [("end", .int ((k - i : Nat) : Int)), ("a", .list (pis (digs w n k)))], sub_of ⟨int_eq (by rw [len]; rfl), rfl, trivial⟩, fun i hi => ⟨dg w n (k - i - 1) == 0, fun hp => ?_, retb (norm_test hw hle hi)⟩, fun i hi => ⟨_, rfl, sub_of ⟨int_eq (by lia), rfl, trivial⟩⟩, ?_⟩
    · have hp := of_decide_eq_true hp
      exact ⟨_, pis_digs (j := k - i - 1) (by lia) (by lia), ⟨by lia, by lia⟩, rfl⟩
    · refine ⟨by rw [len]; lia, nat_le_int _, ?_⟩
      rw [Int.toNat_natCast, Nat.sub_sub_self hle, ← List.map_take, digs_take hle]; rfl)) .nat⟩
end Mine

end
section
open PySem PySem.Calls PySem.W PyProof.Rows
set_option Elab.async false
set_option linter.unusedVariables false
namespace Mine

def cmpN (A D : Nat) : Int := if A < D then -1 else if A = D then 0 else 1
theorem lt_of_nl {w A D : Nat} (hw : 0 < w) (h : nl w A < nl w D) : A < D := Nat.lt_of_lt_of_le (lt_pow_nl hw A) ((lt_nl_iff hw D _).mp h)
theorem cmpN_gt {A D : Nat} (h : D < A) : cmpN A D = 1 := by unfold cmpN; rw [if_neg (Nat.lt_asymm h), if_neg (Nat.ne_of_gt h)]
theorem cmpN_lt {A D : Nat} (h : A < D) : cmpN A D = -1 := if_pos h
theorem cmpN_neg (A D : Nat) : decide (cmpN A D < 0) = decide (A < D) := by
  rcases Nat.lt_trichotomy A D with h | h | h
  · rw [cmpN_lt h, decide_eq_true h]; rfl
  · subst h; rw [cmpN, if_neg (Nat.lt_irrefl _), if_pos rfl, decide_eq_false (Nat.lt_irrefl _)]; rfl
  · rw [cmpN_gt h, decide_eq_false (Nat.lt_asymm h)]; rfl

/-- as many limbs: equal from the top, or parted at the first limb that differs -/
theorem cmp_top {w A D : Nat} (hw : 0 < w) (hl : nl w A = nl w D) :
    ((∀ j, j < nl w A → dg w A (nl w A - 1 - j) = dg w D (nl w A - 1 - j)) → cmpN A D = 0) ∧ ∀ i, i < nl w A → (∀ j, j < i → dg w A (nl w A - 1 - j) = dg w D (nl w A - 1 - j)) → dg w A (nl w A - 1 - i) ≠ dg w D (nl w A - 1 - i) →
      (dg w A (nl w A - 1 - i) < dg w D (nl w A - 1 - i) → cmpN A D = -1) ∧ (¬dg w A (nl w A - 1 - i) < dg w D (nl w A - 1 - i) → cmpN A D = 1) := by
  by_cases e : A = D
  · subst e
    exact ⟨fun _ => by rw [cmpN, if_neg (Nat.lt_irrefl _), if_pos rfl], fun i _ _ h => absurd rfl h⟩
  · obtain ⟨j, hj, hne, hup, hlt⟩ := top_diff (nl w A) A D (lt_pow_nl hw A) (hl ▸ lt_pow_nl hw D) e
    have ej : nl w A - 1 - (nl w A - 1 - j) = j := by lia
    refine ⟨fun h => absurd (ej ▸ h (nl w A - 1 - j) (by lia)) hne, fun i hi hI hn => ?_⟩
    have ei : nl w A - 1 - i = j := by
      rcases Nat.lt_trichotomy (nl w A - 1 - i) j with q | q | q
      · exact absurd (ej ▸ hI (nl w A - 1 - j) (by lia)) hne
      · exact q
      · exact absurd (hup _ q (by lia)) hn
    rw [ei]
    exact ⟨fun q => cmpN_lt (hlt.mp q), fun q => cmpN_gt (Nat.lt_of_le_of_ne (Nat.le_of_not_lt (mt hlt.mpr q)) (Ne.symm e))⟩

set_option maxRecDepth 10000
theorem k_compare (wd : World) {w A D : Nat} (hw : 0 < w) (hA : nl w A ≤ 200) (hD : nl w D ≤ 200) : CallOk wd 1 "compare" [.nat w A, .nat w D] (.ret (.int (cmpN A D))) :=
  ⟨72, rfl, rfl, fn_ws 12 ["a", "b"] rfl rfl (fun s => all2 fun a b => BindsTo.of_eq rfl) rfl rfl rfl rfl rfl (by
    have hA' : nl w A < 2 ^ 62 := by lia
    have hD' : nl w D < 2 ^ 62 := by lia
    refine ⟨none, hA', hD', fun q => ⟨none, hA', hD', fun c => ?_, fun c => ?_⟩, fun q => ?_⟩
    · rw [cmpN_lt (lt_of_nl hw (Int.ofNat_lt.mp (of_decide_eq_true c)))]; rfl
    · have h1 := mt Int.ofNat_lt.mpr (of_decide_eq_false c)
      have h2 : ((nl w A : Nat) : Int) ≠ (nl w D : Nat) := bne_iff_ne.mp q
      rw [cmpN_gt (lt_of_nl hw (by lia))]; rfl
    · have hl : nl w A = nl w D := Int.ofNat_inj.mp (by simpa using q)
      obtain ⟨k0, k1⟩ := cmp_top hw hl
      refine ⟨hA', rfl, ⟨by lia, by lia, by lia⟩, ?_⟩
      rw [show ((nl w A : Int) - 1 - -1).toNat = nl w A by lia]
      refine ⟨fun _ => [("b", .nat w D), ("a", .nat w A)], fun i => ∀ j, j < i → dg w A (nl w A - 1 - j) = dg w D (nl w A - 1 - j), fun y p h => h, fun j h => absurd h (Nat.not_lt_zero j), fun i a hi hI => ?_, ?_⟩
      · rw [List.getElem?_map, Option.map_eq_some_iff] at hi
        obtain ⟨z, hz, rfl⟩ := hi
        obtain ⟨rfl, hi⟩ := rints_get hz
        have hj : nl w A - 1 - i < nl w A := by lia
        have hj' : nl w A - 1 - i < nl w D := hl ▸ hj
        have e1 : (nl w A : Int) - 1 + (i : Int) * -1 = ((nl w A - 1 - i : Nat) : Int) := by lia
        refine ⟨none, _, e1, hj, hA, _, e1, hj', hD, fun q => ⟨none, _, e1, hj, hA, _, e1, hj', hD, fun c => ?_, fun c => ?_⟩, fun q => ⟨sub_of ⟨rfl, rfl, trivial⟩, fun j h => ?_⟩⟩
        · rw [(k1 i hi hI (bne_iff_ne.mp q)).1 (of_decide_eq_true c)]; rfl
        · rw [(k1 i hi hI (bne_iff_ne.mp q)).2 (of_decide_eq_false c)]; rfl
        · rcases Nat.lt_or_eq_of_le (Nat.le_of_lt_succ h) with h | rfl
          · exact hI j h
          · simpa using q
      · rw [List.length_map, rints_length]
        intro h
        rw [k0 h]; rfl)⟩
end Mine

end
section
open PySem PySem.Calls PySem.W PyProof.Rows
set_option Elab.async false
set_option linter.unusedVariables false
namespace Mine

theorem pis_rints {a c : Int} {n i : Nat} {p : PV} (h : (pis (rints a c n))[i]? = some p) : i < n ∧ p = .int (a + (i : Int) * c) := by
  rw [List.getElem?_map, Option.map_eq_some_iff] at h
  obtain ⟨z, hz, rfl⟩ := h
  obtain ⟨rfl, hi⟩ := rints_get hz
  exact ⟨hi, rfl⟩
theorem rints_len (a c : Int) (n : Nat) : (pis (rints a c n)).length = n := by rw [List.length_map, rints_length]
theorem fw_shr (t w z : Nat) (h : t / 2 ^ w = z) : some (PV.int (Int.fdiv (t : Int) (2 ^ ((w : Int).toNat)))) = some (.int z) := by rw [shr_nat, h]

theorem cy_int {w hi lo i : Nat} : (cy w hi lo i : Int) + (dg w hi i + dg w lo i) = ((cy w hi lo i + hi / 2 ^ (w * i) % 2 ^ w + lo / 2 ^ (w * i) % 2 ^ w : Nat) : Int) := by
  unfold dg
  rw [Int.natCast_add, Int.natCast_add, Int.add_assoc]

set_option maxRecDepth 10000
theorem k_add (wd : World) {w A D : Nat} (hw : 0 < w) (hw2 : w ≤ 1000) (hA : nl w A ≤ 200) (hD : nl w D ≤ 200) : CallOk wd 1 "add" [.nat w A, .nat w D, .int w] (.ret (.nat w (A + D))) :=
  ⟨79, rfl, rfl, Fn.to (p := lim w (A + D)) (fn_ws 20 ["a", "b", "w"] rfl rfl (fun s => all3 fun a b c => BindsTo.of_eq rfl) rfl rfl rfl rfl rfl (by
    obtain ⟨hi, lo, hsum, hle, hhi, hlo, hcase⟩ : ∃ hi lo, hi + lo = A + D ∧ nl w lo ≤ nl w hi ∧ nl w hi ≤ 200 ∧ nl w lo ≤ 200 ∧ ((nl w A < nl w D ∧ hi = D ∧ lo = A) ∨ (¬ nl w A < nl w D ∧ hi = A ∧ lo = D)) := by
      by_cases c : nl w A < nl w D
      · exact ⟨D, A, Nat.add_comm _ _, Nat.le_of_lt c, hD, hA, .inl ⟨c, rfl, rfl⟩⟩
      · exact ⟨A, D, rfl, Nat.le_of_not_lt c, hA, hD, .inr ⟨c, rfl, rfl⟩⟩
    rw [← hsum]
    have b62 : ∀ {n : Nat}, n ≤ 200 → n < 2 ^ 62 := fun h => Nat.lt_of_le_of_lt h (by decide)
    have b60 : ∀ {n : Nat}, n ≤ 200 → (n : Int) < 2 ^ 60 := fun h => by lia
    refine ⟨some [("a", .nat w hi), ("b", .nat w lo), ("w", .int w)], ⟨b62 hA, b62 hD, fun q => ?_, fun q => ?_⟩, ?_⟩
    · have := Int.ofNat_lt.mp (of_decide_eq_true q)
      rcases hcase with ⟨_, rfl, rfl⟩ | ⟨c, _⟩
      · exact .inl ⟨fun _ _ => rfl, rfl, sub_of ⟨rfl, rfl, rfl, trivial⟩⟩
      · exact absurd this c
    · have := mt Int.ofNat_lt.mpr (of_decide_eq_false q)
      rcases hcase with ⟨c, _⟩ | ⟨_, rfl, rfl⟩
      · exact absurd c this
      · exact sub_of ⟨rfl, rfl, rfl, trivial⟩
    refine ⟨rfl, fun _ _ => rfl, [], rfl, by decide, ⟨nat_le_int w, by lia, by decide⟩, [0, msk w], by rw [← msk_eq]; rfl, rfl, (by decide : 2 ≤ 10), 3, ?_⟩
    refine ⟨b62 hlo, ⟨nat_le_int _, b60 hlo⟩, fun i => [("carry", .int (cy w hi lo i)), ("mask", .int (msk w)), ("a", .nat w hi), ("b", .nat w lo), ("w", .int w)], fun i => digs w (hi + lo) i, sub_of ⟨int_eq (by rw [cy_zero]; rfl), rfl, rfl, rfl, rfl, trivial⟩, rfl, fun i a h => ?_, ?_⟩
    · obtain ⟨hi', rfl⟩ := pis_rints h
      rw [Int.toNat_natCast] at hi'
      have e0 : (0 : Int) + (i : Int) * 1 = (i : Int) := by lia
      obtain ⟨e1, e2⟩ := cy_step w hi lo i
      refine ⟨i, e0, Nat.lt_of_lt_of_le hi' hle, hhi, i, e0, hi', hlo, ?_, nat_le_int w, sub_of ⟨?_, rfl, rfl, rfl, rfl, trivial⟩, ?_⟩
      · rw [digs_length]; lia
      · rw [cy_int]; exact fw_shr _ _ _ e1
      · rw [cy_int]; exact band_dg _ _ _ _ e2
    rw [rints_len, Int.toNat_natCast]
    refine ⟨b62 hlo, b62 hhi, ⟨nat_le_int _, Int.ofNat_le.mpr hle, b60 hhi⟩, fun i => [("carry", .int (cy w hi lo (nl w lo + i))), ("mask", .int (msk w)), ("a", .nat w hi), ("b", .nat w lo), ("w", .int w)], fun i => digs w (hi + lo) (nl w lo + i), fun _ _ h => h, rfl, fun i a h => ?_, ?_⟩
    · obtain ⟨hi', rfl⟩ := pis_rints h
      have hj : nl w lo + i < nl w hi := by lia
      have e0 : (nl w lo : Int) + (i : Int) * 1 = ((nl w lo + i : Nat) : Int) := by lia
      obtain ⟨e1, e2⟩ := cy_step w hi lo (nl w lo + i)
      have ez : dg w lo (nl w lo + i) = 0 := dg_zero ((nl_le_iff hw lo _).mp (Nat.le_add_right _ _))
      have ec := cy_int (w := w) (hi := hi) (lo := lo) (i := nl w lo + i)
      rw [ez, Int.add_zero] at ec
      refine ⟨_, e0, hj, hhi, ?_, nat_le_int w, sub_of ⟨?_, rfl, rfl, rfl, rfl, trivial⟩, ?_⟩
      · rw [digs_length]; lia
      · rw [ec]; exact fw_shr _ _ _ e1
      · rw [ec]; exact band_dg _ _ _ _ e2
    rw [rints_len, show ((nl w hi : Int) - (nl w lo : Int)).toNat = nl w hi - nl w lo by lia]
    have eN : nl w lo + (nl w hi - nl w lo) = nl w hi := by lia
    dsimp only
    rw [show nl w lo + (nl w hi - nl w lo) = nl w hi by lia]
    refine ⟨fun q => ⟨by rw [digs_length]; lia, ?_⟩, fun q => ?_⟩
    · unfold lim; rw [add_limbs hw hle, if_pos (of_decide_eq_true q)]; rfl
    · unfold lim; rw [add_limbs hw hle, if_neg (of_decide_eq_false q)]; rfl)) .nat⟩
end Mine

end
section
open PySem PySem.Calls PySem.W PyProof.Rows
set_option Elab.async false
set_option linter.unusedVariables false
namespace Mine

set_option maxRecDepth 10000
theorem k_sub (wd : World) {w A D : Nat} (hw : 0 < w) (hw2 : w ≤ 50) (hA : nl w A ≤ 200) (hD : nl w D ≤ 200) (hle : D ≤ A) : CallOk wd 2 "sub" [.nat w A, .nat w D, .int w] (.ret (.nat w (A - D))) :=
  ⟨86, rfl, rfl, fn_ws 20 ["a", "b", "w"] rfl rfl (fun s => all3 fun a b c => BindsTo.of_eq rfl) rfl rfl rfl rfl rfl (by
    have b62 : ∀ {n : Nat}, n ≤ 200 → n < 2 ^ 62 := fun h => Nat.lt_of_le_of_lt h (by decide)
    refine ⟨none, _, k_compare wd hw hA hD, fun q => ?_, fun _ => ?_⟩
    · rw [cmpN_neg] at q
      exact absurd (of_decide_eq_true q) (Nat.not_lt.mpr hle)
    refine ⟨rfl, fun _ _ => rfl, [], rfl, by decide, ⟨nat_le_int w, by lia, by decide⟩, [0, 1 * 2 ^ ((w : Int).toNat)], rfl, rfl, (by decide : 2 ≤ 10), 1, ?_⟩
    refine ⟨b62 hA, ⟨nat_le_int _, by lia⟩, fun i => [("borrow", .int (bw w A D i)), ("base", .int (1 * 2 ^ ((w : Int).toNat))), ("a", .nat w A), ("b", .nat w D), ("w", .int w)], fun i => digs w (A - D) i, sub_of ⟨int_eq (by rw [bw_zero]; rfl), rfl, rfl, rfl, rfl, trivial⟩, rfl, fun i a h => ?_, ?_⟩
    · obtain ⟨hi, rfl⟩ := pis_rints h
      rw [Int.toNat_natCast] at hi
      have e0 : (0 : Int) + (i : Int) * 1 = (i : Int) := by lia
      obtain ⟨e1, e2⟩ := bw_step (w := w) hle i
      have lt : (0 : Int) + (i : Int) * 1 < (nl w D : Int) ↔ i < nl w D := by lia
      refine ⟨i, e0, hi, hA, some (.ret (.int (dg w D i))), ⟨b62 hD, fun q => ⟨i, e0, lt.mp (of_decide_eq_true q), hD, rfl⟩, fun q => ?_⟩, some (.ret (.int (bw w A D (i + 1)))), ⟨fun q => ?_, fun q => ?_⟩,
        some (.ret (.int (dg w (A - D) i))), ⟨fun q => ?_, fun q => ?_⟩, ?_, sub_of ⟨rfl, rfl, rfl, rfl, rfl, trivial⟩, (digs_succ _ _ _).symm⟩
      · rw [dg_zero ((nl_le_iff hw D i).mp (Nat.le_of_not_lt (mt lt.mpr (of_decide_eq_false q))))]; rfl
      · rw [e1, if_pos (of_decide_eq_true q)]; rfl
      · rw [e1, if_neg (of_decide_eq_false q)]; rfl
      · rw [e2, if_pos (of_decide_eq_true q), Int.toNat_natCast, Int.one_mul]; rfl
      · rw [e2, if_neg (of_decide_eq_false q)]; rfl
      · rw [digs_length]; lia
    · rw [rints_len, Int.toNat_natCast]
      exact ⟨_, (k_normal wd hw (Nat.lt_of_le_of_lt (Nat.sub_le _ _) (lt_pow_nl hw A)) hA).deep (by decide), rfl⟩)⟩
end Mine

end
section
open PySem PySem.Calls PySem.W PyProof.Rows
set_option Elab.async false
set_option linter.unusedVariables false
namespace Mine

theorem bnot_neg (c : Nat) : decide (0 ≤ Builtin.bitNot (c : Int)) = false := decide_eq_false (by unfold Builtin.bitNot; lia)
theorem bnot_bnot (x : Int) : Builtin.bitNot (Builtin.bitNot x) = x := by unfold Builtin.bitNot; lia
theorem bor_nat (a b : Nat) : Builtin.bitOr (a : Int) (b : Int) = ((a ||| b : Nat) : Int) := by
  unfold Builtin.bitOr Builtin.bitAnd
  rw [bnot_neg, bnot_neg]
  simp only [bnot_bnot, Int.toNat_natCast]
theorem bor_add (c a f : Nat) (h : c < 2 ^ f) : Builtin.bitOr (c : Int) ((a : Int) * 2 ^ ((f : Int).toNat)) = ((c + a * 2 ^ f : Nat) : Int) := by
  rw [Int.toNat_natCast, show (a : Int) * 2 ^ f = ((a * 2 ^ f : Nat) : Int) by push_cast; rfl, bor_nat, Nat.mul_comm, Nat.or_comm, ← Nat.two_pow_add_eq_or_of_lt h, Nat.add_comm]

set_option maxRecDepth 10000
theorem k_shift (wd : World) {w A n : Nat} (hw : 0 < w) (hw2 : w ≤ 50) (hA : nl w A ≤ 200) (hn : n ≤ 60) : CallOk wd 1 "shift_left" [.nat w A, .int n, .int w] (.ret (.nat w (A * 2 ^ n))) :=
  ⟨93, rfl, rfl, Fn.to (p := lim w (A * 2 ^ n)) (fn_ws 20 ["a", "n", "w"] rfl rfl (fun s => all3 fun a b c => BindsTo.of_eq rfl) rfl rfl rfl rfl rfl (by
    have b62 : ∀ {n : Nat}, n ≤ 200 → n < 2 ^ 62 := fun h => Nat.lt_of_le_of_lt h (by decide)
    refine ⟨none, b62 hA, fun q => ?_, fun q => ?_⟩
    · have hz : nl w A = 0 := Int.ofNat_inj.mp (beq_iff_eq.mp q)
      have hA0 : A = 0 := by
        have := (nl_le_iff hw A 0).mp (Nat.le_of_eq hz)
        rwa [Nat.mul_zero, Nat.pow_zero, Nat.lt_one_iff] at this
      subst hA0
      rw [Nat.zero_mul]
      unfold lim limbs digs
      rw [nl_zero]; rfl
    have hA0 : A ≠ 0 := fun e => by subst e; rw [nl_zero] at q; exact absurd q (by decide)
    have hw0 : (w : Int) ≠ 0 := by lia
    have hf : n % w < w := Nat.mod_lt _ hw
    have hs : n / w ≤ 60 := Nat.le_trans (Nat.div_le_self _ _) hn
    have en : w * (n / w) + n % w = n := Nat.div_add_mod n w
    refine .inl ⟨fun _ _ => rfl, _, ⟨⟨hw0, by lia⟩, rfl⟩, _, ⟨hw0, rfl⟩, rfl, ?_⟩
    refine ⟨rfl, fun _ _ => rfl, ⟨?_, ?_⟩, ⟨nat_le_int w, by lia, by decide⟩, [0, msk w], by rw [← msk_eq]; rfl, rfl, (by decide : 2 ≤ 10), 2, ?_⟩
    · rw [fdiv_nat]; exact nat_le_int _
    · rw [fdiv_nat]
      exact Int.ofNat_le.mpr (Nat.le_trans hs (by decide))
    refine ⟨fun i => [("carry", .int (sy w A (n % w) i)), ("mask", .int (msk w)), ("few", .int ((n % w : Nat) : Int)), ("w", .int w)], fun i => digs w (A * 2 ^ n) (n / w + i), sub_of ⟨?_, rfl, ?_, rfl, trivial⟩, ?_, fun i a h => ?_, ?_⟩
    · exact int_eq (by rw [sy_zero]; rfl)
    · exact int_eq (fmod_nat _ _)
    · rw [fdiv_nat, Int.toNat_natCast]
      exact digs_low (n / w) (Nat.mul_div_le n w)
    · obtain ⟨z, hz, rfl⟩ := Option.map_eq_some_iff.mp ((List.getElem?_map ..).symm.trans h)
      have hi : i < nl w A := by
        have := (List.getElem?_eq_some_iff.mp hz).1
        rwa [limbs_length] at this
      obtain rfl : dg w A i = z := Option.some.inj ((digs_get hi).symm.trans hz)
      obtain ⟨e1, e2⟩ := sy_step w A (n % w) (n / w) i
      rw [en] at e2
      have hdg : (dg w A i).natAbs < 2 ^ 64 := by
        have h1 := dg_lt w A i
        have h0 := dg_nonneg w A i
        have : (2 : Int) ^ w ≤ 2 ^ 50 := by
          have := Nat.pow_le_pow_right (n := 2) (by decide) hw2
          exact_mod_cast this
        lia
      refine ⟨⟨nat_le_int _, by lia, hdg⟩, ?_, nat_le_int w, sub_of ⟨?_, rfl, rfl, rfl, trivial⟩, ?_⟩
      · rw [digs_length]; lia
      · rw [dgn, bor_add _ _ _ (sy_lt _ _ _ _)]; exact fw_shr _ _ _ e1
      · rw [dgn, bor_add _ _ _ (sy_lt _ _ _ _)]; exact band_dg _ _ _ _ e2
    · rw [List.length_map, limbs_length]
      have e := shift_limbs (s := n / w) hw hf hA0
      rw [en] at e
      refine ⟨fun q => ⟨?_, ?_⟩, fun q => ?_⟩
      · rw [digs_length]; lia
      · unfold lim; rw [e, if_pos (of_decide_eq_true q)]; rfl
      · unfold lim; rw [e, if_neg (of_decide_eq_false q)]; rfl)) .nat⟩
end Mine

end
section
open PySem PySem.Calls PySem.W PyProof.Rows
set_option Elab.async false
set_option linter.unusedVariables false
namespace Mine

def rv (w n L i : Nat) : List Int := (List.range i).map fun j => dg w n (L - 1 - j)
theorem rv_rev (w n L : Nat) : (pis (rv w n L L)).reverse = pis (digs w n L) := by rw [← digs_rev, ← List.map_reverse]; rfl
theorem rv_len (w n L i : Nat) : (rv w n L i).length = i := by simp [rv]
theorem rv_succ (w n L i : Nat) : rv w n L (i + 1) = rv w n L i ++ [dg w n (L - 1 - i)] := by unfold rv; rw [List.range_succ, List.map_append]; rfl
theorem rev_limb {w n i : Nat} {p : PV} (h : (pis (limbs w n)).reverse[i]? = some p) : i < nl w n ∧ p = .int (dg w n (nl w n - 1 - i)) := by
  have len : (pis (limbs w n)).length = nl w n := lim_len
  have hi : i < nl w n := by
    have := (List.getElem?_eq_some_iff.mp h).1
    rwa [List.length_reverse, len] at this
  rw [List.getElem?_reverse (by rwa [len]), len] at h
  exact ⟨hi, (Option.some.inj ((pis_get (digs_get (by lia))).symm.trans h)).symm⟩

theorem e37 (wd : World) : excNames wd "NotExact" 37 := ⟨rfl, by kernel_rfl⟩
theorem e49 (wd : World) : excNames wd "OutOfRange" 49 := ⟨rfl, by kernel_rfl⟩

def exactO (w : Nat) (x : Int) (d : Nat) : Out := if x.natAbs % d = 0 then .ret (.tup [.bool (decide (x < 0)), .nat w (x.natAbs / d)]) else .exc 37

set_option maxRecDepth 10000
theorem k_exact0 (wd : World) {w d : Nat} {x : Int} (hw : 0 < w) (hw2 : w ≤ 50) (hA : nl w x.natAbs ≤ 200) (hd : 0 < d) (hd2 : d ≤ 10) : CallOk wd 2 "exact_small" [.sgn w x, .int d, .int w] (exactO w x d) :=
  ⟨142, rfl, rfl, fn_ws 20 ["x", "d", "w"] rfl rfl (fun s => all3 fun a b c => BindsTo.of_eq rfl) rfl rfl rfl rfl rfl (by
    have hd0 : (d : Int) ≠ 0 := by lia
    have hd64 : (d : Int).natAbs < 2 ^ 64 := by lia
    refine ⟨rfl, fun _ _ => rfl, [], rfl, by decide, [0], rfl, rfl, (by decide : 1 ≤ 10), 1, ?_⟩
    refine ⟨fun i => [("rest", .int (ry w x.natAbs d (nl w x.natAbs) i)), ("x", .sgn w x), ("d", .int d), ("w", .int w)], fun i => rv w (x.natAbs / d) (nl w x.natAbs) i, sub_of ⟨int_eq (by rw [ry_zero (lt_pow_nl hw _)]; rfl), rfl, rfl, rfl, trivial⟩, rfl, fun i a h => ?_, ?_⟩
    · obtain ⟨hi, rfl⟩ := rev_limb h
      obtain ⟨e1, e2⟩ := ry_step (w := w) (A := x.natAbs) hd hi
      have hr : ry w x.natAbs d (nl w x.natAbs) i < d := Nat.mod_lt _ hd
      have ew : (ry w x.natAbs d (nl w x.natAbs) i : Int) * 2 ^ ((w : Int).toNat) + dg w x.natAbs (nl w x.natAbs - 1 - i) = ((ry w x.natAbs d (nl w x.natAbs) i * 2 ^ w + x.natAbs / 2 ^ (w * (nl w x.natAbs - 1 - i)) % 2 ^ w : Nat) : Int) := by
        rw [Int.toNat_natCast, dgn]; push_cast; rfl
      refine ⟨⟨nat_le_int w, by lia, by lia⟩, ⟨hd0, hd64⟩, ?_, hd0, sub_of ⟨?_, rfl, rfl, rfl, trivial⟩, ?_⟩
      · rw [rv_len]; lia
      · rw [ew]; exact int_eq (by rw [fmod_nat, e1])
      · rw [ew, fdiv_nat, e2]
        exact (rv_succ _ _ _ _).symm
    · rw [List.length_reverse, lim_len]
      dsimp only
      rw [ry_end]
      unfold exactO
      refine ⟨none, fun q => ⟨37, e37 wd, ?_⟩, fun q => ⟨?_, ?_⟩⟩
      · have h0 : x.natAbs % d ≠ 0 := fun e => bne_iff_ne.mp q (congrArg Int.ofNat e)
        rw [if_neg h0]; rfl
      · rw [List.length_map, rv_len]; lia
      · have h0 : x.natAbs % d = 0 := Int.ofNat_inj.mp (by simpa using q)
        rw [rv_rev, if_pos h0]
        exact ⟨_, (k_normal wd hw (Nat.lt_of_le_of_lt (Nat.div_le_self _ _) (lt_pow_nl hw _)) hA).deep (by decide), rfl⟩)⟩
end Mine

end
section
open PySem PySem.Calls PySem.W PyProof.Rows
set_option Elab.async false
set_option linter.unusedVariables false
namespace Mine

def Sm (k : Nat) (x : Int) : Prop := x.natAbs < 2 ^ k
theorem Sm.le {k m : Nat} {x : Int} (h : Sm k x) (e : k ≤ m) : Sm m x := Nat.lt_of_lt_of_le h (Nat.pow_le_pow_right (by decide) e)
theorem Sm.add {k m : Nat} {x y : Int} (h : Sm k x) (h' : Sm m y) : Sm (max k m + 1) (x + y) := by
  have h1 := h.le (Nat.le_max_left k m)
  have h2 := h'.le (Nat.le_max_right k m)
  unfold Sm at *
  rw [Nat.pow_succ]
  have := Int.natAbs_add_le x y
  lia
theorem Sm.neg {k : Nat} {x : Int} (h : Sm k x) : Sm k (-x) := by unfold Sm; rwa [Int.natAbs_neg]
theorem Sm.sub {k m : Nat} {x y : Int} (h : Sm k x) (h' : Sm m y) : Sm (max k m + 1) (x - y) := Int.sub_eq_add_neg ▸ h.add h'.neg
theorem Sm.shl {k n : Nat} {x : Int} (h : Sm k x) : Sm (k + n) (x * 2 ^ n) := by
  unfold Sm
  rw [Int.natAbs_mul, Int.natAbs_pow, Nat.pow_add]
  exact Nat.mul_lt_mul_of_pos_right h (Nat.two_pow_pos n)
theorem Sm.div {k : Nat} {x d : Int} (h : Sm k x) : Sm k (x / d) := Nat.lt_of_le_of_lt (Int.natAbs_ediv_le_natAbs x d) h
theorem Sm.nl {w k : Nat} {x : Int} (hw : 0 < w) (h : Sm k x) (hk : k ≤ 200) : nl w x.natAbs ≤ 200 :=
  (nl_le_iff hw _ _).mpr (Nat.lt_of_lt_of_le h (Nat.pow_le_pow_right (by decide) (Nat.le_trans hk (Nat.le_mul_of_pos_left _ hw))))

set_option maxRecDepth 10000
theorem k_signed (wd : World) {w n : Nat} {b : Bool} (hw : 0 < w) (hn : nl w n ≤ 200) : CallOk wd 1 "signed" [.bool b, .nat w n] (.ret (.sgn w (if b then -n else n))) :=
  ⟨100, rfl, rfl, Fn.to (p := .tup [.bool (b && decide (0 < (nl w n : Int))), .nat w n]) (fn_ws 8 ["is_below", "nat"] rfl rfl (fun s => all2 fun a b => BindsTo.of_eq rfl) rfl rfl rfl rfl rfl
    ⟨_, fun _ => ⟨Nat.lt_of_le_of_lt hn (by decide), rfl⟩, rfl⟩)
    (rep_sgn (by
      have := lt_nl_iff hw n 0
      rw [Nat.mul_zero, Nat.pow_zero] at this
      cases b <;> simp <;> lia) (by cases b <;> simp))⟩
theorem k_sof (wd : World) {w : Nat} {x : Int} (hw : 0 < w) (hw2 : w ≤ 50) (hx : Sm 100 x) : CallOk wd 2 "s_of" [.int x, .int w] (.ret (.sgn w x)) :=
  ⟨107, rfl, rfl, Fn.to (p := .tup [.bool (decide (x < 0)), .nat w x.natAbs]) (fn_ws 9 ["number", "w"] rfl rfl (fun s => all2 fun a b => BindsTo.of_eq rfl) rfl rfl rfl rfl rfl
    ⟨_, k_natof wd hw (Nat.le_trans hw2 (by decide)) (hx.nl hw (by decide)), rfl⟩) .sgn⟩
theorem sgn_if {w : Nat} {x y : Int} (h : x = y) : FO.ret (.sgn w x) = Out.fo (.ret (.sgn w y)) := h ▸ rfl
theorem k_sneg (wd : World) {w : Nat} {x : Int} (hw : 0 < w) (hx : Sm 100 x) : CallOk wd 2 "s_neg" [.sgn w x] (.ret (.sgn w (-x))) :=
  ⟨114, rfl, rfl, fn_ws 9 ["x"] rfl rfl (fun s => all1 fun a => BindsTo.of_eq rfl) rfl rfl rfl rfl rfl
    ⟨_, k_signed wd hw (hx.nl hw (by decide)), sgn_if (by by_cases c : x < 0 <;> simp [c] <;> lia)⟩⟩
theorem k_sadd (wd : World) {w : Nat} {x y : Int} (hw : 0 < w) (hw2 : w ≤ 50) (hx : Sm 100 x) (hy : Sm 100 y) : CallOk wd 3 "s_add" [.sgn w x, .sgn w y, .int w] (.ret (.sgn w (x + y))) :=
  ⟨121, rfl, rfl, fn_ws 12 ["x", "y", "w"] rfl rfl (fun s => all3 fun a b c => BindsTo.of_eq rfl) rfl rfl rfl rfl rfl (by
    have nx := hx.nl hw (by decide)
    have ny := hy.nl hw (by decide)
    have hw3 : w ≤ 1000 := Nat.le_trans hw2 (by decide)
    have small : ∀ {n : Nat}, n < 2 ^ 101 → nl w n ≤ 200 := fun {n} h => Sm.nl (x := n) hw (k := 101) h (by decide)
    have bx : x.natAbs < 2 ^ 100 := hx
    have by_ : y.natAbs < 2 ^ 100 := hy
    refine ⟨none, rfl, fun q => ⟨_, (k_add wd hw hw3 nx ny).deep (by decide), _, (k_signed wd hw (small (by lia))).deep (by decide), sgn_if ?_⟩, fun q => ⟨none, _, (k_compare wd hw nx ny).deep (by decide), fun c => ?_, fun c => ?_⟩⟩
    · have e : (x < 0) ↔ (y < 0) := by simpa using q
      by_cases c : x < 0
      · rw [decide_eq_true c, if_pos rfl]; lia
      · rw [decide_eq_false c, if_neg Bool.false_ne_true]; lia
    · rw [cmpN_neg] at c
      have c := of_decide_eq_true c
      have e : ¬((x < 0) ↔ (y < 0)) := fun e => by simp [e] at q
      refine ⟨_, (k_sub wd hw hw2 ny nx (Nat.le_of_lt c)), _, (k_signed wd hw (small (by lia))).deep (by decide), sgn_if ?_⟩
      by_cases d : y < 0
      · rw [decide_eq_true d, if_pos rfl]; lia
      · rw [decide_eq_false d, if_neg Bool.false_ne_true]; lia
    · rw [cmpN_neg] at c
      have c := of_decide_eq_false c
      have e : ¬((x < 0) ↔ (y < 0)) := fun e => by simp [e] at q
      refine ⟨_, (k_sub wd hw hw2 nx ny (Nat.le_of_not_lt c)), _, (k_signed wd hw (small (by lia))).deep (by decide), sgn_if ?_⟩
      by_cases d : x < 0
      · rw [decide_eq_true d, if_pos rfl]; lia
      · rw [decide_eq_false d, if_neg Bool.false_ne_true]; lia)⟩
theorem k_ssub (wd : World) {w : Nat} {x y : Int} (hw : 0 < w) (hw2 : w ≤ 50) (hx : Sm 100 x) (hy : Sm 100 y) : CallOk wd 4 "s_sub" [.sgn w x, .sgn w y, .int w] (.ret (.sgn w (x - y))) :=
  ⟨128, rfl, rfl, fn_ws 9 ["x", "y", "w"] rfl rfl (fun s => all3 fun a b c => BindsTo.of_eq rfl) rfl rfl rfl rfl rfl
    ⟨_, (k_sneg wd hw hy).deep (by decide), _, k_sadd wd hw hw2 hx hy.neg, sgn_if Int.sub_eq_add_neg.symm⟩⟩
theorem k_scaled (wd : World) {w n : Nat} {x : Int} (hw : 0 < w) (hw2 : w ≤ 50) (hx : Sm 100 x) (hn : n ≤ 60) : CallOk wd 2 "scaled" [.sgn w x, .int n, .int w] (.ret (.sgn w (x * 2 ^ n))) :=
  ⟨135, rfl, rfl, Fn.to (p := .tup [.bool (decide (x < 0)), .nat w (x.natAbs * 2 ^ n)]) (fn_ws 9 ["x", "n", "w"] rfl rfl (fun s => all3 fun a b c => BindsTo.of_eq rfl) rfl rfl rfl rfl rfl
    ⟨_, k_shift wd hw hw2 (hx.nl hw (by decide)) hn, rfl⟩) (rep_sgn (by
      have hp : (0 : Int) < 2 ^ n := Int.pow_pos (by decide)
      exact decide_eq_decide.mpr ⟨fun h => Int.mul_neg_of_neg_of_pos h hp, fun h => Int.not_le.mp fun h' => Int.not_le.mpr h (Int.mul_nonneg h' (Int.le_of_lt hp))⟩) (by rw [Int.natAbs_mul, Int.natAbs_pow]; rfl))⟩
end Mine

end
section
open PySem PySem.Calls PySem.W PyProof.Rows
set_option Elab.async false
set_option linter.unusedVariables false
namespace Mine

/-- a division that has to come out even -/
def exK (x d : Int) (k : Int → Out) : Out := if x % d = 0 then k (x / d) else .exc 37
theorem exK_pos {x d : Int} {k : Int → Out} (h : x % d = 0) : exK x d k = k (x / d) := if_pos h
theorem exK_neg {x d : Int} {k : Int → Out} (h : ¬x % d = 0) : exK x d k = .exc 37 := if_neg h
def natL (w : Nat) (xs : List Int) : Out := if xs.all (fun x => decide (0 ≤ x)) = true then .ret (.list (xs.map fun x => .nat w x.natAbs)) else .exc 49

theorem k_exact (wd : World) {w d : Nat} {x : Int} (hw : 0 < w) (hw2 : w ≤ 50) (hx : Sm 100 x) (hd : 0 < d) (hd2 : d ≤ 10) : CallOk wd 2 "exact_small" [.sgn w x, .int d, .int w] (exK x d fun y => .ret (.sgn w y)) := by
  have h := k_exact0 wd hw hw2 (hx.nl hw (by decide)) hd hd2
  unfold exactO at h
  by_cases c : x % (d : Int) = 0
  · have hdv : (d : Int) ∣ x := Int.dvd_of_emod_eq_zero c
    have hn : d ∣ x.natAbs := Int.ofNat_dvd_left.mp hdv
    rw [if_pos (Nat.mod_eq_zero_of_dvd hn)] at h
    rw [exK_pos c]
    obtain ⟨a, h1, h2, h3⟩ := h
    refine ⟨a, h1, h2, h3.to (rep_sgn ?_ ?_)⟩
    · obtain ⟨y, rfl⟩ := hdv
      rw [Int.mul_ediv_cancel_left _ (by lia)]
      have hp : (0 : Int) < d := by lia
      exact decide_eq_decide.mpr ⟨fun h => Int.not_le.mp fun h' => Int.not_le.mpr h (Int.mul_nonneg (Int.le_of_lt hp) h'), fun h => Int.mul_neg_of_pos_of_neg hp h⟩
    · rw [Int.natAbs_ediv_of_dvd hdv]; rfl
  · rw [if_neg (fun e => c (Int.emod_eq_zero_of_dvd (Int.ofNat_dvd_left.mpr (Nat.dvd_of_mod_eq_zero e))))] at h
    rwa [exK_neg c]

set_option maxRecDepth 10000
theorem k_natural (wd : World) {w : Nat} {x : Int} : CallOk wd 1 "natural" [.sgn w x] (if x < 0 then .exc 49 else .ret (.nat w x.natAbs)) :=
  ⟨156, rfl, rfl, fn_ws 9 ["x"] rfl rfl (fun s => all1 fun a => BindsTo.of_eq rfl) rfl rfl rfl rfl rfl
    ⟨none, fun q => ⟨49, e49 wd, by rw [if_pos (of_decide_eq_true q)]; rfl⟩, fun q => by rw [if_neg (of_decide_eq_false q)]; rfl⟩⟩

def hvO (w : Nat) (p m : Int) : Out := exK (p + m) 2 fun e => exK (p - m) 2 fun o => .ret (.tup [.sgn w e, .sgn w o])
theorem k_halves (wd : World) {w : Nat} {p m : Int} (hw : 0 < w) (hw2 : w ≤ 50) (hp : Sm 98 p) (hm : Sm 98 m) : CallOk wd 5 "halves_of" [.sgn w p, .sgn w m, .int w] (hvO w p m) :=
  ⟨149, rfl, rfl, fn_ws 9 ["plus", "minus", "w"] rfl rfl (fun s => all3 fun a b c => BindsTo.of_eq rfl) rfl rfl rfl rfl rfl (by
    refine ⟨_, (k_sadd wd hw hw2 (hp.le (by decide)) (hm.le (by decide))).deep (by decide), _, (k_exact wd (d := 2) hw hw2 ((hp.add hm).le (by decide)) (by decide) (by decide)).deep (by decide), ?_⟩
    unfold hvO
    by_cases c : (p + m) % 2 = 0
    · rw [exK_pos c, exK_pos (show (p + m) % ((2 : Nat) : Int) = 0 from c)]
      refine ⟨_, (k_ssub wd hw hw2 (hp.le (by decide)) (hm.le (by decide))).deep (by decide), _, (k_exact wd (d := 2) hw hw2 ((hp.sub hm).le (by decide)) (by decide) (by decide)).deep (by decide), ?_⟩
      by_cases e : (p - m) % 2 = 0
      · rw [exK_pos e, exK_pos (show (p - m) % ((2 : Nat) : Int) = 0 from e)]; rfl
      · rw [exK_neg e, exK_neg (show ¬(p - m) % ((2 : Nat) : Int) = 0 from e)]; rfl
    · rw [exK_neg c, exK_neg (show ¬(p + m) % ((2 : Nat) : Int) = 0 from c)]; rfl)⟩
end Mine

end
section
open PySem PySem.Calls PySem.W PyProof.Rows
set_option Elab.async false
set_option linter.unusedVariables false
namespace Mine

def natG (p : PV) : Option Out := match p with | .sgn w x => some (if x < 0 then .exc 49 else .ret (.nat w x.natAbs)) | _ => none
theorem runG_nat0 (w : Nat) : ∀ (xs : List Int) (acc : List PV), runG natG (xs.map fun x => .sgn w x) acc = if xs.all (fun x => decide (0 ≤ x)) = true then .ret (.list (acc ++ xs.map fun x => .nat w x.natAbs)) else .exc 49
  | [], acc => by rw [List.map_nil, List.map_nil, List.append_nil]; rfl
  | x :: xs, acc => by
    rw [List.map_cons, List.all_cons]
    by_cases c : x < 0
    · have e : natG (.sgn w x) = some (.exc 49) := congrArg some (if_pos c)
      unfold runG
      rw [e, decide_eq_false (Int.not_le.mpr c)]; rfl
    · have e : natG (.sgn w x) = some (.ret (.nat w x.natAbs)) := congrArg some (if_neg c)
      unfold runG
      rw [e, decide_eq_true (Int.not_lt.mp c)]
      show runG natG _ _ = _
      rw [runG_nat0 w xs, Bool.true_and, List.map_cons, List.append_assoc]; rfl
theorem runG_nat (w : Nat) (xs : List Int) : runG natG (xs.map fun x => .sgn w x) [] = natL w xs := runG_nat0 w xs []

theorem thenK_fo {k : Sto → Prop} {K : FO → Prop} {o : Out} (h : K o.fo) : thenK k K o.fo := by cases o <;> exact h
theorem tmO_f {K : Out → Prop} {o : Out} (h : K o) : tmO false K o := by cases o <;> exact h

def fourO (w : Nat) (z p m f : Int) : Out := exK (p + m) 2 fun e => exK (p - m) 2 fun o => natL w [z, o - f, e - z, f]

set_option maxRecDepth 10000
theorem k_four (wd : World) {w : Nat} {z p m f : Int} (hw : 0 < w) (hw2 : w ≤ 50) (hz : Sm 60 z) (hp : Sm 60 p) (hm : Sm 60 m) (hf : Sm 60 f) : CallOk wd 6 "from_four" [.sgn w z, .sgn w p, .sgn w m, .sgn w f, .int w] (fourO w z p m f) :=
  ⟨161, rfl, rfl, fn_ws 20 ["at_zero", "plus", "minus", "at_far", "w"] rfl rfl (fun s => all5 fun a b c d e => BindsTo.of_eq rfl) rfl rfl rfl rfl rfl (by
    refine ⟨_, k_halves wd hw hw2 (hp.le (by decide)) (hm.le (by decide)), ?_⟩
    unfold hvO fourO
    by_cases c : (p + m) % 2 = 0
    rotate_left
    · rw [exK_neg c, exK_neg c]; rfl
    by_cases e : (p - m) % 2 = 0
    rotate_left
    · rw [exK_pos c, exK_pos c, exK_neg e, exK_neg e]; rfl
    rw [exK_pos c, exK_pos e, exK_pos c, exK_pos e]
    have he : Sm 61 ((p + m) / 2) := (hp.add hm).div
    have ho : Sm 61 ((p - m) / 2) := (hp.sub hm).div
    refine ⟨rfl, _, (k_ssub wd hw hw2 (he.le (by decide)) (hz.le (by decide))).deep (by decide), _, (k_ssub wd hw hw2 (ho.le (by decide)) (hf.le (by decide))).deep (by decide), (by decide : 4 ≤ 1000), natG, fun q hq => ?_, thenK_fo (congrArg Out.fo (runG_nat w [z, (p - m) / 2 - f, (p + m) / 2 - z, f]))⟩
    obtain ⟨x, _, rfl⟩ := List.mem_map.mp (show q ∈ [z, (p - m) / 2 - f, (p + m) / 2 - z, f].map fun x => PV.sgn w x from hq)
    exact ⟨fun _ => ⟨_, (k_natural wd).deep (by decide), tmO_f rfl⟩, fun q => nomatch q⟩)⟩
end Mine

end
section
open PySem PySem.Calls PySem.W PyProof.Rows
set_option Elab.async false
set_option linter.unusedVariables false
namespace Mine

theorem tmO_ex {x d : Int} {kk : Int → Out} {K : Out → Prop} (h1 : x % d = 0 → tmO false K (kk (x / d))) (h2 : ¬x % d = 0 → K (.exc 37)) : tmO false K (exK x d kk) := by
  by_cases c : x % d = 0
  · rw [exK_pos c]; exact h1 c
  · rw [exK_neg c]; exact h2 c
theorem fo_exc {o : Out} {c : Addr} (h : o = .exc c) : FO.exc c = Out.fo o := by rw [h]; rfl
/-- the last comprehension -/
theorem nat_turn {w : Nat} {xs : List Int} {P : PV → Prop} (h : ∀ x, P (.sgn w x)) : ∀ p ∈ xs.map (fun x => PV.sgn w x), P p := fun p hp => by
  obtain ⟨x, _, rfl⟩ := List.mem_map.mp hp
  exact h x

def fiveO (w : Nat) (z p m t f : Int) : Out := exK (t - m) 3 fun a => exK (p - m) 2 fun o => exK (a - (p - z)) 2 fun b => natL w [z, o - (b - f * 2 ^ 1), p - z - o - f, b - f * 2 ^ 1, f]

set_option maxRecDepth 10000
theorem k_five (wd : World) {w : Nat} {z p m t f : Int} (hw : 0 < w) (hw2 : w ≤ 50) (hz : Sm 60 z) (hp : Sm 60 p) (hm : Sm 60 m) (ht : Sm 60 t) (hf : Sm 60 f) :
    CallOk wd 6 "from_five" [.sgn w z, .sgn w p, .sgn w m, .sgn w t, .sgn w f, .int w] (fiveO w z p m t f) :=
  ⟨166, rfl, rfl, fn_ws 20 ["at_zero", "plus", "minus", "at_two", "at_far", "w"] rfl rfl (fun s => all6 fun a b c d e f => BindsTo.of_eq rfl) rfl rfl rfl rfl rfl (by
    have sub : ∀ {a b x y}, Sm a x → Sm b y → a ≤ 100 → b ≤ 100 → CallOk wd 5 "s_sub" [.sgn w x, .sgn w y, .int w] (.ret (.sgn w (x - y))) := fun h h' e e' => (k_ssub wd hw hw2 (h.le e) (h'.le e')).deep (by decide)
    have ex : ∀ {a x} {d : Nat}, Sm a x → a ≤ 100 → 0 < d → d ≤ 10 → CallOk wd 5 "exact_small" [.sgn w x, .int d, .int w] (exK x d fun y => .ret (.sgn w y)) := fun h e e1 e2 => (k_exact wd hw hw2 (h.le e) e1 e2).deep (by decide)
    have s1 := ht.sub hm
    have s2 := hp.sub hm
    have s3 := hp.sub hz
    refine ⟨_, sub ht hm (by decide) (by decide), _, ex (d := 3) s1 (by decide) (by decide) (by decide), tmO_ex (fun c1 => ?_) (fun c1 => fo_exc (exK_neg c1))⟩
    have s4 : Sm 61 ((t - m) / ((3 : Nat) : Int)) := s1.div
    refine ⟨_, sub hp hm (by decide) (by decide), _, ex (d := 2) s2 (by decide) (by decide) (by decide), tmO_ex (fun c2 => ?_) (fun c2 => fo_exc ((exK_pos c1).trans (exK_neg c2)))⟩
    have s5 : Sm 61 ((p - m) / ((2 : Nat) : Int)) := s2.div
    refine ⟨_, sub hp hz (by decide) (by decide), _, sub s4 s3 (by decide) (by decide), _, ex (d := 2) (s4.sub s3) (by decide) (by decide) (by decide), tmO_ex (fun c3 => ?_) (fun c3 => fo_exc ((exK_pos c1).trans ((exK_pos c2).trans (exK_neg c3))))⟩
    have s6 : Sm 62 (((t - m) / ((3 : Nat) : Int) - (p - z)) / ((2 : Nat) : Int)) := (s4.sub s3).div
    have s7 := hf.shl (n := 1)
    refine ⟨_, sub s3 s5 (by decide) (by decide), _, sub (s3.sub s5) hf (by decide) (by decide), _, (k_scaled wd (n := 1) hw hw2 (hf.le (by decide)) (by decide)).deep (by decide), _, sub s6 s7 (by decide) (by decide), _, sub s5 (s6.sub s7) (by decide) (by decide), (by decide : 5 ≤ 1000), natG, nat_turn (xs := [_, _, _, _, _]) fun x => ⟨fun _ => ⟨_, (k_natural wd).deep (by decide), tmO_f rfl⟩, fun q => nomatch q⟩, thenK_fo ?_⟩
    exact (congrArg Out.fo (runG_nat w [_, _, _, _, _])).trans (congrArg Out.fo ((exK_pos c1).trans ((exK_pos c2).trans (exK_pos c3))).symm))⟩
end Mine

end
section
open PySem PySem.Calls PySem.W PyProof.Rows
set_option Elab.async false
set_option linter.unusedVariables false
namespace Mine

def evO (w : Nat) (a b z f : Int) : Out := exK (b - z - f * 2 ^ 6) 4 fun q => exK (q - (a - z - f)) 3 fun g => .ret (.tup [.sgn w (a - z - f - g), .sgn w g])
def odO (w : Nat) (a b h : Int) : Out := exK (b - a) 3 fun lo => exK (a * 2 ^ 4 - h) 3 fun hi => exK (hi - lo) 3 fun th => exK (lo - th) 5 fun fi => .ret (.tup [.sgn w (a - th - fi), .sgn w th, .sgn w fi])

theorem fo_ret {o : Out} {p : PV} (h : o = .ret p) : FO.ret p = Out.fo o := by rw [h]; rfl
theorem sub5 (wd : World) {w : Nat} (hw : 0 < w) (hw2 : w ≤ 50) {d : Nat} (hd : 4 ≤ d) {a b : Nat} {x y : Int} (h : Sm a x) (h' : Sm b y) (e : a ≤ 100) (e' : b ≤ 100) : CallOk wd d "s_sub" [.sgn w x, .sgn w y, .int w] (.ret (.sgn w (x - y))) := (k_ssub wd hw hw2 (h.le e) (h'.le e')).deep hd
theorem ex5 (wd : World) {w : Nat} (hw : 0 < w) (hw2 : w ≤ 50) {d : Nat} (hd : 2 ≤ d) {a : Nat} {x : Int} {q : Nat} (h : Sm a x) (e : a ≤ 100) (e1 : 0 < q) (e2 : q ≤ 10) : CallOk wd d "exact_small" [.sgn w x, .int q, .int w] (exK x q fun y => .ret (.sgn w y)) := (k_exact wd hw hw2 (h.le e) e1 e2).deep hd
theorem sc5 (wd : World) {w : Nat} (hw : 0 < w) (hw2 : w ≤ 50) {d : Nat} (hd : 2 ≤ d) {a : Nat} {x : Int} {n : Nat} (h : Sm a x) (e : a ≤ 100) (e1 : n ≤ 60) : CallOk wd d "scaled" [.sgn w x, .int n, .int w] (.ret (.sgn w (x * 2 ^ n))) := (k_scaled wd hw hw2 (h.le e) e1).deep hd

set_option maxRecDepth 10000
theorem k_even (wd : World) {w : Nat} {a b z f : Int} (hw : 0 < w) (hw2 : w ≤ 50) (ha : Sm 61 a) (hb : Sm 61 b) (hz : Sm 60 z) (hf : Sm 60 f) : CallOk wd 6 "even_coefficients" [.sgn w a, .sgn w b, .sgn w z, .sgn w f, .int w] (evO w a b z f) :=
  ⟨173, rfl, rfl, fn_ws 20 ["even_one", "even_two", "at_zero", "at_far", "w"] rfl rfl (fun s => all5 fun a b c d e => BindsTo.of_eq rfl) rfl rfl rfl rfl rfl (by
    have s1 := ha.sub hz
    have s2 := s1.sub hf
    have s3 := hb.sub hz
    have s4 := hf.shl (n := 6)
    have s5 := s3.sub s4
    refine ⟨_, sub5 wd hw hw2 (by decide) ha hz (by decide) (by decide), _, sub5 wd hw hw2 (by decide) s1 hf (by decide) (by decide), _, sub5 wd hw hw2 (by decide) hb hz (by decide) (by decide), _, sc5 wd hw hw2 (n := 6) (by decide) hf (by decide) (by decide), _, sub5 wd hw hw2 (by decide) s3 s4 (by decide) (by decide),
      _, ex5 wd hw hw2 (q := 4) (by decide) s5 (by decide) (by decide) (by decide), tmO_ex (fun c1 => ?_) (fun c1 => ⟨⟨_, rfl, rfl⟩, ⟨_, rfl, rfl⟩, fo_exc (exK_neg c1)⟩)⟩
    have s6 : Sm 67 ((b - z - f * 2 ^ 6) / ((4 : Nat) : Int)) := s5.div
    have s7 := s6.sub s2
    refine ⟨_, sub5 wd hw hw2 (by decide) s6 s2 (by decide) (by decide), _, ex5 wd hw hw2 (q := 3) (by decide) s7 (by decide) (by decide) (by decide), tmO_ex (fun c2 => ?_) (fun c2 => show FO.exc 37 = Out.fo (evO w a b z f) from fo_exc ((exK_pos c1).trans (exK_neg c2)))⟩
    have s8 : Sm 68 (((b - z - f * 2 ^ 6) / ((4 : Nat) : Int) - (a - z - f)) / ((3 : Nat) : Int)) := s7.div
    refine ⟨_, sub5 wd hw hw2 (by decide) s2 s8 (by decide) (by decide), ?_⟩
    exact show _ = Out.fo (evO w a b z f) from fo_ret ((exK_pos c1).trans (exK_pos c2)))⟩
theorem k_odd (wd : World) {w : Nat} {a b h : Int} (hw : 0 < w) (hw2 : w ≤ 50) (ha : Sm 80 a) (hb : Sm 80 b) (hh : Sm 80 h) : CallOk wd 6 "odd_coefficients" [.sgn w a, .sgn w b, .sgn w h, .int w] (odO w a b h) :=
  ⟨180, rfl, rfl, fn_ws 20 ["odd_one", "odd_two", "odd_half", "w"] rfl rfl (fun s => all4 fun a b c d => BindsTo.of_eq rfl) rfl rfl rfl rfl rfl (by
    have s1 := hb.sub ha
    have s2 := ha.shl (n := 4)
    have s3 := s2.sub hh
    refine ⟨_, sub5 wd hw hw2 (by decide) hb ha (by decide) (by decide), _, ex5 wd hw hw2 (q := 3) (by decide) s1 (by decide) (by decide) (by decide), tmO_ex (fun c1 => ?_) (fun c1 => fo_exc (exK_neg c1))⟩
    have s4 : Sm 81 ((b - a) / ((3 : Nat) : Int)) := s1.div
    refine ⟨_, sc5 wd hw hw2 (n := 4) (by decide) ha (by decide) (by decide), _, sub5 wd hw hw2 (by decide) s2 hh (by decide) (by decide), _, ex5 wd hw hw2 (q := 3) (by decide) s3 (by decide) (by decide) (by decide), tmO_ex (fun c2 => ?_) (fun c2 => show FO.exc 37 = Out.fo (odO w a b h) from fo_exc ((exK_pos c1).trans (exK_neg c2)))⟩
    have s5 : Sm 85 ((a * 2 ^ 4 - h) / ((3 : Nat) : Int)) := s3.div
    have s6 := s5.sub s4
    refine ⟨_, sub5 wd hw hw2 (by decide) s5 s4 (by decide) (by decide), _, ex5 wd hw hw2 (q := 3) (by decide) s6 (by decide) (by decide) (by decide), tmO_ex (fun c3 => ?_) (fun c3 => show FO.exc 37 = Out.fo (odO w a b h) from fo_exc ((exK_pos c1).trans ((exK_pos c2).trans (exK_neg c3))))⟩
    have s7 : Sm 86 (((a * 2 ^ 4 - h) / ((3 : Nat) : Int) - (b - a) / ((3 : Nat) : Int)) / ((3 : Nat) : Int)) := s6.div
    have s8 := s4.sub s7
    refine ⟨_, sub5 wd hw hw2 (by decide) s4 s7 (by decide) (by decide), _, ex5 wd hw hw2 (q := 5) (by decide) s8 (by decide) (by decide) (by decide), tmO_ex (fun c4 => ?_) (fun c4 => show FO.exc 37 = Out.fo (odO w a b h) from fo_exc ((exK_pos c1).trans ((exK_pos c2).trans ((exK_pos c3).trans (exK_neg c4)))))⟩
    refine ⟨_, sub5 wd hw hw2 (by decide) ha s7 (by decide) (by decide), _, sub5 wd hw hw2 (by decide) (ha.sub s7) s8.div (by decide) (by decide), ?_⟩
    exact show _ = Out.fo (odO w a b h) from fo_ret ((exK_pos c1).trans ((exK_pos c2).trans ((exK_pos c3).trans (exK_pos c4)))))⟩
end Mine

end
section
open PySem PySem.Calls PySem.W PyProof.Rows
set_option Elab.async false
set_option linter.unusedVariables false
namespace Mine

def lefV (h z f s g : Int) : Int := h - z * 2 ^ 6 - s * 2 ^ 4 - g * 2 ^ 2 - f
def sevenO (w : Nat) (z p m t l h f : Int) : Out := exK (p + m) 2 fun e1 => exK (p - m) 2 fun o1 => exK (t + l) 2 fun e2 => exK (t - l) 2 fun o2 =>
  exK (e2 - z - f * 2 ^ 6) 4 fun a => exK (a - (e1 - z - f)) 3 fun g => exK o2 2 fun o2' => exK (lefV h z f (e1 - z - f - g) g) 2 fun h' =>
  exK (o2' - o1) 3 fun lo => exK (o1 * 2 ^ 4 - h') 3 fun hi => exK (hi - lo) 3 fun th => exK (lo - th) 5 fun fi => natL w [z, o1 - th - fi, e1 - z - f - g, th, g, fi, f]

set_option maxRecDepth 10000
set_option maxHeartbeats 4000000 in
theorem k_seven (wd : World) {w : Nat} {z p m t l h f : Int} (hw : 0 < w) (hw2 : w ≤ 50) (hz : Sm 60 z) (hp : Sm 60 p) (hm : Sm 60 m) (ht : Sm 60 t) (hl : Sm 60 l) (hh : Sm 60 h) (hf : Sm 60 f) :
    CallOk wd 7 "from_seven" [.sgn w z, .tup [.sgn w p, .sgn w m], .tup [.sgn w t, .sgn w l], .sgn w h, .sgn w f, .int w] (sevenO w z p m t l h f) :=
  ⟨185, rfl, rfl, fn_ws 20 ["at_zero", "ones", "twos", "at_half", "at_far", "w"] rfl rfl (fun s => all6 fun a b c d e f => BindsTo.of_eq rfl) rfl rfl rfl rfl rfl (by
    refine ⟨_, (k_halves wd hw hw2 (hp.le (by decide)) (hm.le (by decide))).deep (by decide), tmO_ex (fun c1 => ?_) (fun c1 => show FO.exc 37 = Out.fo (sevenO w z p m t l h f) from fo_exc (exK_neg c1))⟩
    refine tmO_ex (fun c2 => ?_) (fun c2 => show FO.exc 37 = Out.fo (sevenO w z p m t l h f) from fo_exc ((exK_pos c1).trans (exK_neg c2)))
    have se1 : Sm 61 ((p + m) / 2) := (hp.add hm).div
    have so1 : Sm 61 ((p - m) / 2) := (hp.sub hm).div
    have se2 : Sm 61 ((t + l) / 2) := (ht.add hl).div
    have so2 : Sm 61 ((t - l) / 2) := (ht.sub hl).div
    refine ⟨rfl, _, (k_halves wd hw hw2 (ht.le (by decide)) (hl.le (by decide))).deep (by decide), tmO_ex (fun c3 => ?_) (fun c3 => show FO.exc 37 = Out.fo (sevenO w z p m t l h f) from fo_exc ((exK_pos c1).trans ((exK_pos c2).trans (exK_neg c3))))⟩
    refine tmO_ex (fun c4 => ?_) (fun c4 => show FO.exc 37 = Out.fo (sevenO w z p m t l h f) from fo_exc ((exK_pos c1).trans ((exK_pos c2).trans ((exK_pos c3).trans (exK_neg c4)))))
    have P4 : sevenO w z p m t l h f = _ := (exK_pos c1).trans ((exK_pos c2).trans ((exK_pos c3).trans (exK_pos c4)))
    refine ⟨rfl, _, k_even wd hw hw2 se1 se2 hz hf, tmO_ex (fun c5 => ?_) (fun c5 => show FO.exc 37 = Out.fo (sevenO w z p m t l h f) from fo_exc (P4.trans (exK_neg c5)))⟩
    refine tmO_ex (fun c6 => ?_) (fun c6 => show FO.exc 37 = Out.fo (sevenO w z p m t l h f) from fo_exc (P4.trans ((exK_pos c5).trans (exK_neg c6))))
    have P6 := P4.trans ((exK_pos c5).trans (exK_pos c6))
    have s1 := (se1.sub hz).sub hf
    have sg : Sm 68 ((((t + l) / 2 - z - f * 2 ^ 6) / 4 - ((p + m) / 2 - z - f)) / 3) := ((((se2.sub hz).sub (hf.shl (n := 6))).div).sub s1).div
    have s2 := s1.sub sg
    have s3 := hz.shl (n := 6)
    have s4 := hh.sub s3
    have s5 := s2.shl (n := 4)
    have s6 := s4.sub s5
    have s7 := sg.shl (n := 2)
    have s8 := s6.sub s7
    have s9 : Sm 76 (lefV h z f _ _) := s8.sub hf
    refine ⟨rfl, _, sc5 wd hw hw2 (n := 6) (by decide) hz (by decide) (by decide), _, sub5 wd hw hw2 (by decide) hh s3 (by decide) (by decide), _, sc5 wd hw hw2 (n := 4) (by decide) s2 (by decide) (by decide), _, sub5 wd hw hw2 (by decide) s4 s5 (by decide) (by decide),
      _, sc5 wd hw hw2 (n := 2) (by decide) sg (by decide) (by decide), _, sub5 wd hw hw2 (by decide) s6 s7 (by decide) (by decide), _, sub5 wd hw hw2 (by decide) s8 hf (by decide) (by decide),
      _, ex5 wd hw hw2 (q := 2) (by decide) so2 (by decide) (by decide) (by decide), tmO_ex (fun c7 => ?_) (fun c7 => ⟨⟨_, rfl, rfl⟩, show FO.exc 37 = Out.fo (sevenO w z p m t l h f) from fo_exc (P6.trans (exK_neg c7))⟩)⟩
    have P7 := P6.trans (exK_pos c7)
    refine ⟨_, ex5 wd hw hw2 (q := 2) (by decide) s9 (by decide) (by decide) (by decide), tmO_ex (fun c8 => ?_) (fun c8 => ⟨⟨_, rfl, rfl⟩, show FO.exc 37 = Out.fo (sevenO w z p m t l h f) from fo_exc (P7.trans (exK_neg c8))⟩)⟩
    have P8 := P7.trans (exK_pos c8)
    refine ⟨_, k_odd wd hw hw2 (so1.le (by decide)) ((so2.div).le (by decide)) ((s9.div).le (by decide)), tmO_ex (fun c9 => ?_) (fun c9 => show FO.exc 37 = Out.fo (sevenO w z p m t l h f) from fo_exc (P8.trans (exK_neg c9)))⟩
    refine tmO_ex (fun d1 => ?_) (fun d1 => show FO.exc 37 = Out.fo (sevenO w z p m t l h f) from fo_exc (P8.trans ((exK_pos c9).trans (exK_neg d1))))
    refine tmO_ex (fun d2 => ?_) (fun d2 => show FO.exc 37 = Out.fo (sevenO w z p m t l h f) from fo_exc (P8.trans ((exK_pos c9).trans ((exK_pos d1).trans (exK_neg d2)))))
    refine tmO_ex (fun d3 => ?_) (fun d3 => show FO.exc 37 = Out.fo (sevenO w z p m t l h f) from fo_exc (P8.trans ((exK_pos c9).trans ((exK_pos d1).trans ((exK_pos d2).trans (exK_neg d3))))))
    have P12 := P8.trans ((exK_pos c9).trans ((exK_pos d1).trans ((exK_pos d2).trans (exK_pos d3))))
    refine ⟨rfl, (by decide : 7 ≤ 1000), natG, nat_turn (xs := [_, _, _, _, _, _, _]) fun x => ⟨fun _ => ⟨_, (k_natural wd).deep (by decide), tmO_f rfl⟩, fun q => nomatch q⟩, thenK_fo ?_⟩
    exact (congrArg Out.fo (runG_nat w [_, _, _, _, _, _, _])).trans (congrArg Out.fo P12.symm))⟩
end Mine

end
section
open PySem PySem.Calls PySem.W PyProof.Rows
set_option Elab.async false
set_option linter.unusedVariables false
namespace Mine

theorem cellsFrom_get {x : Str} : ∀ (names : List (Str × NameKind)) (n : Nat) (acc : List (Str × Addr)), ((x, NameKind.cell) ∈ names ∨ ∃ c, acc.lookup x = some c) → ∃ c, (cellsFrom n names acc).lookup x = some c
  | [], n, acc, h => h.elim (fun h => nomatch h) id
  | (y, k) :: r, n, acc, h => by
    unfold cellsFrom
    by_cases hk : (k == .cell) = true
    · rw [if_pos hk]
      refine cellsFrom_get r (n + 1) _ ?_
      by_cases e : x = y
      · exact .inr ⟨n, by rw [List.lookup_cons, e, beq_self_eq_true]⟩
      · rcases h with h | ⟨c, h⟩
        · rcases List.mem_cons.mp h with h | h
          · exact absurd (congrArg Prod.fst h) e
          · exact .inl h
        · exact .inr ⟨c, by rw [List.lookup_cons, show (x == y) = false from beq_false_of_ne e]; exact h⟩
    · rw [if_neg hk]
      refine cellsFrom_get r n acc ?_
      rcases h with h | h
      · rcases List.mem_cons.mp h with h | h
        · obtain rfl := congrArg Prod.snd h
          exact absurd rfl hk
        · exact .inl h
      · exact .inr h

theorem binds_get {kind : Str → Option NameKind} {y : Str} {v : Value} : ∀ (bs : List (Str × Value)) (m : Str → Option Value),
    (kind y = some .local → (bs.reverse.lookup y = some v ∨ (bs.reverse.lookup y = none ∧ m y = some v)) → bindL kind bs m y = some v) ∧
    (kind y ≠ some .local → (bs.reverse.lookup y = some v ∨ (bs.reverse.lookup y = none ∧ m y = some v)) → bindC kind bs m y = some v)
  | [], m => ⟨fun _ h => h.elim (fun h => nomatch h) (·.2), fun _ h => h.elim (fun h => nomatch h) (·.2)⟩
  | (n, u) :: r, m => by
    have key : ∀ m' : Str → Option Value, (if y = n then m' y = some u else m' y = m y) → (((n, u) :: r).reverse.lookup y = some v ∨ (((n, u) :: r).reverse.lookup y = none ∧ m y = some v)) → (r.reverse.lookup y = some v ∨ (r.reverse.lookup y = none ∧ m' y = some v)) := fun m' hm h => by
      rw [List.reverse_cons, List.lookup_append, List.lookup_cons, List.lookup_nil] at h
      cases hr : r.reverse.lookup y with
      | some z => rw [hr] at h; simpa using h
      | none =>
        rw [hr] at h
        refine .inr ⟨rfl, ?_⟩
        by_cases e : y = n
        · rw [if_pos e] at hm
          rw [hm]
          simpa [e] using h
        · rw [if_neg e] at hm
          rw [hm]
          simpa [show (y == n) = false from beq_false_of_ne e] using h
    unfold bindL bindC
    refine ⟨fun hk h => (binds_get r _).1 hk (key _ ?_ h), fun hk h => (binds_get r _).2 hk (key _ ?_ h)⟩
    · by_cases e : y = n
      · subst e; rw [if_pos rfl, if_pos hk]; exact if_pos rfl
      · rw [if_neg e]
        split
        · exact if_neg e
        · rfl
    · by_cases e : y = n
      · subst e; rw [if_pos rfl, if_neg hk]; exact if_pos rfl
      · rw [if_neg e]
        split
        · rfl
        · exact if_neg e

theorem name_once {cs : List (Str × Addr)} (h : cs.Pairwise fun x y => x.2 ≠ y.2) {x y : Str} {c : Addr} (hx : cs.lookup x = some c) (hy : cs.lookup y = some c) : y = x := by
  replace hx := lookup_mem hx
  replace hy := lookup_mem hy
  induction h with
  | nil => cases hx
  | cons hd _ ih =>
    rcases List.mem_cons.mp hx with e | h1
    · subst e
      rcases List.mem_cons.mp hy with e | h2
      · exact congrArg Prod.fst e
      · exact (hd _ h2 rfl).elim
    · rcases List.mem_cons.mp hy with e | h2
      · subst e
        exact (hd _ h1 rfl).elim
      · exact ih h1 h2

noncomputable abbrev Cx.call (C : Cx) (h : Heap) (qual : Str) (scope : Scope) (f : Addr) (cdv : Value) : Cx :=
  mkC C.w C.X C.b h (C.A.deeper (envX qual scope h.objs.size f cdv (cellsFrom (h.objs.size + 1) scope.names []))) (envX qual scope h.objs.size f cdv (cellsFrom (h.objs.size + 1) scope.names [])) (C.fenv :: C.outer) (C.d - 1)

/-- entry of a function whose names inner blocks hold -/
theorem enter_wc {C : Cx} {f : Addr} {d : Nat} {ps : List PV} {oc : Value} {od : Option Addr} {name qual : Str} {params : Arguments} {body : List Stmt} {scope : Scope} {dV kV doc pm cdv ct : Value} {an : Option Addr} {osl : Array (Option Value)} (xs : List Str)
    (ho : (KF C.w).lookup f = some ⟨oc, od, .func (fnOf name qual params body scope dV kV doc pm an cdv ct), osl⟩) (hcd : codeIn (KF C.w) cdv qual = true)
    (hbind : ∀ (vs : List Value), vs.length = ps.length → bindArgs (fnOf name qual params body scope dV kV doc pm an cdv ct) ⟨vs, []⟩ = pure (xs.zip vs))
    (hloc : (xs.all fun x => decide (scope.names.lookup x = some .local) || decide (scope.names.lookup x = some .cell)) = true) (hnc : noCells scope = false)
    (hco : scope.isCoroutine = false) (hgen : scope.isGenerator = false) (hk : scope.kind = .function) (O : Ok C) (hd : d + 1 ≤ C.d) {s : Shared} {vs : List Value} {Q : Value → Shared → Prop} {E : Value → Shared → Prop} (G : Gr C s.heap) (R : Reps C.X s.heap vs ps)
    (h : ∀ h₁ tk₁, Ok (C.call s.heap qual scope f cdv) → d ≤ (C.call s.heap qual scope f cdv).d → Cel (C.call s.heap qual scope f cdv) → Fs (C.call s.heap qual scope f cdv) ((xs.zip ps).reverse) h₁ →
      wpAny C.M (C.call s.heap qual scope f cdv).A (execs body (C.call s.heap qual scope f cdv).env) (fun fl s' => Q (match fl with | .ret v => v | _ => .none) s')
        (fun e s' => wpAny C.M (C.call s.heap qual scope f cdv).A (leaving (C.call s.heap qual scope f cdv).env e) (fun _ s'' => E e s'') (fun e' s'' => E e' s'') s') { s with heap := h₁, toks := tk₁ }) :
    wpAny C.M C.A (call (.ref f) vs) Q E s := by
  refine wpAny_call ?_
  obtain ⟨mean, mg, mb, T⟩ := O.bs.top
  have hz := Heap.get?_none_of_le (h := s.heap) (Nat.le_refl _)
  have kindL : ∀ x ∈ xs, scope.names.lookup x = some .local ∨ scope.names.lookup x = some .cell := fun x hx => by simpa only [Bool.or_eq_true, decide_eq_true_eq] using List.all_eq_true.mp hloc x hx
  have hb0 : C.b.get? s.heap.objs.size = none := by
    cases q : C.b.get? s.heap.objs.size with
    | none => rfl
    | some o => have := G.stays _ _ q; rw [hz] at this; cases this
  refine codeAny_call_cells (fd := fnOf name qual params body scope dV kV doc pm an cdv ct) (body := body) (binds := xs.zip vs) (by have := O.depth; lia) (G.stays _ _ (O.bs.inn _ _ ho)) rfl (T.nolimit.keeps G.stays)
    (codeRec_of (O.bs.inn.keeps G.stays) hcd) rfl (hbind _ R.length) rfl (fun x hx => (kindL _ (List.of_mem_zip (show (x.1, x.2) ∈ _ from hx)).1).imp id fun q => ⟨q, Option.isSome_iff_exists.mpr (cellsFrom_get _ _ _ (.inl (lookup_mem q)))⟩) (fun s₁ x => ?_) hco hgen hk
  obtain ⟨h₁, tk₁, rfl, hk₁⟩ := x.done
  have hO : Ok (C.call s.heap qual scope f cdv) :=
    { bs := O.bs, hh := O.hh, fr := Around.frames_deeper O.fr, ff := rfl, kind := hk, glob := rfl, bi := rfl, off := hz, bg := G.stays, tp := fun q => Bool.noConfusion (show false = true from q),
      depth := by have := O.depth; show C.A.depth + 1 + (C.d - 1) < _; lia
      units := by have := O.units; show C.A.units + 3 + 8 * (C.d - 1) < _; lia
      clo := fun x q => cellsFrom_get _ _ _ (.inl (lookup_mem q))
      cel := fun _ y c e => ⟨Heap.get?_none_of_le (Nat.le_of_lt (x.above y c (lookup_mem e))), fun z ez => name_once x.apart e ez⟩ }
  refine h h₁ tk₁ hO (Nat.le_sub_of_add_le hd) ⟨rfl, fun q => by rw [show noCells scope = true from q] at hnc; cases hnc⟩ ?_
  refine ⟨xs_stays hk₁ G.xs, hk₁, Heap.FunFrames.cons (by show scope.kind ≠ .module; rw [hk]; decide) rfl x.toInCall.ns hb0 (funFrames_stays hk₁ G.frames), ⟨_, x.toInCall.ns, fun y p e => ?_⟩, fun y c e => ⟨_, x.cell y c e⟩⟩
  obtain ⟨v, hv, rv⟩ := (Par.zip xs (R.mono (SeqKeep.of_stays hk₁))).reverse.lookup e
  rcases kindL y (List.of_mem_zip (List.mem_reverse.mp (lookup_mem e))).1 with q | q
  · exact .inl ⟨q, v, (binds_get _ _).1 q (.inl hv), rv⟩
  · obtain ⟨c, hc⟩ := cellsFrom_get (x := y) scope.names (s.heap.objs.size + 1) [] (.inl (lookup_mem q))
    have := x.cell y c hc
    rw [(binds_get (y := y) (v := v) _ _).2 (fun z => by rw [show scope.names.lookup y = some .local from z] at q; cases q) (.inl hv)] at this
    exact .inr ⟨q, c, v, hc, this, rv⟩

theorem fn_wc {w : World} {f : Addr} {d : Nat} {ps : List PV} {o : Out} {oc : Value} {od : Option Addr} {name qual : Str} {params : Arguments} {body : List Stmt} {scope : Scope} {dV kV doc pm cdv ct : Value} {an : Option Addr} {osl : Array (Option Value)} (n : Nat) (xs : List Str)
    (ho : (KF w).lookup f = some ⟨oc, od, .func (fnOf name qual params body scope dV kV doc pm an cdv ct), osl⟩) (hcd : codeIn (KF w) cdv qual = true)
    (hbind : ∀ (vs : List Value), vs.length = ps.length → bindArgs (fnOf name qual params body scope dV kV doc pm an cdv ct) ⟨vs, []⟩ = pure (xs.zip vs))
    (hloc : (xs.all fun x => decide (scope.names.lookup x = some .local) || decide (scope.names.lookup x = some .cell)) = true) (hnc : noCells scope = false)
    (hco : scope.isCoroutine = false) (hgen : scope.isGenerator = false) (hk : scope.kind = .function)
    (h : WS w d n scope body ((xs.zip ps).reverse) (fun fo => fo = o.fo)) : Fn w f (d + 1) ps o := by
  rintro C rfl O hd s vs Q E G R P
  refine enter_wc xs ho hcd hbind hloc hnc hco hgen hk O hd G R fun h₁ tk₁ hO hd' hC F => WS_sound (C := C.call s.heap qual scope f cdv) n rfl hd' hO hC h _ _ _ F fun fo e => ?_
  subst e
  cases o with
  | ret p => exact fun v h' tk a b c => P v h' tk a (fun z => nomatch z) c
  | exc c =>
    intro e h' tk u r
    refine leaving_out (C := C.call s.heap qual scope f cdv) hO.fr rfl r fun h'' a0 x1 x2 => ?_
    exact P e h'' tk (u.trans x2) (.flew a0 x1)
end Mine

end
section
open PySem PySem.Calls PySem.W PyProof.Rows
set_option Elab.async false
set_option linter.unusedVariables false
namespace Mine

theorem runG_map (g : PV → PV) : ∀ (items acc : List PV), runG (fun p => some (.ret (g p))) items acc = .ret (.list (acc ++ items.map g))
  | [], acc => by rw [List.map_nil, List.append_nil]; rfl
  | p :: r, acc => by
    show runG _ r (acc ++ [g p]) = _
    rw [runG_map g r, List.append_assoc]; rfl
theorem enum_app : ∀ (xs ys : List PV) (j : Nat), enum j (xs ++ ys) = enum j xs ++ enum (j + xs.length) ys
  | [], ys, j => rfl
  | x :: xs, ys, j => by
    have := enum_app xs ys (j + 1)
    simp only [List.cons_append, enum, this, List.length_cons]
    rw [show j + 1 + xs.length = j + (xs.length + 1) by lia]
theorem pis_snoc (xs : List Int) (z : Int) : pis (xs ++ [z]) = pis xs ++ [.int z] := List.map_append

def worG (w : Nat) (p : PV) : PV := match p with | .tup (.int i :: .int a :: _) => .int (a * 2 ^ ((w : Int) * i).toNat) | _ => .none
theorem worth_sum (w n : Nat) : ∀ k, ∃ ns, (enum 0 (pis (digs w n k))).map (worG w) = pis ns ∧ ns.sum = ((n % 2 ^ (w * k) : Nat) : Int)
  | 0 => ⟨[], rfl, by rw [Nat.mul_zero, Nat.pow_zero, Nat.mod_one]; rfl⟩
  | k + 1 => by
    obtain ⟨ns, h1, h2⟩ := worth_sum w n k
    refine ⟨ns ++ [dg w n k * 2 ^ (w * k)], ?_, ?_⟩
    · have l : (pis (digs w n k)).length = k := by rw [List.length_map, digs_length]
      rw [digs_succ, pis_snoc, enum_app, List.map_append, h1, l, pis_snoc]
      show _ ++ [PV.int (dg w n k * 2 ^ ((w : Int) * ((0 + k : Nat) : Int)).toNat)] = _
      rw [Nat.zero_add, show ((w : Int) * (k : Int)) = ((w * k : Nat) : Int) from rfl, Int.toNat_natCast]
    · rw [List.sum_append, h2, dgn]
      have e : (2 : Int) ^ (w * k) = ((2 ^ (w * k) : Nat) : Int) := by push_cast; rfl
      rw [e, Nat.mul_succ, Nat.pow_add, Nat.mod_mul]
      simp only [List.sum_cons, List.sum_nil, Int.add_zero]
      rw [← Int.natCast_mul, ← Int.natCast_add, Nat.mul_comm (2 ^ (w * k))]

theorem enum_mem {xs : List PV} {j : Nat} {p : PV} (h : p ∈ enum j xs) : ∃ i q, i < xs.length ∧ q ∈ xs ∧ p = .tup [.int ((j + i : Nat) : Int), q] := by
  obtain ⟨i, hi⟩ := List.mem_iff_getElem?.mp h
  obtain ⟨q, h1, h2⟩ := enum_get xs j i p hi
  exact ⟨i, q, (List.getElem?_eq_some_iff.mp h1).1, List.mem_of_getElem? h1, h2⟩

set_option maxRecDepth 10000
theorem k_worth (wd : World) {w n : Nat} (hw : 0 < w) (hw2 : w ≤ 50) (hn : nl w n ≤ 200) : CallOk wd 1 "_law_worth" [.nat w n, .int w] (.ret (.int n)) :=
  ⟨190, rfl, rfl, fn_wc 20 ["limbs", "w"] rfl rfl (all2 fun a b => rfl) rfl rfl rfl rfl rfl (by
    obtain ⟨ns, h1, h2⟩ := worth_sum w n (nl w n)
    have e := runG_map (worG w) (enum 0 (pis (limbs w n))) []
    refine ⟨by rw [enum_length, lim_len]; lia, fun p => some (.ret (worG w p)), fun p hp => ?_, ?_⟩
    · obtain ⟨i, q, hi, hq, rfl⟩ := enum_mem hp
      obtain ⟨a, ha, rfl⟩ := List.mem_map.mp hq
      rw [lim_len] at hi
      have ha' : a.natAbs < 2 ^ 64 := by
        obtain ⟨j, _, rfl⟩ := List.mem_map.mp ha
        have h1 := dg_lt w n j
        have h0 := dg_nonneg w n j
        have : (2 : Int) ^ w ≤ 2 ^ 50 := by
          have := Nat.pow_le_pow_right (n := 2) (by decide) hw2
          exact_mod_cast this
        lia
      have hwi : w * (0 + i) ≤ 50 * 200 := Nat.mul_le_mul hw2 (by lia)
      have e0 : (w : Int) * ((0 + i : Nat) : Int) = ((w * (0 + i) : Nat) : Int) := rfl
      refine ⟨fun _ => ⟨IntMulOk.of_left (bits_le (by lia)), ⟨by rw [e0]; exact nat_le_int _, by rw [e0]; lia, by decide⟩, IntMulOk.of_left (bits_le ha'), rfl⟩, fun q => nomatch q⟩
    · rw [e]
      refine ⟨ns, congrArg PV.list h1, ?_⟩
      rw [h2, Nat.mod_eq_of_lt (lt_pow_nl hw n)]; rfl)⟩
end Mine

end
section
open PySem PySem.Calls PySem.W PyProof.Rows
set_option Elab.async false
set_option linter.unusedVariables false
namespace Mine

def atL (x : Int) (j : Nat) : List Int → List Int
  | [] => []
  | c :: r => c * x ^ j :: atL x (j + 1) r
def atV (cs : List Int) (x : Int) : Int := (atL x 0 cs).sum
def atG (x : Int) (p : PV) : PV := match p with | .tup (.int i :: .int a :: _) => .int (a * x ^ i.toNat) | _ => .none
theorem at_map (x : Int) : ∀ (cs : List Int) (j : Nat), (enum j (pis cs)).map (atG x) = pis (atL x j cs)
  | [], _ => rfl
  | c :: r, j => by
    show PV.int (c * x ^ (j : Int).toNat) :: _ = PV.int _ :: _
    rw [at_map x r (j + 1), Int.toNat_natCast]

set_option maxRecDepth 10000
theorem k_at (wd : World) {cs : List Int} {x : Int} (hc : ∀ c ∈ cs, c.natAbs < 2 ^ 64) (hl : cs.length ≤ 1000) (hx : x.natAbs < 2 ^ 64) : CallOk wd 1 "_law_at" [.list (pis cs), .int x] (.ret (.int (atV cs x))) :=
  ⟨195, rfl, rfl, fn_wc 20 ["coefficients", "x"] rfl rfl (all2 fun a b => rfl) rfl rfl rfl rfl rfl (by
    have e := runG_map (atG x) (enum 0 (pis cs)) []
    have hl' : (pis cs).length ≤ 1000 := by rw [List.length_map]; exact hl
    refine ⟨by rw [enum_length]; exact hl', fun p => some (.ret (atG x p)), fun p hp => ?_, ?_⟩
    · obtain ⟨i, q, hi, hq, rfl⟩ := enum_mem hp
      obtain ⟨a, ha, rfl⟩ := List.mem_map.mp hq
      exact ⟨fun _ => ⟨⟨nat_le_int _, by lia, hx⟩, IntMulOk.of_left (bits_le (hc a ha)), rfl⟩, fun q => nomatch q⟩
    · rw [e]
      exact ⟨atL x 0 cs, congrArg PV.list (at_map x cs 0), rfl⟩)⟩

def valsV (many : Nat) (cs : List Int) : List Int :=
  ([atV cs 0, atV cs 1, atV cs (-1)] ++ if many = 5 then [atV cs 2] else []) ++ (if many = 7 then [atV cs 2, atV cs (-2), atV cs.reverse 2] else []) ++ [cs.getD (many - 1) 0]

theorem k_values (wd : World) {cs : List Int} {many : Nat} (hc : ∀ c ∈ cs, c.natAbs < 2 ^ 64) (hl : cs.length = many) (hm : many = 4 ∨ many = 5 ∨ many = 7) : CallOk wd 2 "_law_values" [.list (pis cs), .int many] (.ret (.list (pis (valsV many cs)))) :=
  ⟨202, rfl, rfl, fn_ws 20 ["coefficients", "many"] rfl rfl (fun s => all2 fun a b => BindsTo.of_eq rfl) rfl rfl rfl rfl rfl (by
    have kat : ∀ {x : Int}, x.natAbs < 2 ^ 64 → CallOk wd 1 "_law_at" [.list (pis cs), .int x] (.ret (.int (atV cs x))) := fun h => k_at wd hc (by lia) h
    have kre : ∀ {x : Int}, x.natAbs < 2 ^ 64 → CallOk wd 1 "_law_at" [.list (pis cs).reverse, .int x] (.ret (.int (atV cs.reverse x))) := fun h => by
      rw [show (pis cs).reverse = pis cs.reverse from (List.map_reverse ..).symm]
      exact k_at wd (fun c h => hc c (List.mem_reverse.mp h)) (by rw [List.length_reverse]; lia) h
    have hl' : (pis cs).length ≤ 1000 := by rw [List.length_map]; lia
    have hit : (pis cs)[((many : Int) - 1).toNat]? = some (.int (cs.getD (many - 1) 0)) := by
      rw [show ((many : Int) - 1).toNat = many - 1 by lia]
      refine pis_get ?_
      rw [List.getD_eq_getElem?_getD, List.getElem?_eq_getElem (by lia)]; rfl
    have hb : 0 ≤ (many : Int) - 1 ∧ (many : Int) - 1 < 2 ^ 63 := by lia
    refine ⟨rfl, _, kat (by decide), _, kat (by decide), _, kat (by decide), [_, _, _], rfl, (by decide : 3 ≤ 1000), 1, fun q => ⟨_, kat (by decide), (by decide : 3 ≤ 1000), ?_⟩, fun q => ?_⟩
    · have q5 : many = 5 := by have := beq_iff_eq.mp q; lia
      subst q5
      exact ⟨none, fun q7 => absurd q7 (by decide), fun q7 => ⟨_, hit, hb, (by decide : 4 + 1 ≤ 1000), rfl⟩⟩
    · have q5 : ¬many = 5 := fun e => by rw [e] at q; exact absurd q (by decide)
      refine ⟨none, fun q7 => ⟨_, kat (by decide), _, kat (by decide), hl', _, kre (by decide), (by decide : 3 + 3 ≤ 1000), _, hit, hb, (by decide : 6 + 1 ≤ 1000), ?_⟩, fun q7 => ⟨_, hit, hb, (by decide : 3 + 1 ≤ 1000), ?_⟩⟩
      · have q7 : many = 7 := by have := beq_iff_eq.mp q7; lia
        subst q7; rfl
      · have q7 : ¬many = 7 := fun e => by rw [e] at q7; exact absurd q7 (by decide)
        have q4 : many = 4 := by lia
        subst q4; rfl)⟩
end Mine

end
section
open PySem PySem.Calls PySem.W PyProof.Rows
set_option Elab.async false
set_option linter.unusedVariables false
namespace Mine

def pp (l : List (Int × Int)) : PV := .list (l.map fun q => .tup [.int q.1, .int q.2])
def p4 (z p m f : Int) : List (Int × Int) := [(z, 1), (p - m - 2 * f, 2), (p + m - 2 * z, 2), (f, 1)]
def five2 (z p m f : Int) : Int := p + m - 2 * z - 2 * f
def five3 (z p m t f : Int) : Int := t - z - 16 * f - 2 * five2 z p m f - (p - m)
def p5 (z p m t f : Int) : List (Int × Int) := [(z, 1), (3 * (p - m) - five3 z p m t f, 6), (five2 z p m f, 2), (five3 z p m t f, 6), (f, 1)]
def s4 (z t l f : Int) : Int := t + l - 2 * z - 128 * f
def n2 (z p m t l f : Int) : Int := 16 * five2 z p m f - s4 z t l f
def n4 (z p m t l f : Int) : Int := s4 z t l f - 4 * five2 z p m f
def oh (z p m t l h f : Int) : Int := 24 * (h - 64 * z - f) - 16 * n2 z p m t l f - 4 * n4 z p m t l f
def n3 (z p m t l h f : Int) : Int := 408 * (p - m) - oh z p m t l h f - 12 * (t - l)
def n5 (z p m t l h f : Int) : Int := 36 * (t - l) - 72 * (p - m) - n3 z p m t l h f
def p7 (z p m t l h f : Int) : List (Int × Int) := [(z, 1), (1080 * (p - m) - 5 * n3 z p m t l h f - n5 z p m t l h f, 2160), (n2 z p m t l f, 24), (n3 z p m t l h f, 432), (n4 z p m t l f, 24), (n5 z p m t l h f, 2160), (f, 1)]

theorem mul2 {a b : Int} (h : a.natAbs < 2 ^ 64) : IntMulOk a b := IntMulOk.of_left (bits_le h)
set_option maxRecDepth 100000
theorem k_lfour (wd : World) {z p m f : Int} : CallOk wd 1 "_law_four" [.list (pis [z, p, m, f])] (.ret (pp (p4 z p m f))) :=
  ⟨209, rfl, rfl, fn_ws 20 ["told"] rfl rfl (fun s => all1 fun a => BindsTo.of_eq rfl) rfl rfl rfl rfl rfl
    ⟨rfl, mul2 (by decide), mul2 (by decide), rfl⟩⟩
theorem k_lfive (wd : World) {z p m t f : Int} : CallOk wd 1 "_law_five" [.list (pis [z, p, m, t, f])] (.ret (pp (p5 z p m t f))) :=
  ⟨216, rfl, rfl, fn_ws 20 ["told"] rfl rfl (fun s => all1 fun a => BindsTo.of_eq rfl) rfl rfl rfl rfl rfl
    ⟨rfl, mul2 (by decide), mul2 (by decide), mul2 (by decide), mul2 (by decide), mul2 (by decide), rfl⟩⟩
theorem k_lseven (wd : World) {z p m t l h f : Int} : CallOk wd 1 "_law_seven" [.list (pis [z, p, m, t, l, h, f])] (.ret (pp (p7 z p m t l h f))) :=
  ⟨223, rfl, rfl, fn_ws 20 ["told"] rfl rfl (fun s => all1 fun a => BindsTo.of_eq rfl) rfl rfl rfl rfl rfl
    ⟨rfl, .inl ⟨fun _ _ => rfl, _, ⟨mul2 (by decide), mul2 (by decide), rfl⟩, _, ⟨mul2 (by decide), mul2 (by decide), rfl⟩, rfl, .inl ⟨fun _ _ => rfl, _, ⟨mul2 (by decide), rfl⟩, _, ⟨mul2 (by decide), rfl⟩, rfl, .inl ⟨fun _ _ => rfl, _, rfl, _, rfl, rfl,
      mul2 (by decide), mul2 (by decide), mul2 (by decide), mul2 (by decide), mul2 (by decide), mul2 (by decide), mul2 (by decide), mul2 (by decide), mul2 (by decide), mul2 (by decide), rfl⟩⟩⟩⟩⟩
end Mine

end
section
open PySem PySem.Calls PySem.W PyProof.Rows
set_option Elab.async false
set_option linter.unusedVariables false
namespace Mine

def partsV : List Int → List (Int × Int)
  | [z, p, m, f] => p4 z p m f
  | [z, p, m, t, f] => p5 z p m t f
  | [z, p, m, t, l, h, f] => p7 z p m t l h f
  | _ => []
def badQ (q : Int × Int) : Bool := (q.1.fmod q.2 != 0) || decide (q.1 < 0)
def dueV (told : List Int) : Option (List Int) := if (partsV told).any badQ = true then none else some ((partsV told).map fun q => q.1.fdiv q.2)

def tp (q : Int × Int) : PV := .tup [.int q.1, .int q.2]
def dueG (p : PV) : Option Out := match p with | .tup (.int a :: .int b :: _) => cond (badQ (a, b)) (some (.ret (.int 1))) none | _ => none
theorem runG_due : ∀ (l : List (Int × Int)) (acc : List PV), runG dueG (l.map tp) acc = .ret (.list (acc ++ (l.filter badQ).map fun _ => PV.int 1))
  | [], acc => by rw [List.filter_nil, List.map_nil, List.map_nil, List.append_nil]; rfl
  | q :: l, acc => by
    show (match dueG (tp q) with | none => runG dueG (l.map tp) acc | some o => match o with | .ret q => runG dueG (l.map tp) (acc ++ [q]) | .exc c => .exc c) = _
    have e : dueG (tp q) = cond (badQ q) (some (.ret (.int 1))) none := rfl
    rw [e, List.filter_cons]
    cases badQ q with
    | true => simp only [cond_true, if_true]; rw [runG_due l, List.map_cons, List.append_assoc]; rfl
    | false => simp only [cond_false, Bool.false_eq_true, if_false]; rw [runG_due l]
def divG (p : PV) : PV := match p with | .tup (.int a :: .int b :: _) => .int (a.fdiv b) | _ => .none
theorem div_map : ∀ l : List (Int × Int), (l.map tp).map divG = pis (l.map fun q => q.1.fdiv q.2)
  | [] => rfl
  | q :: l => congrArg (List.cons _) (div_map l)
theorem ones_ne : ∀ l : List (Int × Int), (!decide (some ((l.filter badQ).map fun _ => (1 : Int)) = some [])) = l.any badQ
  | [] => rfl
  | q :: l => by
    rw [List.filter_cons, List.any_cons]
    cases badQ q with
    | true => rfl
    | false => exact ones_ne l

set_option maxRecDepth 10000
theorem k_due0 (wd : World) {told : List Int} {many : Nat} {parts : List (Int × Int)} (hp : ∀ q ∈ parts, q.2 ≠ 0 ∧ q.2.natAbs < 2 ^ 64) (hl : parts.length ≤ 1000)
    (hc : CallOk wd 1 (if many = 4 then "_law_four" else if many = 5 then "_law_five" else "_law_seven") [.list (pis told)] (.ret (.list (parts.map tp)))) :
    CallOk wd 9 "_law_due" [.list (pis told), .int many] (.ret (pOpt (if parts.any badQ = true then none else some (parts.map fun q => q.1.fdiv q.2)))) :=
  ⟨228, rfl, rfl, fn_ws 20 ["told", "many"] rfl rfl (fun s => all2 fun a b => BindsTo.of_eq rfl) rfl rfl rfl rfl rfl (by
    have hl' : (parts.map tp).length ≤ 1000 := by rw [List.length_map]; exact hl
    refine ⟨some (.ret (.list (parts.map tp))), ⟨fun q => ?_, fun q => ⟨none, fun q5 => ?_, fun q5 => ?_⟩⟩, none, hl', dueG, fun p hp' => ?_, ?_⟩
    · have e : many = 4 := by have := beq_iff_eq.mp q; lia
      rw [if_pos e] at hc
      exact ⟨_, hc.deep (by decide), rfl⟩
    · have e : many = 5 := by have := beq_iff_eq.mp q5; lia
      rw [if_neg (by lia), if_pos e] at hc
      exact ⟨_, hc.deep (by decide), rfl⟩
    · have e : ¬many = 4 := fun e => by rw [e] at q; exact absurd q (by decide)
      have e5 : ¬many = 5 := fun e => by rw [e] at q5; exact absurd q5 (by decide)
      rw [if_neg e, if_neg e5] at hc
      exact ⟨_, hc.deep (by decide), rfl⟩
    · obtain ⟨q, hq, rfl⟩ := List.mem_map.mp hp'
      obtain ⟨h1, h2⟩ := hp q hq
      have e : dueG (tp q) = cond (badQ q) (some (.ret (.int 1))) none := rfl
      rw [e]
      exact ⟨h1, decide (q.1 < 0), rfl, fun _ => rfl, fun hb => by rw [show badQ q = true from hb]; rfl, fun hb => by rw [show badQ q = false from hb]; rfl⟩
    · rw [runG_due]
      refine ⟨rfl, .inl ⟨rfl, some ((parts.filter badQ).map fun _ => 1), some [], congrArg PV.list (List.map_map ..).symm, rfl, ?_⟩⟩
      rw [ones_ne]
      refine ⟨fun hb => by rw [if_pos hb]; rfl, fun hb => ⟨hl', fun p => some (.ret (divG p)), fun p hp' => ?_, ?_⟩⟩
      · obtain ⟨q, hq, rfl⟩ := List.mem_map.mp hp'
        exact ⟨fun _ => ⟨hp q hq, rfl⟩, fun q => nomatch q⟩
      · rw [runG_map, div_map, if_neg (fun e => by rw [hb] at e; cases e)]; rfl)⟩

theorem len4 {α : Type} {l : List α} (h : l.length = 4) : ∃ a b c d, l = [a, b, c, d] := match l, h with | [a, b, c, d], _ => ⟨a, b, c, d, rfl⟩
theorem len5 {α : Type} {l : List α} (h : l.length = 5) : ∃ a b c d e, l = [a, b, c, d, e] := match l, h with | [a, b, c, d, e], _ => ⟨a, b, c, d, e, rfl⟩
theorem len7 {α : Type} {l : List α} (h : l.length = 7) : ∃ a b c d e f g, l = [a, b, c, d, e, f, g] := match l, h with | [a, b, c, d, e, f, g], _ => ⟨a, b, c, d, e, f, g, rfl⟩
theorem k_due (wd : World) {told : List Int} {many : Nat} (hm : many = 4 ∨ many = 5 ∨ many = 7) (hl : told.length = many) : CallOk wd 9 "_law_due" [.list (pis told), .int many] (.ret (pOpt (dueV told))) := by
  have small : ∀ q ∈ partsV told, q.2 = 1 ∨ q.2 = 2 ∨ q.2 = 6 ∨ q.2 = 24 ∨ q.2 = 432 ∨ q.2 = 2160 := by
    rcases hm with rfl | rfl | rfl
    · obtain ⟨a, b, c, d, rfl⟩ := len4 hl
      intro q hq
      simp only [partsV, p4, List.mem_cons, List.not_mem_nil, or_false] at hq
      rcases hq with rfl | rfl | rfl | rfl <;> simp
    · obtain ⟨a, b, c, d, e, rfl⟩ := len5 hl
      intro q hq
      simp only [partsV, p5, List.mem_cons, List.not_mem_nil, or_false] at hq
      rcases hq with rfl | rfl | rfl | rfl | rfl <;> simp
    · obtain ⟨a, b, c, d, e, f, g, rfl⟩ := len7 hl
      intro q hq
      simp only [partsV, p7, List.mem_cons, List.not_mem_nil, or_false] at hq
      rcases hq with rfl | rfl | rfl | rfl | rfl | rfl | rfl <;> simp
  refine k_due0 wd (parts := partsV told) (fun q hq => ?_) ?_ ?_
  · have := small q hq
    lia
  · rcases hm with rfl | rfl | rfl
    · obtain ⟨a, b, c, d, rfl⟩ := len4 hl
      exact (by decide : 4 ≤ 1000)
    · obtain ⟨a, b, c, d, e, rfl⟩ := len5 hl
      exact (by decide : 5 ≤ 1000)
    · obtain ⟨a, b, c, d, e, f, g, rfl⟩ := len7 hl
      exact (by decide : 7 ≤ 1000)
  · rcases hm with rfl | rfl | rfl
    · obtain ⟨a, b, c, d, rfl⟩ := len4 hl
      exact k_lfour wd
    · obtain ⟨a, b, c, d, e, rfl⟩ := len5 hl
      exact k_lfive wd
    · obtain ⟨a, b, c, d, e, f, g, rfl⟩ := len7 hl
      exact k_lseven wd
end Mine

end
section
open PySem PySem.Calls PySem.W PyProof.Rows
set_option Elab.async false
set_option linter.unusedVariables false
namespace Mine

theorem exK_mul {x d y : Int} {k : Int → Out} (hd : d ≠ 0) (h : x = d * y) : exK x d k = k y := by
  subst h
  rw [exK_pos (Int.mul_emod_right d y), Int.mul_ediv_cancel_left _ hd]
theorem exK_or {x d : Int} {k : Int → Out} (hd : d ≠ 0) : exK x d k = .exc 37 ∨ ∃ y, x = d * y ∧ exK x d k = k y := by
  by_cases c : x % d = 0
  · exact .inr ⟨x / d, (Int.mul_ediv_cancel' (Int.dvd_of_emod_eq_zero c)).symm, exK_pos c⟩
  · exact .inl (exK_neg c)
theorem badQ_mul {d c : Int} (hd : 0 < d) : badQ (d * c, d) = decide (c < 0) := by
  unfold badQ
  have h1 : (d * c).fmod d = 0 := by rw [Int.fmod_eq_emod_of_nonneg _ (Int.le_of_lt hd), Int.mul_emod_right]
  have h2 : (d * c < 0) ↔ c < 0 := ⟨fun h => Int.not_le.mp fun h' => Int.not_le.mpr h (Int.mul_nonneg (Int.le_of_lt hd) h'), fun h => Int.mul_neg_of_pos_of_neg hd h⟩
  rw [h1, show ((0 : Int) != 0) = false from rfl, Bool.false_or]
  exact decide_eq_decide.mpr h2
theorem fdiv_mul {d c : Int} (hd : 0 < d) : (d * c).fdiv d = c := by
  rw [Int.fdiv_eq_ediv_of_nonneg _ (Int.le_of_lt hd), Int.mul_ediv_cancel_left _ (Int.ne_of_gt hd)]
theorem bad_or {a d : Int} (hd : 0 < d) : badQ (a, d) = true ∨ ∃ y, a = d * y := by
  by_cases c : a % d = 0
  · exact .inr ⟨a / d, (Int.mul_ediv_cancel' (Int.dvd_of_emod_eq_zero c)).symm⟩
  · refine .inl ?_
    unfold badQ
    rw [Int.fmod_eq_emod_of_nonneg _ (Int.le_of_lt hd), bne_iff_ne.mpr c, Bool.true_or]

/-- the values at four points -/
theorem vals4 (a b c d : Int) : valsV 4 [a, b, c, d] = [a, a + b + c + d, a - b + c - d, d] := by
  simp [valsV, atV, atL]
  lia
theorem vals5 (a b c d e : Int) : valsV 5 [a, b, c, d, e] = [a, a + b + c + d + e, a - b + c - d + e, a + 2 * b + 4 * c + 8 * d + 16 * e, e] := by
  simp [valsV, atV, atL]
  lia
theorem vals7 (a b c d e f g : Int) : valsV 7 [a, b, c, d, e, f, g] = [a, a + b + c + d + e + f + g, a - b + c - d + e - f + g, a + 2 * b + 4 * c + 8 * d + 16 * e + 32 * f + 64 * g, a - 2 * b + 4 * c - 8 * d + 16 * e - 32 * f + 64 * g, 64 * a + 32 * b + 16 * c + 8 * d + 4 * e + 2 * f + g, g] := by
  simp [valsV, atV, atL]
  lia
def dueC (cs : List Int) : Option (List Int) := if cs.any (fun c => decide (c < 0)) = true then none else some cs

theorem S4 (w : Nat) (a b c d : Int) : fourO w a (a + b + c + d) (a - b + c - d) d = natL w [a, b, c, d] :=
  (exK_mul (y := a + c) (by decide) (by lia)).trans ((exK_mul (y := b + d) (by decide) (by lia)).trans (by congr 3 <;> first | lia | (congr 1; lia)))
theorem D4 (a b c d : Int) : dueV [a, a + b + c + d, a - b + c - d, d] = dueC [a, b, c, d] := by
  have e : partsV [a, a + b + c + d, a - b + c - d, d] = [(1 * a, 1), (2 * b, 2), (2 * c, 2), (1 * d, 1)] := by
    simp only [partsV, p4, List.cons.injEq, Prod.mk.injEq, and_true]
    lia
  unfold dueV dueC
  rw [e]
  simp only [List.any_cons, List.any_nil, List.map_cons, List.map_nil, badQ_mul (show (0 : Int) < 1 by decide), badQ_mul (show (0 : Int) < 2 by decide), fdiv_mul (show (0 : Int) < 1 by decide), fdiv_mul (show (0 : Int) < 2 by decide)]
  rfl
theorem R4 (w : Nat) (z p m f : Int) : (∃ b c, p = z + b + c + f ∧ m = z - b + c - f) ∨ (dueV [z, p, m, f] = none ∧ fourO w z p m f = .exc 37) := by
  by_cases h : ∃ b c, p = z + b + c + f ∧ m = z - b + c - f
  · exact .inl h
  · refine .inr ⟨?_, ?_⟩
    · unfold dueV
      rw [if_pos]
      rcases bad_or (a := p - m - 2 * f) (d := 2) (by decide) with q | ⟨b, hb⟩
      · simp [partsV, p4, q]
      · rcases bad_or (a := p + m - 2 * z) (d := 2) (by decide) with q | ⟨c, hc⟩
        · simp [partsV, p4, q]
        · exact absurd ⟨b, c, by lia, by lia⟩ h
    · rcases exK_or (x := p + m) (d := 2) (k := fun e => exK (p - m) 2 fun o => natL w [z, o - f, e - z, f]) (by decide) with q | ⟨e, he, q⟩
      · exact q
      · rcases exK_or (x := p - m) (d := 2) (k := fun o => natL w [z, o - f, e - z, f]) (by decide) with q' | ⟨o, ho, q'⟩
        · exact q.trans q'
        · exact absurd ⟨o - f, e - z, by lia, by lia⟩ h

theorem S5 (w : Nat) (a b c d e : Int) : fiveO w a (a + b + c + d + e) (a - b + c - d + e) (a + 2 * b + 4 * c + 8 * d + 16 * e) e = natL w [a, b, c, d, e] :=
  (exK_mul (y := b + c + 3 * d + 5 * e) (by decide) (by lia)).trans ((exK_mul (y := b + d) (by decide) (by lia)).trans ((exK_mul (y := d + 2 * e) (by decide) (by lia)).trans (by
    rw [show b + d - (d + 2 * e - e * 2 ^ 1) = b by lia, show a + b + c + d + e - a - (b + d) - e = c by lia, show d + 2 * e - e * 2 ^ 1 = d by lia])))
theorem D5 (a b c d e : Int) : dueV [a, a + b + c + d + e, a - b + c - d + e, a + 2 * b + 4 * c + 8 * d + 16 * e, e] = dueC [a, b, c, d, e] := by
  have h : partsV [a, a + b + c + d + e, a - b + c - d + e, a + 2 * b + 4 * c + 8 * d + 16 * e, e] = [(1 * a, 1), (6 * b, 6), (2 * c, 2), (6 * d, 6), (1 * e, 1)] := by
    simp only [partsV, p5, five2, five3, List.cons.injEq, Prod.mk.injEq, and_true]
    lia
  unfold dueV dueC
  rw [h]
  simp only [List.any_cons, List.any_nil, List.map_cons, List.map_nil, badQ_mul (show (0 : Int) < 1 by decide), badQ_mul (show (0 : Int) < 2 by decide), badQ_mul (show (0 : Int) < 6 by decide), fdiv_mul (show (0 : Int) < 1 by decide), fdiv_mul (show (0 : Int) < 2 by decide), fdiv_mul (show (0 : Int) < 6 by decide)]
  rfl
theorem R5 (w : Nat) (z p m t f : Int) : (∃ b c d, p = z + b + c + d + f ∧ m = z - b + c - d + f ∧ t = z + 2 * b + 4 * c + 8 * d + 16 * f) ∨ (dueV [z, p, m, t, f] = none ∧ fiveO w z p m t f = .exc 37) := by
  by_cases h : ∃ b c d, p = z + b + c + d + f ∧ m = z - b + c - d + f ∧ t = z + 2 * b + 4 * c + 8 * d + 16 * f
  · exact .inl h
  · refine .inr ⟨?_, ?_⟩
    · unfold dueV
      rw [if_pos]
      rcases bad_or (a := 3 * (p - m) - five3 z p m t f) (d := 6) (by decide) with q | ⟨b, hb⟩
      · simp [partsV, p5, q]
      · rcases bad_or (a := five2 z p m f) (d := 2) (by decide) with q | ⟨c, hc⟩
        · simp [partsV, p5, q]
        · rcases bad_or (a := five3 z p m t f) (d := 6) (by decide) with q | ⟨d, hd⟩
          · simp [partsV, p5, q]
          · simp only [five3, five2] at hb hc hd
            exact absurd ⟨b, c, d, by lia, by lia, by lia⟩ h
    · unfold fiveO
      rcases exK_or (x := t - m) (d := 3) (k := fun a => exK (p - m) 2 fun o => exK (a - (p - z)) 2 fun b => natL w [z, o - (b - f * 2 ^ 1), p - z - o - f, b - f * 2 ^ 1, f]) (by decide) with q | ⟨a, ha, q⟩
      · exact q
      · rcases exK_or (x := p - m) (d := 2) (k := fun o => exK (a - (p - z)) 2 fun b => natL w [z, o - (b - f * 2 ^ 1), p - z - o - f, b - f * 2 ^ 1, f]) (by decide) with q' | ⟨o, ho, q'⟩
        · exact q.trans q'
        · rcases exK_or (x := a - (p - z)) (d := 2) (k := fun b => natL w [z, o - (b - f * 2 ^ 1), p - z - o - f, b - f * 2 ^ 1, f]) (by decide) with q'' | ⟨b, hb, q''⟩
          · exact q.trans (q'.trans q'')
          · exact absurd ⟨o - (b - 2 * f), p - z - o - f, b - 2 * f, by lia, by lia, by lia⟩ h

theorem S7 (w : Nat) (a b c d e f g : Int) : sevenO w a (a + b + c + d + e + f + g) (a - b + c - d + e - f + g) (a + 2 * b + 4 * c + 8 * d + 16 * e + 32 * f + 64 * g) (a - 2 * b + 4 * c - 8 * d + 16 * e - 32 * f + 64 * g) (64 * a + 32 * b + 16 * c + 8 * d + 4 * e + 2 * f + g) g = natL w [a, b, c, d, e, f, g] := by
  unfold sevenO
  rw [exK_mul (y := a + c + e + g) (by decide) (by lia), exK_mul (y := b + d + f) (by decide) (by lia), exK_mul (y := a + 4 * c + 16 * e + 64 * g) (by decide) (by lia), exK_mul (y := 2 * b + 8 * d + 32 * f) (by decide) (by lia),
    exK_mul (y := c + 4 * e) (by decide) (by lia), exK_mul (y := e) (by decide) (by lia), exK_mul (y := b + 4 * d + 16 * f) (by decide) (by lia), exK_mul (y := 16 * b + 4 * d + f) (by decide) (by unfold lefV; lia),
    exK_mul (y := d + 5 * f) (by decide) (by lia), exK_mul (y := 4 * d + 5 * f) (by decide) (by lia), exK_mul (y := d) (by decide) (by lia), exK_mul (y := f) (by decide) (by lia),
    show b + d + f - d - f = b by lia, show a + c + e + g - a - g - e = c by lia]
theorem D7 (a b c d e f g : Int) : dueV [a, a + b + c + d + e + f + g, a - b + c - d + e - f + g, a + 2 * b + 4 * c + 8 * d + 16 * e + 32 * f + 64 * g, a - 2 * b + 4 * c - 8 * d + 16 * e - 32 * f + 64 * g, 64 * a + 32 * b + 16 * c + 8 * d + 4 * e + 2 * f + g, g] = dueC [a, b, c, d, e, f, g] := by
  have h : partsV [a, a + b + c + d + e + f + g, a - b + c - d + e - f + g, a + 2 * b + 4 * c + 8 * d + 16 * e + 32 * f + 64 * g, a - 2 * b + 4 * c - 8 * d + 16 * e - 32 * f + 64 * g, 64 * a + 32 * b + 16 * c + 8 * d + 4 * e + 2 * f + g, g] =
      [(1 * a, 1), (2160 * b, 2160), (24 * c, 24), (432 * d, 432), (24 * e, 24), (2160 * f, 2160), (1 * g, 1)] := by
    simp only [partsV, p7, n2, n3, n4, n5, oh, s4, five2, List.cons.injEq, Prod.mk.injEq, and_true]
    lia
  unfold dueV dueC
  rw [h]
  simp only [List.any_cons, List.any_nil, List.map_cons, List.map_nil, badQ_mul (show (0 : Int) < 1 by decide), badQ_mul (show (0 : Int) < 24 by decide), badQ_mul (show (0 : Int) < 432 by decide), badQ_mul (show (0 : Int) < 2160 by decide), fdiv_mul (show (0 : Int) < 1 by decide), fdiv_mul (show (0 : Int) < 24 by decide), fdiv_mul (show (0 : Int) < 432 by decide), fdiv_mul (show (0 : Int) < 2160 by decide)]
  rfl

theorem exK_ne {x d : Int} {k : Int → Out} (hd : d ≠ 0) (h : exK x d k ≠ .exc 37) : ∃ y, x = d * y ∧ k y ≠ .exc 37 := by
  rcases exK_or (x := x) (k := k) hd with q | ⟨y, hy, q⟩
  · exact absurd q h
  · exact ⟨y, hy, q ▸ h⟩
theorem R7 (w : Nat) (z p m t l h g : Int) : (∃ b c d e f, p = z + b + c + d + e + f + g ∧ m = z - b + c - d + e - f + g ∧ t = z + 2 * b + 4 * c + 8 * d + 16 * e + 32 * f + 64 * g ∧ l = z - 2 * b + 4 * c - 8 * d + 16 * e - 32 * f + 64 * g ∧ h = 64 * z + 32 * b + 16 * c + 8 * d + 4 * e + 2 * f + g) ∨
    (dueV [z, p, m, t, l, h, g] = none ∧ sevenO w z p m t l h g = .exc 37) := by
  by_cases hh : ∃ b c d e f, p = z + b + c + d + e + f + g ∧ m = z - b + c - d + e - f + g ∧ t = z + 2 * b + 4 * c + 8 * d + 16 * e + 32 * f + 64 * g ∧ l = z - 2 * b + 4 * c - 8 * d + 16 * e - 32 * f + 64 * g ∧ h = 64 * z + 32 * b + 16 * c + 8 * d + 4 * e + 2 * f + g
  · exact .inl hh
  · refine .inr ⟨?_, ?_⟩
    · unfold dueV
      rw [if_pos]
      rcases bad_or (a := 1080 * (p - m) - 5 * n3 z p m t l h g - n5 z p m t l h g) (d := 2160) (by decide) with q | ⟨b, hb⟩
      · simp [partsV, p7, q]
      rcases bad_or (a := n2 z p m t l g) (d := 24) (by decide) with q | ⟨c, hc⟩
      · simp [partsV, p7, q]
      rcases bad_or (a := n3 z p m t l h g) (d := 432) (by decide) with q | ⟨d, hd⟩
      · simp [partsV, p7, q]
      rcases bad_or (a := n4 z p m t l g) (d := 24) (by decide) with q | ⟨e, he⟩
      · simp [partsV, p7, q]
      rcases bad_or (a := n5 z p m t l h g) (d := 2160) (by decide) with q | ⟨f, hf⟩
      · simp [partsV, p7, q]
      rw [hd, hf] at hb
      unfold n5 at hf
      rw [hd] at hf
      unfold n3 oh at hd
      rw [hc, he] at hd
      unfold n2 s4 five2 at hc
      unfold n4 s4 five2 at he
      exact absurd ⟨b, c, d, e, f, by lia, by lia, by lia, by lia, by lia⟩ hh
    · refine Classical.byContradiction fun hn => hh ?_
      unfold sevenO at hn
      obtain ⟨e1, x1, hn⟩ := exK_ne (by decide) hn
      obtain ⟨o1, x2, hn⟩ := exK_ne (by decide) hn
      obtain ⟨e2, x3, hn⟩ := exK_ne (by decide) hn
      obtain ⟨o2, x4, hn⟩ := exK_ne (by decide) hn
      obtain ⟨a, x5, hn⟩ := exK_ne (by decide) hn
      obtain ⟨q, x6, hn⟩ := exK_ne (by decide) hn
      obtain ⟨o2', x7, hn⟩ := exK_ne (by decide) hn
      obtain ⟨h', x8, hn⟩ := exK_ne (by decide) hn
      obtain ⟨lo, x9, hn⟩ := exK_ne (by decide) hn
      obtain ⟨hi, y1, hn⟩ := exK_ne (by decide) hn
      obtain ⟨th, y2, hn⟩ := exK_ne (by decide) hn
      obtain ⟨fi, y3, hn⟩ := exK_ne (by decide) hn
      clear hn hh
      unfold lefV at x8
      exact ⟨o1 - th - fi, e1 - z - g - q, th, q, fi, by lia, by lia, by lia, by lia, by lia⟩
end Mine

end
section
open PySem PySem.Calls PySem.W PyProof.Rows
set_option Elab.async false
set_option linter.unusedVariables false
namespace Mine
variable {C : Cx} {σ : Sto}

theorem note_any {L e c : Addr} {env : Env} {s : Shared} {Q : Unit → Shared → Prop} {E : Value → Shared → Prop} (hfr : C.A.frames = some (C.fenv :: C.outer)) (hef : env.frame = C.fenv.frame) (hf : C.fenv.frame = some L) (R : RaisedS C e c s.heap)
    (h : ∀ a0 h', Heap.HeldW C.b (C.fenv :: C.outer) e (.ref c) a0 L h' → s.heap.UpToSlots h' → Q () { s with heap := h' }) : wpAny C.M C.A (noteFrame (.ref e) env) Q E s := by
  cases R with
  | flew r => exact note_held (C' := C) rfl rfl rfl hfr hef hf r h
  | made h₀ args hb hF hx =>
    rw [noteFrame_eq hef]
    obtain ⟨t, he, htn, ht⟩ := hx.there
    have fresh : ∀ b, h₀.get? b = none → C.b.get? b = none := fun b hb' => by
      cases hq : C.b.get? b with
      | none => rfl
      | some o' => have := hb b o' hq; rw [hb'] at this; cases this
    unfold noteFrame
    simp only [hf]
    refine wpAny_bind (wpAny_field (x := Value.none) he rfl rfl ?_)
    rw [if_neg (show ¬(Value.none != Value.none) = true from by decide)]
    refine wpAny_entryW (a0 := .ref t) hfr (hF.of_keeps fun b o hb _ => ⟨o, hx.keeps b o hb, rfl⟩) hf he (fun b o q => hx.keeps b o (hb b o q)) (fresh e hx.new) rfl (show 1 < 6 by decide) rfl fun h' hN => ?_
    obtain ⟨k1, k2, k3, k4⟩ := hN
    exact h (.ref t) h' ⟨k1, fresh e hx.new, k2, k3⟩ k4

theorem flying_stays {base h h' : Heap} {l : List Env} {e : Addr} {cls a0 : Value} (x : Heap.FlyingW base l e cls a0 h) (k : h.StaysIn h') : Heap.FlyingW base l e cls a0 h' := by
  obtain ⟨f1, f2, f3, oe, vs, T, oT, ts, a1, a2, a3, a4, a5, a6, a7, a8⟩ := x
  exact ⟨stays_trans f1 k, f2, funFrames_stays k f3, oe, vs, T, oT, ts, k _ _ a1, a2, a3, a4, a5, a6, k _ _ a7, a8⟩

theorem names2 (O : Ok C) {A : Around} {n1 n2 : Str} {c1 c2 : Addr} {q1 q2 pos : Pos} {k : Nat} {s : Shared} {Q E : Value → Shared → Prop} (k1 : C.env.kindOf n1 = some .globalImplicit) (k2 : C.env.kindOf n2 = some .globalImplicit) (d1 : (n1 == ("__debug__" : Str)) = false) (d2 : (n2 == ("__debug__" : Str)) = false)
    (e1 : nsIn (KF C.w) mainGlobals n1 = some (some (.ref c1))) (e2 : nsIn (KF C.w) mainGlobals n2 = some (some (.ref c2))) (st : C.b.StaysIn s.heap)
    (h : Q (.ref s.heap.objs.size) { s with heap := s.heap.push { cls := .type "tuple", data := .seq [Value.ref c1, Value.ref c2].toArray } }) : wpAny C.M A (eval (.Tuple [.Name n1 q1, .Name n2 q2] k pos) C.env) Q E s := by
  obtain ⟨mean, mg, mb, T⟩ := O.bs.top
  have ld : ∀ {n c q s} {Q E : Value → Shared → Prop}, C.env.kindOf n = some .globalImplicit → (n == ("__debug__" : Str)) = false → nsIn (KF C.w) mainGlobals n = some (some (.ref c)) → C.b.StaysIn s.heap → Q (.ref c) s → wpAny C.M A (eval (.Name n q) C.env) Q E s := fun hk hd e st h =>
    Name_function_global O.kind hk (loadGlobal_global (by rw [O.glob]; exact T.g.keeps st) (mg_of O.bs.inn T.g e) h) hd
  refine Tuple_ (spliced_more (ld k1 d1 e1 st (spliced_more (ld k2 d2 e2 st (spliced_none (wpAny_newTuple h (by rw [sizeLine_eq]; exact (by decide : 2 ≤ 16777216))))) rfl)) rfl)

/-- try, with two classes of one's own, and None handed back -/
theorem x_try (O : Ok C) {n1 n2 : Str} {c1 c2 : Addr} {q1 q2 tpos rpos npos hpos pos : Pos} {k n : Nat} {body : List Stmt} {K : Sto → Prop} {D : Prop} {s : Shared} {Q : Flow → Shared → Prop} {E : Value → Shared → Prop}
    (k1 : C.env.kindOf n1 = some .globalImplicit) (k2 : C.env.kindOf n2 = some .globalImplicit) (d1 : (n1 == ("__debug__" : Str)) = false) (d2 : (n2 == ("__debug__" : Str)) = false) (e1 : nsIn (KF C.w) mainGlobals n1 = some (some (.ref c1))) (e2 : nsIn (KF C.w) mainGlobals n2 = some (some (.ref c2)))
    (m1 : exmAny (KF C.w) (.ref c1) [.ref c1, .ref c2] = some true) (m2 : exmAny (KF C.w) (.ref c2) [.ref c1, .ref c2] = some true) (F : Fs C σ s.heap)
    (hb : ExK C σ body fun fo => (∃ σ', fo = .next σ' ∧ K σ') ∨ (D ∧ (fo = .exc c1 ∨ fo = .exc c2)))
    (hn : ∀ σ' h' tk, K σ' → Fs C σ' h' → Q .next { s with heap := h', toks := tk })
    (hx : D → ∀ h' tk, C.b.StaysIn h' → C.g.UpToSlots h' → h'.FunFrames C.b (C.fenv :: C.outer) → Q (.ret .none) { s with heap := h', toks := tk }) :
    wpAny C.M C.A (exec (.Try body [.ExceptHandler (some (.Tuple [.Name n1 q1, .Name n2 q2] k tpos)) none [.Return (some (.Constant .none n npos)) rpos] hpos] [] [] pos) C.env) Q E s := by
  obtain ⟨L, hL⟩ : ∃ L, C.fenv.frame = some L := let ⟨_, ⟨L, _, q, _⟩, _⟩ := F.frames; ⟨L, q⟩
  refine wpAny_Try_except (hb s _ _ F fun fo hk => ?_)
  have caught : D → ∀ {c e h₁ tk}, exmAny (KF C.w) (.ref c) [.ref c1, .ref c2] = some true → C.g.UpToSlots h₁ → RaisedS C e c h₁ → wpAny C.M C.A (noteFrame (.ref e) C.env) (fun _ s₂ => wpAny C.M C.A (setFlight (.ref e) none) (fun _ s₃ => wpAny C.M C.A (handleBy (.ref e) C.env [.ExceptHandler (some (.Tuple [.Name n1 q1, .Name n2 q2] k tpos)) none [.Return (some (.Constant .none n npos)) rpos] hpos]) Q E s₃) E s₂) E { s with heap := h₁, toks := tk } := fun hD {c e h₁ tk} m u R => by
    refine note_any O.fr O.ff hL R fun a0 h₂ hh u₂ => wpAny_landsW hh fun h₃ hf u₃ => ?_
    have hf2 := flying_stays hf (push_stays h₃ { cls := .type "tuple", data := .seq [Value.ref c1, Value.ref c2].toArray })
    refine wpAny_handleBy_cons (codeAny_handlers_test (names2 O k1 k2 d1 d2 e1 e2 hf.1 ?_)) (by intro q; cases q)
    obtain ⟨ob, hob, hc⟩ := hf2.there
    have LT : Looks C.M (h₃.push { cls := .type "tuple", data := .seq [Value.ref c1, Value.ref c2].toArray }) (typeOf (.ref e)) (.ref c) := hc ▸ (Looks.ld hob).andThen .now
    refine Looks.at (exm_tup2 (O.bs.inn.keeps hf2.1) LT (Heap.get?_push_size _ rfl) m) ?_
    refine codeAny_handlers_suite (lands_againW hf2 fun h₄ hf4 u₄ => ?_)
    refine wpAny_execs_cons (wpAny_Return_some (Constant_none ?_))
    exact hx hD h₄ tk hf4.1 ((((u.trans u₂).trans u₃).trans (Heap.UpToSlots.of_keeps (push_stays _ _))).trans u₄) hf4.2.2.1
  rcases hk with ⟨σ', rfl, hk⟩ | ⟨hD, rfl | rfl⟩
  · exact fun h' tk F' => wpAny_execs_nil (hn σ' h' tk hk F')
  · exact fun e h₁ tk u R => caught hD m1 u R
  · exact fun e h₁ tk u R => caught hD m2 u R
end Mine

end
section
open PySem PySem.Calls PySem.W PyProof.Rows
set_option Elab.async false
set_option linter.unusedVariables false
namespace Mine

def natsV (w : Nat) (cs : List Int) : PV := .list (cs.map fun x => .nat w x.natAbs)
def Heard (w : Nat) (told : List Int) (o : Out) : Prop := (∃ cs, o = .ret (natsV w cs) ∧ dueV told = some cs ∧ cs.length ≤ 10 ∧ ∀ c ∈ cs, 0 ≤ c ∧ Sm 60 c) ∨ (dueV told = none ∧ (o = .exc 37 ∨ o = .exc 49))
theorem sum_le : ∀ {cs : List Int}, (∀ c ∈ cs, 0 ≤ c) → 0 ≤ cs.sum ∧ ∀ c ∈ cs, c ≤ cs.sum
  | [], _ => ⟨Int.le_refl _, fun _ h => nomatch h⟩
  | a :: r, h => by
    obtain ⟨h1, h2⟩ := sum_le fun c hc => h c (.tail _ hc)
    have h0 := h a (.head _)
    rw [List.sum_cons]
    refine ⟨by lia, fun c hc => ?_⟩
    rcases List.mem_cons.mp hc with rfl | hc
    · lia
    · have := h2 c hc; lia
theorem heard_nat {w : Nat} {told cs : List Int} (h : dueV told = dueC cs) (hs : Sm 60 cs.sum) (hl : cs.length ≤ 10) : Heard w told (natL w cs) := by
  by_cases c : cs.all (fun x => decide (0 ≤ x)) = true
  · have hc : ∀ x ∈ cs, 0 ≤ x := fun x hx => of_decide_eq_true (List.all_eq_true.mp c x hx)
    obtain ⟨h1, h2⟩ := sum_le hc
    refine .inl ⟨cs, if_pos c, h.trans (if_neg fun q => ?_), hl, fun x hx => ⟨hc x hx, ?_⟩⟩
    · obtain ⟨x, hx, hn⟩ := List.any_eq_true.mp q
      have := hc x hx
      have := of_decide_eq_true hn
      lia
    · have a := hc x hx
      have b := h2 x hx
      unfold Sm at *
      lia
  · refine .inr ⟨h.trans (if_pos ?_), .inr (if_neg c)⟩
    rw [List.any_eq_true]
    rw [List.all_eq_true] at c
    obtain ⟨x, hx⟩ := Classical.not_forall.mp c
    obtain ⟨hx, hn⟩ := Classical.not_imp.mp hx
    exact ⟨x, hx, decide_eq_true (Int.not_le.mp fun q => hn (decide_eq_true q))⟩
theorem heard4 (w : Nat) {z p m f : Int} (hp : Sm 60 p) : Heard w [z, p, m, f] (fourO w z p m f) := by
  rcases R4 w z p m f with ⟨b, c, rfl, rfl⟩ | ⟨h1, h2⟩
  · rw [S4]
    exact heard_nat (D4 ..) (by rw [show [z, b, c, f].sum = z + b + c + f by simp only [List.sum_cons, List.sum_nil]; lia]; exact hp) (by simp)
  · exact .inr ⟨h1, .inl h2⟩
theorem heard5 (w : Nat) {z p m t f : Int} (hp : Sm 60 p) : Heard w [z, p, m, t, f] (fiveO w z p m t f) := by
  rcases R5 w z p m t f with ⟨b, c, d, rfl, rfl, rfl⟩ | ⟨h1, h2⟩
  · rw [S5]
    exact heard_nat (D5 ..) (by rw [show [z, b, c, d, f].sum = z + b + c + d + f by simp only [List.sum_cons, List.sum_nil]; lia]; exact hp) (by simp)
  · exact .inr ⟨h1, .inl h2⟩
theorem heard7 (w : Nat) {z p m t l h g : Int} (hp : Sm 60 p) : Heard w [z, p, m, t, l, h, g] (sevenO w z p m t l h g) := by
  rcases R7 w z p m t l h g with ⟨b, c, d, e, f, rfl, rfl, rfl, rfl, rfl⟩ | ⟨h1, h2⟩
  · rw [S7]
    exact heard_nat (D7 ..) (by rw [show [z, b, c, d, e, f, g].sum = z + b + c + d + e + f + g by simp only [List.sum_cons, List.sum_nil]; lia]; exact hp) (by simp)
  · exact .inr ⟨h1, .inl h2⟩

/-- a call that may have caught an exception -/
def FnT (w : World) (f : Addr) (d : Nat) (ps : List PV) (p : PV) : Prop := ∀ C : Cx, C.w = w → Ok C → d ≤ C.d → ∀ (s : Shared) (vs : List Value) (Q : Value → Shared → Prop) (E : Value → Shared → Prop), Gr C s.heap → Reps C.X s.heap vs ps →
  (∀ v h' tk, C.b.StaysIn h' → s.heap.UpToSlots h' → h'.FunFrames C.b (C.fenv :: C.outer) → Rep C.X h' v p → Q v { s with heap := h', toks := tk }) → wpAny C.M C.A (call (.ref f) vs) Q E s

theorem x_step {C : Cx} {w : World} {d n : Nat} (hw : C.w = w) (hd : d ≤ C.d) (O : Ok C) (H : Cel C) {σ : Sto} {st : Stmt} {rest : List Stmt} {K : Sto → Prop} {s : Shared} {Q : Flow → Shared → Prop} {E : Value → Shared → Prop}
    (h : st1 w C.env.scope (W w d n) (WS w d n C.env.scope) σ (fun fo => ∃ σ', fo = .next σ' ∧ K σ') st) (F : Fs C σ s.heap)
    (hr : ∀ σ' h' tk, K σ' → Fs C σ' h' → wpAny C.M C.A (execs rest C.env) Q E { s with heap := h', toks := tk }) : wpAny C.M C.A (execs (st :: rest) C.env) Q E s :=
  wpAny_execs_cons (st1_sound rfl hw hd O H (fun {C'} hw hd O H hsc {b σ K} hb => WS_sound n hw hd O H (by rw [hsc]; exact hb)) h s _ E F fun fo ⟨σ', e, hk⟩ => by
    subst e
    exact fun h' tk F' => hr σ' h' tk hk F')

def sofG (w : Nat) (p : PV) : PV := match p with | .int x => .sgn w x | _ => .none
theorem sof_map (w : Nat) : ∀ xs : List Int, (pis xs).map (sofG w) = xs.map fun x => .sgn w x
  | [] => rfl
  | x :: xs => congrArg (List.cons _) (sof_map w xs)
def natI (p : PV) : PV := match p with | .nat _ n => .int n | _ => .none
theorem nat_map (w : Nat) : ∀ {cs : List Int}, (∀ c ∈ cs, 0 ≤ c) → (cs.map fun x => PV.nat w x.natAbs).map natI = pis cs
  | [], _ => rfl
  | c :: cs, h => by
    show PV.int (c.natAbs : Int) :: _ = PV.int c :: _
    rw [nat_map w fun x hx => h x (.tail _ hx), Int.natAbs_of_nonneg (h c (.head _))]

theorem heard_then {w : Nat} {told : List Int} {o : Out} (h : Heard w told o) {K : Out → Prop} (h1 : ∀ cs, dueV told = some cs → (cs.length ≤ 10 ∧ ∀ c ∈ cs, 0 ≤ c ∧ Sm 60 c) → K (.ret (natsV w cs))) (h2 : dueV told = none → K (.exc 37)) (h3 : dueV told = none → K (.exc 49)) : tmO false K o := by
  rcases h with ⟨cs, rfl, a, b⟩ | ⟨a, rfl | rfl⟩
  · exact h1 cs a b
  · exact h2 a
  · exact h3 a
set_option maxRecDepth 10000
set_option maxHeartbeats 4000000 in
theorem k_heard (wd : World) {w many : Nat} {told : List Int} (hw : 0 < w) (hw2 : w ≤ 50) (hm : many = 4 ∨ many = 5 ∨ many = 7) (hl : told.length = many) (hs : ∀ x ∈ told, Sm 60 x) :
    FnT wd 233 8 [.list (pis told), .int many, .int w] (pOpt (dueV told)) := by
  rintro C rfl O hd s vs Q E G R P
  refine enter_wc (f := 233) (ps := [.list (pis told), .int many, .int w]) ["told", "many", "w"] rfl rfl (all3 fun a b c => rfl) rfl rfl rfl rfl rfl O hd G R fun h₁ tk₁ O' hd' H' F => ?_
  have hlm : told.length ≤ 1000 := by lia
  refine x_step (n := 20) (K := fun σ' => σ' = (("values" : Str), PV.list (told.map fun x => .sgn w x)) :: ((["told", "many", "w"] : List Str).zip [PV.list (pis told), .int many, .int w]).reverse) rfl hd' O' H' ?_ F fun σ' h₂ tk₂ e F₂ => ?_
  · refine ⟨by rw [List.length_map]; exact hlm, fun p => some (.ret (sofG w p)), fun p hp => ?_, ?_⟩
    · obtain ⟨a, ha, rfl⟩ := List.mem_map.mp hp
      exact ⟨fun _ => ⟨_, (k_sof C.w hw hw2 ((hs a ha).le (by decide))).deep (by decide), tmO_f rfl⟩, fun q => nomatch q⟩
    · rw [runG_map (sofG w) (pis told) [], sof_map]
      exact ⟨_, rfl, rfl⟩
  subst e
  obtain ⟨n49, x49⟩ : excNames C.w "OutOfRange" 49 := e49 C.w
  obtain ⟨n37, x37⟩ : excNames C.w "NotExact" 37 := e37 C.w
  refine wpAny_execs_cons (x_try (D := dueV told = none) (K := fun σ' => ∃ cs, σ' = (("found" : Str), natsV w cs) :: (("values" : Str), PV.list (told.map fun x => .sgn w x)) :: ((["told", "many", "w"] : List Str).zip [PV.list (pis told), .int many, .int w]).reverse ∧ dueV told = some cs ∧ cs.length ≤ 10 ∧ ∀ c ∈ cs, 0 ≤ c ∧ Sm 60 c) O' rfl rfl rfl rfl n37 n49 (by kernel_rfl) (by kernel_rfl) F₂ (WS_sound (d := 7) 20 rfl hd' O' H' ?_) (fun σ' h₃ tk₃ hk F₃ => ?_) (fun hD h₃ tk₃ st up fr => ?_))
  · rcases hm with rfl | rfl | rfl
    · obtain ⟨z, p, m, f, rfl⟩ := len4 hl
      have sz := hs z (by simp); have sp := hs p (by simp); have sm := hs m (by simp); have sf := hs f (by simp)
      refine ⟨none, fun _ => ⟨_, rfl, (by decide : (0:Int) ≤ 0 ∧ (0:Int) < 2 ^ 63), _, rfl, (by decide : (0:Int) ≤ 1 ∧ (1:Int) < 2 ^ 63), _, rfl, (by decide : (0:Int) ≤ 2 ∧ (2:Int) < 2 ^ 63), _, rfl, (by decide : (0:Int) ≤ 3 ∧ (3:Int) < 2 ^ 63), _, (k_four C.w hw hw2 sz sp sm sf).deep (by decide), ?_⟩, fun q => absurd q (by decide)⟩
      exact heard_then (heard4 w (z := z) (p := p) (m := m) (f := f) sp) (fun cs h2 h3 => .inl ⟨_, rfl, cs, rfl, h2, h3⟩) (fun h1 => .inr ⟨h1, .inl rfl⟩) (fun h1 => .inr ⟨h1, .inr rfl⟩)
    · obtain ⟨z, p, m, t, f, rfl⟩ := len5 hl
      have sz := hs z (by simp); have sp := hs p (by simp); have sm := hs m (by simp); have st := hs t (by simp); have sf := hs f (by simp)
      refine ⟨none, fun q => absurd q (by decide), fun _ => ⟨none, fun _ => ⟨_, rfl, (by decide : (0:Int) ≤ 0 ∧ (0:Int) < 2 ^ 63), _, rfl, (by decide : (0:Int) ≤ 1 ∧ (1:Int) < 2 ^ 63), _, rfl, (by decide : (0:Int) ≤ 2 ∧ (2:Int) < 2 ^ 63), _, rfl, (by decide : (0:Int) ≤ 3 ∧ (3:Int) < 2 ^ 63), _, rfl, (by decide : (0:Int) ≤ 4 ∧ (4:Int) < 2 ^ 63), _, (k_five C.w hw hw2 sz sp sm st sf).deep (by decide), ?_⟩, fun q => absurd q (by decide)⟩⟩
      exact heard_then (heard5 w (z := z) (p := p) (m := m) (t := t) (f := f) sp) (fun cs h2 h3 => .inl ⟨_, rfl, cs, rfl, h2, h3⟩) (fun h1 => .inr ⟨h1, .inl rfl⟩) (fun h1 => .inr ⟨h1, .inr rfl⟩)
    · obtain ⟨z, p, m, t, l, h, g, rfl⟩ := len7 hl
      have sz := hs z (by simp); have sp := hs p (by simp); have sm := hs m (by simp); have st := hs t (by simp); have sl := hs l (by simp); have sh := hs h (by simp); have sg := hs g (by simp)
      refine ⟨none, fun q => absurd q (by decide), fun _ => ⟨none, fun q => absurd q (by decide), fun _ => ⟨_, rfl, (by decide : (0:Int) ≤ 0 ∧ (0:Int) < 2 ^ 63), _, rfl, (by decide : (0:Int) ≤ 1 ∧ (1:Int) < 2 ^ 63), _, rfl, (by decide : (0:Int) ≤ 2 ∧ (2:Int) < 2 ^ 63), _, rfl, (by decide : (0:Int) ≤ 3 ∧ (3:Int) < 2 ^ 63), _, rfl, (by decide : (0:Int) ≤ 4 ∧ (4:Int) < 2 ^ 63), _, rfl, (by decide : (0:Int) ≤ 5 ∧ (5:Int) < 2 ^ 63), _, rfl, (by decide : (0:Int) ≤ 6 ∧ (6:Int) < 2 ^ 63), _, (k_seven C.w hw hw2 sz sp sm st sl sh sg).deep (by decide), ?_⟩⟩⟩
      exact heard_then (heard7 w (z := z) (p := p) (m := m) (t := t) (l := l) (h := h) (g := g) sp) (fun cs h2 h3 => .inl ⟨_, rfl, cs, rfl, h2, h3⟩) (fun h1 => .inr ⟨h1, .inl rfl⟩) (fun h1 => .inr ⟨h1, .inr rfl⟩)
  · obtain ⟨cs, rfl, hdv, hlc, hc⟩ := hk
    refine WS_sound (d := 7) 20 rfl hd' O' H' (K := fun fo => fo = .ret (.list (pis cs))) ?_ _ _ _ F₃ fun fo e => ?_
    · refine ⟨by rw [List.length_map]; lia, fun p => some (.ret (natI p)), fun p hp => ?_, ?_⟩
      · obtain ⟨a, ha, rfl⟩ := List.mem_map.mp hp
        refine ⟨fun _ => ⟨_, (k_worth C.w hw hw2 ((hc a ha).2.nl hw (by decide))).deep (by decide), tmO_f rfl⟩, fun q => nomatch q⟩
      · rw [runG_map natI _ [], nat_map w fun c h => (hc c h).1]
        rfl
    · subst e
      rw [hdv] at P
      exact fun v h' tk st fr r => P v h' tk (stays_trans G.stays st) (Heap.UpToSlots.of_keeps st) fr.2.2 r
  · exact P _ h₃ tk₃ st up fr.2.2 (by rw [hD]; exact .none)
end Mine

end
section
open PySem PySem.Calls PySem.W PyProof.Rows
set_option Elab.async false
set_option linter.unusedVariables false
namespace Mine

theorem dueC_some {cs : List Int} (h : ∀ c ∈ cs, 0 ≤ c) : dueC cs = some cs := if_neg fun q => by
  obtain ⟨x, hx, hn⟩ := List.any_eq_true.mp q
  have := h x hx
  have := of_decide_eq_true hn
  lia
theorem dueC_or (cs : List Int) : dueC cs = none ∨ (dueC cs = some cs ∧ ∀ c ∈ cs, 0 ≤ c) := by
  by_cases q : cs.any (fun c => decide (c < 0)) = true
  · exact .inl (if_pos q)
  · refine .inr ⟨if_neg q, fun c hc => Int.not_lt.mp fun n => q (List.any_eq_true.mpr ⟨c, hc, decide_eq_true n⟩)⟩

theorem told_ok {m : Nat} {cs : List Int} (hm : m = 4 ∨ m = 5 ∨ m = 7) (hl : cs.length = m) (hc : ∀ c ∈ cs, 0 ≤ c ∧ c ≤ 8) : dueV (valsV m cs) = some cs ∧ (valsV m cs).length = m ∧ ∀ x ∈ valsV m cs, x.natAbs ≤ 2000 := by
  have h0 := dueC_some fun c h => (hc c h).1
  rcases hm with rfl | rfl | rfl
  · obtain ⟨a, b, c, d, rfl⟩ := len4 hl
    rw [vals4, D4]
    refine ⟨h0, rfl, ?_⟩
    simp only [List.forall_mem_cons, List.not_mem_nil, false_imp_iff, implies_true, and_true] at hc ⊢
    lia
  · obtain ⟨a, b, c, d, e, rfl⟩ := len5 hl
    rw [vals5, D5]
    refine ⟨h0, rfl, ?_⟩
    simp only [List.forall_mem_cons, List.not_mem_nil, false_imp_iff, implies_true, and_true] at hc ⊢
    lia
  · obtain ⟨a, b, c, d, e, f, g, rfl⟩ := len7 hl
    rw [vals7, D7]
    refine ⟨h0, rfl, ?_⟩
    simp only [List.forall_mem_cons, List.not_mem_nil, false_imp_iff, implies_true, and_true] at hc ⊢
    lia

def Back (m : Nat) (v : List Int) : Prop := dueV v = none ∨ ∃ cs, dueV v = some cs ∧ valsV m cs = v ∧ cs.length = m ∧ ∀ c ∈ cs, c.natAbs < 2 ^ 64
theorem back_of {m : Nat} {v cs : List Int} (h1 : dueV v = dueC cs) (h2 : valsV m cs = v) (h3 : cs.length = m) (hs : Sm 60 cs.sum) : Back m v := by
  rcases dueC_or cs with q | ⟨q, hc⟩
  · exact .inl (h1.trans q)
  · refine .inr ⟨cs, h1.trans q, h2, h3, fun c h => ?_⟩
    obtain ⟨_, hle⟩ := sum_le hc
    have := hle c h
    have := hc c h
    unfold Sm at hs
    lia
theorem due_back {m : Nat} {v : List Int} (hm : m = 4 ∨ m = 5 ∨ m = 7) (hl : v.length = m) (hs : ∀ x ∈ v, Sm 60 x) : Back m v := by
  rcases hm with rfl | rfl | rfl
  · obtain ⟨z, p, m, f, rfl⟩ := len4 hl
    have hp := hs p (by simp)
    rcases R4 0 z p m f with ⟨b, c, rfl, rfl⟩ | ⟨h1, h2⟩
    · exact back_of (D4 ..) (vals4 ..) rfl (by rw [show [z, b, c, f].sum = z + b + c + f by simp only [List.sum_cons, List.sum_nil]; lia]; exact hp)
    · exact .inl h1
  · obtain ⟨z, p, m, t, f, rfl⟩ := len5 hl
    have hp := hs p (by simp)
    rcases R5 0 z p m t f with ⟨b, c, d, rfl, rfl, rfl⟩ | ⟨h1, h2⟩
    · exact back_of (D5 ..) (vals5 ..) rfl (by rw [show [z, b, c, d, f].sum = z + b + c + d + f by simp only [List.sum_cons, List.sum_nil]; lia]; exact hp)
    · exact .inl h1
  · obtain ⟨z, p, m, t, l, h, g, rfl⟩ := len7 hl
    have hp := hs p (by simp)
    rcases R7 0 z p m t l h g with ⟨b, c, d, e, f, rfl, rfl, rfl, rfl, rfl⟩ | ⟨h1, h2⟩
    · exact back_of (D7 ..) (vals7 ..) rfl (by rw [show [z, b, c, d, e, f, g].sum = z + b + c + d + e + f + g by simp only [List.sum_cons, List.sum_nil]; lia]; exact hp)
    · exact .inl h1

def someL (ns : List Int) : List Int := ((ns.take 12).map fun x => (x.natAbs : Int)) ++ [(ns.length : Int) + 3, 1, 4, 0, 2, 6, 5, 3]
theorem someL_ok (ns : List Int) : 8 ≤ (someL ns).length ∧ (someL ns).length ≤ 20 ∧ ∀ x ∈ someL ns, 0 ≤ x := by
  unfold someL
  refine ⟨by simp, by simp; lia, fun x hx => ?_⟩
  rcases List.mem_append.mp hx with h | h
  · obtain ⟨y, _, rfl⟩ := List.mem_map.mp h
    exact nat_le_int _
  · simp only [List.mem_cons, List.not_mem_nil, or_false] at h
    lia
theorem someL_at (ns : List Int) {i : Nat} (h : i < (someL ns).length) : (someL ns)[i]? = some ((someL ns).getD i 0) ∧ 0 ≤ (someL ns).getD i 0 := by
  have e : (someL ns)[i]? = some ((someL ns).getD i 0) := by rw [List.getD_eq_getElem?_getD, List.getElem?_eq_getElem h]; rfl
  exact ⟨e, (someL_ok ns).2.2 _ (List.mem_of_getElem? e)⟩

/-- what a comprehension over ints does with each -/
def iG (f : Int → Int) (p : PV) : PV := match p with | .int x => .int (f x) | _ => .none
theorem iG_map (f : Int → Int) : ∀ xs : List Int, (pis xs).map (iG f) = pis (xs.map f)
  | [] => rfl
  | x :: xs => congrArg (List.cons _) (iG_map f xs)
def eG (f : Int → Int → Int) (p : PV) : PV := match p with | .tup (.int i :: .int a :: _) => .int (f i a) | _ => .none
theorem eG_map (f : Int → Int → Int) : ∀ (xs : List Int) (j : Nat), ∃ ys, (enum j (pis xs)).map (eG f) = pis ys ∧ ys.length = xs.length ∧ ∀ y ∈ ys, ∃ i x, x ∈ xs ∧ y = f i x
  | [], _ => ⟨[], rfl, rfl, fun _ h => nomatch h⟩
  | x :: xs, j => by
    obtain ⟨ys, h1, h2, h3⟩ := eG_map f xs (j + 1)
    refine ⟨f j x :: ys, congrArg (List.cons _) h1, congrArg (· + 1) h2, fun y hy => ?_⟩
    rcases List.mem_cons.mp hy with rfl | hy
    · exact ⟨_, _, .head _, rfl⟩
    · obtain ⟨i, z, a, b⟩ := h3 y hy
      exact ⟨i, z, .tail _ a, b⟩
theorem rints_mem {m : Nat} {z : Int} (h : z ∈ rints 0 1 m) : ∃ j : Nat, z = (j : Int) ∧ j < m := by
  obtain ⟨i, hi⟩ := List.mem_iff_getElem?.mp h
  obtain ⟨h1, h2⟩ := rints_get hi
  exact ⟨i, by lia, h2⟩
end Mine

end
section
open PySem PySem.Calls PySem.W PyProof.Rows
set_option Elab.async false
set_option linter.unusedVariables false
namespace Mine
variable {C : Cx} {σ : Sto}

theorem SeqKeep.of_up {X : Addr → Prop} {h h' : Heap} (u : h.UpToSlots h') : SeqKeep X h h' := fun b o xs n _ e d => by
  obtain ⟨sl, e'⟩ := u b o e fun vs q => by rw [d] at q; cases q
  exact ⟨_, e', rfl, rfl⟩
theorem isCell_up {h h' : Heap} (u : h.UpToSlots h') {c : Addr} {v : Option Value} (x : h.IsCell c v) : h'.IsCell c v := by
  obtain ⟨o, e, d⟩ := x
  obtain ⟨sl, e'⟩ := u c o e fun vs q => by rw [d] at q; cases q
  exact ⟨_, e', d⟩
/-- what a frame at the top knows after a caught exception below it -/
theorem Fs.upto (O : Ok C) (ht : C.top = true) {h h' : Heap} (F : Fs C σ h) (st : C.b.StaysIn h') (up : h.UpToSlots h') (fr : h'.FunFrames C.b (C.fenv :: C.outer)) : Fs C σ h' := by
  obtain ⟨m, hn, hv⟩ := F.vars
  refine ⟨fun a x => ?_, (O.tp ht).1 ▸ st, fr, ⟨m, up.ns hn, fun y p e => ?_⟩, fun y c e => let ⟨v, z⟩ := F.cells y c e; ⟨v, isCell_up up z⟩⟩
  · obtain ⟨o, its, n, e, d⟩ := F.xs a x
    obtain ⟨sl, e'⟩ := up a o e fun vs q => by rw [d] at q; cases q
    exact ⟨_, its, n, e', d⟩
  · rcases hv y p e with ⟨a, v, b, c⟩ | ⟨a, c, v, e', f, g⟩
    · exact .inl ⟨a, v, b, c.mono (SeqKeep.of_up up)⟩
    · exact .inr ⟨a, c, v, e', isCell_up up f, g.mono (SeqKeep.of_up up)⟩

/-- a test in which an exception may have been caught -/
def TstT (C : Cx) (σ : Sto) (e : Expr) (b : Bool) : Prop :=
  ∀ (s : Shared) (Q : Bool → Shared → Prop) (E : Value → Shared → Prop), Fs C σ s.heap → (∀ h' tk, Fs C σ h' → Q b { s with heap := h', toks := tk }) → wpAny C.M C.A (PySem.isTrue e C.env (eval e C.env)) Q E s
theorem Tst.weak {e : Expr} {b : Bool} (h : Tst C true σ e b) : TstT C σ e b := fun s Q E F P => h s Q E F fun h' tk st _ => P h' tk (F.stays st)
theorem tstT_or {x y : Expr} {pos : Pos} (hx : TstT C σ x false) (hy : TstT C σ y false) : TstT C σ (.BoolOp .Or [x, y] pos) false := fun s Q E F P =>
  isTrue_or (hx s _ E F fun h₁ tk₁ F₁ => by
    simp only [Bool.false_eq_true, if_false]
    refine isTrue_or (hy _ _ E F₁ fun h₂ tk₂ F₂ => ?_)
    simp only [Bool.false_eq_true, if_false]
    exact isTrue_or_nil (by simpa using P h₂ tk₂ F₂))
theorem tstT_call (O : Ok C) (ht : C.top = true) {fn : Str} {f : Addr} {d : Nat} {e r : Expr} {es : List Expr} {ps : List PV} {p q : PV} {b : Bool} {p1 p2 pos : Pos} (hc : Callee C fn (.ref f)) (kp : keepIn (KF C.w) (.ref f) = true)
    (ha : EvL C true σ (e :: es) (.ret ps)) (hf : FnT C.w f d ps p) (hd : d ≤ C.d) (hr : Ev C true σ r (.ret q)) (hb : behindInMarks .NotEq r = false) (hop : Cop C .NotEq p q b) (hs : starEach (e :: es) C.env = (false, eval e C.env) :: starEach es C.env)
    (hp : ∀ pos, (backTo pos (starEach es C.env)).any (·.1) = false) : TstT C σ (.Compare (.Call (.Name fn p1) (e :: es) [] p2) [.NotEq] [r] pos) b := fun s Q E F P => by
  refine wpAny_isTrue_Compare1 (Call_ (hc s _ E p1 (F.gr O).stays ?_)) hb
  refine callWith_K O.bs.inn kp (ha p2 s _ E F fun vs h₁ tk₁ s₁ e₁ r₁ => ?_) hs (hp p2)
  refine ⟨O.bs.inn.keeps ((F.stays s₁).gr O).stays, hf C rfl O hd _ _ _ E ((F.stays s₁).gr O) r₁ fun v h₂ tk₂ st up fr rv => ?_⟩
  have F₂ := (F.stays s₁).upto O ht st up fr
  refine hr _ _ E F₂ fun v' h₃ tk₃ s₃ e₃ r₃ => ?_
  exact hop _ _ _ _ _ (rv.mono (SeqKeep.of_stays s₃)) r₃ (wpAny_truthy_bool (P h₃ tk₃ (F₂.stays s₃)))
theorem x_ifT {t : Expr} {body : List Stmt} {pos : Pos} (ht : TstT C σ t false) : Ex1K C σ (.If t body [] pos) (fun fo => fo = .next σ) := fun s Q E F P =>
  wpAny_If (ht s _ E F fun h₁ tk₁ F₁ => by
    simp only [Bool.false_eq_true, if_false]
    exact wpAny_execs_nil (P _ rfl h₁ tk₁ F₁))
end Mine

end
section
open PySem PySem.Calls PySem.W PyProof.Rows
set_option Elab.async false
set_option linter.unusedVariables false
namespace Mine

theorem x_then {C : Cx} {σ : Sto} {st : Stmt} {rest : List Stmt} {K : Sto → Prop} {K' : FO → Prop} (h : Ex1K C σ st (fun fo => ∃ σ', fo = .next σ' ∧ K σ')) (hr : ∀ σ', K σ' → ExK C σ' rest K') : ExK C σ (st :: rest) K' := fun s Q E F P =>
  wpAny_execs_cons (h s _ E F fun fo ⟨σ', e, hk⟩ => by
    subst e
    exact fun h' tk F' => hr σ' hk _ _ E F' fun fo hk => (P fo hk).to)
/-- a plain statement, then the rest -/
theorem x_plain {C : Cx} {w : World} {d n : Nat} {sc : Scope} (hsc : C.env.scope = sc) (hw : C.w = w) (hd : d ≤ C.d) (O : Ok C) (H : Cel C) {σ σ₁ : Sto} {st : Stmt} {rest : List Stmt} {K' : FO → Prop}
    (h : st1 w sc (W w d n) (WS w d n sc) σ (fun fo => fo = .next σ₁) st) (hr : ExK C σ₁ rest K') : ExK C σ (st :: rest) K' := fun s Q E F P =>
  wpAny_execs_cons (st1_sound hsc hw hd O H (fun {C'} hw hd O H hsc {b σ K} hb => WS_sound n hw hd O H (by rw [hsc]; exact hb)) h s _ E F fun fo e => by
    subst e
    exact fun h' tk F' => hr _ _ E F' fun fo hk => (P fo hk).to)
theorem x_forT {C : Cx} {w : World} {d n : Nat} {sc : Scope} (hsc : C.env.scope = sc) (hw : C.w = w) (hd : d ≤ C.d) (O : Ok C) (H : Cel C) {σ : Sto} {t : Str} {iter : Expr} {body rest : List Stmt} {p1 pos : Pos} {K' : FO → Prop} (hset : noSet iter = true) (hm : mayP sc t = true)
    (h : iterW (W w d n) sc (.Name t p1) iter σ fun items => ∀ C', Ok C' → Cel C' → C'.env.scope = sc → C'.w = w → d ≤ C'.d → C'.top = C.top → ∀ a ∈ items, ExK C' ((t, a) :: σ) body fun fo => ∃ σ', fo = .next σ' ∧ Sub σ' σ)
    (hr : ExK C σ rest K') : ExK C σ (.For (.Name t p1) iter body [] pos :: rest) K' := by
  subst hsc
  obtain ⟨items, hb, hit⟩ := iter_sound (W_sound n) hw hd O h
  obtain ⟨hc, hc1, hc2⟩ := cells_list O H
  refine x_then (K := fun σ' => σ' = σ) (x_forK O hc1 hc2 (fun _ => σ) (fun _ => True) (may_of O H hm) (fun y p e => e) trivial hit (fun g Og i a hi _ s Q E F P => ?_) (fun _ => ⟨_, rfl, rfl⟩) (fun v => by cases iter <;> first | rfl | cases hset)) fun σ' e => by subst e; exact hr
  refine hb (C.at g) Og H rfl hw hd rfl a (List.mem_of_getElem? hi) s Q E F fun fo ⟨σ', e, hs⟩ => ?_
  subst e
  exact P _ ⟨hs, trivial⟩

theorem tst_W {C : Cx} {w : World} {d n : Nat} {sc : Scope} (hsc : C.env.scope = sc) (hw : C.w = w) (hd : d ≤ C.d) (O : Ok C) {σ : Sto} {t : Expr} {b : Bool} (h : W w d n sc true t σ fun o => o = .ret (.bool b)) : Tst C true σ t b := by
  subst hsc
  obtain ⟨o, e, b', e', ht⟩ := W_sound n C hw hd O true t σ _ h
  rw [e] at e'
  cases e'
  exact ht
theorem heard_tst {C : Cx} {w : World} {d n : Nat} {sc : Scope} (hsc : C.env.scope = sc) (hw : C.w = w) (hd : d ≤ C.d) (h10 : 10 ≤ C.d) (O : Ok C) (ht : C.top = true) {σ : Sto} {e1 e2 e3 r : Expr} {p1 p2 pos : Pos} {v : List Int} {m wv : Nat} (hm : m = 4 ∨ m = 5 ∨ m = 7) (hl : v.length = m) (hs : ∀ x ∈ v, Sm 60 x) (hv : 0 < wv ∧ wv ≤ 50)
    (ha : allW (fun e K => W w d n sc false e σ K) [e1, e2, e3] (fun ol => ol = .ret [.list (pis v), .int m, .int wv])) (hp : [e1, e2, e3].all plainArg = true) (hr : W w d n sc false r σ fun o => o = .ret (pOpt (dueV v))) (hb : behindInMarks .NotEq r = false) (hg : isGlob sc "_law_heard" = true) :
    TstT C σ (.Compare (.Call (.Name "_law_heard" p1) [e1, e2, e3] [] p2) [.NotEq] [r] pos) false := by
  subst hsc hw
  obtain ⟨hk, hdb⟩ := isGlob_inv hg
  obtain ⟨ol, e, hl', _, _⟩ := allW_sound (W_sound n) rfl hd O hp ha
  subst e
  obtain ⟨o, e, he⟩ := (W_sound n).ev rfl hd O hr
  subst e
  have hp' : plainArg e1 = true ∧ [e2, e3].all plainArg = true := by simpa only [List.all_cons, Bool.and_eq_true] using hp
  obtain ⟨b, e, hc⟩ := cmpB_cop (C := C) (g := true) (op := .NotEq) (p := pOpt (dueV v)) (q := pOpt (dueV v)) (k := fun b => b = false) (fun _ => by have := O.units; lia) (by
    have : (!decide (dueV v = dueV v)) = false := by simp
    cases hx : dueV v <;> exact ⟨rfl, .inl ⟨rfl, _, _, rfl, rfl, hx ▸ this⟩⟩)
  subst e
  exact tstT_call O ht (callee_glob O hk rfl hdb) (by kernel_rfl) hl' (k_heard C.w hv.1 hv.2 hm hl hs) (by lia) he hb hc (star_plain hp'.1 _ _) (fun pos => star_all hp'.2 _ pos)

theorem enter_top {w : World} {f : Addr} {ps : List PV} {oc : Value} {od : Option Addr} {name qual : Str} {params : Arguments} {body : List Stmt} {scope : Scope} {dV kV doc pm cdv ct : Value} {an : Option Addr} {osl : Array (Option Value)} (xs : List Str)
    (ho : (KF w).lookup f = some ⟨oc, od, .func (fnOf name qual params body scope dV kV doc pm an cdv ct), osl⟩) (hcd : codeIn (KF w) cdv qual = true)
    (hbind : ∀ (vs : List Value), vs.length = ps.length → bindArgs (fnOf name qual params body scope dV kV doc pm an cdv ct) ⟨vs, []⟩ = pure (xs.zip vs))
    (hloc : (xs.all fun x => decide (scope.names.lookup x = some .local) || decide (scope.names.lookup x = some .cell)) = true) (hnc : noCells scope = false)
    (hco : scope.isCoroutine = false) (hgen : scope.isGenerator = false) (hk : scope.kind = .function) {s : Shared} {vs : List Value} (B : Bs w s.heap) (R : Reps (fun _ => False) s.heap vs ps) {Post : Result → Shared → Prop}
    (h : ∀ C : Cx, C.w = w → C.top = true → C.env.scope = scope → 40 ≤ C.d → Ok C → Cel C → ExK C ((xs.zip ps).reverse) body (fun fo => fo = .ret (.bool true)))
    (hp : ∀ h' tk, s.heap.StaysIn h' → Post (.ok (.ret (.bool true))) { s with heap := h', toks := tk }) : codeAny (model prg w) callerA (.call (.ref f) ⟨vs, []⟩) Post s := by
  obtain ⟨mean, mg, mb, T⟩ := B.top
  have hz := Heap.get?_none_of_le (h := s.heap) (Nat.le_refl _)
  have kindL : ∀ x ∈ xs, scope.names.lookup x = some .local ∨ scope.names.lookup x = some .cell := fun x hx => by simpa only [Bool.or_eq_true, decide_eq_true_eq] using List.all_eq_true.mp hloc x hx
  refine codeAny_call_cells (fd := fnOf name qual params body scope dV kV doc pm an cdv ct) (body := body) (binds := xs.zip vs) (by decide) (B.inn _ _ ho) rfl T.nolimit
    (codeRec_of B.inn hcd) rfl (hbind _ R.length) rfl (fun x hx => (kindL _ (List.of_mem_zip (show (x.1, x.2) ∈ _ from hx)).1).imp id fun q => ⟨q, Option.isSome_iff_exists.mpr (cellsFrom_get _ _ _ (.inl (lookup_mem q)))⟩) (fun s₁ x => ?_) hco hgen hk
  obtain ⟨h₁, tk₁, rfl, hk₁⟩ := x.done
  have hO : Ok ⟨w, s.heap, s.heap, callerA.deeper (envX qual scope s.heap.objs.size f cdv (cellsFrom (s.heap.objs.size + 1) scope.names [])), envX qual scope s.heap.objs.size f cdv (cellsFrom (s.heap.objs.size + 1) scope.names []), envX qual scope s.heap.objs.size f cdv (cellsFrom (s.heap.objs.size + 1) scope.names []), [], 40, true, fun _ => False, true⟩ :=
    { bs := B, hh := rfl, fr := Around.frames_deeper rfl, ff := rfl, kind := hk, glob := rfl, bi := rfl, off := hz, bg := stays_refl _, tp := fun _ => ⟨rfl, rfl, rfl⟩
      depth := by show callerA.depth + 1 + 40 < _; decide
      units := by show callerA.units + 3 + 8 * 40 < _; decide
      clo := fun x q => cellsFrom_get _ _ _ (.inl (lookup_mem q))
      cel := fun _ y c e => ⟨Heap.get?_none_of_le (Nat.le_of_lt (x.above y c (lookup_mem e))), fun z ez => name_once x.apart e ez⟩ }
  refine h _ rfl rfl rfl (Nat.le_refl 40) hO ⟨rfl, fun q => by rw [show noCells scope = true from q] at hnc; cases hnc⟩ _ _ _ ?_ fun fo e => ?_
  · refine ⟨fun _ q => q.elim, hk₁, Heap.FunFrames.cons (by show scope.kind ≠ .module; rw [hk]; decide) rfl x.toInCall.ns hz trivial, ⟨_, x.toInCall.ns, fun y p e => ?_⟩, fun y c e => ⟨_, x.cell y c e⟩⟩
    obtain ⟨v, hv, rv⟩ := (Par.zip xs (R.mono (SeqKeep.of_stays hk₁))).reverse.lookup e
    rcases kindL y (List.of_mem_zip (List.mem_reverse.mp (lookup_mem e))).1 with q | q
    · exact .inl ⟨q, v, (binds_get _ _).1 q (.inl hv), rv⟩
    · obtain ⟨c, hc⟩ := cellsFrom_get (x := y) scope.names (s.heap.objs.size + 1) [] (.inl (lookup_mem q))
      have := x.cell y c hc
      rw [(binds_get (y := y) (v := v) _ _).2 (fun z => by rw [show scope.names.lookup y = some .local from z] at q; cases q) (.inl hv)] at this
      exact .inr ⟨q, c, v, hc, this, rv⟩
  · subst e
    intro v h' tk st fr r
    cases r
    exact hp h' tk st
end Mine

end
section
open PySem PySem.Calls PySem.W PyProof.Rows
set_option Elab.async false
set_option linter.unusedVariables false
namespace Mine

def wOf (ns : List Int) : Int := 2 + ((someL ns).getD 0 0).fmod 8
theorem wOf_ok (ns : List Int) : ∃ w : Nat, wOf ns = w ∧ 0 < w ∧ w ≤ 50 := by
  refine ⟨(wOf ns).toNat, ?_⟩
  unfold wOf
  rw [Int.fmod_eq_emod_of_nonneg _ (by decide)]
  lia
abbrev L0 (ns : List Int) : Sto := [("some", .list (pis (someL ns))), ("script", .list (pis ns))]
abbrev L1 (ns : List Int) : Sto := ("w", .int (wOf ns)) :: L0 ns
def absG (p : PV) : PV := match p with | .int x => .int x.natAbs | _ => .none
theorem some_eq (ns : List Int) : PV.list (([] ++ ((pis ns).take 12).map absG) ++ pis [((pis ns).length : Int) + 3, 1, 4, 0, 2, 6, 5, 3]) = .list (pis (someL ns)) := by
  have h : ∀ xs : List Int, (pis xs).map absG = pis (xs.map fun x => (x.natAbs : Int)) := fun xs => by
    induction xs with
    | nil => rfl
    | cons x xs ih => exact congrArg (List.cons _) ih
  have h1 : (pis ns).take 12 = pis (ns.take 12) := List.map_take.symm
  have h2 : (pis ns).length = ns.length := List.length_map ..
  rw [List.nil_append, h1, h, h2]
  exact congrArg PV.list List.map_append.symm

def csOf (ns : List Int) (m : Nat) : List Int := (rints 0 1 m).map fun i => ((someL ns).getD (1 + i).toNat 0).fmod 9
theorem csOf_ok (ns : List Int) (m : Nat) : (csOf ns m).length = m ∧ ∀ c ∈ csOf ns m, 0 ≤ c ∧ c ≤ 8 := by
  refine ⟨by rw [csOf, List.length_map, rints_length], fun c hc => ?_⟩
  obtain ⟨i, _, rfl⟩ := List.mem_map.mp hc
  rw [Int.fmod_eq_emod_of_nonneg _ (by decide)]
  lia
def frOf (ns : List Int) (m : Nat) : List Int := (rints 0 1 m).map fun i => ((someL ns).getD ((i + 2).fmod (pis (someL ns)).length).toNat 0).fmod 41 - 8
theorem frOf_ok (ns : List Int) (m : Nat) : (frOf ns m).length = m ∧ ∀ c ∈ frOf ns m, Sm 60 c := by
  refine ⟨by rw [frOf, List.length_map, rints_length], fun c hc => ?_⟩
  obtain ⟨i, _, rfl⟩ := List.mem_map.mp hc
  rw [Int.fmod_eq_emod_of_nonneg _ (by decide)]
  unfold Sm
  lia
def spOf (ns : List Int) (m : Nat) : Int := (((someL ns).getD 0 0).fdiv 8).fmod m
def moOf (ns : List Int) : Int := (((someL ns).getD 0 0).fdiv 64).fmod 13 - 6
def spF (ns : List Int) (m : Nat) (i a : Int) : Int := a + cond (i == spOf ns m) (moOf ns) 0
theorem spF_ok (ns : List Int) (m : Nat) {i a : Int} (h : a.natAbs ≤ 2000) : Sm 60 (spF ns m i a) := by
  unfold spF moOf Sm
  rw [Int.fmod_eq_emod_of_nonneg _ (by decide)]
  cases i == spOf ns m <;> simp only [cond_true, cond_false] <;> lia
abbrev T1 (ns : List Int) (m : Nat) : Sto := ("coefficients", .list (pis (csOf ns m))) :: ("many", .int m) :: L1 ns
abbrev T2 (ns : List Int) (m : Nat) : Sto := ("told", .list (pis (valsV m (csOf ns m)))) :: T1 ns m
abbrev T3 (ns : List Int) (m : Nat) : Sto := ("more", .int (moOf ns)) :: ("spot", .int (spOf ns m)) :: T2 ns m
abbrev T4 (ns : List Int) (m : Nat) (v : List Int) : Sto := ("spoilt", .list (pis v)) :: T3 ns m
abbrev T5 (ns : List Int) (m : Nat) (v : List Int) : Sto := ("free", .list (pis (frOf ns m))) :: T4 ns m v
abbrev T6 (ns : List Int) (m : Nat) (v u : List Int) : Sto := ("due", pOpt (dueV u)) :: ("values", .list (pis u)) :: T5 ns m v

set_option maxRecDepth 10000
set_option maxHeartbeats 4000000 in
theorem law_true {w : World} {s : Shared} {a : Addr} {vs : List Value} {ns : List Int} (B : Bs w s.heap) (hL : s.heap.IsList a vs.toArray) (hI : IntsAre vs ns) (hlen : ns.length ≤ 63) {Post : Result → Shared → Prop}
    (hp : ∀ h' tk, s.heap.StaysIn h' → Post (.ok (.ret (.bool true))) { s with heap := h', toks := tk }) : codeAny (model prg w) callerA (.call (.ref 238) ⟨[.ref a], []⟩) Post s := by
  refine enter_top (ps := [.list (pis ns)]) ["script"] rfl rfl (all1 fun a => rfl) rfl rfl rfl rfl rfl B (.cons (.list hL id (Reps.of_ints hI)) .nil) (fun C hw ht hsc hd O H => ?_) hp
  obtain ⟨sl, su, sn⟩ := someL_ok ns
  have hd10 : 10 ≤ C.d := by lia
  have hl0 : (pis ns).length = ns.length := List.length_map ..
  have hlt : ((pis ns).take 12).length ≤ 1000 := by rw [List.length_take]; lia
  refine x_plain (n := 20) hsc hw hd10 O H (σ₁ := L0 ns) ?_ ?_
  · have e := runG_map absG (List.take (Int.toNat 12) (pis ns)) []
    refine ⟨by rw [hl0]; lia, (by decide : (0:Int) ≤ 12), hlt, fun p => some (.ret (absG p)), fun p hp => ?_, ?_⟩
    · obtain ⟨x, _, rfl⟩ := List.mem_map.mp (List.mem_of_mem_take hp)
      exact ⟨fun _ => rfl, fun q => nomatch q⟩
    · rw [e]
      have hz : (pis ns).length < 2 ^ 62 := by rw [hl0]; lia
      refine ⟨hz, ?_, ?_⟩
      · show ([] ++ _).length + 8 ≤ 1000
        rw [List.nil_append, List.length_map, List.length_take]
        lia
      · exact congrArg (fun p => FO.next [("some", p), ("script", .list (pis ns))]) (some_eq ns)
  refine x_plain (n := 20) hsc hw hd10 O H (σ₁ := L1 ns) ?_ ?_
  · exact ⟨_, pis_get (someL_at ns (i := 0) (by lia)).1, (by decide : (0:Int) ≤ 0 ∧ (0:Int) < 2 ^ 63), (by decide : (8:Int) ≠ 0), rfl⟩
  refine x_forT (n := 20) hsc hw hd10 O H rfl rfl ?_ ?_
  rotate_left
  · exact fun s Q E F P => WS_sound (n := 20) hw hd10 O H (K := fun fo => fo = .ret (.bool true)) (by rw [hsc]; rfl) s Q E F P
  show ∀ C', _
  intro C' O' H' hsc' hw' hd' ht' p hp
  rw [ht] at ht'
  obtain ⟨m, hm, rfl⟩ : ∃ m : Nat, (m = 4 ∨ m = 5 ∨ m = 7) ∧ p = .int m := by
    simp only [List.mem_cons, List.not_mem_nil, or_false] at hp
    rcases hp with rfl | rfl | rfl
    · exact ⟨4, by lia, rfl⟩
    · exact ⟨5, by lia, rfl⟩
    · exact ⟨7, by lia, rfl⟩
  obtain ⟨cl, cb⟩ := csOf_ok ns m
  obtain ⟨hdue, tl, tb⟩ := told_ok hm cl cb
  obtain ⟨wv, ew, hwv⟩ := wOf_ok ns
  have mlt : ((m : Int)).toNat = m := Int.toNat_natCast m
  refine x_plain (n := 20) hsc' hw' hd' O' H' (σ₁ := T1 ns m) ?_ ?_
  · have e := runG_map (iG fun i => ((someL ns).getD (1 + i).toNat 0).fmod 9) (pis (rints 0 1 ((m : Int)).toNat)) []
    refine ⟨by lia, by rw [mlt, rints_len]; lia, fun p => some (.ret (iG (fun i => ((someL ns).getD (1 + i).toNat 0).fmod 9) p)), fun p hp => ?_, ?_⟩
    · obtain ⟨x, hx, rfl⟩ := List.mem_map.mp hp
      obtain ⟨j, rfl, hj⟩ := rints_mem hx
      rw [mlt] at hj
      exact ⟨fun _ => ⟨_, pis_get (someL_at ns (i := (1 + (j : Int)).toNat) (by lia)).1, by lia, (by decide : (9:Int) ≠ 0), rfl⟩, fun q => nomatch q⟩
    · rw [e, mlt, iG_map]
      rfl
  have hw10 : 10 ≤ C'.d := hd'
  refine x_plain (n := 20) hsc' hw' hd' O' H' (σ₁ := T2 ns m) ?_ ?_
  · exact ⟨_, (k_values w (fun c h => by have := cb c h; lia) cl hm).deep (by decide), rfl⟩
  have tS : ∀ x ∈ valsV m (csOf ns m), Sm 60 x := fun x h => by have := tb x h; unfold Sm; lia
  refine x_then (K := fun σ' => σ' = T2 ns m) (fun s Q E F P => x_ifT (tstT_or (Tst.weak (tst_W (n := 20) hsc' hw' hd' O' ?_)) (heard_tst (n := 20) hsc' hw' hd' hd' O' ht' hm tl tS hwv ?_ rfl ?_ rfl rfl)) s Q E F fun fo e => P fo ⟨_, e, rfl⟩) fun σ' e => ?_
  · refine ⟨_, (k_due w hm tl).deep (by decide), ?_⟩
    rw [hdue]
    exact ⟨rfl, .inl ⟨rfl, some (csOf ns m), some (csOf ns m), rfl, rfl, by simp⟩⟩
  · show OutL.ret [_, _, PV.int (wOf ns)] = _
    rw [ew]
  · show Out.ret _ = _
    rw [hdue]; rfl
  subst e
  refine x_plain (n := 20) hsc' hw' hd' O' H' (σ₁ := T3 ns m) ?_ ?_
  · have h0 := pis_get (someL_at ns (i := 0) (by lia)).1
    have hm0 : (m : Int) ≠ 0 := by lia
    exact .inr ⟨fun _ _ => rfl, .int (spOf ns m), ⟨_, h0, (by decide : (0:Int) ≤ 0 ∧ (0:Int) < 2 ^ 63), (by decide : (8:Int) ≠ 0 ∧ (8:Int).natAbs < 2 ^ 64), hm0, rfl⟩, .int (moOf ns), ⟨_, h0, (by decide : (0:Int) ≤ 0 ∧ (0:Int) < 2 ^ 63), (by decide : (64:Int) ≠ 0 ∧ (64:Int).natAbs < 2 ^ 64), (by decide : (13:Int) ≠ 0), rfl⟩, rfl, rfl⟩
  have tl' : (pis (valsV m (csOf ns m))).length ≤ 1000 := by rw [List.length_map]; lia
  obtain ⟨v, ve, vl, vm⟩ := eG_map (spF ns m) (valsV m (csOf ns m)) 0
  have vS : ∀ x ∈ v, Sm 60 x := fun x h => by
    obtain ⟨i, a, ha, rfl⟩ := vm x h
    exact spF_ok ns m (tb a ha)
  rw [tl] at vl
  refine x_plain (n := 20) hsc' hw' hd' O' H' (σ₁ := T4 ns m v) ?_ ?_
  · have e := runG_map (eG (spF ns m)) (enum 0 (pis (valsV m (csOf ns m)))) []
    refine ⟨by rw [enum_length]; exact tl', fun p => some (.ret (eG (spF ns m) p)), fun p hp => ?_, ?_⟩
    · obtain ⟨i, q, hi, hq, rfl⟩ := enum_mem hp
      obtain ⟨a, ha, rfl⟩ := List.mem_map.mp hq
      refine ⟨fun _ => ⟨none, fun q => ?_, fun q => ?_⟩, fun q => nomatch q⟩
      · have q' : (((0 + i : Nat) : Int) == spOf ns m) = true := q
        exact congrArg (fun z => some (Out.ret (.int (a + z)))) (show moOf ns = cond (((0 + i : Nat) : Int) == spOf ns m) (moOf ns) 0 by rw [q']; rfl)
      · have q' : (((0 + i : Nat) : Int) == spOf ns m) = false := q
        exact congrArg (fun z => some (Out.ret (.int (a + z)))) (show 0 = cond (((0 + i : Nat) : Int) == spOf ns m) (moOf ns) 0 by rw [q']; rfl)
    · rw [e, ve]
      rfl
  refine x_plain (n := 20) hsc' hw' hd' O' H' (σ₁ := T5 ns m v) ?_ ?_
  · have e := runG_map (iG fun i => ((someL ns).getD ((i + 2).fmod (pis (someL ns)).length).toNat 0).fmod 41 - 8) (pis (rints 0 1 ((m : Int)).toNat)) []
    refine ⟨by lia, by rw [mlt, rints_len]; lia, fun p => some (.ret (iG (fun i => ((someL ns).getD ((i + 2).fmod (pis (someL ns)).length).toNat 0).fmod 41 - 8) p)), fun p hp => ?_, ?_⟩
    · obtain ⟨x, hx, rfl⟩ := List.mem_map.mp hp
      obtain ⟨j, rfl, hj⟩ := rints_mem hx
      have hl8 : (pis (someL ns)).length = (someL ns).length := List.length_map ..
      have h0 : 0 ≤ ((j : Int) + 2).fmod (pis (someL ns)).length ∧ ((j : Int) + 2).fmod (pis (someL ns)).length < (someL ns).length := by
        rw [hl8, Int.fmod_eq_emod_of_nonneg _ (by lia)]
        exact ⟨Int.emod_nonneg _ (by lia), Int.emod_lt_of_pos _ (by lia)⟩
      exact ⟨fun _ => ⟨by lia, by lia, _, pis_get (someL_at ns (i := (((j : Int) + 2).fmod (pis (someL ns)).length).toNat) (by lia)).1, ⟨h0.1, by lia⟩, (by decide : (41:Int) ≠ 0), rfl⟩, fun q => nomatch q⟩
    · rw [e, mlt, iG_map]
      rfl
  refine x_forT (n := 20) hsc' hw' hd' O' H' rfl rfl ?_ ?_
  rotate_left
  · exact fun s Q E F P => WS_sound (n := 20) hw' hd' O' H' (K := fun fo => ∃ σ', fo = .next σ' ∧ Sub σ' (L1 ns)) (by rw [hsc']; exact ⟨_, rfl, sub_of ⟨rfl, rfl, rfl, trivial⟩⟩) s Q E F P
  show ∀ C', _
  intro C₂ O₂ H₂ hsc₂ hw₂ hd₂ ht₂ p hp
  rw [ht'] at ht₂
  obtain ⟨u, ul, uS, rfl⟩ : ∃ u : List Int, u.length = m ∧ (∀ x ∈ u, Sm 60 x) ∧ p = .list (pis u) := by
    rcases List.mem_cons.mp hp with rfl | hp
    · exact ⟨v, vl, vS, rfl⟩
    · rcases List.mem_cons.mp hp with rfl | hp
      · exact ⟨frOf ns m, (frOf_ok ns m).1, (frOf_ok ns m).2, rfl⟩
      · cases hp
  refine x_plain (n := 20) hsc₂ hw₂ hd₂ O₂ H₂ (σ₁ := T6 ns m v u) ?_ ?_
  · exact ⟨_, (k_due w hm ul).deep (by decide), rfl⟩
  refine x_then (K := fun σ' => σ' = T6 ns m v u) (fun s Q E F P => x_ifT (tstT_or (heard_tst (n := 20) hsc₂ hw₂ hd₂ hd₂ O₂ ht₂ hm ul uS hwv ?_ rfl ?_ rfl rfl) (Tst.weak (tst_W (n := 20) hsc₂ hw₂ hd₂ O₂ ?_))) s Q E F fun fo e => P fo ⟨_, e, rfl⟩) fun σ' e => ?_
  · show OutL.ret [_, _, PV.int (wOf ns)] = _
    rw [ew]
  · rfl
  · rcases due_back hm ul uS with q | ⟨cs, q1, q2, q3, q4⟩
    · unfold T6
      rw [q]
      exact ⟨rfl, .inr ⟨rfl, none, rfl, rfl, Exists.intro false (And.intro (fun q => nomatch q) rfl)⟩⟩
    · unfold T6
      rw [q1]
      refine ⟨rfl, .inr ⟨rfl, some cs, rfl, rfl, Exists.intro false (And.intro (fun _ => ⟨_, (k_values w q4 q3 hm).deep (by decide), rfl, .inl ⟨rfl, some (valsV m cs), some u, rfl, rfl, ?_⟩⟩) rfl)⟩⟩
      rw [q2]
      simp
  subst e
  exact fun s Q E F P => WS_sound (n := 20) hw₂ hd₂ O₂ H₂ (K := fun fo => ∃ σ', fo = .next σ' ∧ Sub σ' (T5 ns m v)) (by rw [hsc₂]; exact ⟨_, rfl, sub_of ⟨rfl, rfl, rfl, rfl, rfl, rfl, rfl, rfl, rfl, rfl, trivial⟩⟩) s Q E F P
end Mine

end
open PySem PySem.W PyProof.Rows
set_option Elab.async false
set_option linter.unusedVariables false
set_option maxRecDepth 100000 in
set_option maxHeartbeats 8000000 in
theorem PySem.Challenge.cw_pq0539_01_holds : PySem.Challenge.rw_pq0539_01.Holds := by
  refine Mine.hd ?_
  intro w s₀ s₁ mg mb G Y fa o pm cd doc dV kV ho hd hcd hD hmg hg args vals as hpre hlay hrd hwl hlo
  have KX := kIn_of Y
  refine Ground.open G ?_
  intro T B D TE TW
  wrow_args hpre hlay hrd hwl hlo
  rename_i ns _ _ _ _ _ a vs _ hL _ _ _ hI _ hc _
  clear D B TE TW Y G
  refine enter_call ?_
  have hfa : fa = 238 := Value.ref.inj (Option.some.inj (hmg.symm.trans (mg_of KX T.g rfl)))
  subst hfa
  refine codeAny_mono (Mine.law_true ⟨KX, _, _, _, T⟩ hL hI ?_ (Post := GoodW _ _ _ _ s₁) ?_) (fun _ _ g => GoodW.toG g)
  · lia
  · intro h' tk st
    refine ⟨.inl ⟨.bool true, .bool true, [], rfl, raisesW_false ?_, ReadsW.bool _, ?_, ?_⟩, st, rfl, hg⟩
    · wrow_none_raised
    · wrow_post
    · exact unshared_nil

