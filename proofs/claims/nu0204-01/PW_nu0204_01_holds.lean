import PyProof.Rows.All
import Wide.All
import OpenK.AllK
import Wide.FinOn
import KE.KDictAnyGet
import KE.KDictAnyTail
import PyProof.NeKinds
import PyProof.AttrMissHeap
import PySem.Challenge.RW_nu0204_01
open PySem PySem.W PyProof.Rows PySem.Calls PySem.Spec
set_option Elab.async false
set_option linter.all false
section
set_option autoImplicit false
set_option linter.unusedVariables false
set_option maxRecDepth 100000
set_option maxHeartbeats 0
namespace Mine
noncomputable abbrev Pg : Program := PySem.Challenge.rw_nu0204_01.row.toRowW.prog
noncomputable def nth : List Stmt → Nat → Stmt
  | [], _ => .Pass ⟨0, 0, 0, 0⟩
  | x :: _, 0 => x
  | _ :: r, n + 1 => nth r n
noncomputable def tp (i : Nat) : Stmt := nth PySem.Challenge.pw_nu0204_01.main.body i
noncomputable def mp (i j : Nat) : Stmt := match tp i with
  | .ClassDef _ _ _ b _ _ _ _ _ _ _ => nth b j
  | _ => .Pass ⟨0, 0, 0, 0⟩
noncomputable def en (P : Params) (x : String) (t : Tok) (v : Value) : DictEntry := ⟨PyData.keyHash P (.ofString x), .str (.ofString x) t, v⟩
noncomputable def fnO (st : Stmt) (c : Value) (d : Option Addr) (q : Str) (gl : Addr) (cl : List (Str × Addr)) (dV kV doc pm : Value) (an : Option Addr) (cd ct : Value) (bl : Addr) (sl : Array (Option Value)) : Obj := match st with
  | .FunctionDef nm ps b _ _ _ sc _ _ _ => ⟨c, d, .func ⟨nm, q, ps, .stmts b, sc, gl, cl, dV, kV, doc, pm, an, cd, ct, bl⟩, sl⟩
  | _ => default
noncomputable def put (t : BT) (l : List (Nat × Obj)) : BT := l.foldl (fun t p => t.ins p.1 p.2) t
noncomputable def stt (t : Params → BT) (n k : Nat) (w : World) (os : OsState) : SharedT := ⟨t w.params, n, {}, Array.mk [], {}, k, os⟩
noncomputable def o_43 (P : Params) : Obj := ⟨.type "tuple", none, .seq #[] 0, #[]⟩
noncomputable def o_44 (P : Params) : Obj := ⟨.none, none, .fields #[], #[]⟩
noncomputable def o_45 (P : Params) : Obj := ⟨.type "code", none, .fields #[.str (.ofString "<module>") 182, .str (.ofString "<module>") 183, .str (.ofString "/claim/cut.py") 184, .int 1 0, .int 0 0, .int 0 0, .int 0 0, .int 0 0, .ref 11, .bool false, .int 181 0, .ref 12, .none, .none, .none, .none, .int 185 0, .int 1 0, .str (.ofString "/claim/cut.py") 186], #[]⟩
noncomputable def o_46 (P : Params) : Obj := ⟨.type "frame", none, .plain, #[some (.ref 13), some (.ref 3), some (.ref 3), none, some (.str (.ofString "__main__") 164), none, some (.ref 0)]⟩
noncomputable def o_49 (P : Params) : Obj := ⟨.type "dict", none, .dict #[en P "__name__" 165 (.str (.ofString "joinedhand.contexts") 260), en P "__doc__" 166 .none, en P "__package__" 167 .none, en P "__loader__" 168 (.builtin "__main__.__loader__#opaque"), en P "__spec__" 169 .none, en P "__annotations__" 170 (.ref 6), en P "__builtins__" 171 (.ref 4), en P "__file__" 173 (.str (.ofString "/claim/cut.py") 172), en P "__cached__" 174 .none, en P "_wall" 193 (.ref 21), en P "Coverage" 250 (.ref 59), en P "coverage_of" 259 (.ref 70)] 12, #[]⟩
noncomputable def o_50 (P : Params) : Obj := ⟨.none, none, .fields #[.int 1 0, .int 0 0, .ref 20, .int 5 0, .int 0 0, .ref 27, .int 28 0, .int 0 0, .ref 69], #[]⟩
noncomputable def o_51 (P : Params) : Obj := ⟨.type "tuple", none, .seq #[] 0, #[]⟩
noncomputable def o_52 (P : Params) : Obj := ⟨.none, none, .fields #[], #[]⟩
noncomputable def o_53 (P : Params) : Obj := ⟨.type "tuple", none, .seq #[.str (.ofString "k") 190] 0, #[]⟩
noncomputable def o_54 (P : Params) : Obj := ⟨.type "tuple", none, .seq #[] 0, #[]⟩
noncomputable def o_55 (P : Params) : Obj := fnO (tp 0) .none none (.ofString "_wall") 0 [] .none .none .none .none none .none .none 0 #[]
noncomputable def o_56 (P : Params) : Obj := ⟨.type "code", none, .fields #[.str (.ofString "_wall") 187, .str (.ofString "_wall") 188, .str (.ofString "/claim/cut.py") 189, .int 1 0, .int 1 0, .int 0 0, .int 0 0, .int 3 0, .ref 15, .bool true, .int 181 0, .ref 16, .none, .ref 17, .ref 18, .ref 19, .int 191 0, .int 1 0, .str (.ofString "/claim/cut.py") 192], #[]⟩
noncomputable def o_57 (P : Params) : Obj := fnO (tp 0) (.type "function") none (.ofString "_wall") 3 [] .none .none .none (.str (.ofString "__main__") 164) none (.ref 20) .none 0 #[]
noncomputable def o_58 (P : Params) : Obj := ⟨.type "tuple", none, .seq #[] 0, #[]⟩
noncomputable def o_59 (P : Params) : Obj := ⟨.type "builtin_function_or_method", none, .fields #[.builtin "type.__prepare__", .type "type"], #[]⟩
noncomputable def o_60 (P : Params) : Obj := ⟨.type "dict", none, .dict #[en P "__module__" 203 (.str (.ofString "joinedhand.coverage") 194), en P "__qualname__" 205 (.str (.ofString "Coverage") 204), en P "__firstlineno__" 207 (.int 5 206), en P "__init__" 215 (.ref 35), en P "index" 226 (.ref 42), en P "has" 234 (.ref 49), en P "told" 241 (.ref 56), en P "__static_attributes__" 243 (.ref 57)] 8, #[]⟩
noncomputable def o_61 (P : Params) : Obj := ⟨.type "tuple", none, .seq #[] 0, #[]⟩
noncomputable def o_62 (P : Params) : Obj := ⟨.none, none, .fields #[.int 7 0, .int 4 0, .ref 34, .int 10 0, .int 4 0, .ref 41, .int 23 0, .int 4 0, .ref 48, .int 26 0, .int 4 0, .ref 55], #[]⟩
noncomputable def o_63 (P : Params) : Obj := ⟨.type "code", none, .fields #[.str (.ofString "Coverage") 198, .str (.ofString "Coverage") 199, .str (.ofString "/claim/cut.py") 200, .int 5 0, .int 0 0, .int 0 0, .int 0 0, .int 0 0, .ref 25, .bool false, .int 181 0, .ref 26, .none, .none, .none, .none, .int 201 0, .int 5 0, .str (.ofString "/claim/cut.py") 202], #[]⟩
noncomputable def o_64 (P : Params) : Obj := ⟨.type "frame", none, .plain, #[some (.ref 27), some (.ref 3), some (.ref 24), none, some (.str (.ofString "joinedhand.coverage") 194), none, some (.ref 0)]⟩
noncomputable def o_65 (P : Params) : Obj := ⟨.type "tuple", none, .seq #[] 0, #[]⟩
noncomputable def o_66 (P : Params) : Obj := ⟨.none, none, .fields #[], #[]⟩
noncomputable def o_67 (P : Params) : Obj := ⟨.type "tuple", none, .seq #[.str (.ofString "self") 211, .str (.ofString "glyphs") 212] 0, #[]⟩
noncomputable def o_68 (P : Params) : Obj := ⟨.type "tuple", none, .seq #[] 0, #[]⟩
noncomputable def o_69 (P : Params) : Obj := fnO (mp 2 0) .none none (.ofString "Coverage.__init__") 0 [] .none .none .none .none none .none .none 0 #[]
noncomputable def o_70 (P : Params) : Obj := ⟨.type "code", none, .fields #[.str (.ofString "__init__") 208, .str (.ofString "Coverage.__init__") 209, .str (.ofString "/claim/cut.py") 210, .int 7 0, .int 2 0, .int 0 0, .int 0 0, .int 3 0, .ref 29, .bool true, .int 181 0, .ref 30, .none, .ref 31, .ref 32, .ref 33, .int 213 0, .int 7 0, .str (.ofString "/claim/cut.py") 214], #[]⟩
noncomputable def o_71 (P : Params) : Obj := fnO (mp 2 0) (.type "function") none (.ofString "Coverage.__init__") 3 [] .none .none .none (.str (.ofString "joinedhand.coverage") 194) none (.ref 34) .none 0 #[]
noncomputable def o_72 (P : Params) : Obj := ⟨.type "tuple", none, .seq #[] 0, #[]⟩
noncomputable def o_73 (P : Params) : Obj := ⟨.none, none, .fields #[], #[]⟩
noncomputable def o_74 (P : Params) : Obj := ⟨.type "tuple", none, .seq #[.str (.ofString "self") 219, .str (.ofString "glyph") 220, .str (.ofString "low") 221, .str (.ofString "high") 222, .str (.ofString "middle") 223] 0, #[]⟩
noncomputable def o_75 (P : Params) : Obj := ⟨.type "tuple", none, .seq #[] 0, #[]⟩
noncomputable def o_76 (P : Params) : Obj := fnO (mp 2 1) .none none (.ofString "Coverage.index") 0 [] .none .none .none .none none .none .none 0 #[]
noncomputable def o_77 (P : Params) : Obj := ⟨.type "code", none, .fields #[.str (.ofString "index") 216, .str (.ofString "Coverage.index") 217, .str (.ofString "/claim/cut.py") 218, .int 10 0, .int 2 0, .int 0 0, .int 0 0, .int 3 0, .ref 36, .bool true, .int 181 0, .ref 37, .none, .ref 38, .ref 39, .ref 40, .int 224 0, .int 10 0, .str (.ofString "/claim/cut.py") 225], #[]⟩
noncomputable def o_78 (P : Params) : Obj := fnO (mp 2 1) (.type "function") none (.ofString "Coverage.index") 3 [] .none .none .none (.str (.ofString "joinedhand.coverage") 194) none (.ref 41) .none 0 #[]
noncomputable def o_79 (P : Params) : Obj := ⟨.type "tuple", none, .seq #[] 0, #[]⟩
noncomputable def o_80 (P : Params) : Obj := ⟨.none, none, .fields #[], #[]⟩
noncomputable def o_81 (P : Params) : Obj := ⟨.type "tuple", none, .seq #[.str (.ofString "self") 230, .str (.ofString "glyph") 231] 0, #[]⟩
noncomputable def o_82 (P : Params) : Obj := ⟨.type "tuple", none, .seq #[] 0, #[]⟩
noncomputable def o_83 (P : Params) : Obj := fnO (mp 2 2) .none none (.ofString "Coverage.has") 0 [] .none .none .none .none none .none .none 0 #[]
noncomputable def o_84 (P : Params) : Obj := ⟨.type "code", none, .fields #[.str (.ofString "has") 227, .str (.ofString "Coverage.has") 228, .str (.ofString "/claim/cut.py") 229, .int 23 0, .int 2 0, .int 0 0, .int 0 0, .int 3 0, .ref 43, .bool true, .int 181 0, .ref 44, .none, .ref 45, .ref 46, .ref 47, .int 232 0, .int 23 0, .str (.ofString "/claim/cut.py") 233], #[]⟩
noncomputable def o_85 (P : Params) : Obj := fnO (mp 2 2) (.type "function") none (.ofString "Coverage.has") 3 [] .none .none .none (.str (.ofString "joinedhand.coverage") 194) none (.ref 48) .none 0 #[]
noncomputable def o_86 (P : Params) : Obj := ⟨.type "tuple", none, .seq #[] 0, #[]⟩
noncomputable def o_87 (P : Params) : Obj := ⟨.none, none, .fields #[], #[]⟩
noncomputable def o_88 (P : Params) : Obj := ⟨.type "tuple", none, .seq #[.str (.ofString "self") 238] 0, #[]⟩
noncomputable def o_89 (P : Params) : Obj := ⟨.type "tuple", none, .seq #[] 0, #[]⟩
noncomputable def o_90 (P : Params) : Obj := fnO (mp 2 3) .none none (.ofString "Coverage.told") 0 [] .none .none .none .none none .none .none 0 #[]
noncomputable def o_91 (P : Params) : Obj := ⟨.type "code", none, .fields #[.str (.ofString "told") 235, .str (.ofString "Coverage.told") 236, .str (.ofString "/claim/cut.py") 237, .int 26 0, .int 1 0, .int 0 0, .int 0 0, .int 3 0, .ref 50, .bool true, .int 181 0, .ref 51, .none, .ref 52, .ref 53, .ref 54, .int 239 0, .int 26 0, .str (.ofString "/claim/cut.py") 240], #[]⟩
noncomputable def o_92 (P : Params) : Obj := fnO (mp 2 3) (.type "function") none (.ofString "Coverage.told") 3 [] .none .none .none (.str (.ofString "joinedhand.coverage") 194) none (.ref 55) .none 0 #[]
noncomputable def o_93 (P : Params) : Obj := ⟨.type "tuple", none, .seq #[.str (.ofString "glyphs") 242] 0, #[]⟩
noncomputable def o_94 (P : Params) : Obj := ⟨.type "dict", none, .dict #[en P "__module__" 203 (.str (.ofString "joinedhand.coverage") 194), en P "__firstlineno__" 207 (.int 5 206), en P "__init__" 215 (.ref 35), en P "index" 226 (.ref 42), en P "has" 234 (.ref 49), en P "told" 241 (.ref 56), en P "__static_attributes__" 243 (.ref 57), en P "__dict__" 245 (.ref 60), en P "__weakref__" 247 (.ref 61), en P "__doc__" 248 .none] 4, #[]⟩
noncomputable def o_95 (P : Params) : Obj := ⟨.type "type", none, .cls ⟨.ofString "Coverage", [.type "object"], [.ref 59, .type "object"], 58, .ofString "Coverage", true, [], [], false, none, false⟩, #[none, none, some (.str (.ofString "Coverage") 196), some (.str (.ofString "Coverage") 204), some (.builtin "object.__new__"), some (.bool true)]⟩
noncomputable def o_96 (P : Params) : Obj := ⟨.type "getset_descriptor", none, .fields #[.str (.ofString "__dict__") 244, .ref 59, .builtin "function.__dict__", .builtin "function.__dict__#set"], #[]⟩
noncomputable def o_97 (P : Params) : Obj := ⟨.type "getset_descriptor", none, .fields #[.str (.ofString "__weakref__") 246, .ref 59, .builtin "ExceptionGroup.__weakref__", .none], #[]⟩
noncomputable def o_98 (P : Params) : Obj := ⟨.type "super", none, .fields #[.ref 59, .ref 59, .ref 59], #[]⟩
noncomputable def o_99 (P : Params) : Obj := ⟨.type "builtin_function_or_method", none, .fields #[.builtin "object.__init_subclass__", .ref 59], #[]⟩
noncomputable def o_100 (P : Params) : Obj := ⟨.type "tuple", none, .seq #[] 0, #[]⟩
noncomputable def o_101 (P : Params) : Obj := ⟨.none, none, .fields #[], #[]⟩
noncomputable def o_102 (P : Params) : Obj := ⟨.type "tuple", none, .seq #[.str (.ofString "glyphs") 254, .str (.ofString "found") 255, .str (.ofString "glyph") 256] 0, #[]⟩
noncomputable def o_103 (P : Params) : Obj := ⟨.type "tuple", none, .seq #[] 0, #[]⟩
noncomputable def o_104 (P : Params) : Obj := fnO (tp 3) .none none (.ofString "coverage_of") 0 [] .none .none .none .none none .none .none 0 #[]
noncomputable def o_105 (P : Params) : Obj := ⟨.type "code", none, .fields #[.str (.ofString "coverage_of") 251, .str (.ofString "coverage_of") 252, .str (.ofString "/claim/cut.py") 253, .int 28 0, .int 1 0, .int 0 0, .int 0 0, .int 3 0, .ref 64, .bool true, .int 181 0, .ref 65, .none, .ref 66, .ref 67, .ref 68, .int 257 0, .int 28 0, .str (.ofString "/claim/cut.py") 258], #[]⟩
noncomputable def o_106 (P : Params) : Obj := fnO (tp 3) (.type "function") none (.ofString "coverage_of") 3 [] .none .none .none (.str (.ofString "joinedhand.coverage") 194) none (.ref 69) .none 0 #[]
noncomputable def o_107 (P : Params) : Obj := ⟨.type "dict", none, .dict #[en P "__name__" 165 (.str (.ofString "joinedhand.contexts") 260), en P "__doc__" 166 .none, en P "__package__" 167 .none, en P "__loader__" 168 (.builtin "__main__.__loader__#opaque"), en P "__spec__" 169 .none, en P "__annotations__" 170 (.ref 6), en P "__builtins__" 171 (.ref 4), en P "__file__" 173 (.str (.ofString "/claim/cut.py") 172), en P "__cached__" 174 .none, en P "_wall" 193 (.ref 21), en P "Coverage" 250 (.ref 59), en P "coverage_of" 259 (.ref 70), en P "BY_GLYPHS" 263 (.int 1 262), en P "BY_CLASSES" 265 (.int 2 264), en P "Rule" 314 (.ref 101)] 15, #[]⟩
noncomputable def o_108 (P : Params) : Obj := ⟨.none, none, .fields #[.int 1 0, .int 0 0, .ref 20, .int 5 0, .int 0 0, .ref 27, .int 28 0, .int 0 0, .ref 69, .int 36 0, .int 0 0, .ref 76], #[]⟩
noncomputable def o_109 (P : Params) : Obj := ⟨.type "tuple", none, .seq #[] 0, #[]⟩
noncomputable def o_110 (P : Params) : Obj := ⟨.type "builtin_function_or_method", none, .fields #[.builtin "type.__prepare__", .type "type"], #[]⟩
noncomputable def o_111 (P : Params) : Obj := ⟨.type "dict", none, .dict #[en P "__module__" 273 (.str (.ofString "joinedhand.contexts") 260), en P "__qualname__" 275 (.str (.ofString "Rule") 274), en P "__firstlineno__" 277 (.int 36 276), en P "__init__" 288 (.ref 84), en P "told" 295 (.ref 91), en P "reach" 302 (.ref 98), en P "__static_attributes__" 307 (.ref 99)] 7, #[]⟩
noncomputable def o_112 (P : Params) : Obj := ⟨.type "tuple", none, .seq #[] 0, #[]⟩
noncomputable def o_113 (P : Params) : Obj := ⟨.none, none, .fields #[.int 38 0, .int 4 0, .ref 83, .int 44 0, .int 4 0, .ref 90, .int 47 0, .int 4 0, .ref 97], #[]⟩
noncomputable def o_114 (P : Params) : Obj := ⟨.type "code", none, .fields #[.str (.ofString "Rule") 268, .str (.ofString "Rule") 269, .str (.ofString "/claim/cut.py") 270, .int 36 0, .int 0 0, .int 0 0, .int 0 0, .int 0 0, .ref 74, .bool false, .int 181 0, .ref 75, .none, .none, .none, .none, .int 271 0, .int 36 0, .str (.ofString "/claim/cut.py") 272], #[]⟩
noncomputable def o_115 (P : Params) : Obj := ⟨.type "frame", none, .plain, #[some (.ref 76), some (.ref 3), some (.ref 73), none, some (.str (.ofString "joinedhand.contexts") 260), none, some (.ref 0)]⟩
noncomputable def o_116 (P : Params) : Obj := ⟨.type "tuple", none, .seq #[] 0, #[]⟩
noncomputable def o_117 (P : Params) : Obj := ⟨.none, none, .fields #[], #[]⟩
noncomputable def o_118 (P : Params) : Obj := ⟨.type "tuple", none, .seq #[.str (.ofString "self") 281, .str (.ofString "back") 282, .str (.ofString "inside") 283, .str (.ofString "ahead") 284, .str (.ofString "actions") 285] 0, #[]⟩
noncomputable def o_119 (P : Params) : Obj := ⟨.type "tuple", none, .seq #[] 0, #[]⟩
noncomputable def o_120 (P : Params) : Obj := fnO (mp 7 0) .none none (.ofString "Rule.__init__") 0 [] .none .none .none .none none .none .none 0 #[]
noncomputable def o_121 (P : Params) : Obj := ⟨.type "code", none, .fields #[.str (.ofString "__init__") 278, .str (.ofString "Rule.__init__") 279, .str (.ofString "/claim/cut.py") 280, .int 38 0, .int 5 0, .int 0 0, .int 0 0, .int 3 0, .ref 78, .bool true, .int 181 0, .ref 79, .none, .ref 80, .ref 81, .ref 82, .int 286 0, .int 38 0, .str (.ofString "/claim/cut.py") 287], #[]⟩
noncomputable def o_122 (P : Params) : Obj := fnO (mp 7 0) (.type "function") none (.ofString "Rule.__init__") 3 [] .none .none .none (.str (.ofString "joinedhand.contexts") 260) none (.ref 83) .none 0 #[]
noncomputable def o_123 (P : Params) : Obj := ⟨.type "tuple", none, .seq #[] 0, #[]⟩
noncomputable def o_124 (P : Params) : Obj := ⟨.none, none, .fields #[], #[]⟩
noncomputable def o_125 (P : Params) : Obj := ⟨.type "tuple", none, .seq #[.str (.ofString "self") 292] 0, #[]⟩
noncomputable def o_126 (P : Params) : Obj := ⟨.type "tuple", none, .seq #[] 0, #[]⟩
noncomputable def o_127 (P : Params) : Obj := fnO (mp 7 1) .none none (.ofString "Rule.told") 0 [] .none .none .none .none none .none .none 0 #[]
noncomputable def o_128 (P : Params) : Obj := ⟨.type "code", none, .fields #[.str (.ofString "told") 289, .str (.ofString "Rule.told") 290, .str (.ofString "/claim/cut.py") 291, .int 44 0, .int 1 0, .int 0 0, .int 0 0, .int 3 0, .ref 85, .bool true, .int 181 0, .ref 86, .none, .ref 87, .ref 88, .ref 89, .int 293 0, .int 44 0, .str (.ofString "/claim/cut.py") 294], #[]⟩
noncomputable def o_129 (P : Params) : Obj := fnO (mp 7 1) (.type "function") none (.ofString "Rule.told") 3 [] .none .none .none (.str (.ofString "joinedhand.contexts") 260) none (.ref 90) .none 0 #[]
noncomputable def o_130 (P : Params) : Obj := ⟨.type "tuple", none, .seq #[] 0, #[]⟩
noncomputable def o_131 (P : Params) : Obj := ⟨.none, none, .fields #[], #[]⟩
noncomputable def o_132 (P : Params) : Obj := ⟨.type "tuple", none, .seq #[.str (.ofString "self") 299] 0, #[]⟩
noncomputable def o_133 (P : Params) : Obj := ⟨.type "tuple", none, .seq #[] 0, #[]⟩
noncomputable def o_134 (P : Params) : Obj := fnO (mp 7 2) .none none (.ofString "Rule.reach") 0 [] .none .none .none .none none .none .none 0 #[]
noncomputable def o_135 (P : Params) : Obj := ⟨.type "code", none, .fields #[.str (.ofString "reach") 296, .str (.ofString "Rule.reach") 297, .str (.ofString "/claim/cut.py") 298, .int 47 0, .int 1 0, .int 0 0, .int 0 0, .int 3 0, .ref 92, .bool true, .int 181 0, .ref 93, .none, .ref 94, .ref 95, .ref 96, .int 300 0, .int 47 0, .str (.ofString "/claim/cut.py") 301], #[]⟩
noncomputable def o_136 (P : Params) : Obj := fnO (mp 7 2) (.type "function") none (.ofString "Rule.reach") 3 [] .none .none .none (.str (.ofString "joinedhand.contexts") 260) none (.ref 97) .none 0 #[]
noncomputable def o_137 (P : Params) : Obj := ⟨.type "tuple", none, .seq #[.str (.ofString "actions") 303, .str (.ofString "ahead") 304, .str (.ofString "back") 305, .str (.ofString "inside") 306] 0, #[]⟩
noncomputable def o_138 (P : Params) : Obj := ⟨.type "dict", none, .dict #[en P "__module__" 273 (.str (.ofString "joinedhand.contexts") 260), en P "__firstlineno__" 277 (.int 36 276), en P "__init__" 288 (.ref 84), en P "told" 295 (.ref 91), en P "reach" 302 (.ref 98), en P "__static_attributes__" 307 (.ref 99), en P "__dict__" 309 (.ref 102), en P "__weakref__" 311 (.ref 103), en P "__doc__" 312 .none] 4, #[]⟩
noncomputable def o_139 (P : Params) : Obj := ⟨.type "type", none, .cls ⟨.ofString "Rule", [.type "object"], [.ref 101, .type "object"], 100, .ofString "Rule", true, [], [], false, none, false⟩, #[none, none, some (.str (.ofString "Rule") 266), some (.str (.ofString "Rule") 274), some (.builtin "object.__new__"), some (.bool true)]⟩
noncomputable def o_140 (P : Params) : Obj := ⟨.type "getset_descriptor", none, .fields #[.str (.ofString "__dict__") 308, .ref 101, .builtin "function.__dict__", .builtin "function.__dict__#set"], #[]⟩
noncomputable def o_141 (P : Params) : Obj := ⟨.type "getset_descriptor", none, .fields #[.str (.ofString "__weakref__") 310, .ref 101, .builtin "ExceptionGroup.__weakref__", .none], #[]⟩
noncomputable def o_142 (P : Params) : Obj := ⟨.type "super", none, .fields #[.ref 101, .ref 101, .ref 101], #[]⟩
noncomputable def o_143 (P : Params) : Obj := ⟨.type "builtin_function_or_method", none, .fields #[.builtin "object.__init_subclass__", .ref 101], #[]⟩
noncomputable def o_144 (P : Params) : Obj := ⟨.type "dict", none, .dict #[en P "__name__" 165 (.str (.ofString "joinedhand.contexts") 260), en P "__doc__" 166 .none, en P "__package__" 167 .none, en P "__loader__" 168 (.builtin "__main__.__loader__#opaque"), en P "__spec__" 169 .none, en P "__annotations__" 170 (.ref 6), en P "__builtins__" 171 (.ref 4), en P "__file__" 173 (.str (.ofString "/claim/cut.py") 172), en P "__cached__" 174 .none, en P "_wall" 193 (.ref 21), en P "Coverage" 250 (.ref 59), en P "coverage_of" 259 (.ref 70), en P "BY_GLYPHS" 263 (.int 1 262), en P "BY_CLASSES" 265 (.int 2 264), en P "Rule" 314 (.ref 101), en P "Contexts" 374 (.ref 142), en P "told_row" 380 (.ref 151), en P "tests_of" 386 (.ref 156)] 18, #[]⟩
noncomputable def o_145 (P : Params) : Obj := ⟨.none, none, .fields #[.int 1 0, .int 0 0, .ref 20, .int 5 0, .int 0 0, .ref 27, .int 28 0, .int 0 0, .ref 69, .int 36 0, .int 0 0, .ref 76, .int 49 0, .int 0 0, .ref 111, .int 73 0, .int 0 0, .ref 150, .int 75 0, .int 0 0, .ref 155], #[]⟩
noncomputable def o_146 (P : Params) : Obj := ⟨.type "tuple", none, .seq #[] 0, #[]⟩
noncomputable def o_147 (P : Params) : Obj := ⟨.type "builtin_function_or_method", none, .fields #[.builtin "type.__prepare__", .type "type"], #[]⟩
noncomputable def o_148 (P : Params) : Obj := ⟨.type "dict", none, .dict #[en P "__module__" 322 (.str (.ofString "joinedhand.contexts") 260), en P "__qualname__" 324 (.str (.ofString "Contexts") 323), en P "__firstlineno__" 326 (.int 49 325), en P "__init__" 338 (.ref 120), en P "told" 344 (.ref 125), en P "used_classes" 351 (.ref 132), en P "rules" 361 (.ref 139), en P "__static_attributes__" 367 (.ref 140)] 8, #[]⟩
noncomputable def o_149 (P : Params) : Obj := ⟨.type "tuple", none, .seq #[] 0, #[]⟩
noncomputable def o_150 (P : Params) : Obj := ⟨.none, none, .fields #[.int 51 0, .int 4 0, .ref 119, .int 58 0, .int 4 0, .ref 124, .int 64 0, .int 4 0, .ref 131, .int 67 0, .int 4 0, .ref 138], #[]⟩
noncomputable def o_151 (P : Params) : Obj := ⟨.type "code", none, .fields #[.str (.ofString "Contexts") 317, .str (.ofString "Contexts") 318, .str (.ofString "/claim/cut.py") 319, .int 49 0, .int 0 0, .int 0 0, .int 0 0, .int 0 0, .ref 109, .bool false, .int 181 0, .ref 110, .none, .none, .none, .none, .int 320 0, .int 49 0, .str (.ofString "/claim/cut.py") 321], #[]⟩
noncomputable def o_152 (P : Params) : Obj := ⟨.type "frame", none, .plain, #[some (.ref 111), some (.ref 3), some (.ref 108), none, some (.str (.ofString "joinedhand.contexts") 260), none, some (.ref 0)]⟩
noncomputable def o_153 (P : Params) : Obj := ⟨.type "tuple", none, .seq #[.none, .none] 0, #[]⟩
noncomputable def o_154 (P : Params) : Obj := ⟨.type "tuple", none, .seq #[] 0, #[]⟩
noncomputable def o_155 (P : Params) : Obj := ⟨.none, none, .fields #[], #[]⟩
noncomputable def o_156 (P : Params) : Obj := ⟨.type "tuple", none, .seq #[.str (.ofString "self") 330, .str (.ofString "form") 331, .str (.ofString "is_chained") 332, .str (.ofString "sets") 333, .str (.ofString "coverage") 334, .str (.ofString "classes") 335] 0, #[]⟩
noncomputable def o_157 (P : Params) : Obj := ⟨.type "tuple", none, .seq #[] 0, #[]⟩
noncomputable def o_158 (P : Params) : Obj := fnO (mp 8 0) .none none (.ofString "Contexts.__init__") 0 [] .none .none .none .none none .none .none 0 #[]
noncomputable def o_159 (P : Params) : Obj := ⟨.type "code", none, .fields #[.str (.ofString "__init__") 327, .str (.ofString "Contexts.__init__") 328, .str (.ofString "/claim/cut.py") 329, .int 51 0, .int 6 0, .int 0 0, .int 0 0, .int 3 0, .ref 114, .bool true, .int 181 0, .ref 115, .none, .ref 116, .ref 117, .ref 118, .int 336 0, .int 51 0, .str (.ofString "/claim/cut.py") 337], #[]⟩
noncomputable def o_160 (P : Params) : Obj := fnO (mp 8 0) (.type "function") none (.ofString "Contexts.__init__") 3 [] (.ref 113) .none .none (.str (.ofString "joinedhand.contexts") 260) none (.ref 119) .none 0 #[]
noncomputable def o_161 (P : Params) : Obj := ⟨.type "tuple", none, .seq #[] 0, #[]⟩
noncomputable def o_162 (P : Params) : Obj := ⟨.none, none, .fields #[], #[]⟩
noncomputable def o_163 (P : Params) : Obj := fnO (mp 8 1) .none none (.ofString "Contexts.told") 0 [] .none .none .none .none none .none .none 0 #[]
noncomputable def o_164 (P : Params) : Obj := ⟨.type "code", none, .fields #[.str (.ofString "told") 339, .str (.ofString "Contexts.told") 340, .str (.ofString "/claim/cut.py") 341, .int 58 0, .int 1 0, .int 0 0, .int 0 0, .int 3 0, .ref 121, .bool true, .int 181 0, .ref 122, .none, .none, .none, .ref 123, .int 342 0, .int 58 0, .str (.ofString "/claim/cut.py") 343], #[]⟩
noncomputable def o_165 (P : Params) : Obj := fnO (mp 8 1) (.type "function") none (.ofString "Contexts.told") 3 [] .none .none .none (.str (.ofString "joinedhand.contexts") 260) none (.ref 124) .none 0 #[]
noncomputable def o_166 (P : Params) : Obj := ⟨.type "tuple", none, .seq #[] 0, #[]⟩
noncomputable def o_167 (P : Params) : Obj := ⟨.none, none, .fields #[], #[]⟩
noncomputable def o_168 (P : Params) : Obj := ⟨.type "tuple", none, .seq #[.str (.ofString "self") 348] 0, #[]⟩
noncomputable def o_169 (P : Params) : Obj := ⟨.type "tuple", none, .seq #[] 0, #[]⟩
noncomputable def o_170 (P : Params) : Obj := fnO (mp 8 2) .none none (.ofString "Contexts.used_classes") 0 [] .none .none .none .none none .none .none 0 #[]
noncomputable def o_171 (P : Params) : Obj := ⟨.type "code", none, .fields #[.str (.ofString "used_classes") 345, .str (.ofString "Contexts.used_classes") 346, .str (.ofString "/claim/cut.py") 347, .int 64 0, .int 1 0, .int 0 0, .int 0 0, .int 3 0, .ref 126, .bool true, .int 181 0, .ref 127, .none, .ref 128, .ref 129, .ref 130, .int 349 0, .int 64 0, .str (.ofString "/claim/cut.py") 350], #[]⟩
noncomputable def o_172 (P : Params) : Obj := fnO (mp 8 2) (.type "function") none (.ofString "Contexts.used_classes") 3 [] .none .none .none (.str (.ofString "joinedhand.contexts") 260) none (.ref 131) .none 0 #[]
noncomputable def o_173 (P : Params) : Obj := ⟨.type "tuple", none, .seq #[] 0, #[]⟩
noncomputable def o_174 (P : Params) : Obj := ⟨.none, none, .fields #[], #[]⟩
noncomputable def o_175 (P : Params) : Obj := ⟨.type "tuple", none, .seq #[.str (.ofString "self") 355, .str (.ofString "found") 356, .str (.ofString "key") 357, .str (.ofString "rule") 358] 0, #[]⟩
noncomputable def o_176 (P : Params) : Obj := ⟨.type "tuple", none, .seq #[] 0, #[]⟩
noncomputable def o_177 (P : Params) : Obj := fnO (mp 8 3) .none none (.ofString "Contexts.rules") 0 [] .none .none .none .none none .none .none 0 #[]
noncomputable def o_178 (P : Params) : Obj := ⟨.type "code", none, .fields #[.str (.ofString "rules") 352, .str (.ofString "Contexts.rules") 353, .str (.ofString "/claim/cut.py") 354, .int 67 0, .int 1 0, .int 0 0, .int 0 0, .int 3 0, .ref 133, .bool true, .int 181 0, .ref 134, .none, .ref 135, .ref 136, .ref 137, .int 359 0, .int 67 0, .str (.ofString "/claim/cut.py") 360], #[]⟩
noncomputable def o_179 (P : Params) : Obj := fnO (mp 8 3) (.type "function") none (.ofString "Contexts.rules") 3 [] .none .none .none (.str (.ofString "joinedhand.contexts") 260) none (.ref 138) .none 0 #[]
noncomputable def o_180 (P : Params) : Obj := ⟨.type "tuple", none, .seq #[.str (.ofString "classes") 362, .str (.ofString "coverage") 363, .str (.ofString "form") 364, .str (.ofString "is_chained") 365, .str (.ofString "sets") 366] 0, #[]⟩
noncomputable def o_181 (P : Params) : Obj := ⟨.type "dict", none, .dict #[en P "__module__" 322 (.str (.ofString "joinedhand.contexts") 260), en P "__firstlineno__" 326 (.int 49 325), en P "__init__" 338 (.ref 120), en P "told" 344 (.ref 125), en P "used_classes" 351 (.ref 132), en P "rules" 361 (.ref 139), en P "__static_attributes__" 367 (.ref 140), en P "__dict__" 369 (.ref 143), en P "__weakref__" 371 (.ref 144), en P "__doc__" 372 .none] 4, #[]⟩
noncomputable def o_182 (P : Params) : Obj := ⟨.type "type", none, .cls ⟨.ofString "Contexts", [.type "object"], [.ref 142, .type "object"], 141, .ofString "Contexts", true, [], [], false, none, false⟩, #[none, none, some (.str (.ofString "Contexts") 315), some (.str (.ofString "Contexts") 323), some (.builtin "object.__new__"), some (.bool true)]⟩
noncomputable def o_183 (P : Params) : Obj := ⟨.type "getset_descriptor", none, .fields #[.str (.ofString "__dict__") 368, .ref 142, .builtin "function.__dict__", .builtin "function.__dict__#set"], #[]⟩
noncomputable def o_184 (P : Params) : Obj := ⟨.type "getset_descriptor", none, .fields #[.str (.ofString "__weakref__") 370, .ref 142, .builtin "ExceptionGroup.__weakref__", .none], #[]⟩
noncomputable def o_185 (P : Params) : Obj := ⟨.type "super", none, .fields #[.ref 142, .ref 142, .ref 142], #[]⟩
noncomputable def o_186 (P : Params) : Obj := ⟨.type "builtin_function_or_method", none, .fields #[.builtin "object.__init_subclass__", .ref 142], #[]⟩
noncomputable def o_187 (P : Params) : Obj := ⟨.type "tuple", none, .seq #[] 0, #[]⟩
noncomputable def o_188 (P : Params) : Obj := ⟨.none, none, .fields #[], #[]⟩
noncomputable def o_189 (P : Params) : Obj := fnO (tp 9) .none none (.ofString "told_row") 0 [] .none .none .none .none none .none .none 0 #[]
noncomputable def o_190 (P : Params) : Obj := ⟨.type "code", none, .fields #[.str (.ofString "told_row") 375, .str (.ofString "told_row") 376, .str (.ofString "/claim/cut.py") 377, .int 73 0, .int 1 0, .int 0 0, .int 0 0, .int 3 0, .ref 147, .bool true, .int 181 0, .ref 148, .none, .none, .none, .ref 149, .int 378 0, .int 73 0, .str (.ofString "/claim/cut.py") 379], #[]⟩
noncomputable def o_191 (P : Params) : Obj := fnO (tp 9) (.type "function") none (.ofString "told_row") 3 [] .none .none .none (.str (.ofString "joinedhand.contexts") 260) none (.ref 150) .none 0 #[]
noncomputable def o_192 (P : Params) : Obj := ⟨.type "tuple", none, .seq #[] 0, #[]⟩
noncomputable def o_193 (P : Params) : Obj := ⟨.none, none, .fields #[], #[]⟩
noncomputable def o_194 (P : Params) : Obj := fnO (tp 10) .none none (.ofString "tests_of") 0 [] .none .none .none .none none .none .none 0 #[]
noncomputable def o_195 (P : Params) : Obj := ⟨.type "code", none, .fields #[.str (.ofString "tests_of") 381, .str (.ofString "tests_of") 382, .str (.ofString "/claim/cut.py") 383, .int 75 0, .int 3 0, .int 0 0, .int 0 0, .int 3 0, .ref 152, .bool true, .int 181 0, .ref 153, .none, .none, .none, .ref 154, .int 384 0, .int 75 0, .str (.ofString "/claim/cut.py") 385], #[]⟩
noncomputable def o_196 (P : Params) : Obj := fnO (tp 10) (.type "function") none (.ofString "tests_of") 3 [] .none .none .none (.str (.ofString "joinedhand.contexts") 260) none (.ref 155) .none 0 #[]
noncomputable def o_197 (P : Params) : Obj := ⟨.type "dict", none, .dict #[en P "__name__" 165 (.str (.ofString "joinedhand.buffer") 405), en P "__doc__" 166 .none, en P "__package__" 167 .none, en P "__loader__" 168 (.builtin "__main__.__loader__#opaque"), en P "__spec__" 169 .none, en P "__annotations__" 170 (.ref 6), en P "__builtins__" 171 (.ref 4), en P "__file__" 173 (.str (.ofString "/claim/cut.py") 172), en P "__cached__" 174 .none, en P "_wall" 193 (.ref 21), en P "Coverage" 250 (.ref 59), en P "coverage_of" 259 (.ref 70), en P "BY_GLYPHS" 263 (.int 1 262), en P "BY_CLASSES" 265 (.int 2 264), en P "Rule" 314 (.ref 101), en P "Contexts" 374 (.ref 142), en P "told_row" 380 (.ref 151), en P "tests_of" 386 (.ref 156), en P "rule_tests" 398 (.ref 163), en P "rules_at" 404 (.ref 168), en P "Info" 466 (.ref 199)] 21, #[]⟩
noncomputable def o_198 (P : Params) : Obj := ⟨.none, none, .fields #[.int 1 0, .int 0 0, .ref 20, .int 5 0, .int 0 0, .ref 27, .int 28 0, .int 0 0, .ref 69, .int 36 0, .int 0 0, .ref 76, .int 49 0, .int 0 0, .ref 111, .int 73 0, .int 0 0, .ref 150, .int 75 0, .int 0 0, .ref 155, .int 79 0, .int 0 0, .ref 162, .int 83 0, .int 0 0, .ref 167, .int 92 0, .int 0 0, .ref 174], #[]⟩
noncomputable def o_199 (P : Params) : Obj := ⟨.type "tuple", none, .seq #[] 0, #[]⟩
noncomputable def o_200 (P : Params) : Obj := ⟨.none, none, .fields #[], #[]⟩
noncomputable def o_201 (P : Params) : Obj := ⟨.type "tuple", none, .seq #[.str (.ofString "table") 390, .str (.ofString "rule") 391, .str (.ofString "word") 392, .str (.ofString "back") 393, .str (.ofString "inside") 394, .str (.ofString "ahead") 395] 0, #[]⟩
noncomputable def o_202 (P : Params) : Obj := ⟨.type "tuple", none, .seq #[] 0, #[]⟩
noncomputable def o_203 (P : Params) : Obj := fnO (tp 11) .none none (.ofString "rule_tests") 0 [] .none .none .none .none none .none .none 0 #[]
noncomputable def o_204 (P : Params) : Obj := ⟨.type "code", none, .fields #[.str (.ofString "rule_tests") 387, .str (.ofString "rule_tests") 388, .str (.ofString "/claim/cut.py") 389, .int 79 0, .int 2 0, .int 0 0, .int 0 0, .int 3 0, .ref 157, .bool true, .int 181 0, .ref 158, .none, .ref 159, .ref 160, .ref 161, .int 396 0, .int 79 0, .str (.ofString "/claim/cut.py") 397], #[]⟩
noncomputable def o_205 (P : Params) : Obj := fnO (tp 11) (.type "function") none (.ofString "rule_tests") 3 [] .none .none .none (.str (.ofString "joinedhand.contexts") 260) none (.ref 162) .none 0 #[]
noncomputable def o_206 (P : Params) : Obj := ⟨.type "tuple", none, .seq #[] 0, #[]⟩
noncomputable def o_207 (P : Params) : Obj := ⟨.none, none, .fields #[], #[]⟩
noncomputable def o_208 (P : Params) : Obj := fnO (tp 12) .none none (.ofString "rules_at") 0 [] .none .none .none .none none .none .none 0 #[]
noncomputable def o_209 (P : Params) : Obj := ⟨.type "code", none, .fields #[.str (.ofString "rules_at") 399, .str (.ofString "rules_at") 400, .str (.ofString "/claim/cut.py") 401, .int 83 0, .int 2 0, .int 0 0, .int 0 0, .int 3 0, .ref 164, .bool true, .int 181 0, .ref 165, .none, .none, .none, .ref 166, .int 402 0, .int 83 0, .str (.ofString "/claim/cut.py") 403], #[]⟩
noncomputable def o_210 (P : Params) : Obj := fnO (tp 12) (.type "function") none (.ofString "rules_at") 3 [] .none .none .none (.str (.ofString "joinedhand.contexts") 260) none (.ref 167) .none 0 #[]
noncomputable def o_211 (P : Params) : Obj := ⟨.type "tuple", none, .seq #[] 0, #[]⟩
noncomputable def o_212 (P : Params) : Obj := ⟨.type "builtin_function_or_method", none, .fields #[.builtin "type.__prepare__", .type "type"], #[]⟩
noncomputable def o_213 (P : Params) : Obj := ⟨.type "dict", none, .dict #[en P "__module__" 414 (.str (.ofString "joinedhand.buffer") 405), en P "__qualname__" 416 (.str (.ofString "Info") 415), en P "__firstlineno__" 418 (.int 92 417), en P "__init__" 428 (.ref 182), en P "copied" 436 (.ref 189), en P "told" 443 (.ref 196), en P "__static_attributes__" 459 (.ref 197)] 7, #[]⟩
noncomputable def o_214 (P : Params) : Obj := ⟨.type "tuple", none, .seq #[] 0, #[]⟩
noncomputable def o_215 (P : Params) : Obj := ⟨.none, none, .fields #[.int 94 0, .int 4 0, .ref 181, .int 111 0, .int 4 0, .ref 188, .int 127 0, .int 4 0, .ref 195], #[]⟩
noncomputable def o_216 (P : Params) : Obj := ⟨.type "code", none, .fields #[.str (.ofString "Info") 409, .str (.ofString "Info") 410, .str (.ofString "/claim/cut.py") 411, .int 92 0, .int 0 0, .int 0 0, .int 0 0, .int 0 0, .ref 172, .bool false, .int 181 0, .ref 173, .none, .none, .none, .none, .int 412 0, .int 92 0, .str (.ofString "/claim/cut.py") 413], #[]⟩
noncomputable def o_217 (P : Params) : Obj := ⟨.type "frame", none, .plain, #[some (.ref 174), some (.ref 3), some (.ref 171), none, some (.str (.ofString "joinedhand.buffer") 405), none, some (.ref 0)]⟩
noncomputable def o_218 (P : Params) : Obj := ⟨.type "tuple", none, .seq #[] 0, #[]⟩
noncomputable def o_219 (P : Params) : Obj := ⟨.none, none, .fields #[], #[]⟩
noncomputable def o_220 (P : Params) : Obj := ⟨.type "tuple", none, .seq #[.str (.ofString "self") 422, .str (.ofString "code") 423, .str (.ofString "glyph") 424, .str (.ofString "cluster") 425] 0, #[]⟩
noncomputable def o_221 (P : Params) : Obj := ⟨.type "tuple", none, .seq #[] 0, #[]⟩
noncomputable def o_222 (P : Params) : Obj := fnO (mp 14 0) .none none (.ofString "Info.__init__") 0 [] .none .none .none .none none .none .none 0 #[]
noncomputable def o_223 (P : Params) : Obj := ⟨.type "code", none, .fields #[.str (.ofString "__init__") 419, .str (.ofString "Info.__init__") 420, .str (.ofString "/claim/cut.py") 421, .int 94 0, .int 4 0, .int 0 0, .int 0 0, .int 3 0, .ref 176, .bool true, .int 181 0, .ref 177, .none, .ref 178, .ref 179, .ref 180, .int 426 0, .int 94 0, .str (.ofString "/claim/cut.py") 427], #[]⟩
noncomputable def o_224 (P : Params) : Obj := fnO (mp 14 0) (.type "function") none (.ofString "Info.__init__") 3 [] .none .none .none (.str (.ofString "joinedhand.buffer") 405) none (.ref 181) .none 0 #[]
noncomputable def o_225 (P : Params) : Obj := ⟨.type "tuple", none, .seq #[] 0, #[]⟩
noncomputable def o_226 (P : Params) : Obj := ⟨.none, none, .fields #[], #[]⟩
noncomputable def o_227 (P : Params) : Obj := ⟨.type "tuple", none, .seq #[.str (.ofString "self") 432, .str (.ofString "found") 433] 0, #[]⟩
noncomputable def o_228 (P : Params) : Obj := ⟨.type "tuple", none, .seq #[] 0, #[]⟩
noncomputable def o_229 (P : Params) : Obj := fnO (mp 14 1) .none none (.ofString "Info.copied") 0 [] .none .none .none .none none .none .none 0 #[]
noncomputable def o_230 (P : Params) : Obj := ⟨.type "code", none, .fields #[.str (.ofString "copied") 429, .str (.ofString "Info.copied") 430, .str (.ofString "/claim/cut.py") 431, .int 111 0, .int 1 0, .int 0 0, .int 0 0, .int 3 0, .ref 183, .bool true, .int 181 0, .ref 184, .none, .ref 185, .ref 186, .ref 187, .int 434 0, .int 111 0, .str (.ofString "/claim/cut.py") 435], #[]⟩
noncomputable def o_231 (P : Params) : Obj := fnO (mp 14 1) (.type "function") none (.ofString "Info.copied") 3 [] .none .none .none (.str (.ofString "joinedhand.buffer") 405) none (.ref 188) .none 0 #[]
noncomputable def o_232 (P : Params) : Obj := ⟨.type "tuple", none, .seq #[] 0, #[]⟩
noncomputable def o_233 (P : Params) : Obj := ⟨.none, none, .fields #[], #[]⟩
noncomputable def o_234 (P : Params) : Obj := ⟨.type "tuple", none, .seq #[.str (.ofString "self") 440] 0, #[]⟩
noncomputable def o_235 (P : Params) : Obj := ⟨.type "tuple", none, .seq #[] 0, #[]⟩
noncomputable def o_236 (P : Params) : Obj := fnO (mp 14 2) .none none (.ofString "Info.told") 0 [] .none .none .none .none none .none .none 0 #[]
noncomputable def o_237 (P : Params) : Obj := ⟨.type "code", none, .fields #[.str (.ofString "told") 437, .str (.ofString "Info.told") 438, .str (.ofString "/claim/cut.py") 439, .int 127 0, .int 1 0, .int 0 0, .int 0 0, .int 3 0, .ref 190, .bool true, .int 181 0, .ref 191, .none, .ref 192, .ref 193, .ref 194, .int 441 0, .int 127 0, .str (.ofString "/claim/cut.py") 442], #[]⟩
noncomputable def o_238 (P : Params) : Obj := fnO (mp 14 2) (.type "function") none (.ofString "Info.told") 3 [] .none .none .none (.str (.ofString "joinedhand.buffer") 405) none (.ref 195) .none 0 #[]
noncomputable def o_239 (P : Params) : Obj := ⟨.type "tuple", none, .seq #[.str (.ofString "bond") 444, .str (.ofString "cluster") 445, .str (.ofString "code") 446, .str (.ofString "glyph") 447, .str (.ofString "is_unsafe") 448, .str (.ofString "kind") 449, .str (.ofString "lig_count") 450, .str (.ofString "lig_id") 451, .str (.ofString "lig_part") 452, .str (.ofString "mask") 453, .str (.ofString "parent") 454, .str (.ofString "x_advance") 455, .str (.ofString "x_offset") 456, .str (.ofString "y_advance") 457, .str (.ofString "y_offset") 458] 0, #[]⟩
noncomputable def o_240 (P : Params) : Obj := ⟨.type "dict", none, .dict #[en P "__module__" 414 (.str (.ofString "joinedhand.buffer") 405), en P "__firstlineno__" 418 (.int 92 417), en P "__init__" 428 (.ref 182), en P "copied" 436 (.ref 189), en P "told" 443 (.ref 196), en P "__static_attributes__" 459 (.ref 197), en P "__dict__" 461 (.ref 200), en P "__weakref__" 463 (.ref 201), en P "__doc__" 464 .none] 4, #[]⟩
noncomputable def o_241 (P : Params) : Obj := ⟨.type "type", none, .cls ⟨.ofString "Info", [.type "object"], [.ref 199, .type "object"], 198, .ofString "Info", true, [], [], false, none, false⟩, #[none, none, some (.str (.ofString "Info") 407), some (.str (.ofString "Info") 415), some (.builtin "object.__new__"), some (.bool true)]⟩
noncomputable def o_242 (P : Params) : Obj := ⟨.type "getset_descriptor", none, .fields #[.str (.ofString "__dict__") 460, .ref 199, .builtin "function.__dict__", .builtin "function.__dict__#set"], #[]⟩
noncomputable def o_243 (P : Params) : Obj := ⟨.type "getset_descriptor", none, .fields #[.str (.ofString "__weakref__") 462, .ref 199, .builtin "ExceptionGroup.__weakref__", .none], #[]⟩
noncomputable def o_244 (P : Params) : Obj := ⟨.type "super", none, .fields #[.ref 199, .ref 199, .ref 199], #[]⟩
noncomputable def o_245 (P : Params) : Obj := ⟨.type "builtin_function_or_method", none, .fields #[.builtin "object.__init_subclass__", .ref 199], #[]⟩
noncomputable def o_246 (P : Params) : Obj := ⟨.type "dict", none, .dict #[en P "__name__" 165 (.str (.ofString "joinedhand.buffer") 405), en P "__doc__" 166 .none, en P "__package__" 167 .none, en P "__loader__" 168 (.builtin "__main__.__loader__#opaque"), en P "__spec__" 169 .none, en P "__annotations__" 170 (.ref 6), en P "__builtins__" 171 (.ref 4), en P "__file__" 173 (.str (.ofString "/claim/cut.py") 172), en P "__cached__" 174 .none, en P "_wall" 193 (.ref 21), en P "Coverage" 250 (.ref 59), en P "coverage_of" 259 (.ref 70), en P "BY_GLYPHS" 263 (.int 1 262), en P "BY_CLASSES" 265 (.int 2 264), en P "Rule" 314 (.ref 101), en P "Contexts" 374 (.ref 142), en P "told_row" 380 (.ref 151), en P "tests_of" 386 (.ref 156), en P "rule_tests" 398 (.ref 163), en P "rules_at" 404 (.ref 168), en P "Info" 466 (.ref 199), en P "Buffer" 523 (.ref 243), en P "set_cluster" 531 (.ref 254)] 23, #[]⟩
noncomputable def o_247 (P : Params) : Obj := ⟨.none, none, .fields #[.int 1 0, .int 0 0, .ref 20, .int 5 0, .int 0 0, .ref 27, .int 28 0, .int 0 0, .ref 69, .int 36 0, .int 0 0, .ref 76, .int 49 0, .int 0 0, .ref 111, .int 73 0, .int 0 0, .ref 150, .int 75 0, .int 0 0, .ref 155, .int 79 0, .int 0 0, .ref 162, .int 83 0, .int 0 0, .ref 167, .int 92 0, .int 0 0, .ref 174, .int 129 0, .int 0 0, .ref 209, .int 148 0, .int 0 0, .ref 253], #[]⟩
noncomputable def o_248 (P : Params) : Obj := ⟨.type "tuple", none, .seq #[] 0, #[]⟩
noncomputable def o_249 (P : Params) : Obj := ⟨.type "builtin_function_or_method", none, .fields #[.builtin "type.__prepare__", .type "type"], #[]⟩
noncomputable def o_250 (P : Params) : Obj := ⟨.type "dict", none, .dict #[en P "__module__" 474 (.str (.ofString "joinedhand.buffer") 405), en P "__qualname__" 476 (.str (.ofString "Buffer") 475), en P "__firstlineno__" 478 (.int 129 477), en P "__init__" 487 (.ref 218), en P "glyphs" 493 (.ref 223), en P "clusters" 499 (.ref 228), en P "told" 505 (.ref 233), en P "next_lig" 512 (.ref 240), en P "__static_attributes__" 516 (.ref 241)] 9, #[]⟩
noncomputable def o_251 (P : Params) : Obj := ⟨.type "tuple", none, .seq #[] 0, #[]⟩
noncomputable def o_252 (P : Params) : Obj := ⟨.none, none, .fields #[.int 131 0, .int 4 0, .ref 217, .int 136 0, .int 4 0, .ref 222, .int 139 0, .int 4 0, .ref 227, .int 142 0, .int 4 0, .ref 232, .int 145 0, .int 4 0, .ref 239], #[]⟩
noncomputable def o_253 (P : Params) : Obj := ⟨.type "code", none, .fields #[.str (.ofString "Buffer") 469, .str (.ofString "Buffer") 470, .str (.ofString "/claim/cut.py") 471, .int 129 0, .int 0 0, .int 0 0, .int 0 0, .int 0 0, .ref 207, .bool false, .int 181 0, .ref 208, .none, .none, .none, .none, .int 472 0, .int 129 0, .str (.ofString "/claim/cut.py") 473], #[]⟩
noncomputable def o_254 (P : Params) : Obj := ⟨.type "frame", none, .plain, #[some (.ref 209), some (.ref 3), some (.ref 206), none, some (.str (.ofString "joinedhand.buffer") 405), none, some (.ref 0)]⟩
noncomputable def o_255 (P : Params) : Obj := ⟨.type "tuple", none, .seq #[.bool false] 0, #[]⟩
noncomputable def o_256 (P : Params) : Obj := ⟨.type "tuple", none, .seq #[] 0, #[]⟩
noncomputable def o_257 (P : Params) : Obj := ⟨.none, none, .fields #[], #[]⟩
noncomputable def o_258 (P : Params) : Obj := ⟨.type "tuple", none, .seq #[.str (.ofString "self") 482, .str (.ofString "infos") 483, .str (.ofString "is_backward") 484] 0, #[]⟩
noncomputable def o_259 (P : Params) : Obj := ⟨.type "tuple", none, .seq #[] 0, #[]⟩
noncomputable def o_260 (P : Params) : Obj := fnO (mp 15 0) .none none (.ofString "Buffer.__init__") 0 [] .none .none .none .none none .none .none 0 #[]
noncomputable def o_261 (P : Params) : Obj := ⟨.type "code", none, .fields #[.str (.ofString "__init__") 479, .str (.ofString "Buffer.__init__") 480, .str (.ofString "/claim/cut.py") 481, .int 131 0, .int 3 0, .int 0 0, .int 0 0, .int 3 0, .ref 212, .bool true, .int 181 0, .ref 213, .none, .ref 214, .ref 215, .ref 216, .int 485 0, .int 131 0, .str (.ofString "/claim/cut.py") 486], #[]⟩
noncomputable def o_262 (P : Params) : Obj := fnO (mp 15 0) (.type "function") none (.ofString "Buffer.__init__") 3 [] (.ref 211) .none .none (.str (.ofString "joinedhand.buffer") 405) none (.ref 217) .none 0 #[]
noncomputable def o_263 (P : Params) : Obj := ⟨.type "tuple", none, .seq #[] 0, #[]⟩
noncomputable def o_264 (P : Params) : Obj := ⟨.none, none, .fields #[], #[]⟩
noncomputable def o_265 (P : Params) : Obj := fnO (mp 15 1) .none none (.ofString "Buffer.glyphs") 0 [] .none .none .none .none none .none .none 0 #[]
noncomputable def o_266 (P : Params) : Obj := ⟨.type "code", none, .fields #[.str (.ofString "glyphs") 488, .str (.ofString "Buffer.glyphs") 489, .str (.ofString "/claim/cut.py") 490, .int 136 0, .int 1 0, .int 0 0, .int 0 0, .int 3 0, .ref 219, .bool true, .int 181 0, .ref 220, .none, .none, .none, .ref 221, .int 491 0, .int 136 0, .str (.ofString "/claim/cut.py") 492], #[]⟩
noncomputable def o_267 (P : Params) : Obj := fnO (mp 15 1) (.type "function") none (.ofString "Buffer.glyphs") 3 [] .none .none .none (.str (.ofString "joinedhand.buffer") 405) none (.ref 222) .none 0 #[]
noncomputable def o_268 (P : Params) : Obj := ⟨.type "tuple", none, .seq #[] 0, #[]⟩
noncomputable def o_269 (P : Params) : Obj := ⟨.none, none, .fields #[], #[]⟩
noncomputable def o_270 (P : Params) : Obj := fnO (mp 15 2) .none none (.ofString "Buffer.clusters") 0 [] .none .none .none .none none .none .none 0 #[]
noncomputable def o_271 (P : Params) : Obj := ⟨.type "code", none, .fields #[.str (.ofString "clusters") 494, .str (.ofString "Buffer.clusters") 495, .str (.ofString "/claim/cut.py") 496, .int 139 0, .int 1 0, .int 0 0, .int 0 0, .int 3 0, .ref 224, .bool true, .int 181 0, .ref 225, .none, .none, .none, .ref 226, .int 497 0, .int 139 0, .str (.ofString "/claim/cut.py") 498], #[]⟩
noncomputable def o_272 (P : Params) : Obj := fnO (mp 15 2) (.type "function") none (.ofString "Buffer.clusters") 3 [] .none .none .none (.str (.ofString "joinedhand.buffer") 405) none (.ref 227) .none 0 #[]
noncomputable def o_273 (P : Params) : Obj := ⟨.type "tuple", none, .seq #[] 0, #[]⟩
noncomputable def o_274 (P : Params) : Obj := ⟨.none, none, .fields #[], #[]⟩
noncomputable def o_275 (P : Params) : Obj := fnO (mp 15 3) .none none (.ofString "Buffer.told") 0 [] .none .none .none .none none .none .none 0 #[]
noncomputable def o_276 (P : Params) : Obj := ⟨.type "code", none, .fields #[.str (.ofString "told") 500, .str (.ofString "Buffer.told") 501, .str (.ofString "/claim/cut.py") 502, .int 142 0, .int 1 0, .int 0 0, .int 0 0, .int 3 0, .ref 229, .bool true, .int 181 0, .ref 230, .none, .none, .none, .ref 231, .int 503 0, .int 142 0, .str (.ofString "/claim/cut.py") 504], #[]⟩
noncomputable def o_277 (P : Params) : Obj := fnO (mp 15 3) (.type "function") none (.ofString "Buffer.told") 3 [] .none .none .none (.str (.ofString "joinedhand.buffer") 405) none (.ref 232) .none 0 #[]
noncomputable def o_278 (P : Params) : Obj := ⟨.type "tuple", none, .seq #[] 0, #[]⟩
noncomputable def o_279 (P : Params) : Obj := ⟨.none, none, .fields #[], #[]⟩
noncomputable def o_280 (P : Params) : Obj := ⟨.type "tuple", none, .seq #[.str (.ofString "self") 509] 0, #[]⟩
noncomputable def o_281 (P : Params) : Obj := ⟨.type "tuple", none, .seq #[] 0, #[]⟩
noncomputable def o_282 (P : Params) : Obj := fnO (mp 15 4) .none none (.ofString "Buffer.next_lig") 0 [] .none .none .none .none none .none .none 0 #[]
noncomputable def o_283 (P : Params) : Obj := ⟨.type "code", none, .fields #[.str (.ofString "next_lig") 506, .str (.ofString "Buffer.next_lig") 507, .str (.ofString "/claim/cut.py") 508, .int 145 0, .int 1 0, .int 0 0, .int 0 0, .int 3 0, .ref 234, .bool true, .int 181 0, .ref 235, .none, .ref 236, .ref 237, .ref 238, .int 510 0, .int 145 0, .str (.ofString "/claim/cut.py") 511], #[]⟩
noncomputable def o_284 (P : Params) : Obj := fnO (mp 15 4) (.type "function") none (.ofString "Buffer.next_lig") 3 [] .none .none .none (.str (.ofString "joinedhand.buffer") 405) none (.ref 239) .none 0 #[]
noncomputable def o_285 (P : Params) : Obj := ⟨.type "tuple", none, .seq #[.str (.ofString "is_backward") 513, .str (.ofString "last_lig") 514, .str (.ofString "row") 515] 0, #[]⟩
noncomputable def o_286 (P : Params) : Obj := ⟨.type "dict", none, .dict #[en P "__module__" 474 (.str (.ofString "joinedhand.buffer") 405), en P "__firstlineno__" 478 (.int 129 477), en P "__init__" 487 (.ref 218), en P "glyphs" 493 (.ref 223), en P "clusters" 499 (.ref 228), en P "told" 505 (.ref 233), en P "next_lig" 512 (.ref 240), en P "__static_attributes__" 516 (.ref 241), en P "__dict__" 518 (.ref 244), en P "__weakref__" 520 (.ref 245), en P "__doc__" 521 .none] 4, #[]⟩
noncomputable def o_287 (P : Params) : Obj := ⟨.type "type", none, .cls ⟨.ofString "Buffer", [.type "object"], [.ref 243, .type "object"], 242, .ofString "Buffer", true, [], [], false, none, false⟩, #[none, none, some (.str (.ofString "Buffer") 467), some (.str (.ofString "Buffer") 475), some (.builtin "object.__new__"), some (.bool true)]⟩
noncomputable def o_288 (P : Params) : Obj := ⟨.type "getset_descriptor", none, .fields #[.str (.ofString "__dict__") 517, .ref 243, .builtin "function.__dict__", .builtin "function.__dict__#set"], #[]⟩
noncomputable def o_289 (P : Params) : Obj := ⟨.type "getset_descriptor", none, .fields #[.str (.ofString "__weakref__") 519, .ref 243, .builtin "ExceptionGroup.__weakref__", .none], #[]⟩
noncomputable def o_290 (P : Params) : Obj := ⟨.type "super", none, .fields #[.ref 243, .ref 243, .ref 243], #[]⟩
noncomputable def o_291 (P : Params) : Obj := ⟨.type "builtin_function_or_method", none, .fields #[.builtin "object.__init_subclass__", .ref 243], #[]⟩
noncomputable def o_292 (P : Params) : Obj := ⟨.type "tuple", none, .seq #[] 0, #[]⟩
noncomputable def o_293 (P : Params) : Obj := ⟨.none, none, .fields #[], #[]⟩
noncomputable def o_294 (P : Params) : Obj := ⟨.type "tuple", none, .seq #[.str (.ofString "info") 527, .str (.ofString "cluster") 528] 0, #[]⟩
noncomputable def o_295 (P : Params) : Obj := ⟨.type "tuple", none, .seq #[] 0, #[]⟩
noncomputable def o_296 (P : Params) : Obj := fnO (tp 16) .none none (.ofString "set_cluster") 0 [] .none .none .none .none none .none .none 0 #[]
noncomputable def o_297 (P : Params) : Obj := ⟨.type "code", none, .fields #[.str (.ofString "set_cluster") 524, .str (.ofString "set_cluster") 525, .str (.ofString "/claim/cut.py") 526, .int 148 0, .int 2 0, .int 0 0, .int 0 0, .int 3 0, .ref 248, .bool true, .int 181 0, .ref 249, .none, .ref 250, .ref 251, .ref 252, .int 529 0, .int 148 0, .str (.ofString "/claim/cut.py") 530], #[]⟩
noncomputable def o_298 (P : Params) : Obj := fnO (tp 16) (.type "function") none (.ofString "set_cluster") 3 [] .none .none .none (.str (.ofString "joinedhand.buffer") 405) none (.ref 253) .none 0 #[]
noncomputable def o_299 (P : Params) : Obj := ⟨.type "dict", none, .dict #[en P "__name__" 165 (.str (.ofString "joinedhand.flags") 575), en P "__doc__" 166 .none, en P "__package__" 167 .none, en P "__loader__" 168 (.builtin "__main__.__loader__#opaque"), en P "__spec__" 169 .none, en P "__annotations__" 170 (.ref 6), en P "__builtins__" 171 (.ref 4), en P "__file__" 173 (.str (.ofString "/claim/cut.py") 172), en P "__cached__" 174 .none, en P "_wall" 193 (.ref 21), en P "Coverage" 250 (.ref 59), en P "coverage_of" 259 (.ref 70), en P "BY_GLYPHS" 263 (.int 1 262), en P "BY_CLASSES" 265 (.int 2 264), en P "Rule" 314 (.ref 101), en P "Contexts" 374 (.ref 142), en P "told_row" 380 (.ref 151), en P "tests_of" 386 (.ref 156), en P "rule_tests" 398 (.ref 163), en P "rules_at" 404 (.ref 168), en P "Info" 466 (.ref 199), en P "Buffer" 523 (.ref 243), en P "set_cluster" 531 (.ref 254), en P "widened" 542 (.ref 261), en P "merge" 548 (.ref 266), en P "hang" 554 (.ref 271), en P "drop_cluster" 560 (.ref 276), en P "put" 574 (.ref 283), en P "IGNORE_BASES" 578 (.int 2 577), en P "IGNORE_LIGATURES" 580 (.int 4 579), en P "IGNORE_MARKS" 582 (.int 8 581), en P "USE_SET" 584 (.int 16 583)] 32, #[]⟩
noncomputable def o_300 (P : Params) : Obj := ⟨.none, none, .fields #[.int 1 0, .int 0 0, .ref 20, .int 5 0, .int 0 0, .ref 27, .int 28 0, .int 0 0, .ref 69, .int 36 0, .int 0 0, .ref 76, .int 49 0, .int 0 0, .ref 111, .int 73 0, .int 0 0, .ref 150, .int 75 0, .int 0 0, .ref 155, .int 79 0, .int 0 0, .ref 162, .int 83 0, .int 0 0, .ref 167, .int 92 0, .int 0 0, .ref 174, .int 129 0, .int 0 0, .ref 209, .int 148 0, .int 0 0, .ref 253, .int 152 0, .int 0 0, .ref 260, .int 160 0, .int 0 0, .ref 265, .int 167 0, .int 0 0, .ref 270, .int 175 0, .int 0 0, .ref 275, .int 189 0, .int 0 0, .ref 282], #[]⟩
noncomputable def o_301 (P : Params) : Obj := ⟨.type "tuple", none, .seq #[] 0, #[]⟩
noncomputable def o_302 (P : Params) : Obj := ⟨.none, none, .fields #[], #[]⟩
noncomputable def o_303 (P : Params) : Obj := ⟨.type "tuple", none, .seq #[.str (.ofString "row") 535, .str (.ofString "begin") 536, .str (.ofString "end") 537, .str (.ofString "first") 538, .str (.ofString "behind") 539] 0, #[]⟩
noncomputable def o_304 (P : Params) : Obj := ⟨.type "tuple", none, .seq #[] 0, #[]⟩
noncomputable def o_305 (P : Params) : Obj := fnO (tp 17) .none none (.ofString "widened") 0 [] .none .none .none .none none .none .none 0 #[]
noncomputable def o_306 (P : Params) : Obj := ⟨.type "code", none, .fields #[.str (.ofString "widened") 532, .str (.ofString "widened") 533, .str (.ofString "/claim/cut.py") 534, .int 152 0, .int 3 0, .int 0 0, .int 0 0, .int 3 0, .ref 255, .bool true, .int 181 0, .ref 256, .none, .ref 257, .ref 258, .ref 259, .int 540 0, .int 152 0, .str (.ofString "/claim/cut.py") 541], #[]⟩
noncomputable def o_307 (P : Params) : Obj := fnO (tp 17) (.type "function") none (.ofString "widened") 3 [] .none .none .none (.str (.ofString "joinedhand.buffer") 405) none (.ref 260) .none 0 #[]
noncomputable def o_308 (P : Params) : Obj := ⟨.type "tuple", none, .seq #[] 0, #[]⟩
noncomputable def o_309 (P : Params) : Obj := ⟨.none, none, .fields #[], #[]⟩
noncomputable def o_310 (P : Params) : Obj := fnO (tp 18) .none none (.ofString "merge") 0 [] .none .none .none .none none .none .none 0 #[]
noncomputable def o_311 (P : Params) : Obj := ⟨.type "code", none, .fields #[.str (.ofString "merge") 543, .str (.ofString "merge") 544, .str (.ofString "/claim/cut.py") 545, .int 160 0, .int 3 0, .int 0 0, .int 0 0, .int 3 0, .ref 262, .bool true, .int 181 0, .ref 263, .none, .none, .none, .ref 264, .int 546 0, .int 160 0, .str (.ofString "/claim/cut.py") 547], #[]⟩
noncomputable def o_312 (P : Params) : Obj := fnO (tp 18) (.type "function") none (.ofString "merge") 3 [] .none .none .none (.str (.ofString "joinedhand.buffer") 405) none (.ref 265) .none 0 #[]
noncomputable def o_313 (P : Params) : Obj := ⟨.type "tuple", none, .seq #[] 0, #[]⟩
noncomputable def o_314 (P : Params) : Obj := ⟨.none, none, .fields #[], #[]⟩
noncomputable def o_315 (P : Params) : Obj := fnO (tp 19) .none none (.ofString "hang") 0 [] .none .none .none .none none .none .none 0 #[]
noncomputable def o_316 (P : Params) : Obj := ⟨.type "code", none, .fields #[.str (.ofString "hang") 549, .str (.ofString "hang") 550, .str (.ofString "/claim/cut.py") 551, .int 167 0, .int 3 0, .int 0 0, .int 0 0, .int 3 0, .ref 267, .bool true, .int 181 0, .ref 268, .none, .none, .none, .ref 269, .int 552 0, .int 167 0, .str (.ofString "/claim/cut.py") 553], #[]⟩
noncomputable def o_317 (P : Params) : Obj := fnO (tp 19) (.type "function") none (.ofString "hang") 3 [] .none .none .none (.str (.ofString "joinedhand.buffer") 405) none (.ref 270) .none 0 #[]
noncomputable def o_318 (P : Params) : Obj := ⟨.type "tuple", none, .seq #[] 0, #[]⟩
noncomputable def o_319 (P : Params) : Obj := ⟨.none, none, .fields #[], #[]⟩
noncomputable def o_320 (P : Params) : Obj := fnO (tp 20) .none none (.ofString "drop_cluster") 0 [] .none .none .none .none none .none .none 0 #[]
noncomputable def o_321 (P : Params) : Obj := ⟨.type "code", none, .fields #[.str (.ofString "drop_cluster") 555, .str (.ofString "drop_cluster") 556, .str (.ofString "/claim/cut.py") 557, .int 175 0, .int 2 0, .int 0 0, .int 0 0, .int 3 0, .ref 272, .bool true, .int 181 0, .ref 273, .none, .none, .none, .ref 274, .int 558 0, .int 175 0, .str (.ofString "/claim/cut.py") 559], #[]⟩
noncomputable def o_322 (P : Params) : Obj := fnO (tp 20) (.type "function") none (.ofString "drop_cluster") 3 [] .none .none .none (.str (.ofString "joinedhand.buffer") 405) none (.ref 275) .none 0 #[]
noncomputable def o_323 (P : Params) : Obj := ⟨.type "tuple", none, .seq #[] 0, #[]⟩
noncomputable def o_324 (P : Params) : Obj := ⟨.none, none, .fields #[], #[]⟩
noncomputable def o_325 (P : Params) : Obj := ⟨.type "tuple", none, .seq #[.str (.ofString "buffer") 564, .str (.ofString "at") 565, .str (.ofString "count") 566, .str (.ofString "glyphs") 567, .str (.ofString "first") 568, .str (.ofString "found") 569, .str (.ofString "glyph") 570, .str (.ofString "info") 571] 0, #[]⟩
noncomputable def o_326 (P : Params) : Obj := ⟨.type "tuple", none, .seq #[] 0, #[]⟩
noncomputable def o_327 (P : Params) : Obj := fnO (tp 21) .none none (.ofString "put") 0 [] .none .none .none .none none .none .none 0 #[]
noncomputable def o_328 (P : Params) : Obj := ⟨.type "code", none, .fields #[.str (.ofString "put") 561, .str (.ofString "put") 562, .str (.ofString "/claim/cut.py") 563, .int 189 0, .int 4 0, .int 0 0, .int 0 0, .int 3 0, .ref 277, .bool true, .int 181 0, .ref 278, .none, .ref 279, .ref 280, .ref 281, .int 572 0, .int 189 0, .str (.ofString "/claim/cut.py") 573], #[]⟩
noncomputable def o_329 (P : Params) : Obj := fnO (tp 21) (.type "function") none (.ofString "put") 3 [] .none .none .none (.str (.ofString "joinedhand.buffer") 405) none (.ref 282) .none 0 #[]
noncomputable def o_330 (P : Params) : Obj := ⟨.type "dict", none, .dict #[en P "__name__" 165 (.str (.ofString "joinedhand.flags") 575), en P "__doc__" 166 .none, en P "__package__" 167 .none, en P "__loader__" 168 (.builtin "__main__.__loader__#opaque"), en P "__spec__" 169 .none, en P "__annotations__" 170 (.ref 6), en P "__builtins__" 171 (.ref 4), en P "__file__" 173 (.str (.ofString "/claim/cut.py") 172), en P "__cached__" 174 .none, en P "_wall" 193 (.ref 21), en P "Coverage" 250 (.ref 59), en P "coverage_of" 259 (.ref 70), en P "BY_GLYPHS" 263 (.int 1 262), en P "BY_CLASSES" 265 (.int 2 264), en P "Rule" 314 (.ref 101), en P "Contexts" 374 (.ref 142), en P "told_row" 380 (.ref 151), en P "tests_of" 386 (.ref 156), en P "rule_tests" 398 (.ref 163), en P "rules_at" 404 (.ref 168), en P "Info" 466 (.ref 199), en P "Buffer" 523 (.ref 243), en P "set_cluster" 531 (.ref 254), en P "widened" 542 (.ref 261), en P "merge" 548 (.ref 266), en P "hang" 554 (.ref 271), en P "drop_cluster" 560 (.ref 276), en P "put" 574 (.ref 283), en P "IGNORE_BASES" 578 (.int 2 577), en P "IGNORE_LIGATURES" 580 (.int 4 579), en P "IGNORE_MARKS" 582 (.int 8 581), en P "USE_SET" 584 (.int 16 583), en P "Lookup" 625 (.ref 305)] 33, #[]⟩
noncomputable def o_331 (P : Params) : Obj := ⟨.none, none, .fields #[.int 1 0, .int 0 0, .ref 20, .int 5 0, .int 0 0, .ref 27, .int 28 0, .int 0 0, .ref 69, .int 36 0, .int 0 0, .ref 76, .int 49 0, .int 0 0, .ref 111, .int 73 0, .int 0 0, .ref 150, .int 75 0, .int 0 0, .ref 155, .int 79 0, .int 0 0, .ref 162, .int 83 0, .int 0 0, .ref 167, .int 92 0, .int 0 0, .ref 174, .int 129 0, .int 0 0, .ref 209, .int 148 0, .int 0 0, .ref 253, .int 152 0, .int 0 0, .ref 260, .int 160 0, .int 0 0, .ref 265, .int 167 0, .int 0 0, .ref 270, .int 175 0, .int 0 0, .ref 275, .int 189 0, .int 0 0, .ref 282, .int 208 0, .int 0 0, .ref 289], #[]⟩
noncomputable def o_332 (P : Params) : Obj := ⟨.type "tuple", none, .seq #[] 0, #[]⟩
noncomputable def o_333 (P : Params) : Obj := ⟨.type "builtin_function_or_method", none, .fields #[.builtin "type.__prepare__", .type "type"], #[]⟩
noncomputable def o_334 (P : Params) : Obj := ⟨.type "dict", none, .dict #[en P "__module__" 592 (.str (.ofString "joinedhand.flags") 575), en P "__qualname__" 594 (.str (.ofString "Lookup") 593), en P "__firstlineno__" 596 (.int 208 595), en P "__init__" 607 (.ref 297), en P "told" 613 (.ref 302), en P "__static_attributes__" 618 (.ref 303)] 6, #[]⟩
noncomputable def o_335 (P : Params) : Obj := ⟨.type "tuple", none, .seq #[] 0, #[]⟩
noncomputable def o_336 (P : Params) : Obj := ⟨.none, none, .fields #[.int 210 0, .int 4 0, .ref 296, .int 216 0, .int 4 0, .ref 301], #[]⟩
noncomputable def o_337 (P : Params) : Obj := ⟨.type "code", none, .fields #[.str (.ofString "Lookup") 587, .str (.ofString "Lookup") 588, .str (.ofString "/claim/cut.py") 589, .int 208 0, .int 0 0, .int 0 0, .int 0 0, .int 0 0, .ref 287, .bool false, .int 181 0, .ref 288, .none, .none, .none, .none, .int 590 0, .int 208 0, .str (.ofString "/claim/cut.py") 591], #[]⟩
noncomputable def o_338 (P : Params) : Obj := ⟨.type "frame", none, .plain, #[some (.ref 289), some (.ref 3), some (.ref 286), none, some (.str (.ofString "joinedhand.flags") 575), none, some (.ref 0)]⟩
noncomputable def o_339 (P : Params) : Obj := ⟨.type "tuple", none, .seq #[] 0, #[]⟩
noncomputable def o_340 (P : Params) : Obj := ⟨.none, none, .fields #[], #[]⟩
noncomputable def o_341 (P : Params) : Obj := ⟨.type "tuple", none, .seq #[.str (.ofString "self") 600, .str (.ofString "kind") 601, .str (.ofString "flag") 602, .str (.ofString "mark_set") 603, .str (.ofString "tables") 604] 0, #[]⟩
noncomputable def o_342 (P : Params) : Obj := ⟨.type "tuple", none, .seq #[] 0, #[]⟩
noncomputable def o_343 (P : Params) : Obj := fnO (mp 27 0) .none none (.ofString "Lookup.__init__") 0 [] .none .none .none .none none .none .none 0 #[]
noncomputable def o_344 (P : Params) : Obj := ⟨.type "code", none, .fields #[.str (.ofString "__init__") 597, .str (.ofString "Lookup.__init__") 598, .str (.ofString "/claim/cut.py") 599, .int 210 0, .int 5 0, .int 0 0, .int 0 0, .int 3 0, .ref 291, .bool true, .int 181 0, .ref 292, .none, .ref 293, .ref 294, .ref 295, .int 605 0, .int 210 0, .str (.ofString "/claim/cut.py") 606], #[]⟩
noncomputable def o_345 (P : Params) : Obj := fnO (mp 27 0) (.type "function") none (.ofString "Lookup.__init__") 3 [] .none .none .none (.str (.ofString "joinedhand.flags") 575) none (.ref 296) .none 0 #[]
noncomputable def o_346 (P : Params) : Obj := ⟨.type "tuple", none, .seq #[] 0, #[]⟩
noncomputable def o_347 (P : Params) : Obj := ⟨.none, none, .fields #[], #[]⟩
noncomputable def o_348 (P : Params) : Obj := fnO (mp 27 1) .none none (.ofString "Lookup.told") 0 [] .none .none .none .none none .none .none 0 #[]
noncomputable def o_349 (P : Params) : Obj := ⟨.type "code", none, .fields #[.str (.ofString "told") 608, .str (.ofString "Lookup.told") 609, .str (.ofString "/claim/cut.py") 610, .int 216 0, .int 1 0, .int 0 0, .int 0 0, .int 3 0, .ref 298, .bool true, .int 181 0, .ref 299, .none, .none, .none, .ref 300, .int 611 0, .int 216 0, .str (.ofString "/claim/cut.py") 612], #[]⟩
noncomputable def o_350 (P : Params) : Obj := fnO (mp 27 1) (.type "function") none (.ofString "Lookup.told") 3 [] .none .none .none (.str (.ofString "joinedhand.flags") 575) none (.ref 301) .none 0 #[]
noncomputable def o_351 (P : Params) : Obj := ⟨.type "tuple", none, .seq #[.str (.ofString "flag") 614, .str (.ofString "kind") 615, .str (.ofString "mark_set") 616, .str (.ofString "tables") 617] 0, #[]⟩
noncomputable def o_352 (P : Params) : Obj := ⟨.type "dict", none, .dict #[en P "__module__" 592 (.str (.ofString "joinedhand.flags") 575), en P "__firstlineno__" 596 (.int 208 595), en P "__init__" 607 (.ref 297), en P "told" 613 (.ref 302), en P "__static_attributes__" 618 (.ref 303), en P "__dict__" 620 (.ref 306), en P "__weakref__" 622 (.ref 307), en P "__doc__" 623 .none] 4, #[]⟩
noncomputable def o_353 (P : Params) : Obj := ⟨.type "type", none, .cls ⟨.ofString "Lookup", [.type "object"], [.ref 305, .type "object"], 304, .ofString "Lookup", true, [], [], false, none, false⟩, #[none, none, some (.str (.ofString "Lookup") 585), some (.str (.ofString "Lookup") 593), some (.builtin "object.__new__"), some (.bool true)]⟩
noncomputable def o_354 (P : Params) : Obj := ⟨.type "getset_descriptor", none, .fields #[.str (.ofString "__dict__") 619, .ref 305, .builtin "function.__dict__", .builtin "function.__dict__#set"], #[]⟩
noncomputable def o_355 (P : Params) : Obj := ⟨.type "getset_descriptor", none, .fields #[.str (.ofString "__weakref__") 621, .ref 305, .builtin "ExceptionGroup.__weakref__", .none], #[]⟩
noncomputable def o_356 (P : Params) : Obj := ⟨.type "super", none, .fields #[.ref 305, .ref 305, .ref 305], #[]⟩
noncomputable def o_357 (P : Params) : Obj := ⟨.type "builtin_function_or_method", none, .fields #[.builtin "object.__init_subclass__", .ref 305], #[]⟩
noncomputable def o_358 (P : Params) : Obj := ⟨.type "dict", none, .dict #[en P "__name__" 165 (.str (.ofString "joinedhand.matching") 707), en P "__doc__" 166 .none, en P "__package__" 167 .none, en P "__loader__" 168 (.builtin "__main__.__loader__#opaque"), en P "__spec__" 169 .none, en P "__annotations__" 170 (.ref 6), en P "__builtins__" 171 (.ref 4), en P "__file__" 173 (.str (.ofString "/claim/cut.py") 172), en P "__cached__" 174 .none, en P "_wall" 193 (.ref 21), en P "Coverage" 250 (.ref 59), en P "coverage_of" 259 (.ref 70), en P "BY_GLYPHS" 263 (.int 1 262), en P "BY_CLASSES" 265 (.int 2 264), en P "Rule" 314 (.ref 101), en P "Contexts" 374 (.ref 142), en P "told_row" 380 (.ref 151), en P "tests_of" 386 (.ref 156), en P "rule_tests" 398 (.ref 163), en P "rules_at" 404 (.ref 168), en P "Info" 466 (.ref 199), en P "Buffer" 523 (.ref 243), en P "set_cluster" 531 (.ref 254), en P "widened" 542 (.ref 261), en P "merge" 548 (.ref 266), en P "hang" 554 (.ref 271), en P "drop_cluster" 560 (.ref 276), en P "put" 574 (.ref 283), en P "IGNORE_BASES" 578 (.int 2 577), en P "IGNORE_LIGATURES" 580 (.int 4 579), en P "IGNORE_MARKS" 582 (.int 8 581), en P "USE_SET" 584 (.int 16 583), en P "Lookup" 625 (.ref 305), en P "Scene" 665 (.ref 327), en P "attach_wanted" 672 (.ref 338), en P "class_bit" 679 (.ref 345), en P "is_ignored" 690 (.ref 352), en P "passes" 698 (.ref 359), en P "nested_scene" 706 (.ref 366)] 39, #[]⟩
noncomputable def o_359 (P : Params) : Obj := ⟨.none, none, .fields (List.toArray (.int 1 0 :: .int 0 0 :: .ref 20 :: .int 5 0 :: .int 0 0 :: .ref 27 :: .int 28 0 :: .int 0 0 :: .ref 69 :: .int 36 0 :: .int 0 0 :: .ref 76 :: .int 49 0 :: .int 0 0 :: .ref 111 :: .int 73 0 :: .int 0 0 :: .ref 150 :: .int 75 0 :: .int 0 0 :: .ref 155 :: .int 79 0 :: .int 0 0 :: .ref 162 :: .int 83 0 :: .int 0 0 :: .ref 167 :: .int 92 0 :: .int 0 0 :: .ref 174 :: .int 129 0 :: .int 0 0 :: .ref 209 :: .int 148 0 :: .int 0 0 :: .ref 253 :: .int 152 0 :: .int 0 0 :: .ref 260 :: .int 160 0 :: .int 0 0 :: .ref 265 :: .int 167 0 :: .int 0 0 :: .ref 270 :: .int 175 0 :: .int 0 0 :: .ref 275 :: .int 189 0 :: .int 0 0 :: .ref 282 :: .int 208 0 :: .int 0 0 :: .ref 289 :: .int 219 0 :: .int 0 0 :: .ref 315 :: .int 228 0 :: .int 0 0 :: .ref 337 :: .int 230 0 :: .int 0 0 :: .ref 344 :: .int 232 0 :: .int 0 0 :: .ref 351 :: .int 242 0 :: .int 0 0 :: .ref 358 :: .int 244 0 :: .int 0 0 :: .ref 365 :: [])), #[]⟩
noncomputable def o_360 (P : Params) : Obj := ⟨.type "tuple", none, .seq #[] 0, #[]⟩
noncomputable def o_361 (P : Params) : Obj := ⟨.type "builtin_function_or_method", none, .fields #[.builtin "type.__prepare__", .type "type"], #[]⟩
noncomputable def o_362 (P : Params) : Obj := ⟨.type "dict", none, .dict #[en P "__module__" 633 (.str (.ofString "joinedhand.flags") 575), en P "__qualname__" 635 (.str (.ofString "Scene") 634), en P "__firstlineno__" 637 (.int 219 636), en P "__init__" 651 (.ref 324), en P "__static_attributes__" 658 (.ref 325)] 5, #[]⟩
noncomputable def o_363 (P : Params) : Obj := ⟨.type "tuple", none, .seq #[] 0, #[]⟩
noncomputable def o_364 (P : Params) : Obj := ⟨.none, none, .fields #[.int 221 0, .int 4 0, .ref 323], #[]⟩
noncomputable def o_365 (P : Params) : Obj := ⟨.type "code", none, .fields #[.str (.ofString "Scene") 628, .str (.ofString "Scene") 629, .str (.ofString "/claim/cut.py") 630, .int 219 0, .int 0 0, .int 0 0, .int 0 0, .int 0 0, .ref 313, .bool false, .int 181 0, .ref 314, .none, .none, .none, .none, .int 631 0, .int 219 0, .str (.ofString "/claim/cut.py") 632], #[]⟩
noncomputable def o_366 (P : Params) : Obj := ⟨.type "frame", none, .plain, #[some (.ref 315), some (.ref 3), some (.ref 312), none, some (.str (.ofString "joinedhand.flags") 575), none, some (.ref 0)]⟩
noncomputable def o_367 (P : Params) : Obj := ⟨.type "tuple", none, .seq #[.int 0 638] 0, #[]⟩
noncomputable def o_368 (P : Params) : Obj := ⟨.type "tuple", none, .seq #[] 0, #[]⟩
noncomputable def o_369 (P : Params) : Obj := ⟨.none, none, .fields #[], #[]⟩
noncomputable def o_370 (P : Params) : Obj := ⟨.type "tuple", none, .seq #[.str (.ofString "self") 642, .str (.ofString "buffer") 643, .str (.ofString "gdef") 644, .str (.ofString "lookups") 645, .str (.ofString "lookup") 646, .str (.ofString "mask") 647, .str (.ofString "depth") 648] 0, #[]⟩
noncomputable def o_371 (P : Params) : Obj := ⟨.type "tuple", none, .seq #[] 0, #[]⟩
noncomputable def o_372 (P : Params) : Obj := fnO (mp 28 0) .none none (.ofString "Scene.__init__") 0 [] .none .none .none .none none .none .none 0 #[]
noncomputable def o_373 (P : Params) : Obj := ⟨.type "code", none, .fields #[.str (.ofString "__init__") 639, .str (.ofString "Scene.__init__") 640, .str (.ofString "/claim/cut.py") 641, .int 221 0, .int 7 0, .int 0 0, .int 0 0, .int 3 0, .ref 318, .bool true, .int 181 0, .ref 319, .none, .ref 320, .ref 321, .ref 322, .int 649 0, .int 221 0, .str (.ofString "/claim/cut.py") 650], #[]⟩
noncomputable def o_374 (P : Params) : Obj := fnO (mp 28 0) (.type "function") none (.ofString "Scene.__init__") 3 [] (.ref 317) .none .none (.str (.ofString "joinedhand.flags") 575) none (.ref 323) .none 0 #[]
noncomputable def o_375 (P : Params) : Obj := ⟨.type "tuple", none, .seq #[.str (.ofString "buffer") 652, .str (.ofString "depth") 653, .str (.ofString "gdef") 654, .str (.ofString "lookup") 655, .str (.ofString "lookups") 656, .str (.ofString "mask") 657] 0, #[]⟩
noncomputable def o_376 (P : Params) : Obj := ⟨.type "dict", none, .dict #[en P "__module__" 633 (.str (.ofString "joinedhand.flags") 575), en P "__firstlineno__" 637 (.int 219 636), en P "__init__" 651 (.ref 324), en P "__static_attributes__" 658 (.ref 325), en P "__dict__" 660 (.ref 328), en P "__weakref__" 662 (.ref 329), en P "__doc__" 663 .none] 4, #[]⟩
noncomputable def o_377 (P : Params) : Obj := ⟨.type "type", none, .cls ⟨.ofString "Scene", [.type "object"], [.ref 327, .type "object"], 326, .ofString "Scene", true, [], [], false, none, false⟩, #[none, none, some (.str (.ofString "Scene") 626), some (.str (.ofString "Scene") 634), some (.builtin "object.__new__"), some (.bool true)]⟩
noncomputable def o_378 (P : Params) : Obj := ⟨.type "getset_descriptor", none, .fields #[.str (.ofString "__dict__") 659, .ref 327, .builtin "function.__dict__", .builtin "function.__dict__#set"], #[]⟩
noncomputable def o_379 (P : Params) : Obj := ⟨.type "getset_descriptor", none, .fields #[.str (.ofString "__weakref__") 661, .ref 327, .builtin "ExceptionGroup.__weakref__", .none], #[]⟩
noncomputable def o_380 (P : Params) : Obj := ⟨.type "super", none, .fields #[.ref 327, .ref 327, .ref 327], #[]⟩
noncomputable def o_381 (P : Params) : Obj := ⟨.type "builtin_function_or_method", none, .fields #[.builtin "object.__init_subclass__", .ref 327], #[]⟩
noncomputable def o_382 (P : Params) : Obj := ⟨.type "tuple", none, .seq #[] 0, #[]⟩
noncomputable def o_383 (P : Params) : Obj := ⟨.none, none, .fields #[], #[]⟩
noncomputable def o_384 (P : Params) : Obj := ⟨.type "tuple", none, .seq #[.str (.ofString "flag") 669] 0, #[]⟩
noncomputable def o_385 (P : Params) : Obj := ⟨.type "tuple", none, .seq #[] 0, #[]⟩
noncomputable def o_386 (P : Params) : Obj := fnO (tp 29) .none none (.ofString "attach_wanted") 0 [] .none .none .none .none none .none .none 0 #[]
noncomputable def o_387 (P : Params) : Obj := ⟨.type "code", none, .fields #[.str (.ofString "attach_wanted") 666, .str (.ofString "attach_wanted") 667, .str (.ofString "/claim/cut.py") 668, .int 228 0, .int 1 0, .int 0 0, .int 0 0, .int 3 0, .ref 332, .bool true, .int 181 0, .ref 333, .none, .ref 334, .ref 335, .ref 336, .int 670 0, .int 228 0, .str (.ofString "/claim/cut.py") 671], #[]⟩
noncomputable def o_388 (P : Params) : Obj := fnO (tp 29) (.type "function") none (.ofString "attach_wanted") 3 [] .none .none .none (.str (.ofString "joinedhand.flags") 575) none (.ref 337) .none 0 #[]
noncomputable def o_389 (P : Params) : Obj := ⟨.type "tuple", none, .seq #[] 0, #[]⟩
noncomputable def o_390 (P : Params) : Obj := ⟨.none, none, .fields #[], #[]⟩
noncomputable def o_391 (P : Params) : Obj := ⟨.type "tuple", none, .seq #[.str (.ofString "number") 676] 0, #[]⟩
noncomputable def o_392 (P : Params) : Obj := ⟨.type "tuple", none, .seq #[] 0, #[]⟩
noncomputable def o_393 (P : Params) : Obj := fnO (tp 30) .none none (.ofString "class_bit") 0 [] .none .none .none .none none .none .none 0 #[]
noncomputable def o_394 (P : Params) : Obj := ⟨.type "code", none, .fields #[.str (.ofString "class_bit") 673, .str (.ofString "class_bit") 674, .str (.ofString "/claim/cut.py") 675, .int 230 0, .int 1 0, .int 0 0, .int 0 0, .int 3 0, .ref 339, .bool true, .int 181 0, .ref 340, .none, .ref 341, .ref 342, .ref 343, .int 677 0, .int 230 0, .str (.ofString "/claim/cut.py") 678], #[]⟩
noncomputable def o_395 (P : Params) : Obj := fnO (tp 30) (.type "function") none (.ofString "class_bit") 3 [] .none .none .none (.str (.ofString "joinedhand.flags") 575) none (.ref 344) .none 0 #[]
noncomputable def o_396 (P : Params) : Obj := ⟨.type "tuple", none, .seq #[] 0, #[]⟩
noncomputable def o_397 (P : Params) : Obj := ⟨.none, none, .fields #[], #[]⟩
noncomputable def o_398 (P : Params) : Obj := ⟨.type "tuple", none, .seq #[.str (.ofString "gdef") 683, .str (.ofString "lookup") 684, .str (.ofString "glyph") 685, .str (.ofString "number") 686, .str (.ofString "wanted") 687] 0, #[]⟩
noncomputable def o_399 (P : Params) : Obj := ⟨.type "tuple", none, .seq #[] 0, #[]⟩
noncomputable def o_400 (P : Params) : Obj := fnO (tp 31) .none none (.ofString "is_ignored") 0 [] .none .none .none .none none .none .none 0 #[]
noncomputable def o_401 (P : Params) : Obj := ⟨.type "code", none, .fields #[.str (.ofString "is_ignored") 680, .str (.ofString "is_ignored") 681, .str (.ofString "/claim/cut.py") 682, .int 232 0, .int 3 0, .int 0 0, .int 0 0, .int 3 0, .ref 346, .bool true, .int 181 0, .ref 347, .none, .ref 348, .ref 349, .ref 350, .int 688 0, .int 232 0, .str (.ofString "/claim/cut.py") 689], #[]⟩
noncomputable def o_402 (P : Params) : Obj := fnO (tp 31) (.type "function") none (.ofString "is_ignored") 3 [] .none .none .none (.str (.ofString "joinedhand.flags") 575) none (.ref 351) .none 0 #[]
noncomputable def o_403 (P : Params) : Obj := ⟨.type "tuple", none, .seq #[] 0, #[]⟩
noncomputable def o_404 (P : Params) : Obj := ⟨.none, none, .fields #[], #[]⟩
noncomputable def o_405 (P : Params) : Obj := ⟨.type "tuple", none, .seq #[.str (.ofString "scene") 694, .str (.ofString "at") 695] 0, #[]⟩
noncomputable def o_406 (P : Params) : Obj := ⟨.type "tuple", none, .seq #[] 0, #[]⟩
noncomputable def o_407 (P : Params) : Obj := fnO (tp 32) .none none (.ofString "passes") 0 [] .none .none .none .none none .none .none 0 #[]
noncomputable def o_408 (P : Params) : Obj := ⟨.type "code", none, .fields #[.str (.ofString "passes") 691, .str (.ofString "passes") 692, .str (.ofString "/claim/cut.py") 693, .int 242 0, .int 2 0, .int 0 0, .int 0 0, .int 3 0, .ref 353, .bool true, .int 181 0, .ref 354, .none, .ref 355, .ref 356, .ref 357, .int 696 0, .int 242 0, .str (.ofString "/claim/cut.py") 697], #[]⟩
noncomputable def o_409 (P : Params) : Obj := fnO (tp 32) (.type "function") none (.ofString "passes") 3 [] .none .none .none (.str (.ofString "joinedhand.flags") 575) none (.ref 358) .none 0 #[]
noncomputable def o_410 (P : Params) : Obj := ⟨.type "tuple", none, .seq #[] 0, #[]⟩
noncomputable def o_411 (P : Params) : Obj := ⟨.none, none, .fields #[], #[]⟩
noncomputable def o_412 (P : Params) : Obj := ⟨.type "tuple", none, .seq #[.str (.ofString "scene") 702, .str (.ofString "number") 703] 0, #[]⟩
noncomputable def o_413 (P : Params) : Obj := ⟨.type "tuple", none, .seq #[] 0, #[]⟩
noncomputable def o_414 (P : Params) : Obj := fnO (tp 33) .none none (.ofString "nested_scene") 0 [] .none .none .none .none none .none .none 0 #[]
noncomputable def o_415 (P : Params) : Obj := ⟨.type "code", none, .fields #[.str (.ofString "nested_scene") 699, .str (.ofString "nested_scene") 700, .str (.ofString "/claim/cut.py") 701, .int 244 0, .int 2 0, .int 0 0, .int 0 0, .int 3 0, .ref 360, .bool true, .int 181 0, .ref 361, .none, .ref 362, .ref 363, .ref 364, .int 704 0, .int 244 0, .str (.ofString "/claim/cut.py") 705], #[]⟩
noncomputable def o_416 (P : Params) : Obj := fnO (tp 33) (.type "function") none (.ofString "nested_scene") 3 [] .none .none .none (.str (.ofString "joinedhand.flags") 575) none (.ref 365) .none 0 #[]
noncomputable def o_417 (P : Params) : Obj := ⟨.type "dict", none, .dict #[en P "__name__" 165 (.str (.ofString "joinedhand.ligature") 818), en P "__doc__" 166 .none, en P "__package__" 167 .none, en P "__loader__" 168 (.builtin "__main__.__loader__#opaque"), en P "__spec__" 169 .none, en P "__annotations__" 170 (.ref 6), en P "__builtins__" 171 (.ref 4), en P "__file__" 173 (.str (.ofString "/claim/cut.py") 172), en P "__cached__" 174 .none, en P "_wall" 193 (.ref 21), en P "Coverage" 250 (.ref 59), en P "coverage_of" 259 (.ref 70), en P "BY_GLYPHS" 263 (.int 1 262), en P "BY_CLASSES" 265 (.int 2 264), en P "Rule" 314 (.ref 101), en P "Contexts" 374 (.ref 142), en P "told_row" 380 (.ref 151), en P "tests_of" 386 (.ref 156), en P "rule_tests" 398 (.ref 163), en P "rules_at" 404 (.ref 168), en P "Info" 466 (.ref 199), en P "Buffer" 523 (.ref 243), en P "set_cluster" 531 (.ref 254), en P "widened" 542 (.ref 261), en P "merge" 548 (.ref 266), en P "hang" 554 (.ref 271), en P "drop_cluster" 560 (.ref 276), en P "put" 574 (.ref 283), en P "IGNORE_BASES" 578 (.int 2 577), en P "IGNORE_LIGATURES" 580 (.int 4 579), en P "IGNORE_MARKS" 582 (.int 8 581), en P "USE_SET" 584 (.int 16 583), en P "Lookup" 625 (.ref 305), en P "Scene" 665 (.ref 327), en P "attach_wanted" 672 (.ref 338), en P "class_bit" 679 (.ref 345), en P "is_ignored" 690 (.ref 352), en P "passes" 698 (.ref 359), en P "nested_scene" 706 (.ref 366), en P "KINDS_IN_INPUT" 711 (.ref 367), en P "KINDS_AROUND" 715 (.ref 368), en P "glyph_tests" 721 (.ref 373), en P "cover_tests" 727 (.ref 378), en P "fits" 735 (.ref 385), en P "is_borne" 743 (.ref 392), en P "found_at" 757 (.ref 399), en P "input_at" 769 (.ref 406), en P "last_at" 781 (.ref 413), en P "ahead_at" 790 (.ref 420), en P "back_at" 799 (.ref 427), en P "is_piece" 806 (.ref 434), en P "hold_together" 817 (.ref 441), en P "BASE_ligature" 821 (.int 1 820), en P "MARK" 823 (.int 3 822)] 54, #[]⟩
noncomputable def o_418 (P : Params) : Obj := ⟨.none, none, .fields (List.toArray (.int 1 0 :: .int 0 0 :: .ref 20 :: .int 5 0 :: .int 0 0 :: .ref 27 :: .int 28 0 :: .int 0 0 :: .ref 69 :: .int 36 0 :: .int 0 0 :: .ref 76 :: .int 49 0 :: .int 0 0 :: .ref 111 :: .int 73 0 :: .int 0 0 :: .ref 150 :: .int 75 0 :: .int 0 0 :: .ref 155 :: .int 79 0 :: .int 0 0 :: .ref 162 :: .int 83 0 :: .int 0 0 :: .ref 167 :: .int 92 0 :: .int 0 0 :: .ref 174 :: .int 129 0 :: .int 0 0 :: .ref 209 :: .int 148 0 :: .int 0 0 :: .ref 253 :: .int 152 0 :: .int 0 0 :: .ref 260 :: .int 160 0 :: .int 0 0 :: .ref 265 :: .int 167 0 :: .int 0 0 :: .ref 270 :: .int 175 0 :: .int 0 0 :: .ref 275 :: .int 189 0 :: .int 0 0 :: .ref 282 :: .int 208 0 :: .int 0 0 :: .ref 289 :: .int 219 0 :: .int 0 0 :: .ref 315 :: .int 228 0 :: .int 0 0 :: .ref 337 :: .int 230 0 :: .int 0 0 :: .ref 344 :: .int 232 0 :: .int 0 0 :: .ref 351 :: .int 242 0 :: .int 0 0 :: .ref 358 :: .int 244 0 :: .int 0 0 :: .ref 365 :: .int 251 0 :: .int 0 0 :: .ref 372 :: .int 253 0 :: .int 0 0 :: .ref 377 :: .int 255 0 :: .int 0 0 :: .ref 384 :: .int 261 0 :: .int 0 0 :: .ref 391 :: .int 263 0 :: .int 0 0 :: .ref 398 :: .int 274 0 :: .int 0 0 :: .ref 405 :: .int 284 0 :: .int 0 0 :: .ref 412 :: .int 291 0 :: .int 0 0 :: .ref 419 :: .int 293 0 :: .int 0 0 :: .ref 426 :: .int 295 0 :: .int 0 0 :: .ref 433 :: .int 297 0 :: .int 0 0 :: .ref 440 :: [])), #[]⟩
noncomputable def o_419 (P : Params) : Obj := ⟨.type "tuple", none, .seq #[.str (.ofString "zwj") 709, .str (.ofString "hidden") 710] 0, #[]⟩
noncomputable def o_420 (P : Params) : Obj := ⟨.type "tuple", none, .seq #[.str (.ofString "zwj") 712, .str (.ofString "zwnj") 713, .str (.ofString "hidden") 714] 0, #[]⟩
noncomputable def o_421 (P : Params) : Obj := ⟨.type "tuple", none, .seq #[] 0, #[]⟩
noncomputable def o_422 (P : Params) : Obj := ⟨.none, none, .fields #[], #[]⟩
noncomputable def o_423 (P : Params) : Obj := fnO (tp 37) .none none (.ofString "glyph_tests") 0 [] .none .none .none .none none .none .none 0 #[]
noncomputable def o_424 (P : Params) : Obj := ⟨.type "code", none, .fields #[.str (.ofString "glyph_tests") 716, .str (.ofString "glyph_tests") 717, .str (.ofString "/claim/cut.py") 718, .int 251 0, .int 1 0, .int 0 0, .int 0 0, .int 3 0, .ref 369, .bool true, .int 181 0, .ref 370, .none, .none, .none, .ref 371, .int 719 0, .int 251 0, .str (.ofString "/claim/cut.py") 720], #[]⟩
noncomputable def o_425 (P : Params) : Obj := fnO (tp 37) (.type "function") none (.ofString "glyph_tests") 3 [] .none .none .none (.str (.ofString "joinedhand.matching") 707) none (.ref 372) .none 0 #[]
noncomputable def o_426 (P : Params) : Obj := ⟨.type "tuple", none, .seq #[] 0, #[]⟩
noncomputable def o_427 (P : Params) : Obj := ⟨.none, none, .fields #[], #[]⟩
noncomputable def o_428 (P : Params) : Obj := fnO (tp 38) .none none (.ofString "cover_tests") 0 [] .none .none .none .none none .none .none 0 #[]
noncomputable def o_429 (P : Params) : Obj := ⟨.type "code", none, .fields #[.str (.ofString "cover_tests") 722, .str (.ofString "cover_tests") 723, .str (.ofString "/claim/cut.py") 724, .int 253 0, .int 1 0, .int 0 0, .int 0 0, .int 3 0, .ref 374, .bool true, .int 181 0, .ref 375, .none, .none, .none, .ref 376, .int 725 0, .int 253 0, .str (.ofString "/claim/cut.py") 726], #[]⟩
noncomputable def o_430 (P : Params) : Obj := fnO (tp 38) (.type "function") none (.ofString "cover_tests") 3 [] .none .none .none (.str (.ofString "joinedhand.matching") 707) none (.ref 377) .none 0 #[]
noncomputable def o_431 (P : Params) : Obj := ⟨.type "tuple", none, .seq #[] 0, #[]⟩
noncomputable def o_432 (P : Params) : Obj := ⟨.none, none, .fields #[], #[]⟩
noncomputable def o_433 (P : Params) : Obj := ⟨.type "tuple", none, .seq #[.str (.ofString "test") 731, .str (.ofString "glyph") 732] 0, #[]⟩
noncomputable def o_434 (P : Params) : Obj := ⟨.type "tuple", none, .seq #[] 0, #[]⟩
noncomputable def o_435 (P : Params) : Obj := fnO (tp 39) .none none (.ofString "fits") 0 [] .none .none .none .none none .none .none 0 #[]
noncomputable def o_436 (P : Params) : Obj := ⟨.type "code", none, .fields #[.str (.ofString "fits") 728, .str (.ofString "fits") 729, .str (.ofString "/claim/cut.py") 730, .int 255 0, .int 2 0, .int 0 0, .int 0 0, .int 3 0, .ref 379, .bool true, .int 181 0, .ref 380, .none, .ref 381, .ref 382, .ref 383, .int 733 0, .int 255 0, .str (.ofString "/claim/cut.py") 734], #[]⟩
noncomputable def o_437 (P : Params) : Obj := fnO (tp 39) (.type "function") none (.ofString "fits") 3 [] .none .none .none (.str (.ofString "joinedhand.matching") 707) none (.ref 384) .none 0 #[]
noncomputable def o_438 (P : Params) : Obj := ⟨.type "tuple", none, .seq #[] 0, #[]⟩
noncomputable def o_439 (P : Params) : Obj := ⟨.none, none, .fields #[], #[]⟩
noncomputable def o_440 (P : Params) : Obj := ⟨.type "tuple", none, .seq #[.str (.ofString "scene") 739, .str (.ofString "info") 740] 0, #[]⟩
noncomputable def o_441 (P : Params) : Obj := ⟨.type "tuple", none, .seq #[] 0, #[]⟩
noncomputable def o_442 (P : Params) : Obj := fnO (tp 40) .none none (.ofString "is_borne") 0 [] .none .none .none .none none .none .none 0 #[]
noncomputable def o_443 (P : Params) : Obj := ⟨.type "code", none, .fields #[.str (.ofString "is_borne") 736, .str (.ofString "is_borne") 737, .str (.ofString "/claim/cut.py") 738, .int 261 0, .int 2 0, .int 0 0, .int 0 0, .int 3 0, .ref 386, .bool true, .int 181 0, .ref 387, .none, .ref 388, .ref 389, .ref 390, .int 741 0, .int 261 0, .str (.ofString "/claim/cut.py") 742], #[]⟩
noncomputable def o_444 (P : Params) : Obj := fnO (tp 40) (.type "function") none (.ofString "is_borne") 3 [] .none .none .none (.str (.ofString "joinedhand.matching") 707) none (.ref 391) .none 0 #[]
noncomputable def o_445 (P : Params) : Obj := ⟨.type "tuple", none, .seq #[] 0, #[]⟩
noncomputable def o_446 (P : Params) : Obj := ⟨.none, none, .fields #[], #[]⟩
noncomputable def o_447 (P : Params) : Obj := ⟨.type "tuple", none, .seq #[.str (.ofString "scene") 747, .str (.ofString "at") 748, .str (.ofString "step") 749, .str (.ofString "test") 750, .str (.ofString "kinds") 751, .str (.ofString "is_input") 752, .str (.ofString "here") 753, .str (.ofString "info") 754] 0, #[]⟩
noncomputable def o_448 (P : Params) : Obj := ⟨.type "tuple", none, .seq #[] 0, #[]⟩
noncomputable def o_449 (P : Params) : Obj := fnO (tp 41) .none none (.ofString "found_at") 0 [] .none .none .none .none none .none .none 0 #[]
noncomputable def o_450 (P : Params) : Obj := ⟨.type "code", none, .fields #[.str (.ofString "found_at") 744, .str (.ofString "found_at") 745, .str (.ofString "/claim/cut.py") 746, .int 263 0, .int 6 0, .int 0 0, .int 0 0, .int 3 0, .ref 393, .bool true, .int 181 0, .ref 394, .none, .ref 395, .ref 396, .ref 397, .int 755 0, .int 263 0, .str (.ofString "/claim/cut.py") 756], #[]⟩
noncomputable def o_451 (P : Params) : Obj := fnO (tp 41) (.type "function") none (.ofString "found_at") 3 [] .none .none .none (.str (.ofString "joinedhand.matching") 707) none (.ref 398) .none 0 #[]
noncomputable def o_452 (P : Params) : Obj := ⟨.type "tuple", none, .seq #[] 0, #[]⟩
noncomputable def o_453 (P : Params) : Obj := ⟨.none, none, .fields #[], #[]⟩
noncomputable def o_454 (P : Params) : Obj := ⟨.type "tuple", none, .seq #[.str (.ofString "scene") 761, .str (.ofString "at") 762, .str (.ofString "tests") 763, .str (.ofString "found") 764, .str (.ofString "test") 765, .str (.ofString "here") 766] 0, #[]⟩
noncomputable def o_455 (P : Params) : Obj := ⟨.type "tuple", none, .seq #[] 0, #[]⟩
noncomputable def o_456 (P : Params) : Obj := fnO (tp 42) .none none (.ofString "input_at") 0 [] .none .none .none .none none .none .none 0 #[]
noncomputable def o_457 (P : Params) : Obj := ⟨.type "code", none, .fields #[.str (.ofString "input_at") 758, .str (.ofString "input_at") 759, .str (.ofString "/claim/cut.py") 760, .int 274 0, .int 3 0, .int 0 0, .int 0 0, .int 3 0, .ref 400, .bool true, .int 181 0, .ref 401, .none, .ref 402, .ref 403, .ref 404, .int 767 0, .int 274 0, .str (.ofString "/claim/cut.py") 768], #[]⟩
noncomputable def o_458 (P : Params) : Obj := fnO (tp 42) (.type "function") none (.ofString "input_at") 3 [] .none .none .none (.str (.ofString "joinedhand.matching") 707) none (.ref 405) .none 0 #[]
noncomputable def o_459 (P : Params) : Obj := ⟨.type "tuple", none, .seq #[] 0, #[]⟩
noncomputable def o_460 (P : Params) : Obj := ⟨.none, none, .fields #[], #[]⟩
noncomputable def o_461 (P : Params) : Obj := ⟨.type "tuple", none, .seq #[.str (.ofString "scene") 773, .str (.ofString "at") 774, .str (.ofString "step") 775, .str (.ofString "tests") 776, .str (.ofString "here") 777, .str (.ofString "test") 778] 0, #[]⟩
noncomputable def o_462 (P : Params) : Obj := ⟨.type "tuple", none, .seq #[] 0, #[]⟩
noncomputable def o_463 (P : Params) : Obj := fnO (tp 43) .none none (.ofString "last_at") 0 [] .none .none .none .none none .none .none 0 #[]
noncomputable def o_464 (P : Params) : Obj := ⟨.type "code", none, .fields #[.str (.ofString "last_at") 770, .str (.ofString "last_at") 771, .str (.ofString "/claim/cut.py") 772, .int 284 0, .int 4 0, .int 0 0, .int 0 0, .int 3 0, .ref 407, .bool true, .int 181 0, .ref 408, .none, .ref 409, .ref 410, .ref 411, .int 779 0, .int 284 0, .str (.ofString "/claim/cut.py") 780], #[]⟩
noncomputable def o_465 (P : Params) : Obj := fnO (tp 43) (.type "function") none (.ofString "last_at") 3 [] .none .none .none (.str (.ofString "joinedhand.matching") 707) none (.ref 412) .none 0 #[]
noncomputable def o_466 (P : Params) : Obj := ⟨.type "tuple", none, .seq #[] 0, #[]⟩
noncomputable def o_467 (P : Params) : Obj := ⟨.none, none, .fields #[], #[]⟩
noncomputable def o_468 (P : Params) : Obj := ⟨.type "tuple", none, .seq #[.str (.ofString "scene") 785, .str (.ofString "at") 786, .str (.ofString "tests") 787] 0, #[]⟩
noncomputable def o_469 (P : Params) : Obj := ⟨.type "tuple", none, .seq #[] 0, #[]⟩
noncomputable def o_470 (P : Params) : Obj := fnO (tp 44) .none none (.ofString "ahead_at") 0 [] .none .none .none .none none .none .none 0 #[]
noncomputable def o_471 (P : Params) : Obj := ⟨.type "code", none, .fields #[.str (.ofString "ahead_at") 782, .str (.ofString "ahead_at") 783, .str (.ofString "/claim/cut.py") 784, .int 291 0, .int 3 0, .int 0 0, .int 0 0, .int 3 0, .ref 414, .bool true, .int 181 0, .ref 415, .none, .ref 416, .ref 417, .ref 418, .int 788 0, .int 291 0, .str (.ofString "/claim/cut.py") 789], #[]⟩
noncomputable def o_472 (P : Params) : Obj := fnO (tp 44) (.type "function") none (.ofString "ahead_at") 3 [] .none .none .none (.str (.ofString "joinedhand.matching") 707) none (.ref 419) .none 0 #[]
noncomputable def o_473 (P : Params) : Obj := ⟨.type "tuple", none, .seq #[] 0, #[]⟩
noncomputable def o_474 (P : Params) : Obj := ⟨.none, none, .fields #[], #[]⟩
noncomputable def o_475 (P : Params) : Obj := ⟨.type "tuple", none, .seq #[.str (.ofString "scene") 794, .str (.ofString "at") 795, .str (.ofString "tests") 796] 0, #[]⟩
noncomputable def o_476 (P : Params) : Obj := ⟨.type "tuple", none, .seq #[] 0, #[]⟩
noncomputable def o_477 (P : Params) : Obj := fnO (tp 45) .none none (.ofString "back_at") 0 [] .none .none .none .none none .none .none 0 #[]
noncomputable def o_478 (P : Params) : Obj := ⟨.type "code", none, .fields #[.str (.ofString "back_at") 791, .str (.ofString "back_at") 792, .str (.ofString "/claim/cut.py") 793, .int 293 0, .int 3 0, .int 0 0, .int 0 0, .int 3 0, .ref 421, .bool true, .int 181 0, .ref 422, .none, .ref 423, .ref 424, .ref 425, .int 797 0, .int 293 0, .str (.ofString "/claim/cut.py") 798], #[]⟩
noncomputable def o_479 (P : Params) : Obj := fnO (tp 45) (.type "function") none (.ofString "back_at") 3 [] .none .none .none (.str (.ofString "joinedhand.matching") 707) none (.ref 426) .none 0 #[]
noncomputable def o_480 (P : Params) : Obj := ⟨.type "tuple", none, .seq #[] 0, #[]⟩
noncomputable def o_481 (P : Params) : Obj := ⟨.none, none, .fields #[], #[]⟩
noncomputable def o_482 (P : Params) : Obj := ⟨.type "tuple", none, .seq #[.str (.ofString "info") 803] 0, #[]⟩
noncomputable def o_483 (P : Params) : Obj := ⟨.type "tuple", none, .seq #[] 0, #[]⟩
noncomputable def o_484 (P : Params) : Obj := fnO (tp 46) .none none (.ofString "is_piece") 0 [] .none .none .none .none none .none .none 0 #[]
noncomputable def o_485 (P : Params) : Obj := ⟨.type "code", none, .fields #[.str (.ofString "is_piece") 800, .str (.ofString "is_piece") 801, .str (.ofString "/claim/cut.py") 802, .int 295 0, .int 1 0, .int 0 0, .int 0 0, .int 3 0, .ref 428, .bool true, .int 181 0, .ref 429, .none, .ref 430, .ref 431, .ref 432, .int 804 0, .int 295 0, .str (.ofString "/claim/cut.py") 805], #[]⟩
noncomputable def o_486 (P : Params) : Obj := fnO (tp 46) (.type "function") none (.ofString "is_piece") 3 [] .none .none .none (.str (.ofString "joinedhand.matching") 707) none (.ref 433) .none 0 #[]
noncomputable def o_487 (P : Params) : Obj := ⟨.type "tuple", none, .seq #[] 0, #[]⟩
noncomputable def o_488 (P : Params) : Obj := ⟨.none, none, .fields #[], #[]⟩
noncomputable def o_489 (P : Params) : Obj := ⟨.type "tuple", none, .seq #[.str (.ofString "row") 810, .str (.ofString "positions") 811, .str (.ofString "first") 812, .str (.ofString "at") 813, .str (.ofString "other") 814] 0, #[]⟩
noncomputable def o_490 (P : Params) : Obj := ⟨.type "tuple", none, .seq #[] 0, #[]⟩
noncomputable def o_491 (P : Params) : Obj := fnO (tp 47) .none none (.ofString "hold_together") 0 [] .none .none .none .none none .none .none 0 #[]
noncomputable def o_492 (P : Params) : Obj := ⟨.type "code", none, .fields #[.str (.ofString "hold_together") 807, .str (.ofString "hold_together") 808, .str (.ofString "/claim/cut.py") 809, .int 297 0, .int 2 0, .int 0 0, .int 0 0, .int 3 0, .ref 435, .bool true, .int 181 0, .ref 436, .none, .ref 437, .ref 438, .ref 439, .int 815 0, .int 297 0, .str (.ofString "/claim/cut.py") 816], #[]⟩
noncomputable def o_493 (P : Params) : Obj := fnO (tp 47) (.type "function") none (.ofString "hold_together") 3 [] .none .none .none (.str (.ofString "joinedhand.matching") 707) none (.ref 440) .none 0 #[]
noncomputable def o_494 (P : Params) : Obj := ⟨.type "dict", none, .dict #[en P "__name__" 165 (.str (.ofString "joinedhand.ligature") 818), en P "__doc__" 166 .none, en P "__package__" 167 .none, en P "__loader__" 168 (.builtin "__main__.__loader__#opaque"), en P "__spec__" 169 .none, en P "__annotations__" 170 (.ref 6), en P "__builtins__" 171 (.ref 4), en P "__file__" 173 (.str (.ofString "/claim/cut.py") 172), en P "__cached__" 174 .none, en P "_wall" 193 (.ref 21), en P "Coverage" 250 (.ref 59), en P "coverage_of" 259 (.ref 70), en P "BY_GLYPHS" 263 (.int 1 262), en P "BY_CLASSES" 265 (.int 2 264), en P "Rule" 314 (.ref 101), en P "Contexts" 374 (.ref 142), en P "told_row" 380 (.ref 151), en P "tests_of" 386 (.ref 156), en P "rule_tests" 398 (.ref 163), en P "rules_at" 404 (.ref 168), en P "Info" 466 (.ref 199), en P "Buffer" 523 (.ref 243), en P "set_cluster" 531 (.ref 254), en P "widened" 542 (.ref 261), en P "merge" 548 (.ref 266), en P "hang" 554 (.ref 271), en P "drop_cluster" 560 (.ref 276), en P "put" 574 (.ref 283), en P "IGNORE_BASES" 578 (.int 2 577), en P "IGNORE_LIGATURES" 580 (.int 4 579), en P "IGNORE_MARKS" 582 (.int 8 581), en P "USE_SET" 584 (.int 16 583), en P "Lookup" 625 (.ref 305), en P "Scene" 665 (.ref 327), en P "attach_wanted" 672 (.ref 338), en P "class_bit" 679 (.ref 345), en P "is_ignored" 690 (.ref 352), en P "passes" 698 (.ref 359), en P "nested_scene" 706 (.ref 366), en P "KINDS_IN_INPUT" 711 (.ref 367), en P "KINDS_AROUND" 715 (.ref 368), en P "glyph_tests" 721 (.ref 373), en P "cover_tests" 727 (.ref 378), en P "fits" 735 (.ref 385), en P "is_borne" 743 (.ref 392), en P "found_at" 757 (.ref 399), en P "input_at" 769 (.ref 406), en P "last_at" 781 (.ref 413), en P "ahead_at" 790 (.ref 420), en P "back_at" 799 (.ref 427), en P "is_piece" 806 (.ref 434), en P "hold_together" 817 (.ref 441), en P "BASE_ligature" 821 (.int 1 820), en P "MARK" 823 (.int 3 822), en P "begins_with" 831 (.ref 448), en P "live_rows" 837 (.ref 453), en P "Ligature" 872 (.ref 475), en P "part_count" 879 (.ref 486), en P "way_of" 885 (.ref 491), en P "tie" 896 (.ref 498)] 60, #[]⟩
noncomputable def o_495 (P : Params) : Obj := ⟨.none, none, .fields (List.toArray (.int 1 0 :: .int 0 0 :: .ref 20 :: .int 5 0 :: .int 0 0 :: .ref 27 :: .int 28 0 :: .int 0 0 :: .ref 69 :: .int 36 0 :: .int 0 0 :: .ref 76 :: .int 49 0 :: .int 0 0 :: .ref 111 :: .int 73 0 :: .int 0 0 :: .ref 150 :: .int 75 0 :: .int 0 0 :: .ref 155 :: .int 79 0 :: .int 0 0 :: .ref 162 :: .int 83 0 :: .int 0 0 :: .ref 167 :: .int 92 0 :: .int 0 0 :: .ref 174 :: .int 129 0 :: .int 0 0 :: .ref 209 :: .int 148 0 :: .int 0 0 :: .ref 253 :: .int 152 0 :: .int 0 0 :: .ref 260 :: .int 160 0 :: .int 0 0 :: .ref 265 :: .int 167 0 :: .int 0 0 :: .ref 270 :: .int 175 0 :: .int 0 0 :: .ref 275 :: .int 189 0 :: .int 0 0 :: .ref 282 :: .int 208 0 :: .int 0 0 :: .ref 289 :: .int 219 0 :: .int 0 0 :: .ref 315 :: .int 228 0 :: .int 0 0 :: .ref 337 :: .int 230 0 :: .int 0 0 :: .ref 344 :: .int 232 0 :: .int 0 0 :: .ref 351 :: .int 242 0 :: .int 0 0 :: .ref 358 :: .int 244 0 :: .int 0 0 :: .ref 365 :: .int 251 0 :: .int 0 0 :: .ref 372 :: .int 253 0 :: .int 0 0 :: .ref 377 :: .int 255 0 :: .int 0 0 :: .ref 384 :: .int 261 0 :: .int 0 0 :: .ref 391 :: .int 263 0 :: .int 0 0 :: .ref 398 :: .int 274 0 :: .int 0 0 :: .ref 405 :: .int 284 0 :: .int 0 0 :: .ref 412 :: .int 291 0 :: .int 0 0 :: .ref 419 :: .int 293 0 :: .int 0 0 :: .ref 426 :: .int 295 0 :: .int 0 0 :: .ref 433 :: .int 297 0 :: .int 0 0 :: .ref 440 :: .int 310 0 :: .int 0 0 :: .ref 447 :: .int 312 0 :: .int 0 0 :: .ref 452 :: .int 318 0 :: .int 0 0 :: .ref 459 :: .int 326 0 :: .int 0 0 :: .ref 485 :: .int 328 0 :: .int 0 0 :: .ref 490 :: .int 332 0 :: .int 0 0 :: .ref 497 :: [])), #[]⟩
noncomputable def o_496 (P : Params) : Obj := ⟨.type "tuple", none, .seq #[] 0, #[]⟩
noncomputable def o_497 (P : Params) : Obj := ⟨.none, none, .fields #[], #[]⟩
noncomputable def o_498 (P : Params) : Obj := ⟨.type "tuple", none, .seq #[.str (.ofString "glyphs") 827, .str (.ofString "lead") 828] 0, #[]⟩
noncomputable def o_499 (P : Params) : Obj := ⟨.type "tuple", none, .seq #[] 0, #[]⟩
noncomputable def o_500 (P : Params) : Obj := fnO (tp 51) .none none (.ofString "begins_with") 0 [] .none .none .none .none none .none .none 0 #[]
noncomputable def o_501 (P : Params) : Obj := ⟨.type "code", none, .fields #[.str (.ofString "begins_with") 824, .str (.ofString "begins_with") 825, .str (.ofString "/claim/cut.py") 826, .int 310 0, .int 2 0, .int 0 0, .int 0 0, .int 3 0, .ref 442, .bool true, .int 181 0, .ref 443, .none, .ref 444, .ref 445, .ref 446, .int 829 0, .int 310 0, .str (.ofString "/claim/cut.py") 830], #[]⟩
noncomputable def o_502 (P : Params) : Obj := fnO (tp 51) (.type "function") none (.ofString "begins_with") 3 [] .none .none .none (.str (.ofString "joinedhand.ligature") 818) none (.ref 447) .none 0 #[]
noncomputable def o_503 (P : Params) : Obj := ⟨.type "tuple", none, .seq #[] 0, #[]⟩
noncomputable def o_504 (P : Params) : Obj := ⟨.none, none, .fields #[], #[]⟩
noncomputable def o_505 (P : Params) : Obj := fnO (tp 52) .none none (.ofString "live_rows") 0 [] .none .none .none .none none .none .none 0 #[]
noncomputable def o_506 (P : Params) : Obj := ⟨.type "code", none, .fields #[.str (.ofString "live_rows") 832, .str (.ofString "live_rows") 833, .str (.ofString "/claim/cut.py") 834, .int 312 0, .int 1 0, .int 0 0, .int 0 0, .int 3 0, .ref 449, .bool true, .int 181 0, .ref 450, .none, .none, .none, .ref 451, .int 835 0, .int 312 0, .str (.ofString "/claim/cut.py") 836], #[]⟩
noncomputable def o_507 (P : Params) : Obj := fnO (tp 52) (.type "function") none (.ofString "live_rows") 3 [] .none .none .none (.str (.ofString "joinedhand.ligature") 818) none (.ref 452) .none 0 #[]
noncomputable def o_508 (P : Params) : Obj := ⟨.type "tuple", none, .seq #[] 0, #[]⟩
noncomputable def o_509 (P : Params) : Obj := ⟨.type "builtin_function_or_method", none, .fields #[.builtin "type.__prepare__", .type "type"], #[]⟩
noncomputable def o_510 (P : Params) : Obj := ⟨.type "dict", none, .dict #[en P "__module__" 845 (.str (.ofString "joinedhand.ligature") 818), en P "__qualname__" 847 (.str (.ofString "Ligature") 846), en P "__firstlineno__" 849 (.int 318 848), en P "__init__" 857 (.ref 467), en P "told" 863 (.ref 472), en P "__static_attributes__" 865 (.ref 473)] 6, #[]⟩
noncomputable def o_511 (P : Params) : Obj := ⟨.type "tuple", none, .seq #[] 0, #[]⟩
noncomputable def o_512 (P : Params) : Obj := ⟨.none, none, .fields #[.int 320 0, .int 4 0, .ref 466, .int 323 0, .int 4 0, .ref 471], #[]⟩
noncomputable def o_513 (P : Params) : Obj := ⟨.type "code", none, .fields #[.str (.ofString "Ligature") 840, .str (.ofString "Ligature") 841, .str (.ofString "/claim/cut.py") 842, .int 318 0, .int 0 0, .int 0 0, .int 0 0, .int 0 0, .ref 457, .bool false, .int 181 0, .ref 458, .none, .none, .none, .none, .int 843 0, .int 318 0, .str (.ofString "/claim/cut.py") 844], #[]⟩
noncomputable def o_514 (P : Params) : Obj := ⟨.type "frame", none, .plain, #[some (.ref 459), some (.ref 3), some (.ref 456), none, some (.str (.ofString "joinedhand.ligature") 818), none, some (.ref 0)]⟩
noncomputable def o_515 (P : Params) : Obj := ⟨.type "tuple", none, .seq #[] 0, #[]⟩
noncomputable def o_516 (P : Params) : Obj := ⟨.none, none, .fields #[], #[]⟩
noncomputable def o_517 (P : Params) : Obj := ⟨.type "tuple", none, .seq #[.str (.ofString "self") 853, .str (.ofString "sets") 854] 0, #[]⟩
noncomputable def o_518 (P : Params) : Obj := ⟨.type "tuple", none, .seq #[] 0, #[]⟩
noncomputable def o_519 (P : Params) : Obj := fnO (mp 53 0) .none none (.ofString "Ligature.__init__") 0 [] .none .none .none .none none .none .none 0 #[]
noncomputable def o_520 (P : Params) : Obj := ⟨.type "code", none, .fields #[.str (.ofString "__init__") 850, .str (.ofString "Ligature.__init__") 851, .str (.ofString "/claim/cut.py") 852, .int 320 0, .int 2 0, .int 0 0, .int 0 0, .int 3 0, .ref 461, .bool true, .int 181 0, .ref 462, .none, .ref 463, .ref 464, .ref 465, .int 855 0, .int 320 0, .str (.ofString "/claim/cut.py") 856], #[]⟩
noncomputable def o_521 (P : Params) : Obj := fnO (mp 53 0) (.type "function") none (.ofString "Ligature.__init__") 3 [] .none .none .none (.str (.ofString "joinedhand.ligature") 818) none (.ref 466) .none 0 #[]
noncomputable def o_522 (P : Params) : Obj := ⟨.type "tuple", none, .seq #[] 0, #[]⟩
noncomputable def o_523 (P : Params) : Obj := ⟨.none, none, .fields #[], #[]⟩
noncomputable def o_524 (P : Params) : Obj := fnO (mp 53 1) .none none (.ofString "Ligature.told") 0 [] .none .none .none .none none .none .none 0 #[]
noncomputable def o_525 (P : Params) : Obj := ⟨.type "code", none, .fields #[.str (.ofString "told") 858, .str (.ofString "Ligature.told") 859, .str (.ofString "/claim/cut.py") 860, .int 323 0, .int 1 0, .int 0 0, .int 0 0, .int 3 0, .ref 468, .bool true, .int 181 0, .ref 469, .none, .none, .none, .ref 470, .int 861 0, .int 323 0, .str (.ofString "/claim/cut.py") 862], #[]⟩
noncomputable def o_526 (P : Params) : Obj := fnO (mp 53 1) (.type "function") none (.ofString "Ligature.told") 3 [] .none .none .none (.str (.ofString "joinedhand.ligature") 818) none (.ref 471) .none 0 #[]
noncomputable def o_527 (P : Params) : Obj := ⟨.type "tuple", none, .seq #[.str (.ofString "sets") 864] 0, #[]⟩
noncomputable def o_528 (P : Params) : Obj := ⟨.type "dict", none, .dict #[en P "__module__" 845 (.str (.ofString "joinedhand.ligature") 818), en P "__firstlineno__" 849 (.int 318 848), en P "__init__" 857 (.ref 467), en P "told" 863 (.ref 472), en P "__static_attributes__" 865 (.ref 473), en P "__dict__" 867 (.ref 476), en P "__weakref__" 869 (.ref 477), en P "__doc__" 870 .none] 4, #[]⟩
noncomputable def o_529 (P : Params) : Obj := ⟨.type "type", none, .cls ⟨.ofString "Ligature", [.type "object"], [.ref 475, .type "object"], 474, .ofString "Ligature", true, [], [], false, none, false⟩, #[none, none, some (.str (.ofString "Ligature") 838), some (.str (.ofString "Ligature") 846), some (.builtin "object.__new__"), some (.bool true)]⟩
noncomputable def o_530 (P : Params) : Obj := ⟨.type "getset_descriptor", none, .fields #[.str (.ofString "__dict__") 866, .ref 475, .builtin "function.__dict__", .builtin "function.__dict__#set"], #[]⟩
noncomputable def o_531 (P : Params) : Obj := ⟨.type "getset_descriptor", none, .fields #[.str (.ofString "__weakref__") 868, .ref 475, .builtin "ExceptionGroup.__weakref__", .none], #[]⟩
noncomputable def o_532 (P : Params) : Obj := ⟨.type "super", none, .fields #[.ref 475, .ref 475, .ref 475], #[]⟩
noncomputable def o_533 (P : Params) : Obj := ⟨.type "builtin_function_or_method", none, .fields #[.builtin "object.__init_subclass__", .ref 475], #[]⟩
noncomputable def o_534 (P : Params) : Obj := ⟨.type "tuple", none, .seq #[] 0, #[]⟩
noncomputable def o_535 (P : Params) : Obj := ⟨.none, none, .fields #[], #[]⟩
noncomputable def o_536 (P : Params) : Obj := ⟨.type "tuple", none, .seq #[.str (.ofString "info") 876] 0, #[]⟩
noncomputable def o_537 (P : Params) : Obj := ⟨.type "tuple", none, .seq #[] 0, #[]⟩
noncomputable def o_538 (P : Params) : Obj := fnO (tp 54) .none none (.ofString "part_count") 0 [] .none .none .none .none none .none .none 0 #[]
noncomputable def o_539 (P : Params) : Obj := ⟨.type "code", none, .fields #[.str (.ofString "part_count") 873, .str (.ofString "part_count") 874, .str (.ofString "/claim/cut.py") 875, .int 326 0, .int 1 0, .int 0 0, .int 0 0, .int 3 0, .ref 480, .bool true, .int 181 0, .ref 481, .none, .ref 482, .ref 483, .ref 484, .int 877 0, .int 326 0, .str (.ofString "/claim/cut.py") 878], #[]⟩
noncomputable def o_540 (P : Params) : Obj := fnO (tp 54) (.type "function") none (.ofString "part_count") 3 [] .none .none .none (.str (.ofString "joinedhand.ligature") 818) none (.ref 485) .none 0 #[]
noncomputable def o_541 (P : Params) : Obj := ⟨.type "tuple", none, .seq #[] 0, #[]⟩
noncomputable def o_542 (P : Params) : Obj := ⟨.none, none, .fields #[], #[]⟩
noncomputable def o_543 (P : Params) : Obj := fnO (tp 55) .none none (.ofString "way_of") 0 [] .none .none .none .none none .none .none 0 #[]
noncomputable def o_544 (P : Params) : Obj := ⟨.type "code", none, .fields #[.str (.ofString "way_of") 880, .str (.ofString "way_of") 881, .str (.ofString "/claim/cut.py") 882, .int 328 0, .int 2 0, .int 0 0, .int 0 0, .int 3 0, .ref 487, .bool true, .int 181 0, .ref 488, .none, .none, .none, .ref 489, .int 883 0, .int 328 0, .str (.ofString "/claim/cut.py") 884], #[]⟩
noncomputable def o_545 (P : Params) : Obj := fnO (tp 55) (.type "function") none (.ofString "way_of") 3 [] .none .none .none (.str (.ofString "joinedhand.ligature") 818) none (.ref 490) .none 0 #[]
noncomputable def o_546 (P : Params) : Obj := ⟨.type "tuple", none, .seq #[] 0, #[]⟩
noncomputable def o_547 (P : Params) : Obj := ⟨.none, none, .fields #[], #[]⟩
noncomputable def o_548 (P : Params) : Obj := ⟨.type "tuple", none, .seq #[.str (.ofString "info") 889, .str (.ofString "lig_id") 890, .str (.ofString "ahead") 891, .str (.ofString "count") 892, .str (.ofString "part") 893] 0, #[]⟩
noncomputable def o_549 (P : Params) : Obj := ⟨.type "tuple", none, .seq #[] 0, #[]⟩
noncomputable def o_550 (P : Params) : Obj := fnO (tp 56) .none none (.ofString "tie") 0 [] .none .none .none .none none .none .none 0 #[]
noncomputable def o_551 (P : Params) : Obj := ⟨.type "code", none, .fields #[.str (.ofString "tie") 886, .str (.ofString "tie") 887, .str (.ofString "/claim/cut.py") 888, .int 332 0, .int 4 0, .int 0 0, .int 0 0, .int 3 0, .ref 492, .bool true, .int 181 0, .ref 493, .none, .ref 494, .ref 495, .ref 496, .int 894 0, .int 332 0, .str (.ofString "/claim/cut.py") 895], #[]⟩
noncomputable def o_552 (P : Params) : Obj := fnO (tp 56) (.type "function") none (.ofString "tie") 3 [] .none .none .none (.str (.ofString "joinedhand.ligature") 818) none (.ref 497) .none 0 #[]
noncomputable def o_553 (P : Params) : Obj := ⟨.type "dict", none, .dict (List.toArray (en P "__name__" 165 (.str (.ofString "joinedhand.nested") 946) :: en P "__doc__" 166 .none :: en P "__package__" 167 .none :: en P "__loader__" 168 (.builtin "__main__.__loader__#opaque") :: en P "__spec__" 169 .none :: en P "__annotations__" 170 (.ref 6) :: en P "__builtins__" 171 (.ref 4) :: en P "__file__" 173 (.str (.ofString "/claim/cut.py") 172) :: en P "__cached__" 174 .none :: en P "_wall" 193 (.ref 21) :: en P "Coverage" 250 (.ref 59) :: en P "coverage_of" 259 (.ref 70) :: en P "BY_GLYPHS" 263 (.int 1 262) :: en P "BY_CLASSES" 265 (.int 2 264) :: en P "Rule" 314 (.ref 101) :: en P "Contexts" 374 (.ref 142) :: en P "told_row" 380 (.ref 151) :: en P "tests_of" 386 (.ref 156) :: en P "rule_tests" 398 (.ref 163) :: en P "rules_at" 404 (.ref 168) :: en P "Info" 466 (.ref 199) :: en P "Buffer" 523 (.ref 243) :: en P "set_cluster" 531 (.ref 254) :: en P "widened" 542 (.ref 261) :: en P "merge" 548 (.ref 266) :: en P "hang" 554 (.ref 271) :: en P "drop_cluster" 560 (.ref 276) :: en P "put" 574 (.ref 283) :: en P "IGNORE_BASES" 578 (.int 2 577) :: en P "IGNORE_LIGATURES" 580 (.int 4 579) :: en P "IGNORE_MARKS" 582 (.int 8 581) :: en P "USE_SET" 584 (.int 16 583) :: en P "Lookup" 625 (.ref 305) :: en P "Scene" 665 (.ref 327) :: en P "attach_wanted" 672 (.ref 338) :: en P "class_bit" 679 (.ref 345) :: en P "is_ignored" 690 (.ref 352) :: en P "passes" 698 (.ref 359) :: en P "nested_scene" 706 (.ref 366) :: en P "KINDS_IN_INPUT" 711 (.ref 367) :: en P "KINDS_AROUND" 715 (.ref 368) :: en P "glyph_tests" 721 (.ref 373) :: en P "cover_tests" 727 (.ref 378) :: en P "fits" 735 (.ref 385) :: en P "is_borne" 743 (.ref 392) :: en P "found_at" 757 (.ref 399) :: en P "input_at" 769 (.ref 406) :: en P "last_at" 781 (.ref 413) :: en P "ahead_at" 790 (.ref 420) :: en P "back_at" 799 (.ref 427) :: en P "is_piece" 806 (.ref 434) :: en P "hold_together" 817 (.ref 441) :: en P "BASE_ligature" 821 (.int 1 820) :: en P "MARK" 823 (.int 3 822) :: en P "begins_with" 831 (.ref 448) :: en P "live_rows" 837 (.ref 453) :: en P "Ligature" 872 (.ref 475) :: en P "part_count" 879 (.ref 486) :: en P "way_of" 885 (.ref 491) :: en P "tie" 896 (.ref 498) :: en P "tie_behind" 909 (.ref 505) :: en P "tie_all" 925 (.ref 512) :: en P "join" 931 (.ref 517) :: en P "apply_ligature" 945 (.ref 524) :: en P "MOST_DEPTH" 949 (.int 6 948) :: en P "MOST_PLACES" 951 (.int 64 950) :: en P "Places" 982 (.ref 541) :: [])) 67, #[]⟩
noncomputable def o_554 (P : Params) : Obj := ⟨.none, none, .fields (List.toArray (.int 1 0 :: .int 0 0 :: .ref 20 :: .int 5 0 :: .int 0 0 :: .ref 27 :: .int 28 0 :: .int 0 0 :: .ref 69 :: .int 36 0 :: .int 0 0 :: .ref 76 :: .int 49 0 :: .int 0 0 :: .ref 111 :: .int 73 0 :: .int 0 0 :: .ref 150 :: .int 75 0 :: .int 0 0 :: .ref 155 :: .int 79 0 :: .int 0 0 :: .ref 162 :: .int 83 0 :: .int 0 0 :: .ref 167 :: .int 92 0 :: .int 0 0 :: .ref 174 :: .int 129 0 :: .int 0 0 :: .ref 209 :: .int 148 0 :: .int 0 0 :: .ref 253 :: .int 152 0 :: .int 0 0 :: .ref 260 :: .int 160 0 :: .int 0 0 :: .ref 265 :: .int 167 0 :: .int 0 0 :: .ref 270 :: .int 175 0 :: .int 0 0 :: .ref 275 :: .int 189 0 :: .int 0 0 :: .ref 282 :: .int 208 0 :: .int 0 0 :: .ref 289 :: .int 219 0 :: .int 0 0 :: .ref 315 :: .int 228 0 :: .int 0 0 :: .ref 337 :: .int 230 0 :: .int 0 0 :: .ref 344 :: .int 232 0 :: .int 0 0 :: .ref 351 :: .int 242 0 :: .int 0 0 :: .ref 358 :: .int 244 0 :: .int 0 0 :: .ref 365 :: .int 251 0 :: .int 0 0 :: .ref 372 :: .int 253 0 :: .int 0 0 :: .ref 377 :: .int 255 0 :: .int 0 0 :: .ref 384 :: .int 261 0 :: .int 0 0 :: .ref 391 :: .int 263 0 :: .int 0 0 :: .ref 398 :: .int 274 0 :: .int 0 0 :: .ref 405 :: .int 284 0 :: .int 0 0 :: .ref 412 :: .int 291 0 :: .int 0 0 :: .ref 419 :: .int 293 0 :: .int 0 0 :: .ref 426 :: .int 295 0 :: .int 0 0 :: .ref 433 :: .int 297 0 :: .int 0 0 :: .ref 440 :: .int 310 0 :: .int 0 0 :: .ref 447 :: .int 312 0 :: .int 0 0 :: .ref 452 :: .int 318 0 :: .int 0 0 :: .ref 459 :: .int 326 0 :: .int 0 0 :: .ref 485 :: .int 328 0 :: .int 0 0 :: .ref 490 :: .int 332 0 :: .int 0 0 :: .ref 497 :: .int 337 0 :: .int 0 0 :: .ref 504 :: .int 342 0 :: .int 0 0 :: .ref 511 :: .int 354 0 :: .int 0 0 :: .ref 516 :: .int 370 0 :: .int 0 0 :: .ref 523 :: .int 385 0 :: .int 0 0 :: .ref 530 :: [])), #[]⟩
noncomputable def o_555 (P : Params) : Obj := ⟨.type "tuple", none, .seq #[] 0, #[]⟩
noncomputable def o_556 (P : Params) : Obj := ⟨.none, none, .fields #[], #[]⟩
noncomputable def o_557 (P : Params) : Obj := ⟨.type "tuple", none, .seq #[.str (.ofString "row") 900, .str (.ofString "at") 901, .str (.ofString "old_id") 902, .str (.ofString "lig_id") 903, .str (.ofString "ahead") 904, .str (.ofString "count") 905, .str (.ofString "spot") 906] 0, #[]⟩
noncomputable def o_558 (P : Params) : Obj := ⟨.type "tuple", none, .seq #[] 0, #[]⟩
noncomputable def o_559 (P : Params) : Obj := fnO (tp 57) .none none (.ofString "tie_behind") 0 [] .none .none .none .none none .none .none 0 #[]
noncomputable def o_560 (P : Params) : Obj := ⟨.type "code", none, .fields #[.str (.ofString "tie_behind") 897, .str (.ofString "tie_behind") 898, .str (.ofString "/claim/cut.py") 899, .int 337 0, .int 6 0, .int 0 0, .int 0 0, .int 3 0, .ref 499, .bool true, .int 181 0, .ref 500, .none, .ref 501, .ref 502, .ref 503, .int 907 0, .int 337 0, .str (.ofString "/claim/cut.py") 908], #[]⟩
noncomputable def o_561 (P : Params) : Obj := fnO (tp 57) (.type "function") none (.ofString "tie_behind") 3 [] .none .none .none (.str (.ofString "joinedhand.ligature") 818) none (.ref 504) .none 0 #[]
noncomputable def o_562 (P : Params) : Obj := ⟨.type "tuple", none, .seq #[] 0, #[]⟩
noncomputable def o_563 (P : Params) : Obj := ⟨.none, none, .fields #[], #[]⟩
noncomputable def o_564 (P : Params) : Obj := ⟨.type "tuple", none, .seq #[.str (.ofString "row") 913, .str (.ofString "places") 914, .str (.ofString "way") 915, .str (.ofString "lig_id") 916, .str (.ofString "last") 917, .str (.ofString "ahead") 918, .str (.ofString "count") 919, .str (.ofString "old_id") 920, .str (.ofString "spot") 921, .str (.ofString "passed") 922] 0, #[]⟩
noncomputable def o_565 (P : Params) : Obj := ⟨.type "tuple", none, .seq #[] 0, #[]⟩
noncomputable def o_566 (P : Params) : Obj := fnO (tp 58) .none none (.ofString "tie_all") 0 [] .none .none .none .none none .none .none 0 #[]
noncomputable def o_567 (P : Params) : Obj := ⟨.type "code", none, .fields #[.str (.ofString "tie_all") 910, .str (.ofString "tie_all") 911, .str (.ofString "/claim/cut.py") 912, .int 342 0, .int 4 0, .int 0 0, .int 0 0, .int 3 0, .ref 506, .bool true, .int 181 0, .ref 507, .none, .ref 508, .ref 509, .ref 510, .int 923 0, .int 342 0, .str (.ofString "/claim/cut.py") 924], #[]⟩
noncomputable def o_568 (P : Params) : Obj := fnO (tp 58) (.type "function") none (.ofString "tie_all") 3 [] .none .none .none (.str (.ofString "joinedhand.ligature") 818) none (.ref 511) .none 0 #[]
noncomputable def o_569 (P : Params) : Obj := ⟨.type "tuple", none, .seq #[] 0, #[]⟩
noncomputable def o_570 (P : Params) : Obj := ⟨.none, none, .fields #[], #[]⟩
noncomputable def o_571 (P : Params) : Obj := fnO (tp 59) .none none (.ofString "join") 0 [] .none .none .none .none none .none .none 0 #[]
noncomputable def o_572 (P : Params) : Obj := ⟨.type "code", none, .fields #[.str (.ofString "join") 926, .str (.ofString "join") 927, .str (.ofString "/claim/cut.py") 928, .int 354 0, .int 3 0, .int 0 0, .int 0 0, .int 3 0, .ref 513, .bool true, .int 181 0, .ref 514, .none, .none, .none, .ref 515, .int 929 0, .int 354 0, .str (.ofString "/claim/cut.py") 930], #[]⟩
noncomputable def o_573 (P : Params) : Obj := fnO (tp 59) (.type "function") none (.ofString "join") 3 [] .none .none .none (.str (.ofString "joinedhand.ligature") 818) none (.ref 516) .none 0 #[]
noncomputable def o_574 (P : Params) : Obj := ⟨.type "tuple", none, .seq #[] 0, #[]⟩
noncomputable def o_575 (P : Params) : Obj := ⟨.none, none, .fields #[], #[]⟩
noncomputable def o_576 (P : Params) : Obj := ⟨.type "tuple", none, .seq #[.str (.ofString "scene") 935, .str (.ofString "table") 936, .str (.ofString "at") 937, .str (.ofString "row") 938, .str (.ofString "first") 939, .str (.ofString "rest") 940, .str (.ofString "ligature") 941, .str (.ofString "places") 942] 0, #[]⟩
noncomputable def o_577 (P : Params) : Obj := ⟨.type "tuple", none, .seq #[] 0, #[]⟩
noncomputable def o_578 (P : Params) : Obj := fnO (tp 60) .none none (.ofString "apply_ligature") 0 [] .none .none .none .none none .none .none 0 #[]
noncomputable def o_579 (P : Params) : Obj := ⟨.type "code", none, .fields #[.str (.ofString "apply_ligature") 932, .str (.ofString "apply_ligature") 933, .str (.ofString "/claim/cut.py") 934, .int 370 0, .int 3 0, .int 0 0, .int 0 0, .int 3 0, .ref 518, .bool true, .int 181 0, .ref 519, .none, .ref 520, .ref 521, .ref 522, .int 943 0, .int 370 0, .str (.ofString "/claim/cut.py") 944], #[]⟩
noncomputable def o_580 (P : Params) : Obj := fnO (tp 60) (.type "function") none (.ofString "apply_ligature") 3 [] .none .none .none (.str (.ofString "joinedhand.ligature") 818) none (.ref 523) .none 0 #[]
noncomputable def o_581 (P : Params) : Obj := ⟨.type "tuple", none, .seq #[] 0, #[]⟩
noncomputable def o_582 (P : Params) : Obj := ⟨.type "builtin_function_or_method", none, .fields #[.builtin "type.__prepare__", .type "type"], #[]⟩
noncomputable def o_583 (P : Params) : Obj := ⟨.type "dict", none, .dict #[en P "__module__" 959 (.str (.ofString "joinedhand.nested") 946), en P "__qualname__" 961 (.str (.ofString "Places") 960), en P "__firstlineno__" 963 (.int 385 962), en P "__init__" 972 (.ref 538), en P "__static_attributes__" 975 (.ref 539)] 5, #[]⟩
noncomputable def o_584 (P : Params) : Obj := ⟨.type "tuple", none, .seq #[] 0, #[]⟩
noncomputable def o_585 (P : Params) : Obj := ⟨.none, none, .fields #[.int 387 0, .int 4 0, .ref 537], #[]⟩
noncomputable def o_586 (P : Params) : Obj := ⟨.type "code", none, .fields #[.str (.ofString "Places") 954, .str (.ofString "Places") 955, .str (.ofString "/claim/cut.py") 956, .int 385 0, .int 0 0, .int 0 0, .int 0 0, .int 0 0, .ref 528, .bool false, .int 181 0, .ref 529, .none, .none, .none, .none, .int 957 0, .int 385 0, .str (.ofString "/claim/cut.py") 958], #[]⟩
noncomputable def o_587 (P : Params) : Obj := ⟨.type "frame", none, .plain, #[some (.ref 530), some (.ref 3), some (.ref 527), none, some (.str (.ofString "joinedhand.nested") 946), none, some (.ref 0)]⟩
noncomputable def o_588 (P : Params) : Obj := ⟨.type "tuple", none, .seq #[] 0, #[]⟩
noncomputable def o_589 (P : Params) : Obj := ⟨.none, none, .fields #[], #[]⟩
noncomputable def o_590 (P : Params) : Obj := ⟨.type "tuple", none, .seq #[.str (.ofString "self") 967, .str (.ofString "row") 968, .str (.ofString "end") 969] 0, #[]⟩
noncomputable def o_591 (P : Params) : Obj := ⟨.type "tuple", none, .seq #[] 0, #[]⟩
noncomputable def o_592 (P : Params) : Obj := fnO (mp 64 0) .none none (.ofString "Places.__init__") 0 [] .none .none .none .none none .none .none 0 #[]
noncomputable def o_593 (P : Params) : Obj := ⟨.type "code", none, .fields #[.str (.ofString "__init__") 964, .str (.ofString "Places.__init__") 965, .str (.ofString "/claim/cut.py") 966, .int 387 0, .int 3 0, .int 0 0, .int 0 0, .int 3 0, .ref 532, .bool true, .int 181 0, .ref 533, .none, .ref 534, .ref 535, .ref 536, .int 970 0, .int 387 0, .str (.ofString "/claim/cut.py") 971], #[]⟩
noncomputable def o_594 (P : Params) : Obj := fnO (mp 64 0) (.type "function") none (.ofString "Places.__init__") 3 [] .none .none .none (.str (.ofString "joinedhand.nested") 946) none (.ref 537) .none 0 #[]
noncomputable def o_595 (P : Params) : Obj := ⟨.type "tuple", none, .seq #[.str (.ofString "end") 973, .str (.ofString "row") 974] 0, #[]⟩
noncomputable def o_596 (P : Params) : Obj := ⟨.type "dict", none, .dict #[en P "__module__" 959 (.str (.ofString "joinedhand.nested") 946), en P "__firstlineno__" 963 (.int 385 962), en P "__init__" 972 (.ref 538), en P "__static_attributes__" 975 (.ref 539), en P "__dict__" 977 (.ref 542), en P "__weakref__" 979 (.ref 543), en P "__doc__" 980 .none] 4, #[]⟩
noncomputable def o_597 (P : Params) : Obj := ⟨.type "type", none, .cls ⟨.ofString "Places", [.type "object"], [.ref 541, .type "object"], 540, .ofString "Places", true, [], [], false, none, false⟩, #[none, none, some (.str (.ofString "Places") 952), some (.str (.ofString "Places") 960), some (.builtin "object.__new__"), some (.bool true)]⟩
noncomputable def o_598 (P : Params) : Obj := ⟨.type "getset_descriptor", none, .fields #[.str (.ofString "__dict__") 976, .ref 541, .builtin "function.__dict__", .builtin "function.__dict__#set"], #[]⟩
noncomputable def o_599 (P : Params) : Obj := ⟨.type "getset_descriptor", none, .fields #[.str (.ofString "__weakref__") 978, .ref 541, .builtin "ExceptionGroup.__weakref__", .none], #[]⟩
noncomputable def o_600 (P : Params) : Obj := ⟨.type "super", none, .fields #[.ref 541, .ref 541, .ref 541], #[]⟩
noncomputable def o_601 (P : Params) : Obj := ⟨.type "builtin_function_or_method", none, .fields #[.builtin "object.__init_subclass__", .ref 541], #[]⟩
noncomputable def o_602 (P : Params) : Obj := ⟨.type "dict", none, .dict (List.toArray (en P "__name__" 165 (.str (.ofString "joinedhand.reverse") 1066) :: en P "__doc__" 166 .none :: en P "__package__" 167 .none :: en P "__loader__" 168 (.builtin "__main__.__loader__#opaque") :: en P "__spec__" 169 .none :: en P "__annotations__" 170 (.ref 6) :: en P "__builtins__" 171 (.ref 4) :: en P "__file__" 173 (.str (.ofString "/claim/cut.py") 172) :: en P "__cached__" 174 .none :: en P "_wall" 193 (.ref 21) :: en P "Coverage" 250 (.ref 59) :: en P "coverage_of" 259 (.ref 70) :: en P "BY_GLYPHS" 263 (.int 1 262) :: en P "BY_CLASSES" 265 (.int 2 264) :: en P "Rule" 314 (.ref 101) :: en P "Contexts" 374 (.ref 142) :: en P "told_row" 380 (.ref 151) :: en P "tests_of" 386 (.ref 156) :: en P "rule_tests" 398 (.ref 163) :: en P "rules_at" 404 (.ref 168) :: en P "Info" 466 (.ref 199) :: en P "Buffer" 523 (.ref 243) :: en P "set_cluster" 531 (.ref 254) :: en P "widened" 542 (.ref 261) :: en P "merge" 548 (.ref 266) :: en P "hang" 554 (.ref 271) :: en P "drop_cluster" 560 (.ref 276) :: en P "put" 574 (.ref 283) :: en P "IGNORE_BASES" 578 (.int 2 577) :: en P "IGNORE_LIGATURES" 580 (.int 4 579) :: en P "IGNORE_MARKS" 582 (.int 8 581) :: en P "USE_SET" 584 (.int 16 583) :: en P "Lookup" 625 (.ref 305) :: en P "Scene" 665 (.ref 327) :: en P "attach_wanted" 672 (.ref 338) :: en P "class_bit" 679 (.ref 345) :: en P "is_ignored" 690 (.ref 352) :: en P "passes" 698 (.ref 359) :: en P "nested_scene" 706 (.ref 366) :: en P "KINDS_IN_INPUT" 711 (.ref 367) :: en P "KINDS_AROUND" 715 (.ref 368) :: en P "glyph_tests" 721 (.ref 373) :: en P "cover_tests" 727 (.ref 378) :: en P "fits" 735 (.ref 385) :: en P "is_borne" 743 (.ref 392) :: en P "found_at" 757 (.ref 399) :: en P "input_at" 769 (.ref 406) :: en P "last_at" 781 (.ref 413) :: en P "ahead_at" 790 (.ref 420) :: en P "back_at" 799 (.ref 427) :: en P "is_piece" 806 (.ref 434) :: en P "hold_together" 817 (.ref 441) :: en P "BASE_ligature" 821 (.int 1 820) :: en P "MARK" 823 (.int 3 822) :: en P "begins_with" 831 (.ref 448) :: en P "live_rows" 837 (.ref 453) :: en P "Ligature" 872 (.ref 475) :: en P "part_count" 879 (.ref 486) :: en P "way_of" 885 (.ref 491) :: en P "tie" 896 (.ref 498) :: en P "tie_behind" 909 (.ref 505) :: en P "tie_all" 925 (.ref 512) :: en P "join" 931 (.ref 517) :: en P "apply_ligature" 945 (.ref 524) :: en P "MOST_DEPTH" 949 (.int 6 948) :: en P "MOST_PLACES" 951 (.int 64 950) :: en P "Places" 982 (.ref 541) :: en P "match_rule" 998 (.ref 552) :: en P "inner_scene" 1006 (.ref 559) :: en P "grow" 1012 (.ref 564) :: en P "shrink" 1018 (.ref 569) :: en P "move" 1027 (.ref 576) :: en P "do_action" 1042 (.ref 583) :: en P "do_actions" 1053 (.ref 590) :: en P "apply_context" 1065 (.ref 597) :: [])) 75, #[]⟩
noncomputable def o_603 (P : Params) : Obj := ⟨.none, none, .fields (List.toArray (.int 1 0 :: .int 0 0 :: .ref 20 :: .int 5 0 :: .int 0 0 :: .ref 27 :: .int 28 0 :: .int 0 0 :: .ref 69 :: .int 36 0 :: .int 0 0 :: .ref 76 :: .int 49 0 :: .int 0 0 :: .ref 111 :: .int 73 0 :: .int 0 0 :: .ref 150 :: .int 75 0 :: .int 0 0 :: .ref 155 :: .int 79 0 :: .int 0 0 :: .ref 162 :: .int 83 0 :: .int 0 0 :: .ref 167 :: .int 92 0 :: .int 0 0 :: .ref 174 :: .int 129 0 :: .int 0 0 :: .ref 209 :: .int 148 0 :: .int 0 0 :: .ref 253 :: .int 152 0 :: .int 0 0 :: .ref 260 :: .int 160 0 :: .int 0 0 :: .ref 265 :: .int 167 0 :: .int 0 0 :: .ref 270 :: .int 175 0 :: .int 0 0 :: .ref 275 :: .int 189 0 :: .int 0 0 :: .ref 282 :: .int 208 0 :: .int 0 0 :: .ref 289 :: .int 219 0 :: .int 0 0 :: .ref 315 :: .int 228 0 :: .int 0 0 :: .ref 337 :: .int 230 0 :: .int 0 0 :: .ref 344 :: .int 232 0 :: .int 0 0 :: .ref 351 :: .int 242 0 :: .int 0 0 :: .ref 358 :: .int 244 0 :: .int 0 0 :: .ref 365 :: .int 251 0 :: .int 0 0 :: .ref 372 :: .int 253 0 :: .int 0 0 :: .ref 377 :: .int 255 0 :: .int 0 0 :: .ref 384 :: .int 261 0 :: .int 0 0 :: .ref 391 :: .int 263 0 :: .int 0 0 :: .ref 398 :: .int 274 0 :: .int 0 0 :: .ref 405 :: .int 284 0 :: .int 0 0 :: .ref 412 :: .int 291 0 :: .int 0 0 :: .ref 419 :: .int 293 0 :: .int 0 0 :: .ref 426 :: .int 295 0 :: .int 0 0 :: .ref 433 :: .int 297 0 :: .int 0 0 :: .ref 440 :: .int 310 0 :: .int 0 0 :: .ref 447 :: .int 312 0 :: .int 0 0 :: .ref 452 :: .int 318 0 :: .int 0 0 :: .ref 459 :: .int 326 0 :: .int 0 0 :: .ref 485 :: .int 328 0 :: .int 0 0 :: .ref 490 :: .int 332 0 :: .int 0 0 :: .ref 497 :: .int 337 0 :: .int 0 0 :: .ref 504 :: .int 342 0 :: .int 0 0 :: .ref 511 :: .int 354 0 :: .int 0 0 :: .ref 516 :: .int 370 0 :: .int 0 0 :: .ref 523 :: .int 385 0 :: .int 0 0 :: .ref 530 :: .int 390 0 :: .int 0 0 :: .ref 551 :: .int 400 0 :: .int 0 0 :: .ref 558 :: .int 402 0 :: .int 0 0 :: .ref 563 :: .int 405 0 :: .int 0 0 :: .ref 568 :: .int 408 0 :: .int 0 0 :: .ref 575 :: .int 417 0 :: .int 0 0 :: .ref 582 :: .int 434 0 :: .int 0 0 :: .ref 589 :: .int 439 0 :: .int 0 0 :: .ref 596 :: [])), #[]⟩
noncomputable def o_604 (P : Params) : Obj := ⟨.type "tuple", none, .seq #[] 0, #[]⟩
noncomputable def o_605 (P : Params) : Obj := ⟨.none, none, .fields #[], #[]⟩
noncomputable def o_606 (P : Params) : Obj := ⟨.type "tuple", none, .seq #[.str (.ofString "scene") 986, .str (.ofString "at") 987, .str (.ofString "tests") 988, .str (.ofString "back") 989, .str (.ofString "inside") 990, .str (.ofString "ahead") 991, .str (.ofString "actions") 992, .str (.ofString "places") 993, .str (.ofString "begin") 994, .str (.ofString "end") 995] 0, #[]⟩
noncomputable def o_607 (P : Params) : Obj := ⟨.type "tuple", none, .seq #[] 0, #[]⟩
noncomputable def o_608 (P : Params) : Obj := fnO (tp 65) .none none (.ofString "match_rule") 0 [] .none .none .none .none none .none .none 0 #[]
noncomputable def o_609 (P : Params) : Obj := ⟨.type "code", none, .fields #[.str (.ofString "match_rule") 983, .str (.ofString "match_rule") 984, .str (.ofString "/claim/cut.py") 985, .int 390 0, .int 3 0, .int 0 0, .int 0 0, .int 3 0, .ref 546, .bool true, .int 181 0, .ref 547, .none, .ref 548, .ref 549, .ref 550, .int 996 0, .int 390 0, .str (.ofString "/claim/cut.py") 997], #[]⟩
noncomputable def o_610 (P : Params) : Obj := fnO (tp 65) (.type "function") none (.ofString "match_rule") 3 [] .none .none .none (.str (.ofString "joinedhand.nested") 946) none (.ref 551) .none 0 #[]
noncomputable def o_611 (P : Params) : Obj := ⟨.type "tuple", none, .seq #[] 0, #[]⟩
noncomputable def o_612 (P : Params) : Obj := ⟨.none, none, .fields #[], #[]⟩
noncomputable def o_613 (P : Params) : Obj := ⟨.type "tuple", none, .seq #[.str (.ofString "scene") 1002, .str (.ofString "number") 1003] 0, #[]⟩
noncomputable def o_614 (P : Params) : Obj := ⟨.type "tuple", none, .seq #[] 0, #[]⟩
noncomputable def o_615 (P : Params) : Obj := fnO (tp 66) .none none (.ofString "inner_scene") 0 [] .none .none .none .none none .none .none 0 #[]
noncomputable def o_616 (P : Params) : Obj := ⟨.type "code", none, .fields #[.str (.ofString "inner_scene") 999, .str (.ofString "inner_scene") 1000, .str (.ofString "/claim/cut.py") 1001, .int 400 0, .int 2 0, .int 0 0, .int 0 0, .int 3 0, .ref 553, .bool true, .int 181 0, .ref 554, .none, .ref 555, .ref 556, .ref 557, .int 1004 0, .int 400 0, .str (.ofString "/claim/cut.py") 1005], #[]⟩
noncomputable def o_617 (P : Params) : Obj := fnO (tp 66) (.type "function") none (.ofString "inner_scene") 3 [] .none .none .none (.str (.ofString "joinedhand.nested") 946) none (.ref 558) .none 0 #[]
noncomputable def o_618 (P : Params) : Obj := ⟨.type "tuple", none, .seq #[] 0, #[]⟩
noncomputable def o_619 (P : Params) : Obj := ⟨.none, none, .fields #[], #[]⟩
noncomputable def o_620 (P : Params) : Obj := fnO (tp 67) .none none (.ofString "grow") 0 [] .none .none .none .none none .none .none 0 #[]
noncomputable def o_621 (P : Params) : Obj := ⟨.type "code", none, .fields #[.str (.ofString "grow") 1007, .str (.ofString "grow") 1008, .str (.ofString "/claim/cut.py") 1009, .int 402 0, .int 3 0, .int 0 0, .int 0 0, .int 3 0, .ref 560, .bool true, .int 181 0, .ref 561, .none, .none, .none, .ref 562, .int 1010 0, .int 402 0, .str (.ofString "/claim/cut.py") 1011], #[]⟩
noncomputable def o_622 (P : Params) : Obj := fnO (tp 67) (.type "function") none (.ofString "grow") 3 [] .none .none .none (.str (.ofString "joinedhand.nested") 946) none (.ref 563) .none 0 #[]
noncomputable def o_623 (P : Params) : Obj := ⟨.type "tuple", none, .seq #[] 0, #[]⟩
noncomputable def o_624 (P : Params) : Obj := ⟨.none, none, .fields #[], #[]⟩
noncomputable def o_625 (P : Params) : Obj := fnO (tp 68) .none none (.ofString "shrink") 0 [] .none .none .none .none none .none .none 0 #[]
noncomputable def o_626 (P : Params) : Obj := ⟨.type "code", none, .fields #[.str (.ofString "shrink") 1013, .str (.ofString "shrink") 1014, .str (.ofString "/claim/cut.py") 1015, .int 405 0, .int 3 0, .int 0 0, .int 0 0, .int 3 0, .ref 565, .bool true, .int 181 0, .ref 566, .none, .none, .none, .ref 567, .int 1016 0, .int 405 0, .str (.ofString "/claim/cut.py") 1017], #[]⟩
noncomputable def o_627 (P : Params) : Obj := fnO (tp 68) (.type "function") none (.ofString "shrink") 3 [] .none .none .none (.str (.ofString "joinedhand.nested") 946) none (.ref 568) .none 0 #[]
noncomputable def o_628 (P : Params) : Obj := ⟨.type "tuple", none, .seq #[] 0, #[]⟩
noncomputable def o_629 (P : Params) : Obj := ⟨.none, none, .fields #[], #[]⟩
noncomputable def o_630 (P : Params) : Obj := ⟨.type "tuple", none, .seq #[.str (.ofString "places") 1022, .str (.ofString "index") 1023, .str (.ofString "change") 1024] 0, #[]⟩
noncomputable def o_631 (P : Params) : Obj := ⟨.type "tuple", none, .seq #[] 0, #[]⟩
noncomputable def o_632 (P : Params) : Obj := fnO (tp 69) .none none (.ofString "move") 0 [] .none .none .none .none none .none .none 0 #[]
noncomputable def o_633 (P : Params) : Obj := ⟨.type "code", none, .fields #[.str (.ofString "move") 1019, .str (.ofString "move") 1020, .str (.ofString "/claim/cut.py") 1021, .int 408 0, .int 3 0, .int 0 0, .int 0 0, .int 3 0, .ref 570, .bool true, .int 181 0, .ref 571, .none, .ref 572, .ref 573, .ref 574, .int 1025 0, .int 408 0, .str (.ofString "/claim/cut.py") 1026], #[]⟩
noncomputable def o_634 (P : Params) : Obj := fnO (tp 69) (.type "function") none (.ofString "move") 3 [] .none .none .none (.str (.ofString "joinedhand.nested") 946) none (.ref 575) .none 0 #[]
noncomputable def o_635 (P : Params) : Obj := ⟨.type "tuple", none, .seq #[] 0, #[]⟩
noncomputable def o_636 (P : Params) : Obj := ⟨.none, none, .fields #[], #[]⟩
noncomputable def o_637 (P : Params) : Obj := ⟨.type "tuple", none, .seq #[.str (.ofString "scene") 1031, .str (.ofString "places") 1032, .str (.ofString "action") 1033, .str (.ofString "apply_at") 1034, .str (.ofString "index") 1035, .str (.ofString "number") 1036, .str (.ofString "inner") 1037, .str (.ofString "size") 1038, .str (.ofString "change") 1039] 0, #[]⟩
noncomputable def o_638 (P : Params) : Obj := ⟨.type "tuple", none, .seq #[] 0, #[]⟩
noncomputable def o_639 (P : Params) : Obj := fnO (tp 70) .none none (.ofString "do_action") 0 [] .none .none .none .none none .none .none 0 #[]
noncomputable def o_640 (P : Params) : Obj := ⟨.type "code", none, .fields #[.str (.ofString "do_action") 1028, .str (.ofString "do_action") 1029, .str (.ofString "/claim/cut.py") 1030, .int 417 0, .int 4 0, .int 0 0, .int 0 0, .int 3 0, .ref 577, .bool true, .int 181 0, .ref 578, .none, .ref 579, .ref 580, .ref 581, .int 1040 0, .int 417 0, .str (.ofString "/claim/cut.py") 1041], #[]⟩
noncomputable def o_641 (P : Params) : Obj := fnO (tp 70) (.type "function") none (.ofString "do_action") 3 [] .none .none .none (.str (.ofString "joinedhand.nested") 946) none (.ref 582) .none 0 #[]
noncomputable def o_642 (P : Params) : Obj := ⟨.type "tuple", none, .seq #[] 0, #[]⟩
noncomputable def o_643 (P : Params) : Obj := ⟨.none, none, .fields #[], #[]⟩
noncomputable def o_644 (P : Params) : Obj := ⟨.type "tuple", none, .seq #[.str (.ofString "scene") 1046, .str (.ofString "places") 1047, .str (.ofString "actions") 1048, .str (.ofString "apply_at") 1049, .str (.ofString "action") 1050] 0, #[]⟩
noncomputable def o_645 (P : Params) : Obj := ⟨.type "tuple", none, .seq #[] 0, #[]⟩
noncomputable def o_646 (P : Params) : Obj := fnO (tp 71) .none none (.ofString "do_actions") 0 [] .none .none .none .none none .none .none 0 #[]
noncomputable def o_647 (P : Params) : Obj := ⟨.type "code", none, .fields #[.str (.ofString "do_actions") 1043, .str (.ofString "do_actions") 1044, .str (.ofString "/claim/cut.py") 1045, .int 434 0, .int 4 0, .int 0 0, .int 0 0, .int 3 0, .ref 584, .bool true, .int 181 0, .ref 585, .none, .ref 586, .ref 587, .ref 588, .int 1051 0, .int 434 0, .str (.ofString "/claim/cut.py") 1052], #[]⟩
noncomputable def o_648 (P : Params) : Obj := fnO (tp 71) (.type "function") none (.ofString "do_actions") 3 [] .none .none .none (.str (.ofString "joinedhand.nested") 946) none (.ref 589) .none 0 #[]
noncomputable def o_649 (P : Params) : Obj := ⟨.type "tuple", none, .seq #[] 0, #[]⟩
noncomputable def o_650 (P : Params) : Obj := ⟨.none, none, .fields #[], #[]⟩
noncomputable def o_651 (P : Params) : Obj := ⟨.type "tuple", none, .seq #[.str (.ofString "scene") 1057, .str (.ofString "table") 1058, .str (.ofString "at") 1059, .str (.ofString "apply_at") 1060, .str (.ofString "tests") 1061, .str (.ofString "found") 1062] 0, #[]⟩
noncomputable def o_652 (P : Params) : Obj := ⟨.type "tuple", none, .seq #[] 0, #[]⟩
noncomputable def o_653 (P : Params) : Obj := fnO (tp 72) .none none (.ofString "apply_context") 0 [] .none .none .none .none none .none .none 0 #[]
noncomputable def o_654 (P : Params) : Obj := ⟨.type "code", none, .fields #[.str (.ofString "apply_context") 1054, .str (.ofString "apply_context") 1055, .str (.ofString "/claim/cut.py") 1056, .int 439 0, .int 4 0, .int 0 0, .int 0 0, .int 3 0, .ref 591, .bool true, .int 181 0, .ref 592, .none, .ref 593, .ref 594, .ref 595, .int 1063 0, .int 439 0, .str (.ofString "/claim/cut.py") 1064], #[]⟩
noncomputable def o_655 (P : Params) : Obj := fnO (tp 72) (.type "function") none (.ofString "apply_context") 3 [] .none .none .none (.str (.ofString "joinedhand.nested") 946) none (.ref 596) .none 0 #[]
noncomputable def o_656 (P : Params) : Obj := ⟨.type "dict", none, .dict (List.toArray (en P "__name__" 165 (.str (.ofString "joinedhand.single") 1119) :: en P "__doc__" 166 .none :: en P "__package__" 167 .none :: en P "__loader__" 168 (.builtin "__main__.__loader__#opaque") :: en P "__spec__" 169 .none :: en P "__annotations__" 170 (.ref 6) :: en P "__builtins__" 171 (.ref 4) :: en P "__file__" 173 (.str (.ofString "/claim/cut.py") 172) :: en P "__cached__" 174 .none :: en P "_wall" 193 (.ref 21) :: en P "Coverage" 250 (.ref 59) :: en P "coverage_of" 259 (.ref 70) :: en P "BY_GLYPHS" 263 (.int 1 262) :: en P "BY_CLASSES" 265 (.int 2 264) :: en P "Rule" 314 (.ref 101) :: en P "Contexts" 374 (.ref 142) :: en P "told_row" 380 (.ref 151) :: en P "tests_of" 386 (.ref 156) :: en P "rule_tests" 398 (.ref 163) :: en P "rules_at" 404 (.ref 168) :: en P "Info" 466 (.ref 199) :: en P "Buffer" 523 (.ref 243) :: en P "set_cluster" 531 (.ref 254) :: en P "widened" 542 (.ref 261) :: en P "merge" 548 (.ref 266) :: en P "hang" 554 (.ref 271) :: en P "drop_cluster" 560 (.ref 276) :: en P "put" 574 (.ref 283) :: en P "IGNORE_BASES" 578 (.int 2 577) :: en P "IGNORE_LIGATURES" 580 (.int 4 579) :: en P "IGNORE_MARKS" 582 (.int 8 581) :: en P "USE_SET" 584 (.int 16 583) :: en P "Lookup" 625 (.ref 305) :: en P "Scene" 665 (.ref 327) :: en P "attach_wanted" 672 (.ref 338) :: en P "class_bit" 679 (.ref 345) :: en P "is_ignored" 690 (.ref 352) :: en P "passes" 698 (.ref 359) :: en P "nested_scene" 706 (.ref 366) :: en P "KINDS_IN_INPUT" 711 (.ref 367) :: en P "KINDS_AROUND" 715 (.ref 368) :: en P "glyph_tests" 721 (.ref 373) :: en P "cover_tests" 727 (.ref 378) :: en P "fits" 735 (.ref 385) :: en P "is_borne" 743 (.ref 392) :: en P "found_at" 757 (.ref 399) :: en P "input_at" 769 (.ref 406) :: en P "last_at" 781 (.ref 413) :: en P "ahead_at" 790 (.ref 420) :: en P "back_at" 799 (.ref 427) :: en P "is_piece" 806 (.ref 434) :: en P "hold_together" 817 (.ref 441) :: en P "BASE_ligature" 821 (.int 1 820) :: en P "MARK" 823 (.int 3 822) :: en P "begins_with" 831 (.ref 448) :: en P "live_rows" 837 (.ref 453) :: en P "Ligature" 872 (.ref 475) :: en P "part_count" 879 (.ref 486) :: en P "way_of" 885 (.ref 491) :: en P "tie" 896 (.ref 498) :: en P "tie_behind" 909 (.ref 505) :: en P "tie_all" 925 (.ref 512) :: en P "join" 931 (.ref 517) :: en P "apply_ligature" 945 (.ref 524) :: en P "MOST_DEPTH" 949 (.int 6 948) :: en P "MOST_PLACES" 951 (.int 64 950) :: en P "Places" 982 (.ref 541) :: en P "match_rule" 998 (.ref 552) :: en P "inner_scene" 1006 (.ref 559) :: en P "grow" 1012 (.ref 564) :: en P "shrink" 1018 (.ref 569) :: en P "move" 1027 (.ref 576) :: en P "do_action" 1042 (.ref 583) :: en P "do_actions" 1053 (.ref 590) :: en P "apply_context" 1065 (.ref 597) :: en P "Reverse" 1106 (.ref 619) :: en P "apply_reverse" 1118 (.ref 630) :: [])) 77, #[]⟩
noncomputable def o_657 (P : Params) : Obj := ⟨.none, none, .fields (List.toArray (.int 1 0 :: .int 0 0 :: .ref 20 :: .int 5 0 :: .int 0 0 :: .ref 27 :: .int 28 0 :: .int 0 0 :: .ref 69 :: .int 36 0 :: .int 0 0 :: .ref 76 :: .int 49 0 :: .int 0 0 :: .ref 111 :: .int 73 0 :: .int 0 0 :: .ref 150 :: .int 75 0 :: .int 0 0 :: .ref 155 :: .int 79 0 :: .int 0 0 :: .ref 162 :: .int 83 0 :: .int 0 0 :: .ref 167 :: .int 92 0 :: .int 0 0 :: .ref 174 :: .int 129 0 :: .int 0 0 :: .ref 209 :: .int 148 0 :: .int 0 0 :: .ref 253 :: .int 152 0 :: .int 0 0 :: .ref 260 :: .int 160 0 :: .int 0 0 :: .ref 265 :: .int 167 0 :: .int 0 0 :: .ref 270 :: .int 175 0 :: .int 0 0 :: .ref 275 :: .int 189 0 :: .int 0 0 :: .ref 282 :: .int 208 0 :: .int 0 0 :: .ref 289 :: .int 219 0 :: .int 0 0 :: .ref 315 :: .int 228 0 :: .int 0 0 :: .ref 337 :: .int 230 0 :: .int 0 0 :: .ref 344 :: .int 232 0 :: .int 0 0 :: .ref 351 :: .int 242 0 :: .int 0 0 :: .ref 358 :: .int 244 0 :: .int 0 0 :: .ref 365 :: .int 251 0 :: .int 0 0 :: .ref 372 :: .int 253 0 :: .int 0 0 :: .ref 377 :: .int 255 0 :: .int 0 0 :: .ref 384 :: .int 261 0 :: .int 0 0 :: .ref 391 :: .int 263 0 :: .int 0 0 :: .ref 398 :: .int 274 0 :: .int 0 0 :: .ref 405 :: .int 284 0 :: .int 0 0 :: .ref 412 :: .int 291 0 :: .int 0 0 :: .ref 419 :: .int 293 0 :: .int 0 0 :: .ref 426 :: .int 295 0 :: .int 0 0 :: .ref 433 :: .int 297 0 :: .int 0 0 :: .ref 440 :: .int 310 0 :: .int 0 0 :: .ref 447 :: .int 312 0 :: .int 0 0 :: .ref 452 :: .int 318 0 :: .int 0 0 :: .ref 459 :: .int 326 0 :: .int 0 0 :: .ref 485 :: .int 328 0 :: .int 0 0 :: .ref 490 :: .int 332 0 :: .int 0 0 :: .ref 497 :: .int 337 0 :: .int 0 0 :: .ref 504 :: .int 342 0 :: .int 0 0 :: .ref 511 :: .int 354 0 :: .int 0 0 :: .ref 516 :: .int 370 0 :: .int 0 0 :: .ref 523 :: .int 385 0 :: .int 0 0 :: .ref 530 :: .int 390 0 :: .int 0 0 :: .ref 551 :: .int 400 0 :: .int 0 0 :: .ref 558 :: .int 402 0 :: .int 0 0 :: .ref 563 :: .int 405 0 :: .int 0 0 :: .ref 568 :: .int 408 0 :: .int 0 0 :: .ref 575 :: .int 417 0 :: .int 0 0 :: .ref 582 :: .int 434 0 :: .int 0 0 :: .ref 589 :: .int 439 0 :: .int 0 0 :: .ref 596 :: .int 447 0 :: .int 0 0 :: .ref 603 :: .int 458 0 :: .int 0 0 :: .ref 629 :: [])), #[]⟩
noncomputable def o_658 (P : Params) : Obj := ⟨.type "tuple", none, .seq #[] 0, #[]⟩
noncomputable def o_659 (P : Params) : Obj := ⟨.type "builtin_function_or_method", none, .fields #[.builtin "type.__prepare__", .type "type"], #[]⟩
noncomputable def o_660 (P : Params) : Obj := ⟨.type "dict", none, .dict #[en P "__module__" 1075 (.str (.ofString "joinedhand.reverse") 1066), en P "__qualname__" 1077 (.str (.ofString "Reverse") 1076), en P "__firstlineno__" 1079 (.int 447 1078), en P "__init__" 1089 (.ref 611), en P "told" 1095 (.ref 616), en P "__static_attributes__" 1099 (.ref 617)] 6, #[]⟩
noncomputable def o_661 (P : Params) : Obj := ⟨.type "tuple", none, .seq #[] 0, #[]⟩
noncomputable def o_662 (P : Params) : Obj := ⟨.none, none, .fields #[.int 449 0, .int 4 0, .ref 610, .int 454 0, .int 4 0, .ref 615], #[]⟩
noncomputable def o_663 (P : Params) : Obj := ⟨.type "code", none, .fields #[.str (.ofString "Reverse") 1070, .str (.ofString "Reverse") 1071, .str (.ofString "/claim/cut.py") 1072, .int 447 0, .int 0 0, .int 0 0, .int 0 0, .int 0 0, .ref 601, .bool false, .int 181 0, .ref 602, .none, .none, .none, .none, .int 1073 0, .int 447 0, .str (.ofString "/claim/cut.py") 1074], #[]⟩
noncomputable def o_664 (P : Params) : Obj := ⟨.type "frame", none, .plain, #[some (.ref 603), some (.ref 3), some (.ref 600), none, some (.str (.ofString "joinedhand.reverse") 1066), none, some (.ref 0)]⟩
noncomputable def o_665 (P : Params) : Obj := ⟨.type "tuple", none, .seq #[] 0, #[]⟩
noncomputable def o_666 (P : Params) : Obj := ⟨.none, none, .fields #[], #[]⟩
noncomputable def o_667 (P : Params) : Obj := ⟨.type "tuple", none, .seq #[.str (.ofString "self") 1083, .str (.ofString "mapping") 1084, .str (.ofString "back") 1085, .str (.ofString "ahead") 1086] 0, #[]⟩
noncomputable def o_668 (P : Params) : Obj := ⟨.type "tuple", none, .seq #[] 0, #[]⟩
noncomputable def o_669 (P : Params) : Obj := fnO (mp 74 0) .none none (.ofString "Reverse.__init__") 0 [] .none .none .none .none none .none .none 0 #[]
noncomputable def o_670 (P : Params) : Obj := ⟨.type "code", none, .fields #[.str (.ofString "__init__") 1080, .str (.ofString "Reverse.__init__") 1081, .str (.ofString "/claim/cut.py") 1082, .int 449 0, .int 4 0, .int 0 0, .int 0 0, .int 3 0, .ref 605, .bool true, .int 181 0, .ref 606, .none, .ref 607, .ref 608, .ref 609, .int 1087 0, .int 449 0, .str (.ofString "/claim/cut.py") 1088], #[]⟩
noncomputable def o_671 (P : Params) : Obj := fnO (mp 74 0) (.type "function") none (.ofString "Reverse.__init__") 3 [] .none .none .none (.str (.ofString "joinedhand.reverse") 1066) none (.ref 610) .none 0 #[]
noncomputable def o_672 (P : Params) : Obj := ⟨.type "tuple", none, .seq #[] 0, #[]⟩
noncomputable def o_673 (P : Params) : Obj := ⟨.none, none, .fields #[], #[]⟩
noncomputable def o_674 (P : Params) : Obj := fnO (mp 74 1) .none none (.ofString "Reverse.told") 0 [] .none .none .none .none none .none .none 0 #[]
noncomputable def o_675 (P : Params) : Obj := ⟨.type "code", none, .fields #[.str (.ofString "told") 1090, .str (.ofString "Reverse.told") 1091, .str (.ofString "/claim/cut.py") 1092, .int 454 0, .int 1 0, .int 0 0, .int 0 0, .int 3 0, .ref 612, .bool true, .int 181 0, .ref 613, .none, .none, .none, .ref 614, .int 1093 0, .int 454 0, .str (.ofString "/claim/cut.py") 1094], #[]⟩
noncomputable def o_676 (P : Params) : Obj := fnO (mp 74 1) (.type "function") none (.ofString "Reverse.told") 3 [] .none .none .none (.str (.ofString "joinedhand.reverse") 1066) none (.ref 615) .none 0 #[]
noncomputable def o_677 (P : Params) : Obj := ⟨.type "tuple", none, .seq #[.str (.ofString "ahead") 1096, .str (.ofString "back") 1097, .str (.ofString "mapping") 1098] 0, #[]⟩
noncomputable def o_678 (P : Params) : Obj := ⟨.type "dict", none, .dict #[en P "__module__" 1075 (.str (.ofString "joinedhand.reverse") 1066), en P "__firstlineno__" 1079 (.int 447 1078), en P "__init__" 1089 (.ref 611), en P "told" 1095 (.ref 616), en P "__static_attributes__" 1099 (.ref 617), en P "__dict__" 1101 (.ref 620), en P "__weakref__" 1103 (.ref 621), en P "__doc__" 1104 .none] 4, #[]⟩
noncomputable def o_679 (P : Params) : Obj := ⟨.type "type", none, .cls ⟨.ofString "Reverse", [.type "object"], [.ref 619, .type "object"], 618, .ofString "Reverse", true, [], [], false, none, false⟩, #[none, none, some (.str (.ofString "Reverse") 1068), some (.str (.ofString "Reverse") 1076), some (.builtin "object.__new__"), some (.bool true)]⟩
noncomputable def o_680 (P : Params) : Obj := ⟨.type "getset_descriptor", none, .fields #[.str (.ofString "__dict__") 1100, .ref 619, .builtin "function.__dict__", .builtin "function.__dict__#set"], #[]⟩
noncomputable def o_681 (P : Params) : Obj := ⟨.type "getset_descriptor", none, .fields #[.str (.ofString "__weakref__") 1102, .ref 619, .builtin "ExceptionGroup.__weakref__", .none], #[]⟩
noncomputable def o_682 (P : Params) : Obj := ⟨.type "super", none, .fields #[.ref 619, .ref 619, .ref 619], #[]⟩
noncomputable def o_683 (P : Params) : Obj := ⟨.type "builtin_function_or_method", none, .fields #[.builtin "object.__init_subclass__", .ref 619], #[]⟩
noncomputable def o_684 (P : Params) : Obj := ⟨.type "tuple", none, .seq #[] 0, #[]⟩
noncomputable def o_685 (P : Params) : Obj := ⟨.none, none, .fields #[], #[]⟩
noncomputable def o_686 (P : Params) : Obj := ⟨.type "tuple", none, .seq #[.str (.ofString "scene") 1110, .str (.ofString "table") 1111, .str (.ofString "at") 1112, .str (.ofString "info") 1113, .str (.ofString "begin") 1114, .str (.ofString "end") 1115] 0, #[]⟩
noncomputable def o_687 (P : Params) : Obj := ⟨.type "tuple", none, .seq #[] 0, #[]⟩
noncomputable def o_688 (P : Params) : Obj := fnO (tp 75) .none none (.ofString "apply_reverse") 0 [] .none .none .none .none none .none .none 0 #[]
noncomputable def o_689 (P : Params) : Obj := ⟨.type "code", none, .fields #[.str (.ofString "apply_reverse") 1107, .str (.ofString "apply_reverse") 1108, .str (.ofString "/claim/cut.py") 1109, .int 458 0, .int 3 0, .int 0 0, .int 0 0, .int 3 0, .ref 624, .bool true, .int 181 0, .ref 625, .none, .ref 626, .ref 627, .ref 628, .int 1116 0, .int 458 0, .str (.ofString "/claim/cut.py") 1117], #[]⟩
noncomputable def o_690 (P : Params) : Obj := fnO (tp 75) (.type "function") none (.ofString "apply_reverse") 3 [] .none .none .none (.str (.ofString "joinedhand.reverse") 1066) none (.ref 629) .none 0 #[]
noncomputable def o_691 (P : Params) : Obj := ⟨.type "dict", none, .dict (List.toArray (en P "__name__" 165 (.str (.ofString "joinedhand.single") 1119) :: en P "__doc__" 166 .none :: en P "__package__" 167 .none :: en P "__loader__" 168 (.builtin "__main__.__loader__#opaque") :: en P "__spec__" 169 .none :: en P "__annotations__" 170 (.ref 6) :: en P "__builtins__" 171 (.ref 4) :: en P "__file__" 173 (.str (.ofString "/claim/cut.py") 172) :: en P "__cached__" 174 .none :: en P "_wall" 193 (.ref 21) :: en P "Coverage" 250 (.ref 59) :: en P "coverage_of" 259 (.ref 70) :: en P "BY_GLYPHS" 263 (.int 1 262) :: en P "BY_CLASSES" 265 (.int 2 264) :: en P "Rule" 314 (.ref 101) :: en P "Contexts" 374 (.ref 142) :: en P "told_row" 380 (.ref 151) :: en P "tests_of" 386 (.ref 156) :: en P "rule_tests" 398 (.ref 163) :: en P "rules_at" 404 (.ref 168) :: en P "Info" 466 (.ref 199) :: en P "Buffer" 523 (.ref 243) :: en P "set_cluster" 531 (.ref 254) :: en P "widened" 542 (.ref 261) :: en P "merge" 548 (.ref 266) :: en P "hang" 554 (.ref 271) :: en P "drop_cluster" 560 (.ref 276) :: en P "put" 574 (.ref 283) :: en P "IGNORE_BASES" 578 (.int 2 577) :: en P "IGNORE_LIGATURES" 580 (.int 4 579) :: en P "IGNORE_MARKS" 582 (.int 8 581) :: en P "USE_SET" 584 (.int 16 583) :: en P "Lookup" 625 (.ref 305) :: en P "Scene" 665 (.ref 327) :: en P "attach_wanted" 672 (.ref 338) :: en P "class_bit" 679 (.ref 345) :: en P "is_ignored" 690 (.ref 352) :: en P "passes" 698 (.ref 359) :: en P "nested_scene" 706 (.ref 366) :: en P "KINDS_IN_INPUT" 711 (.ref 367) :: en P "KINDS_AROUND" 715 (.ref 368) :: en P "glyph_tests" 721 (.ref 373) :: en P "cover_tests" 727 (.ref 378) :: en P "fits" 735 (.ref 385) :: en P "is_borne" 743 (.ref 392) :: en P "found_at" 757 (.ref 399) :: en P "input_at" 769 (.ref 406) :: en P "last_at" 781 (.ref 413) :: en P "ahead_at" 790 (.ref 420) :: en P "back_at" 799 (.ref 427) :: en P "is_piece" 806 (.ref 434) :: en P "hold_together" 817 (.ref 441) :: en P "BASE_ligature" 821 (.int 1 820) :: en P "MARK" 823 (.int 3 822) :: en P "begins_with" 831 (.ref 448) :: en P "live_rows" 837 (.ref 453) :: en P "Ligature" 872 (.ref 475) :: en P "part_count" 879 (.ref 486) :: en P "way_of" 885 (.ref 491) :: en P "tie" 896 (.ref 498) :: en P "tie_behind" 909 (.ref 505) :: en P "tie_all" 925 (.ref 512) :: en P "join" 931 (.ref 517) :: en P "apply_ligature" 945 (.ref 524) :: en P "MOST_DEPTH" 949 (.int 6 948) :: en P "MOST_PLACES" 951 (.int 64 950) :: en P "Places" 982 (.ref 541) :: en P "match_rule" 998 (.ref 552) :: en P "inner_scene" 1006 (.ref 559) :: en P "grow" 1012 (.ref 564) :: en P "shrink" 1018 (.ref 569) :: en P "move" 1027 (.ref 576) :: en P "do_action" 1042 (.ref 583) :: en P "do_actions" 1053 (.ref 590) :: en P "apply_context" 1065 (.ref 597) :: en P "Reverse" 1106 (.ref 619) :: en P "apply_reverse" 1118 (.ref 630) :: en P "Single" 1155 (.ref 652) :: [])) 78, #[]⟩
noncomputable def o_692 (P : Params) : Obj := ⟨.none, none, .fields (List.toArray (.int 1 0 :: .int 0 0 :: .ref 20 :: .int 5 0 :: .int 0 0 :: .ref 27 :: .int 28 0 :: .int 0 0 :: .ref 69 :: .int 36 0 :: .int 0 0 :: .ref 76 :: .int 49 0 :: .int 0 0 :: .ref 111 :: .int 73 0 :: .int 0 0 :: .ref 150 :: .int 75 0 :: .int 0 0 :: .ref 155 :: .int 79 0 :: .int 0 0 :: .ref 162 :: .int 83 0 :: .int 0 0 :: .ref 167 :: .int 92 0 :: .int 0 0 :: .ref 174 :: .int 129 0 :: .int 0 0 :: .ref 209 :: .int 148 0 :: .int 0 0 :: .ref 253 :: .int 152 0 :: .int 0 0 :: .ref 260 :: .int 160 0 :: .int 0 0 :: .ref 265 :: .int 167 0 :: .int 0 0 :: .ref 270 :: .int 175 0 :: .int 0 0 :: .ref 275 :: .int 189 0 :: .int 0 0 :: .ref 282 :: .int 208 0 :: .int 0 0 :: .ref 289 :: .int 219 0 :: .int 0 0 :: .ref 315 :: .int 228 0 :: .int 0 0 :: .ref 337 :: .int 230 0 :: .int 0 0 :: .ref 344 :: .int 232 0 :: .int 0 0 :: .ref 351 :: .int 242 0 :: .int 0 0 :: .ref 358 :: .int 244 0 :: .int 0 0 :: .ref 365 :: .int 251 0 :: .int 0 0 :: .ref 372 :: .int 253 0 :: .int 0 0 :: .ref 377 :: .int 255 0 :: .int 0 0 :: .ref 384 :: .int 261 0 :: .int 0 0 :: .ref 391 :: .int 263 0 :: .int 0 0 :: .ref 398 :: .int 274 0 :: .int 0 0 :: .ref 405 :: .int 284 0 :: .int 0 0 :: .ref 412 :: .int 291 0 :: .int 0 0 :: .ref 419 :: .int 293 0 :: .int 0 0 :: .ref 426 :: .int 295 0 :: .int 0 0 :: .ref 433 :: .int 297 0 :: .int 0 0 :: .ref 440 :: .int 310 0 :: .int 0 0 :: .ref 447 :: .int 312 0 :: .int 0 0 :: .ref 452 :: .int 318 0 :: .int 0 0 :: .ref 459 :: .int 326 0 :: .int 0 0 :: .ref 485 :: .int 328 0 :: .int 0 0 :: .ref 490 :: .int 332 0 :: .int 0 0 :: .ref 497 :: .int 337 0 :: .int 0 0 :: .ref 504 :: .int 342 0 :: .int 0 0 :: .ref 511 :: .int 354 0 :: .int 0 0 :: .ref 516 :: .int 370 0 :: .int 0 0 :: .ref 523 :: .int 385 0 :: .int 0 0 :: .ref 530 :: .int 390 0 :: .int 0 0 :: .ref 551 :: .int 400 0 :: .int 0 0 :: .ref 558 :: .int 402 0 :: .int 0 0 :: .ref 563 :: .int 405 0 :: .int 0 0 :: .ref 568 :: .int 408 0 :: .int 0 0 :: .ref 575 :: .int 417 0 :: .int 0 0 :: .ref 582 :: .int 434 0 :: .int 0 0 :: .ref 589 :: .int 439 0 :: .int 0 0 :: .ref 596 :: .int 447 0 :: .int 0 0 :: .ref 603 :: .int 458 0 :: .int 0 0 :: .ref 629 :: .int 470 0 :: .int 0 0 :: .ref 636 :: [])), #[]⟩
noncomputable def o_693 (P : Params) : Obj := ⟨.type "tuple", none, .seq #[] 0, #[]⟩
noncomputable def o_694 (P : Params) : Obj := ⟨.type "builtin_function_or_method", none, .fields #[.builtin "type.__prepare__", .type "type"], #[]⟩
noncomputable def o_695 (P : Params) : Obj := ⟨.type "dict", none, .dict #[en P "__module__" 1128 (.str (.ofString "joinedhand.single") 1119), en P "__qualname__" 1130 (.str (.ofString "Single") 1129), en P "__firstlineno__" 1132 (.int 470 1131), en P "__init__" 1140 (.ref 644), en P "told" 1146 (.ref 649), en P "__static_attributes__" 1148 (.ref 650)] 6, #[]⟩
noncomputable def o_696 (P : Params) : Obj := ⟨.type "tuple", none, .seq #[] 0, #[]⟩
noncomputable def o_697 (P : Params) : Obj := ⟨.none, none, .fields #[.int 472 0, .int 4 0, .ref 643, .int 475 0, .int 4 0, .ref 648], #[]⟩
noncomputable def o_698 (P : Params) : Obj := ⟨.type "code", none, .fields #[.str (.ofString "Single") 1123, .str (.ofString "Single") 1124, .str (.ofString "/claim/cut.py") 1125, .int 470 0, .int 0 0, .int 0 0, .int 0 0, .int 0 0, .ref 634, .bool false, .int 181 0, .ref 635, .none, .none, .none, .none, .int 1126 0, .int 470 0, .str (.ofString "/claim/cut.py") 1127], #[]⟩
noncomputable def o_699 (P : Params) : Obj := ⟨.type "frame", none, .plain, #[some (.ref 636), some (.ref 3), some (.ref 633), none, some (.str (.ofString "joinedhand.single") 1119), none, some (.ref 0)]⟩
noncomputable def o_700 (P : Params) : Obj := ⟨.type "tuple", none, .seq #[] 0, #[]⟩
noncomputable def o_701 (P : Params) : Obj := ⟨.none, none, .fields #[], #[]⟩
noncomputable def o_702 (P : Params) : Obj := ⟨.type "tuple", none, .seq #[.str (.ofString "self") 1136, .str (.ofString "mapping") 1137] 0, #[]⟩
noncomputable def o_703 (P : Params) : Obj := ⟨.type "tuple", none, .seq #[] 0, #[]⟩
noncomputable def o_704 (P : Params) : Obj := fnO (mp 77 0) .none none (.ofString "Single.__init__") 0 [] .none .none .none .none none .none .none 0 #[]
noncomputable def o_705 (P : Params) : Obj := ⟨.type "code", none, .fields #[.str (.ofString "__init__") 1133, .str (.ofString "Single.__init__") 1134, .str (.ofString "/claim/cut.py") 1135, .int 472 0, .int 2 0, .int 0 0, .int 0 0, .int 3 0, .ref 638, .bool true, .int 181 0, .ref 639, .none, .ref 640, .ref 641, .ref 642, .int 1138 0, .int 472 0, .str (.ofString "/claim/cut.py") 1139], #[]⟩
noncomputable def o_706 (P : Params) : Obj := fnO (mp 77 0) (.type "function") none (.ofString "Single.__init__") 3 [] .none .none .none (.str (.ofString "joinedhand.single") 1119) none (.ref 643) .none 0 #[]
noncomputable def o_707 (P : Params) : Obj := ⟨.type "tuple", none, .seq #[] 0, #[]⟩
noncomputable def o_708 (P : Params) : Obj := ⟨.none, none, .fields #[], #[]⟩
noncomputable def o_709 (P : Params) : Obj := fnO (mp 77 1) .none none (.ofString "Single.told") 0 [] .none .none .none .none none .none .none 0 #[]
noncomputable def o_710 (P : Params) : Obj := ⟨.type "code", none, .fields #[.str (.ofString "told") 1141, .str (.ofString "Single.told") 1142, .str (.ofString "/claim/cut.py") 1143, .int 475 0, .int 1 0, .int 0 0, .int 0 0, .int 3 0, .ref 645, .bool true, .int 181 0, .ref 646, .none, .none, .none, .ref 647, .int 1144 0, .int 475 0, .str (.ofString "/claim/cut.py") 1145], #[]⟩
noncomputable def o_711 (P : Params) : Obj := fnO (mp 77 1) (.type "function") none (.ofString "Single.told") 3 [] .none .none .none (.str (.ofString "joinedhand.single") 1119) none (.ref 648) .none 0 #[]
noncomputable def o_712 (P : Params) : Obj := ⟨.type "tuple", none, .seq #[.str (.ofString "mapping") 1147] 0, #[]⟩
noncomputable def o_713 (P : Params) : Obj := ⟨.type "dict", none, .dict #[en P "__module__" 1128 (.str (.ofString "joinedhand.single") 1119), en P "__firstlineno__" 1132 (.int 470 1131), en P "__init__" 1140 (.ref 644), en P "told" 1146 (.ref 649), en P "__static_attributes__" 1148 (.ref 650), en P "__dict__" 1150 (.ref 653), en P "__weakref__" 1152 (.ref 654), en P "__doc__" 1153 .none] 4, #[]⟩
noncomputable def o_714 (P : Params) : Obj := ⟨.type "type", none, .cls ⟨.ofString "Single", [.type "object"], [.ref 652, .type "object"], 651, .ofString "Single", true, [], [], false, none, false⟩, #[none, none, some (.str (.ofString "Single") 1121), some (.str (.ofString "Single") 1129), some (.builtin "object.__new__"), some (.bool true)]⟩
noncomputable def o_715 (P : Params) : Obj := ⟨.type "getset_descriptor", none, .fields #[.str (.ofString "__dict__") 1149, .ref 652, .builtin "function.__dict__", .builtin "function.__dict__#set"], #[]⟩
noncomputable def o_716 (P : Params) : Obj := ⟨.type "getset_descriptor", none, .fields #[.str (.ofString "__weakref__") 1151, .ref 652, .builtin "ExceptionGroup.__weakref__", .none], #[]⟩
noncomputable def o_717 (P : Params) : Obj := ⟨.type "super", none, .fields #[.ref 652, .ref 652, .ref 652], #[]⟩
noncomputable def o_718 (P : Params) : Obj := ⟨.type "builtin_function_or_method", none, .fields #[.builtin "object.__init_subclass__", .ref 652], #[]⟩
noncomputable def o_719 (P : Params) : Obj := ⟨.type "dict", none, .dict (List.toArray (en P "__name__" 165 (.str (.ofString "joinedhand.single") 1119) :: en P "__doc__" 166 .none :: en P "__package__" 167 .none :: en P "__loader__" 168 (.builtin "__main__.__loader__#opaque") :: en P "__spec__" 169 .none :: en P "__annotations__" 170 (.ref 6) :: en P "__builtins__" 171 (.ref 4) :: en P "__file__" 173 (.str (.ofString "/claim/cut.py") 172) :: en P "__cached__" 174 .none :: en P "_wall" 193 (.ref 21) :: en P "Coverage" 250 (.ref 59) :: en P "coverage_of" 259 (.ref 70) :: en P "BY_GLYPHS" 263 (.int 1 262) :: en P "BY_CLASSES" 265 (.int 2 264) :: en P "Rule" 314 (.ref 101) :: en P "Contexts" 374 (.ref 142) :: en P "told_row" 380 (.ref 151) :: en P "tests_of" 386 (.ref 156) :: en P "rule_tests" 398 (.ref 163) :: en P "rules_at" 404 (.ref 168) :: en P "Info" 466 (.ref 199) :: en P "Buffer" 523 (.ref 243) :: en P "set_cluster" 531 (.ref 254) :: en P "widened" 542 (.ref 261) :: en P "merge" 548 (.ref 266) :: en P "hang" 554 (.ref 271) :: en P "drop_cluster" 560 (.ref 276) :: en P "put" 574 (.ref 283) :: en P "IGNORE_BASES" 578 (.int 2 577) :: en P "IGNORE_LIGATURES" 580 (.int 4 579) :: en P "IGNORE_MARKS" 582 (.int 8 581) :: en P "USE_SET" 584 (.int 16 583) :: en P "Lookup" 625 (.ref 305) :: en P "Scene" 665 (.ref 327) :: en P "attach_wanted" 672 (.ref 338) :: en P "class_bit" 679 (.ref 345) :: en P "is_ignored" 690 (.ref 352) :: en P "passes" 698 (.ref 359) :: en P "nested_scene" 706 (.ref 366) :: en P "KINDS_IN_INPUT" 711 (.ref 367) :: en P "KINDS_AROUND" 715 (.ref 368) :: en P "glyph_tests" 721 (.ref 373) :: en P "cover_tests" 727 (.ref 378) :: en P "fits" 735 (.ref 385) :: en P "is_borne" 743 (.ref 392) :: en P "found_at" 757 (.ref 399) :: en P "input_at" 769 (.ref 406) :: en P "last_at" 781 (.ref 413) :: en P "ahead_at" 790 (.ref 420) :: en P "back_at" 799 (.ref 427) :: en P "is_piece" 806 (.ref 434) :: en P "hold_together" 817 (.ref 441) :: en P "BASE_ligature" 821 (.int 1 820) :: en P "MARK" 823 (.int 3 822) :: en P "begins_with" 831 (.ref 448) :: en P "live_rows" 837 (.ref 453) :: en P "Ligature" 872 (.ref 475) :: en P "part_count" 879 (.ref 486) :: en P "way_of" 885 (.ref 491) :: en P "tie" 896 (.ref 498) :: en P "tie_behind" 909 (.ref 505) :: en P "tie_all" 925 (.ref 512) :: en P "join" 931 (.ref 517) :: en P "apply_ligature" 945 (.ref 524) :: en P "MOST_DEPTH" 949 (.int 6 948) :: en P "MOST_PLACES" 951 (.int 64 950) :: en P "Places" 982 (.ref 541) :: en P "match_rule" 998 (.ref 552) :: en P "inner_scene" 1006 (.ref 559) :: en P "grow" 1012 (.ref 564) :: en P "shrink" 1018 (.ref 569) :: en P "move" 1027 (.ref 576) :: en P "do_action" 1042 (.ref 583) :: en P "do_actions" 1053 (.ref 590) :: en P "apply_context" 1065 (.ref 597) :: en P "Reverse" 1106 (.ref 619) :: en P "apply_reverse" 1118 (.ref 630) :: en P "Single" 1155 (.ref 652) :: en P "Multiple" 1190 (.ref 678) :: [])) 79, #[]⟩
noncomputable def o_720 (P : Params) : Obj := ⟨.none, none, .fields (List.toArray (.int 1 0 :: .int 0 0 :: .ref 20 :: .int 5 0 :: .int 0 0 :: .ref 27 :: .int 28 0 :: .int 0 0 :: .ref 69 :: .int 36 0 :: .int 0 0 :: .ref 76 :: .int 49 0 :: .int 0 0 :: .ref 111 :: .int 73 0 :: .int 0 0 :: .ref 150 :: .int 75 0 :: .int 0 0 :: .ref 155 :: .int 79 0 :: .int 0 0 :: .ref 162 :: .int 83 0 :: .int 0 0 :: .ref 167 :: .int 92 0 :: .int 0 0 :: .ref 174 :: .int 129 0 :: .int 0 0 :: .ref 209 :: .int 148 0 :: .int 0 0 :: .ref 253 :: .int 152 0 :: .int 0 0 :: .ref 260 :: .int 160 0 :: .int 0 0 :: .ref 265 :: .int 167 0 :: .int 0 0 :: .ref 270 :: .int 175 0 :: .int 0 0 :: .ref 275 :: .int 189 0 :: .int 0 0 :: .ref 282 :: .int 208 0 :: .int 0 0 :: .ref 289 :: .int 219 0 :: .int 0 0 :: .ref 315 :: .int 228 0 :: .int 0 0 :: .ref 337 :: .int 230 0 :: .int 0 0 :: .ref 344 :: .int 232 0 :: .int 0 0 :: .ref 351 :: .int 242 0 :: .int 0 0 :: .ref 358 :: .int 244 0 :: .int 0 0 :: .ref 365 :: .int 251 0 :: .int 0 0 :: .ref 372 :: .int 253 0 :: .int 0 0 :: .ref 377 :: .int 255 0 :: .int 0 0 :: .ref 384 :: .int 261 0 :: .int 0 0 :: .ref 391 :: .int 263 0 :: .int 0 0 :: .ref 398 :: .int 274 0 :: .int 0 0 :: .ref 405 :: .int 284 0 :: .int 0 0 :: .ref 412 :: .int 291 0 :: .int 0 0 :: .ref 419 :: .int 293 0 :: .int 0 0 :: .ref 426 :: .int 295 0 :: .int 0 0 :: .ref 433 :: .int 297 0 :: .int 0 0 :: .ref 440 :: .int 310 0 :: .int 0 0 :: .ref 447 :: .int 312 0 :: .int 0 0 :: .ref 452 :: .int 318 0 :: .int 0 0 :: .ref 459 :: .int 326 0 :: .int 0 0 :: .ref 485 :: .int 328 0 :: .int 0 0 :: .ref 490 :: .int 332 0 :: .int 0 0 :: .ref 497 :: .int 337 0 :: .int 0 0 :: .ref 504 :: .int 342 0 :: .int 0 0 :: .ref 511 :: .int 354 0 :: .int 0 0 :: .ref 516 :: .int 370 0 :: .int 0 0 :: .ref 523 :: .int 385 0 :: .int 0 0 :: .ref 530 :: .int 390 0 :: .int 0 0 :: .ref 551 :: .int 400 0 :: .int 0 0 :: .ref 558 :: .int 402 0 :: .int 0 0 :: .ref 563 :: .int 405 0 :: .int 0 0 :: .ref 568 :: .int 408 0 :: .int 0 0 :: .ref 575 :: .int 417 0 :: .int 0 0 :: .ref 582 :: .int 434 0 :: .int 0 0 :: .ref 589 :: .int 439 0 :: .int 0 0 :: .ref 596 :: .int 447 0 :: .int 0 0 :: .ref 603 :: .int 458 0 :: .int 0 0 :: .ref 629 :: .int 470 0 :: .int 0 0 :: .ref 636 :: .int 477 0 :: .int 0 0 :: .ref 662 :: [])), #[]⟩
noncomputable def o_721 (P : Params) : Obj := ⟨.type "tuple", none, .seq #[] 0, #[]⟩
noncomputable def o_722 (P : Params) : Obj := ⟨.type "builtin_function_or_method", none, .fields #[.builtin "type.__prepare__", .type "type"], #[]⟩
noncomputable def o_723 (P : Params) : Obj := ⟨.type "dict", none, .dict #[en P "__module__" 1163 (.str (.ofString "joinedhand.single") 1119), en P "__qualname__" 1165 (.str (.ofString "Multiple") 1164), en P "__firstlineno__" 1167 (.int 477 1166), en P "__init__" 1175 (.ref 670), en P "told" 1181 (.ref 675), en P "__static_attributes__" 1183 (.ref 676)] 6, #[]⟩
noncomputable def o_724 (P : Params) : Obj := ⟨.type "tuple", none, .seq #[] 0, #[]⟩
noncomputable def o_725 (P : Params) : Obj := ⟨.none, none, .fields #[.int 479 0, .int 4 0, .ref 669, .int 482 0, .int 4 0, .ref 674], #[]⟩
noncomputable def o_726 (P : Params) : Obj := ⟨.type "code", none, .fields #[.str (.ofString "Multiple") 1158, .str (.ofString "Multiple") 1159, .str (.ofString "/claim/cut.py") 1160, .int 477 0, .int 0 0, .int 0 0, .int 0 0, .int 0 0, .ref 660, .bool false, .int 181 0, .ref 661, .none, .none, .none, .none, .int 1161 0, .int 477 0, .str (.ofString "/claim/cut.py") 1162], #[]⟩
noncomputable def o_727 (P : Params) : Obj := ⟨.type "frame", none, .plain, #[some (.ref 662), some (.ref 3), some (.ref 659), none, some (.str (.ofString "joinedhand.single") 1119), none, some (.ref 0)]⟩
noncomputable def o_728 (P : Params) : Obj := ⟨.type "tuple", none, .seq #[] 0, #[]⟩
noncomputable def o_729 (P : Params) : Obj := ⟨.none, none, .fields #[], #[]⟩
noncomputable def o_730 (P : Params) : Obj := ⟨.type "tuple", none, .seq #[.str (.ofString "self") 1171, .str (.ofString "mapping") 1172] 0, #[]⟩
noncomputable def o_731 (P : Params) : Obj := ⟨.type "tuple", none, .seq #[] 0, #[]⟩
noncomputable def o_732 (P : Params) : Obj := fnO (mp 78 0) .none none (.ofString "Multiple.__init__") 0 [] .none .none .none .none none .none .none 0 #[]
noncomputable def o_733 (P : Params) : Obj := ⟨.type "code", none, .fields #[.str (.ofString "__init__") 1168, .str (.ofString "Multiple.__init__") 1169, .str (.ofString "/claim/cut.py") 1170, .int 479 0, .int 2 0, .int 0 0, .int 0 0, .int 3 0, .ref 664, .bool true, .int 181 0, .ref 665, .none, .ref 666, .ref 667, .ref 668, .int 1173 0, .int 479 0, .str (.ofString "/claim/cut.py") 1174], #[]⟩
noncomputable def o_734 (P : Params) : Obj := fnO (mp 78 0) (.type "function") none (.ofString "Multiple.__init__") 3 [] .none .none .none (.str (.ofString "joinedhand.single") 1119) none (.ref 669) .none 0 #[]
noncomputable def o_735 (P : Params) : Obj := ⟨.type "tuple", none, .seq #[] 0, #[]⟩
noncomputable def o_736 (P : Params) : Obj := ⟨.none, none, .fields #[], #[]⟩
noncomputable def o_737 (P : Params) : Obj := fnO (mp 78 1) .none none (.ofString "Multiple.told") 0 [] .none .none .none .none none .none .none 0 #[]
noncomputable def o_738 (P : Params) : Obj := ⟨.type "code", none, .fields #[.str (.ofString "told") 1176, .str (.ofString "Multiple.told") 1177, .str (.ofString "/claim/cut.py") 1178, .int 482 0, .int 1 0, .int 0 0, .int 0 0, .int 3 0, .ref 671, .bool true, .int 181 0, .ref 672, .none, .none, .none, .ref 673, .int 1179 0, .int 482 0, .str (.ofString "/claim/cut.py") 1180], #[]⟩
noncomputable def o_739 (P : Params) : Obj := fnO (mp 78 1) (.type "function") none (.ofString "Multiple.told") 3 [] .none .none .none (.str (.ofString "joinedhand.single") 1119) none (.ref 674) .none 0 #[]
noncomputable def o_740 (P : Params) : Obj := ⟨.type "tuple", none, .seq #[.str (.ofString "mapping") 1182] 0, #[]⟩
noncomputable def o_741 (P : Params) : Obj := ⟨.type "dict", none, .dict #[en P "__module__" 1163 (.str (.ofString "joinedhand.single") 1119), en P "__firstlineno__" 1167 (.int 477 1166), en P "__init__" 1175 (.ref 670), en P "told" 1181 (.ref 675), en P "__static_attributes__" 1183 (.ref 676), en P "__dict__" 1185 (.ref 679), en P "__weakref__" 1187 (.ref 680), en P "__doc__" 1188 .none] 4, #[]⟩
noncomputable def o_742 (P : Params) : Obj := ⟨.type "type", none, .cls ⟨.ofString "Multiple", [.type "object"], [.ref 678, .type "object"], 677, .ofString "Multiple", true, [], [], false, none, false⟩, #[none, none, some (.str (.ofString "Multiple") 1156), some (.str (.ofString "Multiple") 1164), some (.builtin "object.__new__"), some (.bool true)]⟩
noncomputable def o_743 (P : Params) : Obj := ⟨.type "getset_descriptor", none, .fields #[.str (.ofString "__dict__") 1184, .ref 678, .builtin "function.__dict__", .builtin "function.__dict__#set"], #[]⟩
noncomputable def o_744 (P : Params) : Obj := ⟨.type "getset_descriptor", none, .fields #[.str (.ofString "__weakref__") 1186, .ref 678, .builtin "ExceptionGroup.__weakref__", .none], #[]⟩
noncomputable def o_745 (P : Params) : Obj := ⟨.type "super", none, .fields #[.ref 678, .ref 678, .ref 678], #[]⟩
noncomputable def o_746 (P : Params) : Obj := ⟨.type "builtin_function_or_method", none, .fields #[.builtin "object.__init_subclass__", .ref 678], #[]⟩
noncomputable def o_747 (P : Params) : Obj := ⟨.type "dict", none, .dict (List.toArray (en P "__name__" 165 (.str (.ofString "joinedhand.gsub") 1270) :: en P "__doc__" 166 .none :: en P "__package__" 167 .none :: en P "__loader__" 168 (.builtin "__main__.__loader__#opaque") :: en P "__spec__" 169 .none :: en P "__annotations__" 170 (.ref 6) :: en P "__builtins__" 171 (.ref 4) :: en P "__file__" 173 (.str (.ofString "/claim/cut.py") 172) :: en P "__cached__" 174 .none :: en P "_wall" 193 (.ref 21) :: en P "Coverage" 250 (.ref 59) :: en P "coverage_of" 259 (.ref 70) :: en P "BY_GLYPHS" 263 (.int 1 262) :: en P "BY_CLASSES" 265 (.int 2 264) :: en P "Rule" 314 (.ref 101) :: en P "Contexts" 374 (.ref 142) :: en P "told_row" 380 (.ref 151) :: en P "tests_of" 386 (.ref 156) :: en P "rule_tests" 398 (.ref 163) :: en P "rules_at" 404 (.ref 168) :: en P "Info" 466 (.ref 199) :: en P "Buffer" 523 (.ref 243) :: en P "set_cluster" 531 (.ref 254) :: en P "widened" 542 (.ref 261) :: en P "merge" 548 (.ref 266) :: en P "hang" 554 (.ref 271) :: en P "drop_cluster" 560 (.ref 276) :: en P "put" 574 (.ref 283) :: en P "IGNORE_BASES" 578 (.int 2 577) :: en P "IGNORE_LIGATURES" 580 (.int 4 579) :: en P "IGNORE_MARKS" 582 (.int 8 581) :: en P "USE_SET" 584 (.int 16 583) :: en P "Lookup" 625 (.ref 305) :: en P "Scene" 665 (.ref 327) :: en P "attach_wanted" 672 (.ref 338) :: en P "class_bit" 679 (.ref 345) :: en P "is_ignored" 690 (.ref 352) :: en P "passes" 698 (.ref 359) :: en P "nested_scene" 706 (.ref 366) :: en P "KINDS_IN_INPUT" 711 (.ref 367) :: en P "KINDS_AROUND" 715 (.ref 368) :: en P "glyph_tests" 721 (.ref 373) :: en P "cover_tests" 727 (.ref 378) :: en P "fits" 735 (.ref 385) :: en P "is_borne" 743 (.ref 392) :: en P "found_at" 757 (.ref 399) :: en P "input_at" 769 (.ref 406) :: en P "last_at" 781 (.ref 413) :: en P "ahead_at" 790 (.ref 420) :: en P "back_at" 799 (.ref 427) :: en P "is_piece" 806 (.ref 434) :: en P "hold_together" 817 (.ref 441) :: en P "BASE_ligature" 821 (.int 1 820) :: en P "MARK" 823 (.int 3 822) :: en P "begins_with" 831 (.ref 448) :: en P "live_rows" 837 (.ref 453) :: en P "Ligature" 872 (.ref 475) :: en P "part_count" 879 (.ref 486) :: en P "way_of" 885 (.ref 491) :: en P "tie" 896 (.ref 498) :: en P "tie_behind" 909 (.ref 505) :: en P "tie_all" 925 (.ref 512) :: en P "join" 931 (.ref 517) :: en P "apply_ligature" 945 (.ref 524) :: en P "MOST_DEPTH" 949 (.int 6 948) :: en P "MOST_PLACES" 951 (.int 64 950) :: en P "Places" 982 (.ref 541) :: en P "match_rule" 998 (.ref 552) :: en P "inner_scene" 1006 (.ref 559) :: en P "grow" 1012 (.ref 564) :: en P "shrink" 1018 (.ref 569) :: en P "move" 1027 (.ref 576) :: en P "do_action" 1042 (.ref 583) :: en P "do_actions" 1053 (.ref 590) :: en P "apply_context" 1065 (.ref 597) :: en P "Reverse" 1106 (.ref 619) :: en P "apply_reverse" 1118 (.ref 630) :: en P "Single" 1155 (.ref 652) :: en P "Multiple" 1190 (.ref 678) :: en P "Alternate" 1225 (.ref 704) :: en P "apply_single" 1235 (.ref 715) :: en P "apply_multiple" 1248 (.ref 722) :: en P "choice_of" 1257 (.ref 729) :: en P "apply_alternate" 1269 (.ref 736) :: [])) 84, #[]⟩
noncomputable def o_748 (P : Params) : Obj := ⟨.none, none, .fields (List.toArray (.int 1 0 :: .int 0 0 :: .ref 20 :: .int 5 0 :: .int 0 0 :: .ref 27 :: .int 28 0 :: .int 0 0 :: .ref 69 :: .int 36 0 :: .int 0 0 :: .ref 76 :: .int 49 0 :: .int 0 0 :: .ref 111 :: .int 73 0 :: .int 0 0 :: .ref 150 :: .int 75 0 :: .int 0 0 :: .ref 155 :: .int 79 0 :: .int 0 0 :: .ref 162 :: .int 83 0 :: .int 0 0 :: .ref 167 :: .int 92 0 :: .int 0 0 :: .ref 174 :: .int 129 0 :: .int 0 0 :: .ref 209 :: .int 148 0 :: .int 0 0 :: .ref 253 :: .int 152 0 :: .int 0 0 :: .ref 260 :: .int 160 0 :: .int 0 0 :: .ref 265 :: .int 167 0 :: .int 0 0 :: .ref 270 :: .int 175 0 :: .int 0 0 :: .ref 275 :: .int 189 0 :: .int 0 0 :: .ref 282 :: .int 208 0 :: .int 0 0 :: .ref 289 :: .int 219 0 :: .int 0 0 :: .ref 315 :: .int 228 0 :: .int 0 0 :: .ref 337 :: .int 230 0 :: .int 0 0 :: .ref 344 :: .int 232 0 :: .int 0 0 :: .ref 351 :: .int 242 0 :: .int 0 0 :: .ref 358 :: .int 244 0 :: .int 0 0 :: .ref 365 :: .int 251 0 :: .int 0 0 :: .ref 372 :: .int 253 0 :: .int 0 0 :: .ref 377 :: .int 255 0 :: .int 0 0 :: .ref 384 :: .int 261 0 :: .int 0 0 :: .ref 391 :: .int 263 0 :: .int 0 0 :: .ref 398 :: .int 274 0 :: .int 0 0 :: .ref 405 :: .int 284 0 :: .int 0 0 :: .ref 412 :: .int 291 0 :: .int 0 0 :: .ref 419 :: .int 293 0 :: .int 0 0 :: .ref 426 :: .int 295 0 :: .int 0 0 :: .ref 433 :: .int 297 0 :: .int 0 0 :: .ref 440 :: .int 310 0 :: .int 0 0 :: .ref 447 :: .int 312 0 :: .int 0 0 :: .ref 452 :: .int 318 0 :: .int 0 0 :: .ref 459 :: .int 326 0 :: .int 0 0 :: .ref 485 :: .int 328 0 :: .int 0 0 :: .ref 490 :: .int 332 0 :: .int 0 0 :: .ref 497 :: .int 337 0 :: .int 0 0 :: .ref 504 :: .int 342 0 :: .int 0 0 :: .ref 511 :: .int 354 0 :: .int 0 0 :: .ref 516 :: .int 370 0 :: .int 0 0 :: .ref 523 :: .int 385 0 :: .int 0 0 :: .ref 530 :: .int 390 0 :: .int 0 0 :: .ref 551 :: .int 400 0 :: .int 0 0 :: .ref 558 :: .int 402 0 :: .int 0 0 :: .ref 563 :: .int 405 0 :: .int 0 0 :: .ref 568 :: .int 408 0 :: .int 0 0 :: .ref 575 :: .int 417 0 :: .int 0 0 :: .ref 582 :: .int 434 0 :: .int 0 0 :: .ref 589 :: .int 439 0 :: .int 0 0 :: .ref 596 :: .int 447 0 :: .int 0 0 :: .ref 603 :: .int 458 0 :: .int 0 0 :: .ref 629 :: .int 470 0 :: .int 0 0 :: .ref 636 :: .int 477 0 :: .int 0 0 :: .ref 662 :: .int 484 0 :: .int 0 0 :: .ref 688 :: .int 491 0 :: .int 0 0 :: .ref 714 :: .int 497 0 :: .int 0 0 :: .ref 721 :: .int 511 0 :: .int 0 0 :: .ref 728 :: .int 519 0 :: .int 0 0 :: .ref 735 :: [])), #[]⟩
noncomputable def o_749 (P : Params) : Obj := ⟨.type "tuple", none, .seq #[] 0, #[]⟩
noncomputable def o_750 (P : Params) : Obj := ⟨.type "builtin_function_or_method", none, .fields #[.builtin "type.__prepare__", .type "type"], #[]⟩
noncomputable def o_751 (P : Params) : Obj := ⟨.type "dict", none, .dict #[en P "__module__" 1198 (.str (.ofString "joinedhand.single") 1119), en P "__qualname__" 1200 (.str (.ofString "Alternate") 1199), en P "__firstlineno__" 1202 (.int 484 1201), en P "__init__" 1210 (.ref 696), en P "told" 1216 (.ref 701), en P "__static_attributes__" 1218 (.ref 702)] 6, #[]⟩
noncomputable def o_752 (P : Params) : Obj := ⟨.type "tuple", none, .seq #[] 0, #[]⟩
noncomputable def o_753 (P : Params) : Obj := ⟨.none, none, .fields #[.int 486 0, .int 4 0, .ref 695, .int 489 0, .int 4 0, .ref 700], #[]⟩
noncomputable def o_754 (P : Params) : Obj := ⟨.type "code", none, .fields #[.str (.ofString "Alternate") 1193, .str (.ofString "Alternate") 1194, .str (.ofString "/claim/cut.py") 1195, .int 484 0, .int 0 0, .int 0 0, .int 0 0, .int 0 0, .ref 686, .bool false, .int 181 0, .ref 687, .none, .none, .none, .none, .int 1196 0, .int 484 0, .str (.ofString "/claim/cut.py") 1197], #[]⟩
noncomputable def o_755 (P : Params) : Obj := ⟨.type "frame", none, .plain, #[some (.ref 688), some (.ref 3), some (.ref 685), none, some (.str (.ofString "joinedhand.single") 1119), none, some (.ref 0)]⟩
noncomputable def o_756 (P : Params) : Obj := ⟨.type "tuple", none, .seq #[] 0, #[]⟩
noncomputable def o_757 (P : Params) : Obj := ⟨.none, none, .fields #[], #[]⟩
noncomputable def o_758 (P : Params) : Obj := ⟨.type "tuple", none, .seq #[.str (.ofString "self") 1206, .str (.ofString "mapping") 1207] 0, #[]⟩
noncomputable def o_759 (P : Params) : Obj := ⟨.type "tuple", none, .seq #[] 0, #[]⟩
noncomputable def o_760 (P : Params) : Obj := fnO (mp 79 0) .none none (.ofString "Alternate.__init__") 0 [] .none .none .none .none none .none .none 0 #[]
noncomputable def o_761 (P : Params) : Obj := ⟨.type "code", none, .fields #[.str (.ofString "__init__") 1203, .str (.ofString "Alternate.__init__") 1204, .str (.ofString "/claim/cut.py") 1205, .int 486 0, .int 2 0, .int 0 0, .int 0 0, .int 3 0, .ref 690, .bool true, .int 181 0, .ref 691, .none, .ref 692, .ref 693, .ref 694, .int 1208 0, .int 486 0, .str (.ofString "/claim/cut.py") 1209], #[]⟩
noncomputable def o_762 (P : Params) : Obj := fnO (mp 79 0) (.type "function") none (.ofString "Alternate.__init__") 3 [] .none .none .none (.str (.ofString "joinedhand.single") 1119) none (.ref 695) .none 0 #[]
noncomputable def o_763 (P : Params) : Obj := ⟨.type "tuple", none, .seq #[] 0, #[]⟩
noncomputable def o_764 (P : Params) : Obj := ⟨.none, none, .fields #[], #[]⟩
noncomputable def o_765 (P : Params) : Obj := fnO (mp 79 1) .none none (.ofString "Alternate.told") 0 [] .none .none .none .none none .none .none 0 #[]
noncomputable def o_766 (P : Params) : Obj := ⟨.type "code", none, .fields #[.str (.ofString "told") 1211, .str (.ofString "Alternate.told") 1212, .str (.ofString "/claim/cut.py") 1213, .int 489 0, .int 1 0, .int 0 0, .int 0 0, .int 3 0, .ref 697, .bool true, .int 181 0, .ref 698, .none, .none, .none, .ref 699, .int 1214 0, .int 489 0, .str (.ofString "/claim/cut.py") 1215], #[]⟩
noncomputable def o_767 (P : Params) : Obj := fnO (mp 79 1) (.type "function") none (.ofString "Alternate.told") 3 [] .none .none .none (.str (.ofString "joinedhand.single") 1119) none (.ref 700) .none 0 #[]
noncomputable def o_768 (P : Params) : Obj := ⟨.type "tuple", none, .seq #[.str (.ofString "mapping") 1217] 0, #[]⟩
noncomputable def o_769 (P : Params) : Obj := ⟨.type "dict", none, .dict #[en P "__module__" 1198 (.str (.ofString "joinedhand.single") 1119), en P "__firstlineno__" 1202 (.int 484 1201), en P "__init__" 1210 (.ref 696), en P "told" 1216 (.ref 701), en P "__static_attributes__" 1218 (.ref 702), en P "__dict__" 1220 (.ref 705), en P "__weakref__" 1222 (.ref 706), en P "__doc__" 1223 .none] 4, #[]⟩
noncomputable def o_770 (P : Params) : Obj := ⟨.type "type", none, .cls ⟨.ofString "Alternate", [.type "object"], [.ref 704, .type "object"], 703, .ofString "Alternate", true, [], [], false, none, false⟩, #[none, none, some (.str (.ofString "Alternate") 1191), some (.str (.ofString "Alternate") 1199), some (.builtin "object.__new__"), some (.bool true)]⟩
noncomputable def o_771 (P : Params) : Obj := ⟨.type "getset_descriptor", none, .fields #[.str (.ofString "__dict__") 1219, .ref 704, .builtin "function.__dict__", .builtin "function.__dict__#set"], #[]⟩
noncomputable def o_772 (P : Params) : Obj := ⟨.type "getset_descriptor", none, .fields #[.str (.ofString "__weakref__") 1221, .ref 704, .builtin "ExceptionGroup.__weakref__", .none], #[]⟩
noncomputable def o_773 (P : Params) : Obj := ⟨.type "super", none, .fields #[.ref 704, .ref 704, .ref 704], #[]⟩
noncomputable def o_774 (P : Params) : Obj := ⟨.type "builtin_function_or_method", none, .fields #[.builtin "object.__init_subclass__", .ref 704], #[]⟩
noncomputable def o_775 (P : Params) : Obj := ⟨.type "tuple", none, .seq #[] 0, #[]⟩
noncomputable def o_776 (P : Params) : Obj := ⟨.none, none, .fields #[], #[]⟩
noncomputable def o_777 (P : Params) : Obj := ⟨.type "tuple", none, .seq #[.str (.ofString "scene") 1229, .str (.ofString "table") 1230, .str (.ofString "at") 1231, .str (.ofString "info") 1232] 0, #[]⟩
noncomputable def o_778 (P : Params) : Obj := ⟨.type "tuple", none, .seq #[] 0, #[]⟩
noncomputable def o_779 (P : Params) : Obj := fnO (tp 80) .none none (.ofString "apply_single") 0 [] .none .none .none .none none .none .none 0 #[]
noncomputable def o_780 (P : Params) : Obj := ⟨.type "code", none, .fields #[.str (.ofString "apply_single") 1226, .str (.ofString "apply_single") 1227, .str (.ofString "/claim/cut.py") 1228, .int 491 0, .int 3 0, .int 0 0, .int 0 0, .int 3 0, .ref 709, .bool true, .int 181 0, .ref 710, .none, .ref 711, .ref 712, .ref 713, .int 1233 0, .int 491 0, .str (.ofString "/claim/cut.py") 1234], #[]⟩
noncomputable def o_781 (P : Params) : Obj := fnO (tp 80) (.type "function") none (.ofString "apply_single") 3 [] .none .none .none (.str (.ofString "joinedhand.single") 1119) none (.ref 714) .none 0 #[]
noncomputable def o_782 (P : Params) : Obj := ⟨.type "tuple", none, .seq #[] 0, #[]⟩
noncomputable def o_783 (P : Params) : Obj := ⟨.none, none, .fields #[], #[]⟩
noncomputable def o_784 (P : Params) : Obj := ⟨.type "tuple", none, .seq #[.str (.ofString "scene") 1239, .str (.ofString "table") 1240, .str (.ofString "at") 1241, .str (.ofString "info") 1242, .str (.ofString "pieces") 1243, .str (.ofString "is_bound") 1244, .str (.ofString "part") 1245] 0, #[]⟩
noncomputable def o_785 (P : Params) : Obj := ⟨.type "tuple", none, .seq #[] 0, #[]⟩
noncomputable def o_786 (P : Params) : Obj := fnO (tp 81) .none none (.ofString "apply_multiple") 0 [] .none .none .none .none none .none .none 0 #[]
noncomputable def o_787 (P : Params) : Obj := ⟨.type "code", none, .fields #[.str (.ofString "apply_multiple") 1236, .str (.ofString "apply_multiple") 1237, .str (.ofString "/claim/cut.py") 1238, .int 497 0, .int 3 0, .int 0 0, .int 0 0, .int 3 0, .ref 716, .bool true, .int 181 0, .ref 717, .none, .ref 718, .ref 719, .ref 720, .int 1246 0, .int 497 0, .str (.ofString "/claim/cut.py") 1247], #[]⟩
noncomputable def o_788 (P : Params) : Obj := fnO (tp 81) (.type "function") none (.ofString "apply_multiple") 3 [] .none .none .none (.str (.ofString "joinedhand.single") 1119) none (.ref 721) .none 0 #[]
noncomputable def o_789 (P : Params) : Obj := ⟨.type "tuple", none, .seq #[] 0, #[]⟩
noncomputable def o_790 (P : Params) : Obj := ⟨.none, none, .fields #[], #[]⟩
noncomputable def o_791 (P : Params) : Obj := ⟨.type "tuple", none, .seq #[.str (.ofString "mask") 1252, .str (.ofString "bits") 1253, .str (.ofString "choice") 1254] 0, #[]⟩
noncomputable def o_792 (P : Params) : Obj := ⟨.type "tuple", none, .seq #[] 0, #[]⟩
noncomputable def o_793 (P : Params) : Obj := fnO (tp 82) .none none (.ofString "choice_of") 0 [] .none .none .none .none none .none .none 0 #[]
noncomputable def o_794 (P : Params) : Obj := ⟨.type "code", none, .fields #[.str (.ofString "choice_of") 1249, .str (.ofString "choice_of") 1250, .str (.ofString "/claim/cut.py") 1251, .int 511 0, .int 2 0, .int 0 0, .int 0 0, .int 3 0, .ref 723, .bool true, .int 181 0, .ref 724, .none, .ref 725, .ref 726, .ref 727, .int 1255 0, .int 511 0, .str (.ofString "/claim/cut.py") 1256], #[]⟩
noncomputable def o_795 (P : Params) : Obj := fnO (tp 82) (.type "function") none (.ofString "choice_of") 3 [] .none .none .none (.str (.ofString "joinedhand.single") 1119) none (.ref 728) .none 0 #[]
noncomputable def o_796 (P : Params) : Obj := ⟨.type "tuple", none, .seq #[] 0, #[]⟩
noncomputable def o_797 (P : Params) : Obj := ⟨.none, none, .fields #[], #[]⟩
noncomputable def o_798 (P : Params) : Obj := ⟨.type "tuple", none, .seq #[.str (.ofString "scene") 1261, .str (.ofString "table") 1262, .str (.ofString "at") 1263, .str (.ofString "info") 1264, .str (.ofString "choices") 1265, .str (.ofString "choice") 1266] 0, #[]⟩
noncomputable def o_799 (P : Params) : Obj := ⟨.type "tuple", none, .seq #[] 0, #[]⟩
noncomputable def o_800 (P : Params) : Obj := fnO (tp 83) .none none (.ofString "apply_alternate") 0 [] .none .none .none .none none .none .none 0 #[]
noncomputable def o_801 (P : Params) : Obj := ⟨.type "code", none, .fields #[.str (.ofString "apply_alternate") 1258, .str (.ofString "apply_alternate") 1259, .str (.ofString "/claim/cut.py") 1260, .int 519 0, .int 3 0, .int 0 0, .int 0 0, .int 3 0, .ref 730, .bool true, .int 181 0, .ref 731, .none, .ref 732, .ref 733, .ref 734, .int 1267 0, .int 519 0, .str (.ofString "/claim/cut.py") 1268], #[]⟩
noncomputable def o_802 (P : Params) : Obj := fnO (tp 83) (.type "function") none (.ofString "apply_alternate") 3 [] .none .none .none (.str (.ofString "joinedhand.single") 1119) none (.ref 735) .none 0 #[]
noncomputable def o_803 (P : Params) : Obj := ⟨.type "dict", none, .dict (List.toArray (en P "__name__" 165 (.str (.ofString "joinedhand.classdefs") 1315) :: en P "__doc__" 166 .none :: en P "__package__" 167 .none :: en P "__loader__" 168 (.builtin "__main__.__loader__#opaque") :: en P "__spec__" 169 .none :: en P "__annotations__" 170 (.ref 6) :: en P "__builtins__" 171 (.ref 4) :: en P "__file__" 173 (.str (.ofString "/claim/cut.py") 172) :: en P "__cached__" 174 .none :: en P "_wall" 193 (.ref 21) :: en P "Coverage" 250 (.ref 59) :: en P "coverage_of" 259 (.ref 70) :: en P "BY_GLYPHS" 263 (.int 1 262) :: en P "BY_CLASSES" 265 (.int 2 264) :: en P "Rule" 314 (.ref 101) :: en P "Contexts" 374 (.ref 142) :: en P "told_row" 380 (.ref 151) :: en P "tests_of" 386 (.ref 156) :: en P "rule_tests" 398 (.ref 163) :: en P "rules_at" 404 (.ref 168) :: en P "Info" 466 (.ref 199) :: en P "Buffer" 523 (.ref 243) :: en P "set_cluster" 531 (.ref 254) :: en P "widened" 542 (.ref 261) :: en P "merge" 548 (.ref 266) :: en P "hang" 554 (.ref 271) :: en P "drop_cluster" 560 (.ref 276) :: en P "put" 574 (.ref 283) :: en P "IGNORE_BASES" 578 (.int 2 577) :: en P "IGNORE_LIGATURES" 580 (.int 4 579) :: en P "IGNORE_MARKS" 582 (.int 8 581) :: en P "USE_SET" 584 (.int 16 583) :: en P "Lookup" 625 (.ref 305) :: en P "Scene" 665 (.ref 327) :: en P "attach_wanted" 672 (.ref 338) :: en P "class_bit" 679 (.ref 345) :: en P "is_ignored" 690 (.ref 352) :: en P "passes" 698 (.ref 359) :: en P "nested_scene" 706 (.ref 366) :: en P "KINDS_IN_INPUT" 711 (.ref 367) :: en P "KINDS_AROUND" 715 (.ref 368) :: en P "glyph_tests" 721 (.ref 373) :: en P "cover_tests" 727 (.ref 378) :: en P "fits" 735 (.ref 385) :: en P "is_borne" 743 (.ref 392) :: en P "found_at" 757 (.ref 399) :: en P "input_at" 769 (.ref 406) :: en P "last_at" 781 (.ref 413) :: en P "ahead_at" 790 (.ref 420) :: en P "back_at" 799 (.ref 427) :: en P "is_piece" 806 (.ref 434) :: en P "hold_together" 817 (.ref 441) :: en P "BASE_ligature" 821 (.int 1 820) :: en P "MARK" 823 (.int 3 822) :: en P "begins_with" 831 (.ref 448) :: en P "live_rows" 837 (.ref 453) :: en P "Ligature" 872 (.ref 475) :: en P "part_count" 879 (.ref 486) :: en P "way_of" 885 (.ref 491) :: en P "tie" 896 (.ref 498) :: en P "tie_behind" 909 (.ref 505) :: en P "tie_all" 925 (.ref 512) :: en P "join" 931 (.ref 517) :: en P "apply_ligature" 945 (.ref 524) :: en P "MOST_DEPTH" 949 (.int 6 948) :: en P "MOST_PLACES" 951 (.int 64 950) :: en P "Places" 982 (.ref 541) :: en P "match_rule" 998 (.ref 552) :: en P "inner_scene" 1006 (.ref 559) :: en P "grow" 1012 (.ref 564) :: en P "shrink" 1018 (.ref 569) :: en P "move" 1027 (.ref 576) :: en P "do_action" 1042 (.ref 583) :: en P "do_actions" 1053 (.ref 590) :: en P "apply_context" 1065 (.ref 597) :: en P "Reverse" 1106 (.ref 619) :: en P "apply_reverse" 1118 (.ref 630) :: en P "Single" 1155 (.ref 652) :: en P "Multiple" 1190 (.ref 678) :: en P "Alternate" 1225 (.ref 704) :: en P "apply_single" 1235 (.ref 715) :: en P "apply_multiple" 1248 (.ref 722) :: en P "choice_of" 1257 (.ref 729) :: en P "apply_alternate" 1269 (.ref 736) :: en P "starts_of_context" 1277 (.ref 741) :: en P "starts_of" 1285 (.ref 748) :: en P "starters" 1294 (.ref 755) :: en P "apply_table" 1304 (.ref 762) :: en P "substitute_at" 1314 (.ref 769) :: [])) 89, #[]⟩
noncomputable def o_804 (P : Params) : Obj := ⟨.none, none, .fields (List.toArray (.int 1 0 :: .int 0 0 :: .ref 20 :: .int 5 0 :: .int 0 0 :: .ref 27 :: .int 28 0 :: .int 0 0 :: .ref 69 :: .int 36 0 :: .int 0 0 :: .ref 76 :: .int 49 0 :: .int 0 0 :: .ref 111 :: .int 73 0 :: .int 0 0 :: .ref 150 :: .int 75 0 :: .int 0 0 :: .ref 155 :: .int 79 0 :: .int 0 0 :: .ref 162 :: .int 83 0 :: .int 0 0 :: .ref 167 :: .int 92 0 :: .int 0 0 :: .ref 174 :: .int 129 0 :: .int 0 0 :: .ref 209 :: .int 148 0 :: .int 0 0 :: .ref 253 :: .int 152 0 :: .int 0 0 :: .ref 260 :: .int 160 0 :: .int 0 0 :: .ref 265 :: .int 167 0 :: .int 0 0 :: .ref 270 :: .int 175 0 :: .int 0 0 :: .ref 275 :: .int 189 0 :: .int 0 0 :: .ref 282 :: .int 208 0 :: .int 0 0 :: .ref 289 :: .int 219 0 :: .int 0 0 :: .ref 315 :: .int 228 0 :: .int 0 0 :: .ref 337 :: .int 230 0 :: .int 0 0 :: .ref 344 :: .int 232 0 :: .int 0 0 :: .ref 351 :: .int 242 0 :: .int 0 0 :: .ref 358 :: .int 244 0 :: .int 0 0 :: .ref 365 :: .int 251 0 :: .int 0 0 :: .ref 372 :: .int 253 0 :: .int 0 0 :: .ref 377 :: .int 255 0 :: .int 0 0 :: .ref 384 :: .int 261 0 :: .int 0 0 :: .ref 391 :: .int 263 0 :: .int 0 0 :: .ref 398 :: .int 274 0 :: .int 0 0 :: .ref 405 :: .int 284 0 :: .int 0 0 :: .ref 412 :: .int 291 0 :: .int 0 0 :: .ref 419 :: .int 293 0 :: .int 0 0 :: .ref 426 :: .int 295 0 :: .int 0 0 :: .ref 433 :: .int 297 0 :: .int 0 0 :: .ref 440 :: .int 310 0 :: .int 0 0 :: .ref 447 :: .int 312 0 :: .int 0 0 :: .ref 452 :: .int 318 0 :: .int 0 0 :: .ref 459 :: .int 326 0 :: .int 0 0 :: .ref 485 :: .int 328 0 :: .int 0 0 :: .ref 490 :: .int 332 0 :: .int 0 0 :: .ref 497 :: .int 337 0 :: .int 0 0 :: .ref 504 :: .int 342 0 :: .int 0 0 :: .ref 511 :: .int 354 0 :: .int 0 0 :: .ref 516 :: .int 370 0 :: .int 0 0 :: .ref 523 :: .int 385 0 :: .int 0 0 :: .ref 530 :: .int 390 0 :: .int 0 0 :: .ref 551 :: .int 400 0 :: .int 0 0 :: .ref 558 :: .int 402 0 :: .int 0 0 :: .ref 563 :: .int 405 0 :: .int 0 0 :: .ref 568 :: .int 408 0 :: .int 0 0 :: .ref 575 :: .int 417 0 :: .int 0 0 :: .ref 582 :: .int 434 0 :: .int 0 0 :: .ref 589 :: .int 439 0 :: .int 0 0 :: .ref 596 :: .int 447 0 :: .int 0 0 :: .ref 603 :: .int 458 0 :: .int 0 0 :: .ref 629 :: .int 470 0 :: .int 0 0 :: .ref 636 :: .int 477 0 :: .int 0 0 :: .ref 662 :: .int 484 0 :: .int 0 0 :: .ref 688 :: .int 491 0 :: .int 0 0 :: .ref 714 :: .int 497 0 :: .int 0 0 :: .ref 721 :: .int 511 0 :: .int 0 0 :: .ref 728 :: .int 519 0 :: .int 0 0 :: .ref 735 :: .int 528 0 :: .int 0 0 :: .ref 740 :: .int 533 0 :: .int 0 0 :: .ref 747 :: .int 539 0 :: .int 0 0 :: .ref 754 :: .int 544 0 :: .int 0 0 :: .ref 761 :: .int 556 0 :: .int 0 0 :: .ref 768 :: [])), #[]⟩
noncomputable def o_805 (P : Params) : Obj := ⟨.type "tuple", none, .seq #[] 0, #[]⟩
noncomputable def o_806 (P : Params) : Obj := ⟨.none, none, .fields #[], #[]⟩
noncomputable def o_807 (P : Params) : Obj := fnO (tp 85) .none none (.ofString "starts_of_context") 0 [] .none .none .none .none none .none .none 0 #[]
noncomputable def o_808 (P : Params) : Obj := ⟨.type "code", none, .fields #[.str (.ofString "starts_of_context") 1272, .str (.ofString "starts_of_context") 1273, .str (.ofString "/claim/cut.py") 1274, .int 528 0, .int 1 0, .int 0 0, .int 0 0, .int 3 0, .ref 737, .bool true, .int 181 0, .ref 738, .none, .none, .none, .ref 739, .int 1275 0, .int 528 0, .str (.ofString "/claim/cut.py") 1276], #[]⟩
noncomputable def o_809 (P : Params) : Obj := fnO (tp 85) (.type "function") none (.ofString "starts_of_context") 3 [] .none .none .none (.str (.ofString "joinedhand.gsub") 1270) none (.ref 740) .none 0 #[]
noncomputable def o_810 (P : Params) : Obj := ⟨.type "tuple", none, .seq #[] 0, #[]⟩
noncomputable def o_811 (P : Params) : Obj := ⟨.none, none, .fields #[], #[]⟩
noncomputable def o_812 (P : Params) : Obj := ⟨.type "tuple", none, .seq #[.str (.ofString "kind") 1281, .str (.ofString "table") 1282] 0, #[]⟩
noncomputable def o_813 (P : Params) : Obj := ⟨.type "tuple", none, .seq #[] 0, #[]⟩
noncomputable def o_814 (P : Params) : Obj := fnO (tp 86) .none none (.ofString "starts_of") 0 [] .none .none .none .none none .none .none 0 #[]
noncomputable def o_815 (P : Params) : Obj := ⟨.type "code", none, .fields #[.str (.ofString "starts_of") 1278, .str (.ofString "starts_of") 1279, .str (.ofString "/claim/cut.py") 1280, .int 533 0, .int 2 0, .int 0 0, .int 0 0, .int 3 0, .ref 742, .bool true, .int 181 0, .ref 743, .none, .ref 744, .ref 745, .ref 746, .int 1283 0, .int 533 0, .str (.ofString "/claim/cut.py") 1284], #[]⟩
noncomputable def o_816 (P : Params) : Obj := fnO (tp 86) (.type "function") none (.ofString "starts_of") 3 [] .none .none .none (.str (.ofString "joinedhand.gsub") 1270) none (.ref 747) .none 0 #[]
noncomputable def o_817 (P : Params) : Obj := ⟨.type "tuple", none, .seq #[] 0, #[]⟩
noncomputable def o_818 (P : Params) : Obj := ⟨.none, none, .fields #[], #[]⟩
noncomputable def o_819 (P : Params) : Obj := ⟨.type "tuple", none, .seq #[.str (.ofString "lookup") 1289, .str (.ofString "found") 1290, .str (.ofString "table") 1291] 0, #[]⟩
noncomputable def o_820 (P : Params) : Obj := ⟨.type "tuple", none, .seq #[] 0, #[]⟩
noncomputable def o_821 (P : Params) : Obj := fnO (tp 87) .none none (.ofString "starters") 0 [] .none .none .none .none none .none .none 0 #[]
noncomputable def o_822 (P : Params) : Obj := ⟨.type "code", none, .fields #[.str (.ofString "starters") 1286, .str (.ofString "starters") 1287, .str (.ofString "/claim/cut.py") 1288, .int 539 0, .int 1 0, .int 0 0, .int 0 0, .int 3 0, .ref 749, .bool true, .int 181 0, .ref 750, .none, .ref 751, .ref 752, .ref 753, .int 1292 0, .int 539 0, .str (.ofString "/claim/cut.py") 1293], #[]⟩
noncomputable def o_823 (P : Params) : Obj := fnO (tp 87) (.type "function") none (.ofString "starters") 3 [] .none .none .none (.str (.ofString "joinedhand.gsub") 1270) none (.ref 754) .none 0 #[]
noncomputable def o_824 (P : Params) : Obj := ⟨.type "tuple", none, .seq #[] 0, #[]⟩
noncomputable def o_825 (P : Params) : Obj := ⟨.none, none, .fields #[], #[]⟩
noncomputable def o_826 (P : Params) : Obj := ⟨.type "tuple", none, .seq #[.str (.ofString "scene") 1298, .str (.ofString "kind") 1299, .str (.ofString "table") 1300, .str (.ofString "at") 1301] 0, #[]⟩
noncomputable def o_827 (P : Params) : Obj := ⟨.type "tuple", none, .seq #[] 0, #[]⟩
noncomputable def o_828 (P : Params) : Obj := fnO (tp 88) .none none (.ofString "apply_table") 0 [] .none .none .none .none none .none .none 0 #[]
noncomputable def o_829 (P : Params) : Obj := ⟨.type "code", none, .fields #[.str (.ofString "apply_table") 1295, .str (.ofString "apply_table") 1296, .str (.ofString "/claim/cut.py") 1297, .int 544 0, .int 4 0, .int 0 0, .int 0 0, .int 3 0, .ref 756, .bool true, .int 181 0, .ref 757, .none, .ref 758, .ref 759, .ref 760, .int 1302 0, .int 544 0, .str (.ofString "/claim/cut.py") 1303], #[]⟩
noncomputable def o_830 (P : Params) : Obj := fnO (tp 88) (.type "function") none (.ofString "apply_table") 3 [] .none .none .none (.str (.ofString "joinedhand.gsub") 1270) none (.ref 761) .none 0 #[]
noncomputable def o_831 (P : Params) : Obj := ⟨.type "tuple", none, .seq #[] 0, #[]⟩
noncomputable def o_832 (P : Params) : Obj := ⟨.none, none, .fields #[], #[]⟩
noncomputable def o_833 (P : Params) : Obj := ⟨.type "tuple", none, .seq #[.str (.ofString "scene") 1308, .str (.ofString "at") 1309, .str (.ofString "table") 1310, .str (.ofString "found") 1311] 0, #[]⟩
noncomputable def o_834 (P : Params) : Obj := ⟨.type "tuple", none, .seq #[] 0, #[]⟩
noncomputable def o_835 (P : Params) : Obj := fnO (tp 89) .none none (.ofString "substitute_at") 0 [] .none .none .none .none none .none .none 0 #[]
noncomputable def o_836 (P : Params) : Obj := ⟨.type "code", none, .fields #[.str (.ofString "substitute_at") 1305, .str (.ofString "substitute_at") 1306, .str (.ofString "/claim/cut.py") 1307, .int 556 0, .int 2 0, .int 0 0, .int 0 0, .int 3 0, .ref 763, .bool true, .int 181 0, .ref 764, .none, .ref 765, .ref 766, .ref 767, .int 1312 0, .int 556 0, .str (.ofString "/claim/cut.py") 1313], #[]⟩
noncomputable def o_837 (P : Params) : Obj := fnO (tp 89) (.type "function") none (.ofString "substitute_at") 3 [] .none .none .none (.str (.ofString "joinedhand.gsub") 1270) none (.ref 768) .none 0 #[]
noncomputable def o_838 (P : Params) : Obj := ⟨.type "dict", none, .dict (List.toArray (en P "__name__" 165 (.str (.ofString "joinedhand.gdef") 1377) :: en P "__doc__" 166 .none :: en P "__package__" 167 .none :: en P "__loader__" 168 (.builtin "__main__.__loader__#opaque") :: en P "__spec__" 169 .none :: en P "__annotations__" 170 (.ref 6) :: en P "__builtins__" 171 (.ref 4) :: en P "__file__" 173 (.str (.ofString "/claim/cut.py") 172) :: en P "__cached__" 174 .none :: en P "_wall" 193 (.ref 21) :: en P "Coverage" 250 (.ref 59) :: en P "coverage_of" 259 (.ref 70) :: en P "BY_GLYPHS" 263 (.int 1 262) :: en P "BY_CLASSES" 265 (.int 2 264) :: en P "Rule" 314 (.ref 101) :: en P "Contexts" 374 (.ref 142) :: en P "told_row" 380 (.ref 151) :: en P "tests_of" 386 (.ref 156) :: en P "rule_tests" 398 (.ref 163) :: en P "rules_at" 404 (.ref 168) :: en P "Info" 466 (.ref 199) :: en P "Buffer" 523 (.ref 243) :: en P "set_cluster" 531 (.ref 254) :: en P "widened" 542 (.ref 261) :: en P "merge" 548 (.ref 266) :: en P "hang" 554 (.ref 271) :: en P "drop_cluster" 560 (.ref 276) :: en P "put" 574 (.ref 283) :: en P "IGNORE_BASES" 578 (.int 2 577) :: en P "IGNORE_LIGATURES" 580 (.int 4 579) :: en P "IGNORE_MARKS" 582 (.int 8 581) :: en P "USE_SET" 584 (.int 16 583) :: en P "Lookup" 625 (.ref 305) :: en P "Scene" 665 (.ref 327) :: en P "attach_wanted" 672 (.ref 338) :: en P "class_bit" 679 (.ref 345) :: en P "is_ignored" 690 (.ref 352) :: en P "passes" 698 (.ref 359) :: en P "nested_scene" 706 (.ref 366) :: en P "KINDS_IN_INPUT" 711 (.ref 367) :: en P "KINDS_AROUND" 715 (.ref 368) :: en P "glyph_tests" 721 (.ref 373) :: en P "cover_tests" 727 (.ref 378) :: en P "fits" 735 (.ref 385) :: en P "is_borne" 743 (.ref 392) :: en P "found_at" 757 (.ref 399) :: en P "input_at" 769 (.ref 406) :: en P "last_at" 781 (.ref 413) :: en P "ahead_at" 790 (.ref 420) :: en P "back_at" 799 (.ref 427) :: en P "is_piece" 806 (.ref 434) :: en P "hold_together" 817 (.ref 441) :: en P "BASE_ligature" 821 (.int 1 820) :: en P "MARK" 823 (.int 3 822) :: en P "begins_with" 831 (.ref 448) :: en P "live_rows" 837 (.ref 453) :: en P "Ligature" 872 (.ref 475) :: en P "part_count" 879 (.ref 486) :: en P "way_of" 885 (.ref 491) :: en P "tie" 896 (.ref 498) :: en P "tie_behind" 909 (.ref 505) :: en P "tie_all" 925 (.ref 512) :: en P "join" 931 (.ref 517) :: en P "apply_ligature" 945 (.ref 524) :: en P "MOST_DEPTH" 949 (.int 6 948) :: en P "MOST_PLACES" 951 (.int 64 950) :: en P "Places" 982 (.ref 541) :: en P "match_rule" 998 (.ref 552) :: en P "inner_scene" 1006 (.ref 559) :: en P "grow" 1012 (.ref 564) :: en P "shrink" 1018 (.ref 569) :: en P "move" 1027 (.ref 576) :: en P "do_action" 1042 (.ref 583) :: en P "do_actions" 1053 (.ref 590) :: en P "apply_context" 1065 (.ref 597) :: en P "Reverse" 1106 (.ref 619) :: en P "apply_reverse" 1118 (.ref 630) :: en P "Single" 1155 (.ref 652) :: en P "Multiple" 1190 (.ref 678) :: en P "Alternate" 1225 (.ref 704) :: en P "apply_single" 1235 (.ref 715) :: en P "apply_multiple" 1248 (.ref 722) :: en P "choice_of" 1257 (.ref 729) :: en P "apply_alternate" 1269 (.ref 736) :: en P "starts_of_context" 1277 (.ref 741) :: en P "starts_of" 1285 (.ref 748) :: en P "starters" 1294 (.ref 755) :: en P "apply_table" 1304 (.ref 762) :: en P "substitute_at" 1314 (.ref 769) :: en P "ClassDef" 1376 (.ref 812) :: en P "NO_CLASS" 1380 (.int 0 1379) :: en P "BASE_gdef" 1382 (.int 1 1381) :: en P "COMPONENT" 1384 (.int 4 1383) :: [])) 93, #[]⟩
noncomputable def o_839 (P : Params) : Obj := ⟨.none, none, .fields (List.toArray (.int 1 0 :: .int 0 0 :: .ref 20 :: .int 5 0 :: .int 0 0 :: .ref 27 :: .int 28 0 :: .int 0 0 :: .ref 69 :: .int 36 0 :: .int 0 0 :: .ref 76 :: .int 49 0 :: .int 0 0 :: .ref 111 :: .int 73 0 :: .int 0 0 :: .ref 150 :: .int 75 0 :: .int 0 0 :: .ref 155 :: .int 79 0 :: .int 0 0 :: .ref 162 :: .int 83 0 :: .int 0 0 :: .ref 167 :: .int 92 0 :: .int 0 0 :: .ref 174 :: .int 129 0 :: .int 0 0 :: .ref 209 :: .int 148 0 :: .int 0 0 :: .ref 253 :: .int 152 0 :: .int 0 0 :: .ref 260 :: .int 160 0 :: .int 0 0 :: .ref 265 :: .int 167 0 :: .int 0 0 :: .ref 270 :: .int 175 0 :: .int 0 0 :: .ref 275 :: .int 189 0 :: .int 0 0 :: .ref 282 :: .int 208 0 :: .int 0 0 :: .ref 289 :: .int 219 0 :: .int 0 0 :: .ref 315 :: .int 228 0 :: .int 0 0 :: .ref 337 :: .int 230 0 :: .int 0 0 :: .ref 344 :: .int 232 0 :: .int 0 0 :: .ref 351 :: .int 242 0 :: .int 0 0 :: .ref 358 :: .int 244 0 :: .int 0 0 :: .ref 365 :: .int 251 0 :: .int 0 0 :: .ref 372 :: .int 253 0 :: .int 0 0 :: .ref 377 :: .int 255 0 :: .int 0 0 :: .ref 384 :: .int 261 0 :: .int 0 0 :: .ref 391 :: .int 263 0 :: .int 0 0 :: .ref 398 :: .int 274 0 :: .int 0 0 :: .ref 405 :: .int 284 0 :: .int 0 0 :: .ref 412 :: .int 291 0 :: .int 0 0 :: .ref 419 :: .int 293 0 :: .int 0 0 :: .ref 426 :: .int 295 0 :: .int 0 0 :: .ref 433 :: .int 297 0 :: .int 0 0 :: .ref 440 :: .int 310 0 :: .int 0 0 :: .ref 447 :: .int 312 0 :: .int 0 0 :: .ref 452 :: .int 318 0 :: .int 0 0 :: .ref 459 :: .int 326 0 :: .int 0 0 :: .ref 485 :: .int 328 0 :: .int 0 0 :: .ref 490 :: .int 332 0 :: .int 0 0 :: .ref 497 :: .int 337 0 :: .int 0 0 :: .ref 504 :: .int 342 0 :: .int 0 0 :: .ref 511 :: .int 354 0 :: .int 0 0 :: .ref 516 :: .int 370 0 :: .int 0 0 :: .ref 523 :: .int 385 0 :: .int 0 0 :: .ref 530 :: .int 390 0 :: .int 0 0 :: .ref 551 :: .int 400 0 :: .int 0 0 :: .ref 558 :: .int 402 0 :: .int 0 0 :: .ref 563 :: .int 405 0 :: .int 0 0 :: .ref 568 :: .int 408 0 :: .int 0 0 :: .ref 575 :: .int 417 0 :: .int 0 0 :: .ref 582 :: .int 434 0 :: .int 0 0 :: .ref 589 :: .int 439 0 :: .int 0 0 :: .ref 596 :: .int 447 0 :: .int 0 0 :: .ref 603 :: .int 458 0 :: .int 0 0 :: .ref 629 :: .int 470 0 :: .int 0 0 :: .ref 636 :: .int 477 0 :: .int 0 0 :: .ref 662 :: .int 484 0 :: .int 0 0 :: .ref 688 :: .int 491 0 :: .int 0 0 :: .ref 714 :: .int 497 0 :: .int 0 0 :: .ref 721 :: .int 511 0 :: .int 0 0 :: .ref 728 :: .int 519 0 :: .int 0 0 :: .ref 735 :: .int 528 0 :: .int 0 0 :: .ref 740 :: .int 533 0 :: .int 0 0 :: .ref 747 :: .int 539 0 :: .int 0 0 :: .ref 754 :: .int 544 0 :: .int 0 0 :: .ref 761 :: .int 556 0 :: .int 0 0 :: .ref 768 :: .int 563 0 :: .int 0 0 :: .ref 775 :: [])), #[]⟩
noncomputable def o_840 (P : Params) : Obj := ⟨.type "tuple", none, .seq #[] 0, #[]⟩
noncomputable def o_841 (P : Params) : Obj := ⟨.type "builtin_function_or_method", none, .fields #[.builtin "type.__prepare__", .type "type"], #[]⟩
noncomputable def o_842 (P : Params) : Obj := ⟨.type "dict", none, .dict #[en P "__module__" 1324 (.str (.ofString "joinedhand.classdefs") 1315), en P "__qualname__" 1326 (.str (.ofString "ClassDef") 1325), en P "__firstlineno__" 1328 (.int 563 1327), en P "__init__" 1336 (.ref 783), en P "class_of" 1344 (.ref 790), en P "glyphs_of" 1352 (.ref 797), en P "count" 1361 (.ref 804), en P "told" 1367 (.ref 809), en P "__static_attributes__" 1369 (.ref 810)] 9, #[]⟩
noncomputable def o_843 (P : Params) : Obj := ⟨.type "tuple", none, .seq #[] 0, #[]⟩
noncomputable def o_844 (P : Params) : Obj := ⟨.none, none, .fields #[.int 565 0, .int 4 0, .ref 782, .int 568 0, .int 4 0, .ref 789, .int 571 0, .int 4 0, .ref 796, .int 574 0, .int 4 0, .ref 803, .int 580 0, .int 4 0, .ref 808], #[]⟩
noncomputable def o_845 (P : Params) : Obj := ⟨.type "code", none, .fields #[.str (.ofString "ClassDef") 1319, .str (.ofString "ClassDef") 1320, .str (.ofString "/claim/cut.py") 1321, .int 563 0, .int 0 0, .int 0 0, .int 0 0, .int 0 0, .ref 773, .bool false, .int 181 0, .ref 774, .none, .none, .none, .none, .int 1322 0, .int 563 0, .str (.ofString "/claim/cut.py") 1323], #[]⟩
noncomputable def o_846 (P : Params) : Obj := ⟨.type "frame", none, .plain, #[some (.ref 775), some (.ref 3), some (.ref 772), none, some (.str (.ofString "joinedhand.classdefs") 1315), none, some (.ref 0)]⟩
noncomputable def o_847 (P : Params) : Obj := ⟨.type "tuple", none, .seq #[] 0, #[]⟩
noncomputable def o_848 (P : Params) : Obj := ⟨.none, none, .fields #[], #[]⟩
noncomputable def o_849 (P : Params) : Obj := ⟨.type "tuple", none, .seq #[.str (.ofString "self") 1332, .str (.ofString "classes") 1333] 0, #[]⟩
noncomputable def o_850 (P : Params) : Obj := ⟨.type "tuple", none, .seq #[] 0, #[]⟩
noncomputable def o_851 (P : Params) : Obj := fnO (mp 91 0) .none none (.ofString "ClassDef.__init__") 0 [] .none .none .none .none none .none .none 0 #[]
noncomputable def o_852 (P : Params) : Obj := ⟨.type "code", none, .fields #[.str (.ofString "__init__") 1329, .str (.ofString "ClassDef.__init__") 1330, .str (.ofString "/claim/cut.py") 1331, .int 565 0, .int 2 0, .int 0 0, .int 0 0, .int 3 0, .ref 777, .bool true, .int 181 0, .ref 778, .none, .ref 779, .ref 780, .ref 781, .int 1334 0, .int 565 0, .str (.ofString "/claim/cut.py") 1335], #[]⟩
noncomputable def o_853 (P : Params) : Obj := fnO (mp 91 0) (.type "function") none (.ofString "ClassDef.__init__") 3 [] .none .none .none (.str (.ofString "joinedhand.classdefs") 1315) none (.ref 782) .none 0 #[]
noncomputable def o_854 (P : Params) : Obj := ⟨.type "tuple", none, .seq #[] 0, #[]⟩
noncomputable def o_855 (P : Params) : Obj := ⟨.none, none, .fields #[], #[]⟩
noncomputable def o_856 (P : Params) : Obj := ⟨.type "tuple", none, .seq #[.str (.ofString "self") 1340, .str (.ofString "glyph") 1341] 0, #[]⟩
noncomputable def o_857 (P : Params) : Obj := ⟨.type "tuple", none, .seq #[] 0, #[]⟩
noncomputable def o_858 (P : Params) : Obj := fnO (mp 91 1) .none none (.ofString "ClassDef.class_of") 0 [] .none .none .none .none none .none .none 0 #[]
noncomputable def o_859 (P : Params) : Obj := ⟨.type "code", none, .fields #[.str (.ofString "class_of") 1337, .str (.ofString "ClassDef.class_of") 1338, .str (.ofString "/claim/cut.py") 1339, .int 568 0, .int 2 0, .int 0 0, .int 0 0, .int 3 0, .ref 784, .bool true, .int 181 0, .ref 785, .none, .ref 786, .ref 787, .ref 788, .int 1342 0, .int 568 0, .str (.ofString "/claim/cut.py") 1343], #[]⟩
noncomputable def o_860 (P : Params) : Obj := fnO (mp 91 1) (.type "function") none (.ofString "ClassDef.class_of") 3 [] .none .none .none (.str (.ofString "joinedhand.classdefs") 1315) none (.ref 789) .none 0 #[]
noncomputable def o_861 (P : Params) : Obj := ⟨.type "tuple", none, .seq #[] 0, #[]⟩
noncomputable def o_862 (P : Params) : Obj := ⟨.none, none, .fields #[], #[]⟩
noncomputable def o_863 (P : Params) : Obj := ⟨.type "tuple", none, .seq #[.str (.ofString "self") 1348, .str (.ofString "number") 1349] 0, #[]⟩
noncomputable def o_864 (P : Params) : Obj := ⟨.type "tuple", none, .seq #[] 0, #[]⟩
noncomputable def o_865 (P : Params) : Obj := fnO (mp 91 2) .none none (.ofString "ClassDef.glyphs_of") 0 [] .none .none .none .none none .none .none 0 #[]
noncomputable def o_866 (P : Params) : Obj := ⟨.type "code", none, .fields #[.str (.ofString "glyphs_of") 1345, .str (.ofString "ClassDef.glyphs_of") 1346, .str (.ofString "/claim/cut.py") 1347, .int 571 0, .int 2 0, .int 0 0, .int 0 0, .int 3 0, .ref 791, .bool true, .int 181 0, .ref 792, .none, .ref 793, .ref 794, .ref 795, .int 1350 0, .int 571 0, .str (.ofString "/claim/cut.py") 1351], #[]⟩
noncomputable def o_867 (P : Params) : Obj := fnO (mp 91 2) (.type "function") none (.ofString "ClassDef.glyphs_of") 3 [] .none .none .none (.str (.ofString "joinedhand.classdefs") 1315) none (.ref 796) .none 0 #[]
noncomputable def o_868 (P : Params) : Obj := ⟨.type "tuple", none, .seq #[] 0, #[]⟩
noncomputable def o_869 (P : Params) : Obj := ⟨.none, none, .fields #[], #[]⟩
noncomputable def o_870 (P : Params) : Obj := ⟨.type "tuple", none, .seq #[.str (.ofString "self") 1356, .str (.ofString "most") 1357, .str (.ofString "glyph") 1358] 0, #[]⟩
noncomputable def o_871 (P : Params) : Obj := ⟨.type "tuple", none, .seq #[] 0, #[]⟩
noncomputable def o_872 (P : Params) : Obj := fnO (mp 91 3) .none none (.ofString "ClassDef.count") 0 [] .none .none .none .none none .none .none 0 #[]
noncomputable def o_873 (P : Params) : Obj := ⟨.type "code", none, .fields #[.str (.ofString "count") 1353, .str (.ofString "ClassDef.count") 1354, .str (.ofString "/claim/cut.py") 1355, .int 574 0, .int 1 0, .int 0 0, .int 0 0, .int 3 0, .ref 798, .bool true, .int 181 0, .ref 799, .none, .ref 800, .ref 801, .ref 802, .int 1359 0, .int 574 0, .str (.ofString "/claim/cut.py") 1360], #[]⟩
noncomputable def o_874 (P : Params) : Obj := fnO (mp 91 3) (.type "function") none (.ofString "ClassDef.count") 3 [] .none .none .none (.str (.ofString "joinedhand.classdefs") 1315) none (.ref 803) .none 0 #[]
noncomputable def o_875 (P : Params) : Obj := ⟨.type "tuple", none, .seq #[] 0, #[]⟩
noncomputable def o_876 (P : Params) : Obj := ⟨.none, none, .fields #[], #[]⟩
noncomputable def o_877 (P : Params) : Obj := fnO (mp 91 4) .none none (.ofString "ClassDef.told") 0 [] .none .none .none .none none .none .none 0 #[]
noncomputable def o_878 (P : Params) : Obj := ⟨.type "code", none, .fields #[.str (.ofString "told") 1362, .str (.ofString "ClassDef.told") 1363, .str (.ofString "/claim/cut.py") 1364, .int 580 0, .int 1 0, .int 0 0, .int 0 0, .int 3 0, .ref 805, .bool true, .int 181 0, .ref 806, .none, .none, .none, .ref 807, .int 1365 0, .int 580 0, .str (.ofString "/claim/cut.py") 1366], #[]⟩
noncomputable def o_879 (P : Params) : Obj := fnO (mp 91 4) (.type "function") none (.ofString "ClassDef.told") 3 [] .none .none .none (.str (.ofString "joinedhand.classdefs") 1315) none (.ref 808) .none 0 #[]
noncomputable def o_880 (P : Params) : Obj := ⟨.type "tuple", none, .seq #[.str (.ofString "classes") 1368] 0, #[]⟩
noncomputable def o_881 (P : Params) : Obj := ⟨.type "dict", none, .dict #[en P "__module__" 1324 (.str (.ofString "joinedhand.classdefs") 1315), en P "__firstlineno__" 1328 (.int 563 1327), en P "__init__" 1336 (.ref 783), en P "class_of" 1344 (.ref 790), en P "glyphs_of" 1352 (.ref 797), en P "count" 1361 (.ref 804), en P "told" 1367 (.ref 809), en P "__static_attributes__" 1369 (.ref 810), en P "__dict__" 1371 (.ref 813), en P "__weakref__" 1373 (.ref 814), en P "__doc__" 1374 .none] 4, #[]⟩
noncomputable def o_882 (P : Params) : Obj := ⟨.type "type", none, .cls ⟨.ofString "ClassDef", [.type "object"], [.ref 812, .type "object"], 811, .ofString "ClassDef", true, [], [], false, none, false⟩, #[none, none, some (.str (.ofString "ClassDef") 1317), some (.str (.ofString "ClassDef") 1325), some (.builtin "object.__new__"), some (.bool true)]⟩
noncomputable def o_883 (P : Params) : Obj := ⟨.type "getset_descriptor", none, .fields #[.str (.ofString "__dict__") 1370, .ref 812, .builtin "function.__dict__", .builtin "function.__dict__#set"], #[]⟩
noncomputable def o_884 (P : Params) : Obj := ⟨.type "getset_descriptor", none, .fields #[.str (.ofString "__weakref__") 1372, .ref 812, .builtin "ExceptionGroup.__weakref__", .none], #[]⟩
noncomputable def o_885 (P : Params) : Obj := ⟨.type "super", none, .fields #[.ref 812, .ref 812, .ref 812], #[]⟩
noncomputable def o_886 (P : Params) : Obj := ⟨.type "builtin_function_or_method", none, .fields #[.builtin "object.__init_subclass__", .ref 812], #[]⟩
noncomputable def o_887 (P : Params) : Obj := ⟨.type "dict", none, .dict (List.toArray (en P "__name__" 165 (.str (.ofString "law_nu0204_01") 1460) :: en P "__doc__" 166 .none :: en P "__package__" 167 .none :: en P "__loader__" 168 (.builtin "__main__.__loader__#opaque") :: en P "__spec__" 169 .none :: en P "__annotations__" 170 (.ref 6) :: en P "__builtins__" 171 (.ref 4) :: en P "__file__" 173 (.str (.ofString "/claim/cut.py") 172) :: en P "__cached__" 174 .none :: en P "_wall" 193 (.ref 21) :: en P "Coverage" 250 (.ref 59) :: en P "coverage_of" 259 (.ref 70) :: en P "BY_GLYPHS" 263 (.int 1 262) :: en P "BY_CLASSES" 265 (.int 2 264) :: en P "Rule" 314 (.ref 101) :: en P "Contexts" 374 (.ref 142) :: en P "told_row" 380 (.ref 151) :: en P "tests_of" 386 (.ref 156) :: en P "rule_tests" 398 (.ref 163) :: en P "rules_at" 404 (.ref 168) :: en P "Info" 466 (.ref 199) :: en P "Buffer" 523 (.ref 243) :: en P "set_cluster" 531 (.ref 254) :: en P "widened" 542 (.ref 261) :: en P "merge" 548 (.ref 266) :: en P "hang" 554 (.ref 271) :: en P "drop_cluster" 560 (.ref 276) :: en P "put" 574 (.ref 283) :: en P "IGNORE_BASES" 578 (.int 2 577) :: en P "IGNORE_LIGATURES" 580 (.int 4 579) :: en P "IGNORE_MARKS" 582 (.int 8 581) :: en P "USE_SET" 584 (.int 16 583) :: en P "Lookup" 625 (.ref 305) :: en P "Scene" 665 (.ref 327) :: en P "attach_wanted" 672 (.ref 338) :: en P "class_bit" 679 (.ref 345) :: en P "is_ignored" 690 (.ref 352) :: en P "passes" 698 (.ref 359) :: en P "nested_scene" 706 (.ref 366) :: en P "KINDS_IN_INPUT" 711 (.ref 367) :: en P "KINDS_AROUND" 715 (.ref 368) :: en P "glyph_tests" 721 (.ref 373) :: en P "cover_tests" 727 (.ref 378) :: en P "fits" 735 (.ref 385) :: en P "is_borne" 743 (.ref 392) :: en P "found_at" 757 (.ref 399) :: en P "input_at" 769 (.ref 406) :: en P "last_at" 781 (.ref 413) :: en P "ahead_at" 790 (.ref 420) :: en P "back_at" 799 (.ref 427) :: en P "is_piece" 806 (.ref 434) :: en P "hold_together" 817 (.ref 441) :: en P "BASE_ligature" 821 (.int 1 820) :: en P "MARK" 823 (.int 3 822) :: en P "begins_with" 831 (.ref 448) :: en P "live_rows" 837 (.ref 453) :: en P "Ligature" 872 (.ref 475) :: en P "part_count" 879 (.ref 486) :: en P "way_of" 885 (.ref 491) :: en P "tie" 896 (.ref 498) :: en P "tie_behind" 909 (.ref 505) :: en P "tie_all" 925 (.ref 512) :: en P "join" 931 (.ref 517) :: en P "apply_ligature" 945 (.ref 524) :: en P "MOST_DEPTH" 949 (.int 6 948) :: en P "MOST_PLACES" 951 (.int 64 950) :: en P "Places" 982 (.ref 541) :: en P "match_rule" 998 (.ref 552) :: en P "inner_scene" 1006 (.ref 559) :: en P "grow" 1012 (.ref 564) :: en P "shrink" 1018 (.ref 569) :: en P "move" 1027 (.ref 576) :: en P "do_action" 1042 (.ref 583) :: en P "do_actions" 1053 (.ref 590) :: en P "apply_context" 1065 (.ref 597) :: en P "Reverse" 1106 (.ref 619) :: en P "apply_reverse" 1118 (.ref 630) :: en P "Single" 1155 (.ref 652) :: en P "Multiple" 1190 (.ref 678) :: en P "Alternate" 1225 (.ref 704) :: en P "apply_single" 1235 (.ref 715) :: en P "apply_multiple" 1248 (.ref 722) :: en P "choice_of" 1257 (.ref 729) :: en P "apply_alternate" 1269 (.ref 736) :: en P "starts_of_context" 1277 (.ref 741) :: en P "starts_of" 1285 (.ref 748) :: en P "starters" 1294 (.ref 755) :: en P "apply_table" 1304 (.ref 762) :: en P "substitute_at" 1314 (.ref 769) :: en P "ClassDef" 1376 (.ref 812) :: en P "NO_CLASS" 1380 (.int 0 1379) :: en P "BASE_gdef" 1382 (.int 1 1381) :: en P "COMPONENT" 1384 (.int 4 1383) :: en P "Gdef" 1453 (.ref 860) :: en P "no_gdef" 1459 (.ref 871) :: [])) 95, #[]⟩
noncomputable def o_888 (P : Params) : Obj := ⟨.none, none, .fields (List.toArray (.int 1 0 :: .int 0 0 :: .ref 20 :: .int 5 0 :: .int 0 0 :: .ref 27 :: .int 28 0 :: .int 0 0 :: .ref 69 :: .int 36 0 :: .int 0 0 :: .ref 76 :: .int 49 0 :: .int 0 0 :: .ref 111 :: .int 73 0 :: .int 0 0 :: .ref 150 :: .int 75 0 :: .int 0 0 :: .ref 155 :: .int 79 0 :: .int 0 0 :: .ref 162 :: .int 83 0 :: .int 0 0 :: .ref 167 :: .int 92 0 :: .int 0 0 :: .ref 174 :: .int 129 0 :: .int 0 0 :: .ref 209 :: .int 148 0 :: .int 0 0 :: .ref 253 :: .int 152 0 :: .int 0 0 :: .ref 260 :: .int 160 0 :: .int 0 0 :: .ref 265 :: .int 167 0 :: .int 0 0 :: .ref 270 :: .int 175 0 :: .int 0 0 :: .ref 275 :: .int 189 0 :: .int 0 0 :: .ref 282 :: .int 208 0 :: .int 0 0 :: .ref 289 :: .int 219 0 :: .int 0 0 :: .ref 315 :: .int 228 0 :: .int 0 0 :: .ref 337 :: .int 230 0 :: .int 0 0 :: .ref 344 :: .int 232 0 :: .int 0 0 :: .ref 351 :: .int 242 0 :: .int 0 0 :: .ref 358 :: .int 244 0 :: .int 0 0 :: .ref 365 :: .int 251 0 :: .int 0 0 :: .ref 372 :: .int 253 0 :: .int 0 0 :: .ref 377 :: .int 255 0 :: .int 0 0 :: .ref 384 :: .int 261 0 :: .int 0 0 :: .ref 391 :: .int 263 0 :: .int 0 0 :: .ref 398 :: .int 274 0 :: .int 0 0 :: .ref 405 :: .int 284 0 :: .int 0 0 :: .ref 412 :: .int 291 0 :: .int 0 0 :: .ref 419 :: .int 293 0 :: .int 0 0 :: .ref 426 :: .int 295 0 :: .int 0 0 :: .ref 433 :: .int 297 0 :: .int 0 0 :: .ref 440 :: .int 310 0 :: .int 0 0 :: .ref 447 :: .int 312 0 :: .int 0 0 :: .ref 452 :: .int 318 0 :: .int 0 0 :: .ref 459 :: .int 326 0 :: .int 0 0 :: .ref 485 :: .int 328 0 :: .int 0 0 :: .ref 490 :: .int 332 0 :: .int 0 0 :: .ref 497 :: .int 337 0 :: .int 0 0 :: .ref 504 :: .int 342 0 :: .int 0 0 :: .ref 511 :: .int 354 0 :: .int 0 0 :: .ref 516 :: .int 370 0 :: .int 0 0 :: .ref 523 :: .int 385 0 :: .int 0 0 :: .ref 530 :: .int 390 0 :: .int 0 0 :: .ref 551 :: .int 400 0 :: .int 0 0 :: .ref 558 :: .int 402 0 :: .int 0 0 :: .ref 563 :: .int 405 0 :: .int 0 0 :: .ref 568 :: .int 408 0 :: .int 0 0 :: .ref 575 :: .int 417 0 :: .int 0 0 :: .ref 582 :: .int 434 0 :: .int 0 0 :: .ref 589 :: .int 439 0 :: .int 0 0 :: .ref 596 :: .int 447 0 :: .int 0 0 :: .ref 603 :: .int 458 0 :: .int 0 0 :: .ref 629 :: .int 470 0 :: .int 0 0 :: .ref 636 :: .int 477 0 :: .int 0 0 :: .ref 662 :: .int 484 0 :: .int 0 0 :: .ref 688 :: .int 491 0 :: .int 0 0 :: .ref 714 :: .int 497 0 :: .int 0 0 :: .ref 721 :: .int 511 0 :: .int 0 0 :: .ref 728 :: .int 519 0 :: .int 0 0 :: .ref 735 :: .int 528 0 :: .int 0 0 :: .ref 740 :: .int 533 0 :: .int 0 0 :: .ref 747 :: .int 539 0 :: .int 0 0 :: .ref 754 :: .int 544 0 :: .int 0 0 :: .ref 761 :: .int 556 0 :: .int 0 0 :: .ref 768 :: .int 563 0 :: .int 0 0 :: .ref 775 :: .int 586 0 :: .int 0 0 :: .ref 822 :: .int 609 0 :: .int 0 0 :: .ref 870 :: [])), #[]⟩
noncomputable def o_889 (P : Params) : Obj := ⟨.type "tuple", none, .seq #[] 0, #[]⟩
noncomputable def o_890 (P : Params) : Obj := ⟨.type "builtin_function_or_method", none, .fields #[.builtin "type.__prepare__", .type "type"], #[]⟩
noncomputable def o_891 (P : Params) : Obj := ⟨.type "dict", none, .dict #[en P "__module__" 1392 (.str (.ofString "joinedhand.gdef") 1377), en P "__qualname__" 1394 (.str (.ofString "Gdef") 1393), en P "__firstlineno__" 1396 (.int 586 1395), en P "__init__" 1408 (.ref 831), en P "glyph_class" 1417 (.ref 838), en P "attach_class" 1425 (.ref 845), en P "is_in_set" 1434 (.ref 852), en P "told" 1440 (.ref 857), en P "__static_attributes__" 1446 (.ref 858)] 9, #[]⟩
noncomputable def o_892 (P : Params) : Obj := ⟨.type "tuple", none, .seq #[] 0, #[]⟩
noncomputable def o_893 (P : Params) : Obj := ⟨.none, none, .fields #[.int 588 0, .int 4 0, .ref 830, .int 595 0, .int 4 0, .ref 837, .int 599 0, .int 4 0, .ref 844, .int 602 0, .int 4 0, .ref 851, .int 605 0, .int 4 0, .ref 856], #[]⟩
noncomputable def o_894 (P : Params) : Obj := ⟨.type "code", none, .fields #[.str (.ofString "Gdef") 1387, .str (.ofString "Gdef") 1388, .str (.ofString "/claim/cut.py") 1389, .int 586 0, .int 0 0, .int 0 0, .int 0 0, .int 0 0, .ref 820, .bool false, .int 181 0, .ref 821, .none, .none, .none, .none, .int 1390 0, .int 586 0, .str (.ofString "/claim/cut.py") 1391], #[]⟩
noncomputable def o_895 (P : Params) : Obj := ⟨.type "frame", none, .plain, #[some (.ref 822), some (.ref 3), some (.ref 819), none, some (.str (.ofString "joinedhand.gdef") 1377), none, some (.ref 0)]⟩
noncomputable def o_896 (P : Params) : Obj := ⟨.type "tuple", none, .seq #[.none, .none] 0, #[]⟩
noncomputable def o_897 (P : Params) : Obj := ⟨.type "tuple", none, .seq #[] 0, #[]⟩
noncomputable def o_898 (P : Params) : Obj := ⟨.none, none, .fields #[], #[]⟩
noncomputable def o_899 (P : Params) : Obj := ⟨.type "tuple", none, .seq #[.str (.ofString "self") 1400, .str (.ofString "classes") 1401, .str (.ofString "attach") 1402, .str (.ofString "sets") 1403, .str (.ofString "points") 1404, .str (.ofString "carets") 1405] 0, #[]⟩
noncomputable def o_900 (P : Params) : Obj := ⟨.type "tuple", none, .seq #[] 0, #[]⟩
noncomputable def o_901 (P : Params) : Obj := fnO (mp 96 0) .none none (.ofString "Gdef.__init__") 0 [] .none .none .none .none none .none .none 0 #[]
noncomputable def o_902 (P : Params) : Obj := ⟨.type "code", none, .fields #[.str (.ofString "__init__") 1397, .str (.ofString "Gdef.__init__") 1398, .str (.ofString "/claim/cut.py") 1399, .int 588 0, .int 6 0, .int 0 0, .int 0 0, .int 3 0, .ref 825, .bool true, .int 181 0, .ref 826, .none, .ref 827, .ref 828, .ref 829, .int 1406 0, .int 588 0, .str (.ofString "/claim/cut.py") 1407], #[]⟩
noncomputable def o_903 (P : Params) : Obj := fnO (mp 96 0) (.type "function") none (.ofString "Gdef.__init__") 3 [] (.ref 824) .none .none (.str (.ofString "joinedhand.gdef") 1377) none (.ref 830) .none 0 #[]
noncomputable def o_904 (P : Params) : Obj := ⟨.type "tuple", none, .seq #[] 0, #[]⟩
noncomputable def o_905 (P : Params) : Obj := ⟨.none, none, .fields #[], #[]⟩
noncomputable def o_906 (P : Params) : Obj := ⟨.type "tuple", none, .seq #[.str (.ofString "self") 1412, .str (.ofString "glyph") 1413, .str (.ofString "number") 1414] 0, #[]⟩
noncomputable def o_907 (P : Params) : Obj := ⟨.type "tuple", none, .seq #[] 0, #[]⟩
noncomputable def o_908 (P : Params) : Obj := fnO (mp 96 1) .none none (.ofString "Gdef.glyph_class") 0 [] .none .none .none .none none .none .none 0 #[]
noncomputable def o_909 (P : Params) : Obj := ⟨.type "code", none, .fields #[.str (.ofString "glyph_class") 1409, .str (.ofString "Gdef.glyph_class") 1410, .str (.ofString "/claim/cut.py") 1411, .int 595 0, .int 2 0, .int 0 0, .int 0 0, .int 3 0, .ref 832, .bool true, .int 181 0, .ref 833, .none, .ref 834, .ref 835, .ref 836, .int 1415 0, .int 595 0, .str (.ofString "/claim/cut.py") 1416], #[]⟩
noncomputable def o_910 (P : Params) : Obj := fnO (mp 96 1) (.type "function") none (.ofString "Gdef.glyph_class") 3 [] .none .none .none (.str (.ofString "joinedhand.gdef") 1377) none (.ref 837) .none 0 #[]
noncomputable def o_911 (P : Params) : Obj := ⟨.type "tuple", none, .seq #[] 0, #[]⟩
noncomputable def o_912 (P : Params) : Obj := ⟨.none, none, .fields #[], #[]⟩
noncomputable def o_913 (P : Params) : Obj := ⟨.type "tuple", none, .seq #[.str (.ofString "self") 1421, .str (.ofString "glyph") 1422] 0, #[]⟩
noncomputable def o_914 (P : Params) : Obj := ⟨.type "tuple", none, .seq #[] 0, #[]⟩
noncomputable def o_915 (P : Params) : Obj := fnO (mp 96 2) .none none (.ofString "Gdef.attach_class") 0 [] .none .none .none .none none .none .none 0 #[]
noncomputable def o_916 (P : Params) : Obj := ⟨.type "code", none, .fields #[.str (.ofString "attach_class") 1418, .str (.ofString "Gdef.attach_class") 1419, .str (.ofString "/claim/cut.py") 1420, .int 599 0, .int 2 0, .int 0 0, .int 0 0, .int 3 0, .ref 839, .bool true, .int 181 0, .ref 840, .none, .ref 841, .ref 842, .ref 843, .int 1423 0, .int 599 0, .str (.ofString "/claim/cut.py") 1424], #[]⟩
noncomputable def o_917 (P : Params) : Obj := fnO (mp 96 2) (.type "function") none (.ofString "Gdef.attach_class") 3 [] .none .none .none (.str (.ofString "joinedhand.gdef") 1377) none (.ref 844) .none 0 #[]
noncomputable def o_918 (P : Params) : Obj := ⟨.type "tuple", none, .seq #[] 0, #[]⟩
noncomputable def o_919 (P : Params) : Obj := ⟨.none, none, .fields #[], #[]⟩
noncomputable def o_920 (P : Params) : Obj := ⟨.type "tuple", none, .seq #[.str (.ofString "self") 1429, .str (.ofString "number") 1430, .str (.ofString "glyph") 1431] 0, #[]⟩
noncomputable def o_921 (P : Params) : Obj := ⟨.type "tuple", none, .seq #[] 0, #[]⟩
noncomputable def o_922 (P : Params) : Obj := fnO (mp 96 3) .none none (.ofString "Gdef.is_in_set") 0 [] .none .none .none .none none .none .none 0 #[]
noncomputable def o_923 (P : Params) : Obj := ⟨.type "code", none, .fields #[.str (.ofString "is_in_set") 1426, .str (.ofString "Gdef.is_in_set") 1427, .str (.ofString "/claim/cut.py") 1428, .int 602 0, .int 3 0, .int 0 0, .int 0 0, .int 3 0, .ref 846, .bool true, .int 181 0, .ref 847, .none, .ref 848, .ref 849, .ref 850, .int 1432 0, .int 602 0, .str (.ofString "/claim/cut.py") 1433], #[]⟩
noncomputable def o_924 (P : Params) : Obj := fnO (mp 96 3) (.type "function") none (.ofString "Gdef.is_in_set") 3 [] .none .none .none (.str (.ofString "joinedhand.gdef") 1377) none (.ref 851) .none 0 #[]
noncomputable def o_925 (P : Params) : Obj := ⟨.type "tuple", none, .seq #[] 0, #[]⟩
noncomputable def o_926 (P : Params) : Obj := ⟨.none, none, .fields #[], #[]⟩
noncomputable def o_927 (P : Params) : Obj := fnO (mp 96 4) .none none (.ofString "Gdef.told") 0 [] .none .none .none .none none .none .none 0 #[]
noncomputable def o_928 (P : Params) : Obj := ⟨.type "code", none, .fields #[.str (.ofString "told") 1435, .str (.ofString "Gdef.told") 1436, .str (.ofString "/claim/cut.py") 1437, .int 605 0, .int 1 0, .int 0 0, .int 0 0, .int 3 0, .ref 853, .bool true, .int 181 0, .ref 854, .none, .none, .none, .ref 855, .int 1438 0, .int 605 0, .str (.ofString "/claim/cut.py") 1439], #[]⟩
noncomputable def o_929 (P : Params) : Obj := fnO (mp 96 4) (.type "function") none (.ofString "Gdef.told") 3 [] .none .none .none (.str (.ofString "joinedhand.gdef") 1377) none (.ref 856) .none 0 #[]
noncomputable def o_930 (P : Params) : Obj := ⟨.type "tuple", none, .seq #[.str (.ofString "attach") 1441, .str (.ofString "carets") 1442, .str (.ofString "classes") 1443, .str (.ofString "points") 1444, .str (.ofString "sets") 1445] 0, #[]⟩
noncomputable def o_931 (P : Params) : Obj := ⟨.type "dict", none, .dict #[en P "__module__" 1392 (.str (.ofString "joinedhand.gdef") 1377), en P "__firstlineno__" 1396 (.int 586 1395), en P "__init__" 1408 (.ref 831), en P "glyph_class" 1417 (.ref 838), en P "attach_class" 1425 (.ref 845), en P "is_in_set" 1434 (.ref 852), en P "told" 1440 (.ref 857), en P "__static_attributes__" 1446 (.ref 858), en P "__dict__" 1448 (.ref 861), en P "__weakref__" 1450 (.ref 862), en P "__doc__" 1451 .none] 4, #[]⟩
noncomputable def o_932 (P : Params) : Obj := ⟨.type "type", none, .cls ⟨.ofString "Gdef", [.type "object"], [.ref 860, .type "object"], 859, .ofString "Gdef", true, [], [], false, none, false⟩, #[none, none, some (.str (.ofString "Gdef") 1385), some (.str (.ofString "Gdef") 1393), some (.builtin "object.__new__"), some (.bool true)]⟩
noncomputable def o_933 (P : Params) : Obj := ⟨.type "getset_descriptor", none, .fields #[.str (.ofString "__dict__") 1447, .ref 860, .builtin "function.__dict__", .builtin "function.__dict__#set"], #[]⟩
noncomputable def o_934 (P : Params) : Obj := ⟨.type "getset_descriptor", none, .fields #[.str (.ofString "__weakref__") 1449, .ref 860, .builtin "ExceptionGroup.__weakref__", .none], #[]⟩
noncomputable def o_935 (P : Params) : Obj := ⟨.type "super", none, .fields #[.ref 860, .ref 860, .ref 860], #[]⟩
noncomputable def o_936 (P : Params) : Obj := ⟨.type "builtin_function_or_method", none, .fields #[.builtin "object.__init_subclass__", .ref 860], #[]⟩
noncomputable def o_937 (P : Params) : Obj := ⟨.type "tuple", none, .seq #[] 0, #[]⟩
noncomputable def o_938 (P : Params) : Obj := ⟨.none, none, .fields #[], #[]⟩
noncomputable def o_939 (P : Params) : Obj := ⟨.type "tuple", none, .seq #[] 0, #[]⟩
noncomputable def o_940 (P : Params) : Obj := ⟨.type "tuple", none, .seq #[] 0, #[]⟩
noncomputable def o_941 (P : Params) : Obj := fnO (tp 97) .none none (.ofString "no_gdef") 0 [] .none .none .none .none none .none .none 0 #[]
noncomputable def o_942 (P : Params) : Obj := ⟨.type "code", none, .fields #[.str (.ofString "no_gdef") 1454, .str (.ofString "no_gdef") 1455, .str (.ofString "/claim/cut.py") 1456, .int 609 0, .int 0 0, .int 0 0, .int 0 0, .int 3 0, .ref 865, .bool true, .int 181 0, .ref 866, .none, .ref 867, .ref 868, .ref 869, .int 1457 0, .int 609 0, .str (.ofString "/claim/cut.py") 1458], #[]⟩
noncomputable def o_943 (P : Params) : Obj := fnO (tp 97) (.type "function") none (.ofString "no_gdef") 3 [] .none .none .none (.str (.ofString "joinedhand.gdef") 1377) none (.ref 870) .none 0 #[]
noncomputable def o_944 (P : Params) : Obj := ⟨.type "dict", none, .dict (List.toArray (en P "__name__" 165 (.str (.ofString "law_nu0204_01") 1460) :: en P "__doc__" 166 .none :: en P "__package__" 167 .none :: en P "__loader__" 168 (.builtin "__main__.__loader__#opaque") :: en P "__spec__" 169 .none :: en P "__annotations__" 170 (.ref 6) :: en P "__builtins__" 171 (.ref 4) :: en P "__file__" 173 (.str (.ofString "/claim/cut.py") 172) :: en P "__cached__" 174 .none :: en P "_wall" 193 (.ref 21) :: en P "Coverage" 250 (.ref 59) :: en P "coverage_of" 259 (.ref 70) :: en P "BY_GLYPHS" 263 (.int 1 262) :: en P "BY_CLASSES" 265 (.int 2 264) :: en P "Rule" 314 (.ref 101) :: en P "Contexts" 374 (.ref 142) :: en P "told_row" 380 (.ref 151) :: en P "tests_of" 386 (.ref 156) :: en P "rule_tests" 398 (.ref 163) :: en P "rules_at" 404 (.ref 168) :: en P "Info" 466 (.ref 199) :: en P "Buffer" 523 (.ref 243) :: en P "set_cluster" 531 (.ref 254) :: en P "widened" 542 (.ref 261) :: en P "merge" 548 (.ref 266) :: en P "hang" 554 (.ref 271) :: en P "drop_cluster" 560 (.ref 276) :: en P "put" 574 (.ref 283) :: en P "IGNORE_BASES" 578 (.int 2 577) :: en P "IGNORE_LIGATURES" 580 (.int 4 579) :: en P "IGNORE_MARKS" 582 (.int 8 581) :: en P "USE_SET" 584 (.int 16 583) :: en P "Lookup" 625 (.ref 305) :: en P "Scene" 665 (.ref 327) :: en P "attach_wanted" 672 (.ref 338) :: en P "class_bit" 679 (.ref 345) :: en P "is_ignored" 690 (.ref 352) :: en P "passes" 698 (.ref 359) :: en P "nested_scene" 706 (.ref 366) :: en P "KINDS_IN_INPUT" 711 (.ref 367) :: en P "KINDS_AROUND" 715 (.ref 368) :: en P "glyph_tests" 721 (.ref 373) :: en P "cover_tests" 727 (.ref 378) :: en P "fits" 735 (.ref 385) :: en P "is_borne" 743 (.ref 392) :: en P "found_at" 757 (.ref 399) :: en P "input_at" 769 (.ref 406) :: en P "last_at" 781 (.ref 413) :: en P "ahead_at" 790 (.ref 420) :: en P "back_at" 799 (.ref 427) :: en P "is_piece" 806 (.ref 434) :: en P "hold_together" 817 (.ref 441) :: en P "BASE_ligature" 821 (.int 1 820) :: en P "MARK" 823 (.int 3 822) :: en P "begins_with" 831 (.ref 448) :: en P "live_rows" 837 (.ref 453) :: en P "Ligature" 872 (.ref 475) :: en P "part_count" 879 (.ref 486) :: en P "way_of" 885 (.ref 491) :: en P "tie" 896 (.ref 498) :: en P "tie_behind" 909 (.ref 505) :: en P "tie_all" 925 (.ref 512) :: en P "join" 931 (.ref 517) :: en P "apply_ligature" 945 (.ref 524) :: en P "MOST_DEPTH" 949 (.int 6 948) :: en P "MOST_PLACES" 951 (.int 64 950) :: en P "Places" 982 (.ref 541) :: en P "match_rule" 998 (.ref 552) :: en P "inner_scene" 1006 (.ref 559) :: en P "grow" 1012 (.ref 564) :: en P "shrink" 1018 (.ref 569) :: en P "move" 1027 (.ref 576) :: en P "do_action" 1042 (.ref 583) :: en P "do_actions" 1053 (.ref 590) :: en P "apply_context" 1065 (.ref 597) :: en P "Reverse" 1106 (.ref 619) :: en P "apply_reverse" 1118 (.ref 630) :: en P "Single" 1155 (.ref 652) :: en P "Multiple" 1190 (.ref 678) :: en P "Alternate" 1225 (.ref 704) :: en P "apply_single" 1235 (.ref 715) :: en P "apply_multiple" 1248 (.ref 722) :: en P "choice_of" 1257 (.ref 729) :: en P "apply_alternate" 1269 (.ref 736) :: en P "starts_of_context" 1277 (.ref 741) :: en P "starts_of" 1285 (.ref 748) :: en P "starters" 1294 (.ref 755) :: en P "apply_table" 1304 (.ref 762) :: en P "substitute_at" 1314 (.ref 769) :: en P "ClassDef" 1376 (.ref 812) :: en P "NO_CLASS" 1380 (.int 0 1379) :: en P "BASE_gdef" 1382 (.int 1 1381) :: en P "COMPONENT" 1384 (.int 4 1383) :: en P "Gdef" 1453 (.ref 860) :: en P "no_gdef" 1459 (.ref 871) :: en P "_law_KINDS" 1470 (.ref 872) :: en P "_law_taker" 1480 (.ref 879) :: en P "_law_glyphs" 1486 (.ref 884) :: en P "_law_rule" 1492 (.ref 889) :: en P "_law_context" 1498 (.ref 894) :: en P "_law_table" 1504 (.ref 899) :: en P "law" 1510 (.ref 904) :: [])) 102, #[]⟩
noncomputable def o_945 (P : Params) : Obj := ⟨.none, none, .fields (List.toArray (.int 1 0 :: .int 0 0 :: .ref 20 :: .int 5 0 :: .int 0 0 :: .ref 27 :: .int 28 0 :: .int 0 0 :: .ref 69 :: .int 36 0 :: .int 0 0 :: .ref 76 :: .int 49 0 :: .int 0 0 :: .ref 111 :: .int 73 0 :: .int 0 0 :: .ref 150 :: .int 75 0 :: .int 0 0 :: .ref 155 :: .int 79 0 :: .int 0 0 :: .ref 162 :: .int 83 0 :: .int 0 0 :: .ref 167 :: .int 92 0 :: .int 0 0 :: .ref 174 :: .int 129 0 :: .int 0 0 :: .ref 209 :: .int 148 0 :: .int 0 0 :: .ref 253 :: .int 152 0 :: .int 0 0 :: .ref 260 :: .int 160 0 :: .int 0 0 :: .ref 265 :: .int 167 0 :: .int 0 0 :: .ref 270 :: .int 175 0 :: .int 0 0 :: .ref 275 :: .int 189 0 :: .int 0 0 :: .ref 282 :: .int 208 0 :: .int 0 0 :: .ref 289 :: .int 219 0 :: .int 0 0 :: .ref 315 :: .int 228 0 :: .int 0 0 :: .ref 337 :: .int 230 0 :: .int 0 0 :: .ref 344 :: .int 232 0 :: .int 0 0 :: .ref 351 :: .int 242 0 :: .int 0 0 :: .ref 358 :: .int 244 0 :: .int 0 0 :: .ref 365 :: .int 251 0 :: .int 0 0 :: .ref 372 :: .int 253 0 :: .int 0 0 :: .ref 377 :: .int 255 0 :: .int 0 0 :: .ref 384 :: .int 261 0 :: .int 0 0 :: .ref 391 :: .int 263 0 :: .int 0 0 :: .ref 398 :: .int 274 0 :: .int 0 0 :: .ref 405 :: .int 284 0 :: .int 0 0 :: .ref 412 :: .int 291 0 :: .int 0 0 :: .ref 419 :: .int 293 0 :: .int 0 0 :: .ref 426 :: .int 295 0 :: .int 0 0 :: .ref 433 :: .int 297 0 :: .int 0 0 :: .ref 440 :: .int 310 0 :: .int 0 0 :: .ref 447 :: .int 312 0 :: .int 0 0 :: .ref 452 :: .int 318 0 :: .int 0 0 :: .ref 459 :: .int 326 0 :: .int 0 0 :: .ref 485 :: .int 328 0 :: .int 0 0 :: .ref 490 :: .int 332 0 :: .int 0 0 :: .ref 497 :: .int 337 0 :: .int 0 0 :: .ref 504 :: .int 342 0 :: .int 0 0 :: .ref 511 :: .int 354 0 :: .int 0 0 :: .ref 516 :: .int 370 0 :: .int 0 0 :: .ref 523 :: .int 385 0 :: .int 0 0 :: .ref 530 :: .int 390 0 :: .int 0 0 :: .ref 551 :: .int 400 0 :: .int 0 0 :: .ref 558 :: .int 402 0 :: .int 0 0 :: .ref 563 :: .int 405 0 :: .int 0 0 :: .ref 568 :: .int 408 0 :: .int 0 0 :: .ref 575 :: .int 417 0 :: .int 0 0 :: .ref 582 :: .int 434 0 :: .int 0 0 :: .ref 589 :: .int 439 0 :: .int 0 0 :: .ref 596 :: .int 447 0 :: .int 0 0 :: .ref 603 :: .int 458 0 :: .int 0 0 :: .ref 629 :: .int 470 0 :: .int 0 0 :: .ref 636 :: .int 477 0 :: .int 0 0 :: .ref 662 :: .int 484 0 :: .int 0 0 :: .ref 688 :: .int 491 0 :: .int 0 0 :: .ref 714 :: .int 497 0 :: .int 0 0 :: .ref 721 :: .int 511 0 :: .int 0 0 :: .ref 728 :: .int 519 0 :: .int 0 0 :: .ref 735 :: .int 528 0 :: .int 0 0 :: .ref 740 :: .int 533 0 :: .int 0 0 :: .ref 747 :: .int 539 0 :: .int 0 0 :: .ref 754 :: .int 544 0 :: .int 0 0 :: .ref 761 :: .int 556 0 :: .int 0 0 :: .ref 768 :: .int 563 0 :: .int 0 0 :: .ref 775 :: .int 586 0 :: .int 0 0 :: .ref 822 :: .int 609 0 :: .int 0 0 :: .ref 870 :: .int 613 0 :: .int 0 0 :: .ref 878 :: .int 625 0 :: .int 0 0 :: .ref 883 :: .int 627 0 :: .int 0 0 :: .ref 888 :: .int 629 0 :: .int 0 0 :: .ref 893 :: .int 644 0 :: .int 0 0 :: .ref 898 :: .int 656 0 :: .int 0 0 :: .ref 903 :: [])), #[]⟩
noncomputable def o_946 (P : Params) : Obj := ⟨.type "tuple", none, .seq #[.str (.ofString "single") 1462, .str (.ofString "multiple") 1463, .str (.ofString "alternate") 1464, .str (.ofString "ligature") 1465, .str (.ofString "glyphs") 1466, .str (.ofString "classes") 1467, .str (.ofString "covers") 1468, .str (.ofString "reverse") 1469] 0, #[]⟩
noncomputable def o_947 (P : Params) : Obj := ⟨.type "tuple", none, .seq #[] 0, #[]⟩
noncomputable def o_948 (P : Params) : Obj := ⟨.none, none, .fields #[], #[]⟩
noncomputable def o_949 (P : Params) : Obj := ⟨.type "tuple", none, .seq #[.str (.ofString "script") 1474, .str (.ofString "take") 1475] 0, #[]⟩
noncomputable def o_950 (P : Params) : Obj := ⟨.type "tuple", none, .seq #[.str (.ofString "cells") 1476, .str (.ofString "place") 1477] 0, #[]⟩
noncomputable def o_951 (P : Params) : Obj := fnO (tp 100) .none none (.ofString "_law_taker") 0 [] .none .none .none .none none .none .none 0 #[]
noncomputable def o_952 (P : Params) : Obj := ⟨.type "code", none, .fields #[.str (.ofString "_law_taker") 1471, .str (.ofString "_law_taker") 1472, .str (.ofString "/claim/cut.py") 1473, .int 613 0, .int 1 0, .int 0 0, .int 0 0, .int 3 0, .ref 873, .bool true, .int 181 0, .ref 874, .none, .ref 875, .ref 876, .ref 877, .int 1478 0, .int 613 0, .str (.ofString "/claim/cut.py") 1479], #[]⟩
noncomputable def o_953 (P : Params) : Obj := fnO (tp 100) (.type "function") none (.ofString "_law_taker") 3 [] .none .none .none (.str (.ofString "law_nu0204_01") 1460) none (.ref 878) .none 0 #[]
noncomputable def o_954 (P : Params) : Obj := ⟨.type "tuple", none, .seq #[] 0, #[]⟩
noncomputable def o_955 (P : Params) : Obj := ⟨.none, none, .fields #[], #[]⟩
noncomputable def o_956 (P : Params) : Obj := fnO (tp 101) .none none (.ofString "_law_glyphs") 0 [] .none .none .none .none none .none .none 0 #[]
noncomputable def o_957 (P : Params) : Obj := ⟨.type "code", none, .fields #[.str (.ofString "_law_glyphs") 1481, .str (.ofString "_law_glyphs") 1482, .str (.ofString "/claim/cut.py") 1483, .int 625 0, .int 2 0, .int 0 0, .int 0 0, .int 3 0, .ref 880, .bool true, .int 181 0, .ref 881, .none, .none, .none, .ref 882, .int 1484 0, .int 625 0, .str (.ofString "/claim/cut.py") 1485], #[]⟩
noncomputable def o_958 (P : Params) : Obj := fnO (tp 101) (.type "function") none (.ofString "_law_glyphs") 3 [] .none .none .none (.str (.ofString "law_nu0204_01") 1460) none (.ref 883) .none 0 #[]
noncomputable def o_959 (P : Params) : Obj := ⟨.type "tuple", none, .seq #[] 0, #[]⟩
noncomputable def o_960 (P : Params) : Obj := ⟨.none, none, .fields #[], #[]⟩
noncomputable def o_961 (P : Params) : Obj := fnO (tp 102) .none none (.ofString "_law_rule") 0 [] .none .none .none .none none .none .none 0 #[]
noncomputable def o_962 (P : Params) : Obj := ⟨.type "code", none, .fields #[.str (.ofString "_law_rule") 1487, .str (.ofString "_law_rule") 1488, .str (.ofString "/claim/cut.py") 1489, .int 627 0, .int 3 0, .int 0 0, .int 0 0, .int 3 0, .ref 885, .bool true, .int 181 0, .ref 886, .none, .none, .none, .ref 887, .int 1490 0, .int 627 0, .str (.ofString "/claim/cut.py") 1491], #[]⟩
noncomputable def o_963 (P : Params) : Obj := fnO (tp 102) (.type "function") none (.ofString "_law_rule") 3 [] .none .none .none (.str (.ofString "law_nu0204_01") 1460) none (.ref 888) .none 0 #[]
noncomputable def o_964 (P : Params) : Obj := ⟨.type "tuple", none, .seq #[] 0, #[]⟩
noncomputable def o_965 (P : Params) : Obj := ⟨.none, none, .fields #[], #[]⟩
noncomputable def o_966 (P : Params) : Obj := fnO (tp 103) .none none (.ofString "_law_context") 0 [] .none .none .none .none none .none .none 0 #[]
noncomputable def o_967 (P : Params) : Obj := ⟨.type "code", none, .fields #[.str (.ofString "_law_context") 1493, .str (.ofString "_law_context") 1494, .str (.ofString "/claim/cut.py") 1495, .int 629 0, .int 2 0, .int 0 0, .int 0 0, .int 3 0, .ref 890, .bool true, .int 181 0, .ref 891, .none, .none, .none, .ref 892, .int 1496 0, .int 629 0, .str (.ofString "/claim/cut.py") 1497], #[]⟩
noncomputable def o_968 (P : Params) : Obj := fnO (tp 103) (.type "function") none (.ofString "_law_context") 3 [] .none .none .none (.str (.ofString "law_nu0204_01") 1460) none (.ref 893) .none 0 #[]
noncomputable def o_969 (P : Params) : Obj := ⟨.type "tuple", none, .seq #[] 0, #[]⟩
noncomputable def o_970 (P : Params) : Obj := ⟨.none, none, .fields #[], #[]⟩
noncomputable def o_971 (P : Params) : Obj := fnO (tp 104) .none none (.ofString "_law_table") 0 [] .none .none .none .none none .none .none 0 #[]
noncomputable def o_972 (P : Params) : Obj := ⟨.type "code", none, .fields #[.str (.ofString "_law_table") 1499, .str (.ofString "_law_table") 1500, .str (.ofString "/claim/cut.py") 1501, .int 644 0, .int 2 0, .int 0 0, .int 0 0, .int 3 0, .ref 895, .bool true, .int 181 0, .ref 896, .none, .none, .none, .ref 897, .int 1502 0, .int 644 0, .str (.ofString "/claim/cut.py") 1503], #[]⟩
noncomputable def o_973 (P : Params) : Obj := fnO (tp 104) (.type "function") none (.ofString "_law_table") 3 [] .none .none .none (.str (.ofString "law_nu0204_01") 1460) none (.ref 898) .none 0 #[]
noncomputable def o_974 (P : Params) : Obj := ⟨.type "tuple", none, .seq #[] 0, #[]⟩
noncomputable def o_975 (P : Params) : Obj := ⟨.none, none, .fields #[], #[]⟩
noncomputable def o_976 (P : Params) : Obj := fnO (tp 105) .none none (.ofString "law") 0 [] .none .none .none .none none .none .none 0 #[]
noncomputable def o_977 (P : Params) : Obj := ⟨.type "code", none, .fields #[.str (.ofString "law") 1505, .str (.ofString "law") 1506, .str (.ofString "/claim/cut.py") 1507, .int 656 0, .int 1 0, .int 0 0, .int 0 0, .int 3 0, .ref 900, .bool true, .int 181 0, .ref 901, .none, .none, .none, .ref 902, .int 1508 0, .int 656 0, .str (.ofString "/claim/cut.py") 1509], #[]⟩
noncomputable def o_978 (P : Params) : Obj := fnO (tp 105) (.type "function") none (.ofString "law") 3 [] .none .none .none (.str (.ofString "law_nu0204_01") 1460) none (.ref 903) .none 0 #[]
noncomputable def hd.heap_39 : Params → Frag := fun P => ((nat_lit 2, boot_o_2 P) :: (nat_lit 3, o_944 P) :: (nat_lit 15, o_51 P) :: (nat_lit 17, o_53 P) :: (nat_lit 18, o_54 P) :: (nat_lit 20, o_56 P) :: (nat_lit 21, o_57 P) :: (nat_lit 29, o_65 P) :: (nat_lit 31, o_67 P) :: (nat_lit 32, o_68 P) :: (nat_lit 34, o_70 P) :: (nat_lit 35, o_71 P) :: (nat_lit 36, o_72 P) :: (nat_lit 38, o_74 P) :: (nat_lit 39, o_75 P) :: (nat_lit 41, o_77 P) :: (nat_lit 42, o_78 P) :: (nat_lit 43, o_79 P) :: (nat_lit 45, o_81 P) :: (nat_lit 46, o_82 P) :: (nat_lit 48, o_84 P) :: (nat_lit 49, o_85 P) :: (nat_lit 50, o_86 P) :: (nat_lit 52, o_88 P) :: (nat_lit 53, o_89 P) :: (nat_lit 55, o_91 P) :: (nat_lit 56, o_92 P) :: (nat_lit 57, o_93 P) :: (nat_lit 58, o_94 P) :: (nat_lit 59, o_95 P) :: (nat_lit 60, o_96 P) :: (nat_lit 61, o_97 P) :: (nat_lit 64, o_100 P) :: (nat_lit 66, o_102 P) :: (nat_lit 67, o_103 P) :: (nat_lit 69, o_105 P) :: (nat_lit 70, o_106 P) :: (nat_lit 78, o_116 P) :: (nat_lit 80, o_118 P) :: (nat_lit 81, o_119 P) :: (nat_lit 83, o_121 P) :: (nat_lit 84, o_122 P) :: (nat_lit 85, o_123 P) :: (nat_lit 87, o_125 P) :: (nat_lit 88, o_126 P) :: (nat_lit 90, o_128 P) :: (nat_lit 91, o_129 P) :: (nat_lit 92, o_130 P) :: (nat_lit 94, o_132 P) :: (nat_lit 95, o_133 P) :: (nat_lit 97, o_135 P) :: (nat_lit 98, o_136 P) :: (nat_lit 99, o_137 P) :: (nat_lit 100, o_138 P) :: (nat_lit 101, o_139 P) :: (nat_lit 102, o_140 P) :: (nat_lit 103, o_141 P) :: (nat_lit 113, o_153 P) :: (nat_lit 114, o_154 P) :: (nat_lit 116, o_156 P) :: (nat_lit 117, o_157 P) :: (nat_lit 119, o_159 P) :: (nat_lit 120, o_160 P) :: (nat_lit 121, o_161 P) :: (nat_lit 124, o_164 P) :: (nat_lit 125, o_165 P) :: (nat_lit 126, o_166 P) :: (nat_lit 128, o_168 P) :: (nat_lit 129, o_169 P) :: (nat_lit 131, o_171 P) :: (nat_lit 132, o_172 P) :: (nat_lit 133, o_173 P) :: (nat_lit 135, o_175 P) :: (nat_lit 136, o_176 P) :: (nat_lit 138, o_178 P) :: (nat_lit 139, o_179 P) :: (nat_lit 140, o_180 P) :: (nat_lit 141, o_181 P) :: (nat_lit 142, o_182 P) :: (nat_lit 143, o_183 P) :: (nat_lit 144, o_184 P) :: (nat_lit 147, o_187 P) :: (nat_lit 150, o_190 P) :: (nat_lit 151, o_191 P) :: (nat_lit 152, o_192 P) :: (nat_lit 155, o_195 P) :: (nat_lit 156, o_196 P) :: (nat_lit 157, o_199 P) :: (nat_lit 159, o_201 P) :: (nat_lit 160, o_202 P) :: (nat_lit 162, o_204 P) :: (nat_lit 163, o_205 P) :: (nat_lit 164, o_206 P) :: (nat_lit 167, o_209 P) :: (nat_lit 168, o_210 P) :: (nat_lit 176, o_218 P) :: (nat_lit 178, o_220 P) :: (nat_lit 179, o_221 P) :: (nat_lit 181, o_223 P) :: (nat_lit 182, o_224 P) :: (nat_lit 183, o_225 P) :: (nat_lit 185, o_227 P) :: (nat_lit 186, o_228 P) :: (nat_lit 188, o_230 P) :: (nat_lit 189, o_231 P) :: (nat_lit 190, o_232 P) :: (nat_lit 192, o_234 P) :: (nat_lit 193, o_235 P) :: (nat_lit 195, o_237 P) :: (nat_lit 196, o_238 P) :: (nat_lit 197, o_239 P) :: (nat_lit 198, o_240 P) :: (nat_lit 199, o_241 P) :: (nat_lit 200, o_242 P) :: (nat_lit 201, o_243 P) :: (nat_lit 211, o_255 P) :: (nat_lit 212, o_256 P) :: (nat_lit 214, o_258 P) :: (nat_lit 215, o_259 P) :: (nat_lit 217, o_261 P) :: (nat_lit 218, o_262 P) :: (nat_lit 219, o_263 P) :: (nat_lit 222, o_266 P) :: (nat_lit 223, o_267 P) :: (nat_lit 224, o_268 P) :: (nat_lit 227, o_271 P) :: (nat_lit 228, o_272 P) :: (nat_lit 229, o_273 P) :: (nat_lit 232, o_276 P) :: (nat_lit 233, o_277 P) :: (nat_lit 234, o_278 P) :: (nat_lit 236, o_280 P) :: (nat_lit 237, o_281 P) :: (nat_lit 239, o_283 P) :: (nat_lit 240, o_284 P) :: (nat_lit 241, o_285 P) :: (nat_lit 242, o_286 P) :: (nat_lit 243, o_287 P) :: (nat_lit 244, o_288 P) :: (nat_lit 245, o_289 P) :: (nat_lit 248, o_292 P) :: (nat_lit 250, o_294 P) :: (nat_lit 251, o_295 P) :: (nat_lit 253, o_297 P) :: (nat_lit 254, o_298 P) :: (nat_lit 255, o_301 P) :: (nat_lit 257, o_303 P) :: (nat_lit 258, o_304 P) :: (nat_lit 260, o_306 P) :: (nat_lit 261, o_307 P) :: (nat_lit 262, o_308 P) :: (nat_lit 265, o_311 P) :: (nat_lit 266, o_312 P) :: (nat_lit 267, o_313 P) :: (nat_lit 270, o_316 P) :: (nat_lit 271, o_317 P) :: (nat_lit 272, o_318 P) :: (nat_lit 275, o_321 P) :: (nat_lit 276, o_322 P) :: (nat_lit 277, o_323 P) :: (nat_lit 279, o_325 P) :: (nat_lit 280, o_326 P) :: (nat_lit 282, o_328 P) :: (nat_lit 283, o_329 P) :: (nat_lit 291, o_339 P) :: (nat_lit 293, o_341 P) :: (nat_lit 294, o_342 P) :: (nat_lit 296, o_344 P) :: (nat_lit 297, o_345 P) :: (nat_lit 298, o_346 P) :: (nat_lit 301, o_349 P) :: (nat_lit 302, o_350 P) :: (nat_lit 303, o_351 P) :: (nat_lit 304, o_352 P) :: (nat_lit 305, o_353 P) :: (nat_lit 306, o_354 P) :: (nat_lit 307, o_355 P) :: (nat_lit 317, o_367 P) :: (nat_lit 318, o_368 P) :: (nat_lit 320, o_370 P) :: (nat_lit 321, o_371 P) :: (nat_lit 323, o_373 P) :: (nat_lit 324, o_374 P) :: (nat_lit 325, o_375 P) :: (nat_lit 326, o_376 P) :: (nat_lit 327, o_377 P) :: (nat_lit 328, o_378 P) :: (nat_lit 329, o_379 P) :: (nat_lit 332, o_382 P) :: (nat_lit 334, o_384 P) :: (nat_lit 335, o_385 P) :: (nat_lit 337, o_387 P) :: (nat_lit 338, o_388 P) :: (nat_lit 339, o_389 P) :: (nat_lit 341, o_391 P) :: (nat_lit 342, o_392 P) :: (nat_lit 344, o_394 P) :: (nat_lit 345, o_395 P) :: (nat_lit 346, o_396 P) :: (nat_lit 348, o_398 P) :: (nat_lit 349, o_399 P) :: (nat_lit 351, o_401 P) :: (nat_lit 352, o_402 P) :: (nat_lit 353, o_403 P) :: (nat_lit 355, o_405 P) :: (nat_lit 356, o_406 P) :: (nat_lit 358, o_408 P) :: (nat_lit 359, o_409 P) :: (nat_lit 360, o_410 P) :: (nat_lit 362, o_412 P) :: (nat_lit 363, o_413 P) :: (nat_lit 365, o_415 P) :: (nat_lit 366, o_416 P) :: (nat_lit 367, o_419 P) :: (nat_lit 368, o_420 P) :: (nat_lit 369, o_421 P) :: (nat_lit 372, o_424 P) :: (nat_lit 373, o_425 P) :: (nat_lit 374, o_426 P) :: (nat_lit 377, o_429 P) :: (nat_lit 378, o_430 P) :: (nat_lit 379, o_431 P) :: (nat_lit 381, o_433 P) :: (nat_lit 382, o_434 P) :: (nat_lit 384, o_436 P) :: (nat_lit 385, o_437 P) :: (nat_lit 386, o_438 P) :: (nat_lit 388, o_440 P) :: (nat_lit 389, o_441 P) :: (nat_lit 391, o_443 P) :: (nat_lit 392, o_444 P) :: (nat_lit 393, o_445 P) :: (nat_lit 395, o_447 P) :: (nat_lit 396, o_448 P) :: (nat_lit 398, o_450 P) :: (nat_lit 399, o_451 P) :: (nat_lit 400, o_452 P) :: (nat_lit 402, o_454 P) :: (nat_lit 403, o_455 P) :: (nat_lit 405, o_457 P) :: (nat_lit 406, o_458 P) :: (nat_lit 407, o_459 P) :: (nat_lit 409, o_461 P) :: (nat_lit 410, o_462 P) :: (nat_lit 412, o_464 P) :: (nat_lit 413, o_465 P) :: (nat_lit 414, o_466 P) :: (nat_lit 416, o_468 P) :: (nat_lit 417, o_469 P) :: (nat_lit 419, o_471 P) :: (nat_lit 420, o_472 P) :: (nat_lit 421, o_473 P) :: (nat_lit 423, o_475 P) :: (nat_lit 424, o_476 P) :: (nat_lit 426, o_478 P) :: (nat_lit 427, o_479 P) :: (nat_lit 428, o_480 P) :: (nat_lit 430, o_482 P) :: (nat_lit 431, o_483 P) :: (nat_lit 433, o_485 P) :: (nat_lit 434, o_486 P) :: (nat_lit 435, o_487 P) :: (nat_lit 437, o_489 P) :: (nat_lit 438, o_490 P) :: (nat_lit 440, o_492 P) :: (nat_lit 441, o_493 P) :: (nat_lit 442, o_496 P) :: (nat_lit 444, o_498 P) :: (nat_lit 445, o_499 P) :: (nat_lit 447, o_501 P) :: (nat_lit 448, o_502 P) :: (nat_lit 449, o_503 P) :: (nat_lit 452, o_506 P) :: (nat_lit 453, o_507 P) :: (nat_lit 461, o_515 P) :: (nat_lit 463, o_517 P) :: (nat_lit 464, o_518 P) :: (nat_lit 466, o_520 P) :: (nat_lit 467, o_521 P) :: (nat_lit 468, o_522 P) :: (nat_lit 471, o_525 P) :: (nat_lit 472, o_526 P) :: (nat_lit 473, o_527 P) :: (nat_lit 474, o_528 P) :: (nat_lit 475, o_529 P) :: (nat_lit 476, o_530 P) :: (nat_lit 477, o_531 P) :: (nat_lit 480, o_534 P) :: (nat_lit 482, o_536 P) :: (nat_lit 483, o_537 P) :: (nat_lit 485, o_539 P) :: (nat_lit 486, o_540 P) :: (nat_lit 487, o_541 P) :: (nat_lit 490, o_544 P) :: (nat_lit 491, o_545 P) :: (nat_lit 492, o_546 P) :: (nat_lit 494, o_548 P) :: (nat_lit 495, o_549 P) :: (nat_lit 497, o_551 P) :: (nat_lit 498, o_552 P) :: (nat_lit 499, o_555 P) :: (nat_lit 501, o_557 P) :: (nat_lit 502, o_558 P) :: (nat_lit 504, o_560 P) :: (nat_lit 505, o_561 P) :: (nat_lit 506, o_562 P) :: (nat_lit 508, o_564 P) :: (nat_lit 509, o_565 P) :: (nat_lit 511, o_567 P) :: (nat_lit 512, o_568 P) :: (nat_lit 513, o_569 P) :: (nat_lit 516, o_572 P) :: (nat_lit 517, o_573 P) :: (nat_lit 518, o_574 P) :: (nat_lit 520, o_576 P) :: (nat_lit 521, o_577 P) :: (nat_lit 523, o_579 P) :: (nat_lit 524, o_580 P) :: (nat_lit 532, o_588 P) :: (nat_lit 534, o_590 P) :: (nat_lit 535, o_591 P) :: (nat_lit 537, o_593 P) :: (nat_lit 538, o_594 P) :: (nat_lit 539, o_595 P) :: (nat_lit 540, o_596 P) :: (nat_lit 541, o_597 P) :: (nat_lit 542, o_598 P) :: (nat_lit 543, o_599 P) :: (nat_lit 546, o_604 P) :: (nat_lit 548, o_606 P) :: (nat_lit 549, o_607 P) :: (nat_lit 551, o_609 P) :: (nat_lit 552, o_610 P) :: (nat_lit 553, o_611 P) :: (nat_lit 555, o_613 P) :: (nat_lit 556, o_614 P) :: (nat_lit 558, o_616 P) :: (nat_lit 559, o_617 P) :: (nat_lit 560, o_618 P) :: (nat_lit 563, o_621 P) :: (nat_lit 564, o_622 P) :: (nat_lit 565, o_623 P) :: (nat_lit 568, o_626 P) :: (nat_lit 569, o_627 P) :: (nat_lit 570, o_628 P) :: (nat_lit 572, o_630 P) :: (nat_lit 573, o_631 P) :: (nat_lit 575, o_633 P) :: (nat_lit 576, o_634 P) :: (nat_lit 577, o_635 P) :: (nat_lit 579, o_637 P) :: (nat_lit 580, o_638 P) :: (nat_lit 582, o_640 P) :: (nat_lit 583, o_641 P) :: (nat_lit 584, o_642 P) :: (nat_lit 586, o_644 P) :: (nat_lit 587, o_645 P) :: (nat_lit 589, o_647 P) :: (nat_lit 590, o_648 P) :: (nat_lit 591, o_649 P) :: (nat_lit 593, o_651 P) :: (nat_lit 594, o_652 P) :: (nat_lit 596, o_654 P) :: (nat_lit 597, o_655 P) :: (nat_lit 605, o_665 P) :: (nat_lit 607, o_667 P) :: (nat_lit 608, o_668 P) :: (nat_lit 610, o_670 P) :: (nat_lit 611, o_671 P) :: (nat_lit 612, o_672 P) :: (nat_lit 615, o_675 P) :: (nat_lit 616, o_676 P) :: (nat_lit 617, o_677 P) :: (nat_lit 618, o_678 P) :: (nat_lit 619, o_679 P) :: (nat_lit 620, o_680 P) :: (nat_lit 621, o_681 P) :: (nat_lit 624, o_684 P) :: (nat_lit 626, o_686 P) :: (nat_lit 627, o_687 P) :: (nat_lit 629, o_689 P) :: (nat_lit 630, o_690 P) :: (nat_lit 638, o_700 P) :: (nat_lit 640, o_702 P) :: (nat_lit 641, o_703 P) :: (nat_lit 643, o_705 P) :: (nat_lit 644, o_706 P) :: (nat_lit 645, o_707 P) :: (nat_lit 648, o_710 P) :: (nat_lit 649, o_711 P) :: (nat_lit 650, o_712 P) :: (nat_lit 651, o_713 P) :: (nat_lit 652, o_714 P) :: (nat_lit 653, o_715 P) :: (nat_lit 654, o_716 P) :: (nat_lit 664, o_728 P) :: (nat_lit 666, o_730 P) :: (nat_lit 667, o_731 P) :: (nat_lit 669, o_733 P) :: (nat_lit 670, o_734 P) :: (nat_lit 671, o_735 P) :: (nat_lit 674, o_738 P) :: (nat_lit 675, o_739 P) :: (nat_lit 676, o_740 P) :: (nat_lit 677, o_741 P) :: (nat_lit 678, o_742 P) :: (nat_lit 679, o_743 P) :: (nat_lit 680, o_744 P) :: (nat_lit 690, o_756 P) :: (nat_lit 692, o_758 P) :: (nat_lit 693, o_759 P) :: (nat_lit 695, o_761 P) :: (nat_lit 696, o_762 P) :: (nat_lit 697, o_763 P) :: (nat_lit 700, o_766 P) :: (nat_lit 701, o_767 P) :: (nat_lit 702, o_768 P) :: (nat_lit 703, o_769 P) :: (nat_lit 704, o_770 P) :: (nat_lit 705, o_771 P) :: (nat_lit 706, o_772 P) :: (nat_lit 709, o_775 P) :: (nat_lit 711, o_777 P) :: (nat_lit 712, o_778 P) :: (nat_lit 714, o_780 P) :: (nat_lit 715, o_781 P) :: (nat_lit 716, o_782 P) :: (nat_lit 718, o_784 P) :: (nat_lit 719, o_785 P) :: (nat_lit 721, o_787 P) :: (nat_lit 722, o_788 P) :: (nat_lit 723, o_789 P) :: (nat_lit 725, o_791 P) :: (nat_lit 726, o_792 P) :: (nat_lit 728, o_794 P) :: (nat_lit 729, o_795 P) :: (nat_lit 730, o_796 P) :: (nat_lit 732, o_798 P) :: (nat_lit 733, o_799 P) :: (nat_lit 735, o_801 P) :: (nat_lit 736, o_802 P) :: (nat_lit 737, o_805 P) :: (nat_lit 740, o_808 P) :: (nat_lit 741, o_809 P) :: (nat_lit 742, o_810 P) :: (nat_lit 744, o_812 P) :: (nat_lit 745, o_813 P) :: (nat_lit 747, o_815 P) :: (nat_lit 748, o_816 P) :: (nat_lit 749, o_817 P) :: (nat_lit 751, o_819 P) :: (nat_lit 752, o_820 P) :: (nat_lit 754, o_822 P) :: (nat_lit 755, o_823 P) :: (nat_lit 756, o_824 P) :: (nat_lit 758, o_826 P) :: (nat_lit 759, o_827 P) :: (nat_lit 761, o_829 P) :: (nat_lit 762, o_830 P) :: (nat_lit 763, o_831 P) :: (nat_lit 765, o_833 P) :: (nat_lit 766, o_834 P) :: (nat_lit 768, o_836 P) :: (nat_lit 769, o_837 P) :: (nat_lit 777, o_847 P) :: (nat_lit 779, o_849 P) :: (nat_lit 780, o_850 P) :: (nat_lit 782, o_852 P) :: (nat_lit 783, o_853 P) :: (nat_lit 784, o_854 P) :: (nat_lit 786, o_856 P) :: (nat_lit 787, o_857 P) :: (nat_lit 789, o_859 P) :: (nat_lit 790, o_860 P) :: (nat_lit 791, o_861 P) :: (nat_lit 793, o_863 P) :: (nat_lit 794, o_864 P) :: (nat_lit 796, o_866 P) :: (nat_lit 797, o_867 P) :: (nat_lit 798, o_868 P) :: (nat_lit 800, o_870 P) :: (nat_lit 801, o_871 P) :: (nat_lit 803, o_873 P) :: (nat_lit 804, o_874 P) :: (nat_lit 805, o_875 P) :: (nat_lit 808, o_878 P) :: (nat_lit 809, o_879 P) :: (nat_lit 810, o_880 P) :: (nat_lit 811, o_881 P) :: (nat_lit 812, o_882 P) :: (nat_lit 813, o_883 P) :: (nat_lit 814, o_884 P) :: (nat_lit 824, o_896 P) :: (nat_lit 825, o_897 P) :: (nat_lit 827, o_899 P) :: (nat_lit 828, o_900 P) :: (nat_lit 830, o_902 P) :: (nat_lit 831, o_903 P) :: (nat_lit 832, o_904 P) :: (nat_lit 834, o_906 P) :: (nat_lit 835, o_907 P) :: (nat_lit 837, o_909 P) :: (nat_lit 838, o_910 P) :: (nat_lit 839, o_911 P) :: (nat_lit 841, o_913 P) :: (nat_lit 842, o_914 P) :: (nat_lit 844, o_916 P) :: (nat_lit 845, o_917 P) :: (nat_lit 846, o_918 P) :: (nat_lit 848, o_920 P) :: (nat_lit 849, o_921 P) :: (nat_lit 851, o_923 P) :: (nat_lit 852, o_924 P) :: (nat_lit 853, o_925 P) :: (nat_lit 856, o_928 P) :: (nat_lit 857, o_929 P) :: (nat_lit 858, o_930 P) :: (nat_lit 859, o_931 P) :: (nat_lit 860, o_932 P) :: (nat_lit 861, o_933 P) :: (nat_lit 862, o_934 P) :: (nat_lit 865, o_937 P) :: (nat_lit 867, o_939 P) :: (nat_lit 868, o_940 P) :: (nat_lit 870, o_942 P) :: (nat_lit 871, o_943 P) :: (nat_lit 872, o_946 P) :: (nat_lit 873, o_947 P) :: (nat_lit 875, o_949 P) :: (nat_lit 876, o_950 P) :: (nat_lit 878, o_952 P) :: (nat_lit 879, o_953 P) :: (nat_lit 880, o_954 P) :: (nat_lit 883, o_957 P) :: (nat_lit 884, o_958 P) :: (nat_lit 885, o_959 P) :: (nat_lit 888, o_962 P) :: (nat_lit 889, o_963 P) :: (nat_lit 890, o_964 P) :: (nat_lit 893, o_967 P) :: (nat_lit 894, o_968 P) :: (nat_lit 895, o_969 P) :: (nat_lit 898, o_972 P) :: (nat_lit 899, o_973 P) :: (nat_lit 900, o_974 P) :: (nat_lit 903, o_977 P) :: (nat_lit 904, o_978 P) :: [])
noncomputable def vw : Program := { Pg with main := { Pg.main with body := (tp 0 :: tp 2 :: tp 3 :: tp 5 :: tp 6 :: tp 7 :: tp 8 :: tp 9 :: tp 10 :: tp 11 :: tp 12 :: tp 14 :: tp 15 :: tp 16 :: tp 17 :: tp 18 :: tp 19 :: tp 20 :: tp 21 :: tp 23 :: tp 24 :: tp 25 :: tp 26 :: tp 27 :: tp 28 :: tp 29 :: tp 30 :: tp 31 :: tp 32 :: tp 33 :: tp 35 :: tp 36 :: tp 37 :: tp 38 :: tp 39 :: tp 40 :: tp 41 :: tp 42 :: tp 43 :: tp 44 :: tp 45 :: tp 46 :: tp 47 :: tp 49 :: tp 50 :: tp 51 :: tp 52 :: tp 53 :: tp 54 :: tp 55 :: tp 56 :: tp 57 :: tp 58 :: tp 59 :: tp 60 :: tp 62 :: tp 63 :: tp 64 :: tp 65 :: tp 66 :: tp 67 :: tp 68 :: tp 69 :: tp 70 :: tp 71 :: tp 72 :: tp 74 :: tp 75 :: tp 77 :: tp 78 :: tp 79 :: tp 80 :: tp 81 :: tp 82 :: tp 83 :: tp 85 :: tp 86 :: tp 87 :: tp 88 :: tp 89 :: tp 91 :: tp 93 :: tp 94 :: tp 95 :: tp 96 :: tp 97 :: tp 99 :: tp 100 :: tp 101 :: tp 102 :: tp 103 :: tp 104 :: tp 105 :: []) } }
end Mine
end
section
set_option autoImplicit false
set_option linter.unusedVariables false
set_option maxRecDepth 100000
set_option maxHeartbeats 0
namespace Mine
noncomputable def tree_47 (P : Params) : BT := put .nil [(0, boot_o_0 P), (1, boot_o_1 P), (2, boot_o_2 P), (3, boot_o_3 P), (4, boot_o_4 P), (5, boot_o_5 P), (6, boot_o_6 P), (7, boot_o_7 P), (8, boot_o_8 P), (9, boot_o_9 P), (10, boot_o_10 P), (11, o_43 P), (12, o_44 P), (13, o_45 P), (14, o_46 P)]
noncomputable def tree_106 (P : Params) : BT := put (tree_47 P) [(3, o_49 P), (12, o_50 P), (15, o_51 P), (16, o_52 P), (17, o_53 P), (18, o_54 P), (19, o_55 P), (20, o_56 P), (21, o_57 P), (22, o_58 P), (23, o_59 P), (24, o_60 P), (25, o_61 P), (26, o_62 P), (27, o_63 P), (28, o_64 P), (29, o_65 P), (30, o_66 P), (31, o_67 P), (32, o_68 P), (33, o_69 P), (34, o_70 P), (35, o_71 P), (36, o_72 P), (37, o_73 P), (38, o_74 P), (39, o_75 P), (40, o_76 P), (41, o_77 P), (42, o_78 P), (43, o_79 P), (44, o_80 P), (45, o_81 P), (46, o_82 P), (47, o_83 P), (48, o_84 P), (49, o_85 P), (50, o_86 P), (51, o_87 P), (52, o_88 P), (53, o_89 P), (54, o_90 P), (55, o_91 P), (56, o_92 P), (57, o_93 P), (58, o_94 P), (59, o_95 P), (60, o_96 P), (61, o_97 P), (62, o_98 P), (63, o_99 P), (64, o_100 P), (65, o_101 P), (66, o_102 P), (67, o_103 P), (68, o_104 P), (69, o_105 P), (70, o_106 P)]
noncomputable def tree_143 (P : Params) : BT := put (tree_106 P) [(3, o_107 P), (12, o_108 P), (71, o_109 P), (72, o_110 P), (73, o_111 P), (74, o_112 P), (75, o_113 P), (76, o_114 P), (77, o_115 P), (78, o_116 P), (79, o_117 P), (80, o_118 P), (81, o_119 P), (82, o_120 P), (83, o_121 P), (84, o_122 P), (85, o_123 P), (86, o_124 P), (87, o_125 P), (88, o_126 P), (89, o_127 P), (90, o_128 P), (91, o_129 P), (92, o_130 P), (93, o_131 P), (94, o_132 P), (95, o_133 P), (96, o_134 P), (97, o_135 P), (98, o_136 P), (99, o_137 P), (100, o_138 P), (101, o_139 P), (102, o_140 P), (103, o_141 P), (104, o_142 P), (105, o_143 P)]
noncomputable def tree_196 (P : Params) : BT := put (tree_143 P) [(3, o_144 P), (12, o_145 P), (106, o_146 P), (107, o_147 P), (108, o_148 P), (109, o_149 P), (110, o_150 P), (111, o_151 P), (112, o_152 P), (113, o_153 P), (114, o_154 P), (115, o_155 P), (116, o_156 P), (117, o_157 P), (118, o_158 P), (119, o_159 P), (120, o_160 P), (121, o_161 P), (122, o_162 P), (123, o_163 P), (124, o_164 P), (125, o_165 P), (126, o_166 P), (127, o_167 P), (128, o_168 P), (129, o_169 P), (130, o_170 P), (131, o_171 P), (132, o_172 P), (133, o_173 P), (134, o_174 P), (135, o_175 P), (136, o_176 P), (137, o_177 P), (138, o_178 P), (139, o_179 P), (140, o_180 P), (141, o_181 P), (142, o_182 P), (143, o_183 P), (144, o_184 P), (145, o_185 P), (146, o_186 P), (147, o_187 P), (148, o_188 P), (149, o_189 P), (150, o_190 P), (151, o_191 P), (152, o_192 P), (153, o_193 P), (154, o_194 P), (155, o_195 P), (156, o_196 P)]
noncomputable def tree_245 (P : Params) : BT := put (tree_196 P) [(3, o_197 P), (12, o_198 P), (157, o_199 P), (158, o_200 P), (159, o_201 P), (160, o_202 P), (161, o_203 P), (162, o_204 P), (163, o_205 P), (164, o_206 P), (165, o_207 P), (166, o_208 P), (167, o_209 P), (168, o_210 P), (169, o_211 P), (170, o_212 P), (171, o_213 P), (172, o_214 P), (173, o_215 P), (174, o_216 P), (175, o_217 P), (176, o_218 P), (177, o_219 P), (178, o_220 P), (179, o_221 P), (180, o_222 P), (181, o_223 P), (182, o_224 P), (183, o_225 P), (184, o_226 P), (185, o_227 P), (186, o_228 P), (187, o_229 P), (188, o_230 P), (189, o_231 P), (190, o_232 P), (191, o_233 P), (192, o_234 P), (193, o_235 P), (194, o_236 P), (195, o_237 P), (196, o_238 P), (197, o_239 P), (198, o_240 P), (199, o_241 P), (200, o_242 P), (201, o_243 P), (202, o_244 P), (203, o_245 P)]
noncomputable def tree_298 (P : Params) : BT := put (tree_245 P) [(3, o_246 P), (12, o_247 P), (204, o_248 P), (205, o_249 P), (206, o_250 P), (207, o_251 P), (208, o_252 P), (209, o_253 P), (210, o_254 P), (211, o_255 P), (212, o_256 P), (213, o_257 P), (214, o_258 P), (215, o_259 P), (216, o_260 P), (217, o_261 P), (218, o_262 P), (219, o_263 P), (220, o_264 P), (221, o_265 P), (222, o_266 P), (223, o_267 P), (224, o_268 P), (225, o_269 P), (226, o_270 P), (227, o_271 P), (228, o_272 P), (229, o_273 P), (230, o_274 P), (231, o_275 P), (232, o_276 P), (233, o_277 P), (234, o_278 P), (235, o_279 P), (236, o_280 P), (237, o_281 P), (238, o_282 P), (239, o_283 P), (240, o_284 P), (241, o_285 P), (242, o_286 P), (243, o_287 P), (244, o_288 P), (245, o_289 P), (246, o_290 P), (247, o_291 P), (248, o_292 P), (249, o_293 P), (250, o_294 P), (251, o_295 P), (252, o_296 P), (253, o_297 P), (254, o_298 P)]
noncomputable def tree_329 (P : Params) : BT := put (tree_298 P) [(3, o_299 P), (12, o_300 P), (255, o_301 P), (256, o_302 P), (257, o_303 P), (258, o_304 P), (259, o_305 P), (260, o_306 P), (261, o_307 P), (262, o_308 P), (263, o_309 P), (264, o_310 P), (265, o_311 P), (266, o_312 P), (267, o_313 P), (268, o_314 P), (269, o_315 P), (270, o_316 P), (271, o_317 P), (272, o_318 P), (273, o_319 P), (274, o_320 P), (275, o_321 P), (276, o_322 P), (277, o_323 P), (278, o_324 P), (279, o_325 P), (280, o_326 P), (281, o_327 P), (282, o_328 P), (283, o_329 P)]
noncomputable def tree_357 (P : Params) : BT := put (tree_329 P) [(3, o_330 P), (12, o_331 P), (284, o_332 P), (285, o_333 P), (286, o_334 P), (287, o_335 P), (288, o_336 P), (289, o_337 P), (290, o_338 P), (291, o_339 P), (292, o_340 P), (293, o_341 P), (294, o_342 P), (295, o_343 P), (296, o_344 P), (297, o_345 P), (298, o_346 P), (299, o_347 P), (300, o_348 P), (301, o_349 P), (302, o_350 P), (303, o_351 P), (304, o_352 P), (305, o_353 P), (306, o_354 P), (307, o_355 P), (308, o_356 P), (309, o_357 P)]
noncomputable def tree_416 (P : Params) : BT := put (tree_357 P) [(3, o_358 P), (12, o_359 P), (310, o_360 P), (311, o_361 P), (312, o_362 P), (313, o_363 P), (314, o_364 P), (315, o_365 P), (316, o_366 P), (317, o_367 P), (318, o_368 P), (319, o_369 P), (320, o_370 P), (321, o_371 P), (322, o_372 P), (323, o_373 P), (324, o_374 P), (325, o_375 P), (326, o_376 P), (327, o_377 P), (328, o_378 P), (329, o_379 P), (330, o_380 P), (331, o_381 P), (332, o_382 P), (333, o_383 P), (334, o_384 P), (335, o_385 P), (336, o_386 P), (337, o_387 P), (338, o_388 P), (339, o_389 P), (340, o_390 P), (341, o_391 P), (342, o_392 P), (343, o_393 P), (344, o_394 P), (345, o_395 P), (346, o_396 P), (347, o_397 P), (348, o_398 P), (349, o_399 P), (350, o_400 P), (351, o_401 P), (352, o_402 P), (353, o_403 P), (354, o_404 P), (355, o_405 P), (356, o_406 P), (357, o_407 P), (358, o_408 P), (359, o_409 P), (360, o_410 P), (361, o_411 P), (362, o_412 P), (363, o_413 P), (364, o_414 P), (365, o_415 P), (366, o_416 P)]
noncomputable def tree_493 (P : Params) : BT := put (tree_416 P) ((3, o_417 P) :: (12, o_418 P) :: (367, o_419 P) :: (368, o_420 P) :: (369, o_421 P) :: (370, o_422 P) :: (371, o_423 P) :: (372, o_424 P) :: (373, o_425 P) :: (374, o_426 P) :: (375, o_427 P) :: (376, o_428 P) :: (377, o_429 P) :: (378, o_430 P) :: (379, o_431 P) :: (380, o_432 P) :: (381, o_433 P) :: (382, o_434 P) :: (383, o_435 P) :: (384, o_436 P) :: (385, o_437 P) :: (386, o_438 P) :: (387, o_439 P) :: (388, o_440 P) :: (389, o_441 P) :: (390, o_442 P) :: (391, o_443 P) :: (392, o_444 P) :: (393, o_445 P) :: (394, o_446 P) :: (395, o_447 P) :: (396, o_448 P) :: (397, o_449 P) :: (398, o_450 P) :: (399, o_451 P) :: (400, o_452 P) :: (401, o_453 P) :: (402, o_454 P) :: (403, o_455 P) :: (404, o_456 P) :: (405, o_457 P) :: (406, o_458 P) :: (407, o_459 P) :: (408, o_460 P) :: (409, o_461 P) :: (410, o_462 P) :: (411, o_463 P) :: (412, o_464 P) :: (413, o_465 P) :: (414, o_466 P) :: (415, o_467 P) :: (416, o_468 P) :: (417, o_469 P) :: (418, o_470 P) :: (419, o_471 P) :: (420, o_472 P) :: (421, o_473 P) :: (422, o_474 P) :: (423, o_475 P) :: (424, o_476 P) :: (425, o_477 P) :: (426, o_478 P) :: (427, o_479 P) :: (428, o_480 P) :: (429, o_481 P) :: (430, o_482 P) :: (431, o_483 P) :: (432, o_484 P) :: (433, o_485 P) :: (434, o_486 P) :: (435, o_487 P) :: (436, o_488 P) :: (437, o_489 P) :: (438, o_490 P) :: (439, o_491 P) :: (440, o_492 P) :: (441, o_493 P) :: [])
noncomputable def tree_552 (P : Params) : BT := put (tree_493 P) [(3, o_494 P), (12, o_495 P), (442, o_496 P), (443, o_497 P), (444, o_498 P), (445, o_499 P), (446, o_500 P), (447, o_501 P), (448, o_502 P), (449, o_503 P), (450, o_504 P), (451, o_505 P), (452, o_506 P), (453, o_507 P), (454, o_508 P), (455, o_509 P), (456, o_510 P), (457, o_511 P), (458, o_512 P), (459, o_513 P), (460, o_514 P), (461, o_515 P), (462, o_516 P), (463, o_517 P), (464, o_518 P), (465, o_519 P), (466, o_520 P), (467, o_521 P), (468, o_522 P), (469, o_523 P), (470, o_524 P), (471, o_525 P), (472, o_526 P), (473, o_527 P), (474, o_528 P), (475, o_529 P), (476, o_530 P), (477, o_531 P), (478, o_532 P), (479, o_533 P), (480, o_534 P), (481, o_535 P), (482, o_536 P), (483, o_537 P), (484, o_538 P), (485, o_539 P), (486, o_540 P), (487, o_541 P), (488, o_542 P), (489, o_543 P), (490, o_544 P), (491, o_545 P), (492, o_546 P), (493, o_547 P), (494, o_548 P), (495, o_549 P), (496, o_550 P), (497, o_551 P), (498, o_552 P)]
noncomputable def tree_601 (P : Params) : BT := put (tree_552 P) [(3, o_553 P), (12, o_554 P), (499, o_555 P), (500, o_556 P), (501, o_557 P), (502, o_558 P), (503, o_559 P), (504, o_560 P), (505, o_561 P), (506, o_562 P), (507, o_563 P), (508, o_564 P), (509, o_565 P), (510, o_566 P), (511, o_567 P), (512, o_568 P), (513, o_569 P), (514, o_570 P), (515, o_571 P), (516, o_572 P), (517, o_573 P), (518, o_574 P), (519, o_575 P), (520, o_576 P), (521, o_577 P), (522, o_578 P), (523, o_579 P), (524, o_580 P), (525, o_581 P), (526, o_582 P), (527, o_583 P), (528, o_584 P), (529, o_585 P), (530, o_586 P), (531, o_587 P), (532, o_588 P), (533, o_589 P), (534, o_590 P), (535, o_591 P), (536, o_592 P), (537, o_593 P), (538, o_594 P), (539, o_595 P), (540, o_596 P), (541, o_597 P), (542, o_598 P), (543, o_599 P), (544, o_600 P), (545, o_601 P)]
noncomputable def tree_655 (P : Params) : BT := put (tree_601 P) [(3, o_602 P), (12, o_603 P), (546, o_604 P), (547, o_605 P), (548, o_606 P), (549, o_607 P), (550, o_608 P), (551, o_609 P), (552, o_610 P), (553, o_611 P), (554, o_612 P), (555, o_613 P), (556, o_614 P), (557, o_615 P), (558, o_616 P), (559, o_617 P), (560, o_618 P), (561, o_619 P), (562, o_620 P), (563, o_621 P), (564, o_622 P), (565, o_623 P), (566, o_624 P), (567, o_625 P), (568, o_626 P), (569, o_627 P), (570, o_628 P), (571, o_629 P), (572, o_630 P), (573, o_631 P), (574, o_632 P), (575, o_633 P), (576, o_634 P), (577, o_635 P), (578, o_636 P), (579, o_637 P), (580, o_638 P), (581, o_639 P), (582, o_640 P), (583, o_641 P), (584, o_642 P), (585, o_643 P), (586, o_644 P), (587, o_645 P), (588, o_646 P), (589, o_647 P), (590, o_648 P), (591, o_649 P), (592, o_650 P), (593, o_651 P), (594, o_652 P), (595, o_653 P), (596, o_654 P), (597, o_655 P)]
noncomputable def tree_690 (P : Params) : BT := put (tree_655 P) [(3, o_656 P), (12, o_657 P), (598, o_658 P), (599, o_659 P), (600, o_660 P), (601, o_661 P), (602, o_662 P), (603, o_663 P), (604, o_664 P), (605, o_665 P), (606, o_666 P), (607, o_667 P), (608, o_668 P), (609, o_669 P), (610, o_670 P), (611, o_671 P), (612, o_672 P), (613, o_673 P), (614, o_674 P), (615, o_675 P), (616, o_676 P), (617, o_677 P), (618, o_678 P), (619, o_679 P), (620, o_680 P), (621, o_681 P), (622, o_682 P), (623, o_683 P), (624, o_684 P), (625, o_685 P), (626, o_686 P), (627, o_687 P), (628, o_688 P), (629, o_689 P), (630, o_690 P)]
noncomputable def tree_718 (P : Params) : BT := put (tree_690 P) [(3, o_691 P), (12, o_692 P), (631, o_693 P), (632, o_694 P), (633, o_695 P), (634, o_696 P), (635, o_697 P), (636, o_698 P), (637, o_699 P), (638, o_700 P), (639, o_701 P), (640, o_702 P), (641, o_703 P), (642, o_704 P), (643, o_705 P), (644, o_706 P), (645, o_707 P), (646, o_708 P), (647, o_709 P), (648, o_710 P), (649, o_711 P), (650, o_712 P), (651, o_713 P), (652, o_714 P), (653, o_715 P), (654, o_716 P), (655, o_717 P), (656, o_718 P)]
noncomputable def tree_746 (P : Params) : BT := put (tree_718 P) [(3, o_719 P), (12, o_720 P), (657, o_721 P), (658, o_722 P), (659, o_723 P), (660, o_724 P), (661, o_725 P), (662, o_726 P), (663, o_727 P), (664, o_728 P), (665, o_729 P), (666, o_730 P), (667, o_731 P), (668, o_732 P), (669, o_733 P), (670, o_734 P), (671, o_735 P), (672, o_736 P), (673, o_737 P), (674, o_738 P), (675, o_739 P), (676, o_740 P), (677, o_741 P), (678, o_742 P), (679, o_743 P), (680, o_744 P), (681, o_745 P), (682, o_746 P)]
noncomputable def tree_802 (P : Params) : BT := put (tree_746 P) [(3, o_747 P), (12, o_748 P), (683, o_749 P), (684, o_750 P), (685, o_751 P), (686, o_752 P), (687, o_753 P), (688, o_754 P), (689, o_755 P), (690, o_756 P), (691, o_757 P), (692, o_758 P), (693, o_759 P), (694, o_760 P), (695, o_761 P), (696, o_762 P), (697, o_763 P), (698, o_764 P), (699, o_765 P), (700, o_766 P), (701, o_767 P), (702, o_768 P), (703, o_769 P), (704, o_770 P), (705, o_771 P), (706, o_772 P), (707, o_773 P), (708, o_774 P), (709, o_775 P), (710, o_776 P), (711, o_777 P), (712, o_778 P), (713, o_779 P), (714, o_780 P), (715, o_781 P), (716, o_782 P), (717, o_783 P), (718, o_784 P), (719, o_785 P), (720, o_786 P), (721, o_787 P), (722, o_788 P), (723, o_789 P), (724, o_790 P), (725, o_791 P), (726, o_792 P), (727, o_793 P), (728, o_794 P), (729, o_795 P), (730, o_796 P), (731, o_797 P), (732, o_798 P), (733, o_799 P), (734, o_800 P), (735, o_801 P), (736, o_802 P)]
noncomputable def tree_837 (P : Params) : BT := put (tree_802 P) [(3, o_803 P), (12, o_804 P), (737, o_805 P), (738, o_806 P), (739, o_807 P), (740, o_808 P), (741, o_809 P), (742, o_810 P), (743, o_811 P), (744, o_812 P), (745, o_813 P), (746, o_814 P), (747, o_815 P), (748, o_816 P), (749, o_817 P), (750, o_818 P), (751, o_819 P), (752, o_820 P), (753, o_821 P), (754, o_822 P), (755, o_823 P), (756, o_824 P), (757, o_825 P), (758, o_826 P), (759, o_827 P), (760, o_828 P), (761, o_829 P), (762, o_830 P), (763, o_831 P), (764, o_832 P), (765, o_833 P), (766, o_834 P), (767, o_835 P), (768, o_836 P), (769, o_837 P)]
noncomputable def tree_886 (P : Params) : BT := put (tree_837 P) [(3, o_838 P), (12, o_839 P), (770, o_840 P), (771, o_841 P), (772, o_842 P), (773, o_843 P), (774, o_844 P), (775, o_845 P), (776, o_846 P), (777, o_847 P), (778, o_848 P), (779, o_849 P), (780, o_850 P), (781, o_851 P), (782, o_852 P), (783, o_853 P), (784, o_854 P), (785, o_855 P), (786, o_856 P), (787, o_857 P), (788, o_858 P), (789, o_859 P), (790, o_860 P), (791, o_861 P), (792, o_862 P), (793, o_863 P), (794, o_864 P), (795, o_865 P), (796, o_866 P), (797, o_867 P), (798, o_868 P), (799, o_869 P), (800, o_870 P), (801, o_871 P), (802, o_872 P), (803, o_873 P), (804, o_874 P), (805, o_875 P), (806, o_876 P), (807, o_877 P), (808, o_878 P), (809, o_879 P), (810, o_880 P), (811, o_881 P), (812, o_882 P), (813, o_883 P), (814, o_884 P), (815, o_885 P), (816, o_886 P)]
noncomputable def tree_943 (P : Params) : BT := put (tree_886 P) [(3, o_887 P), (12, o_888 P), (817, o_889 P), (818, o_890 P), (819, o_891 P), (820, o_892 P), (821, o_893 P), (822, o_894 P), (823, o_895 P), (824, o_896 P), (825, o_897 P), (826, o_898 P), (827, o_899 P), (828, o_900 P), (829, o_901 P), (830, o_902 P), (831, o_903 P), (832, o_904 P), (833, o_905 P), (834, o_906 P), (835, o_907 P), (836, o_908 P), (837, o_909 P), (838, o_910 P), (839, o_911 P), (840, o_912 P), (841, o_913 P), (842, o_914 P), (843, o_915 P), (844, o_916 P), (845, o_917 P), (846, o_918 P), (847, o_919 P), (848, o_920 P), (849, o_921 P), (850, o_922 P), (851, o_923 P), (852, o_924 P), (853, o_925 P), (854, o_926 P), (855, o_927 P), (856, o_928 P), (857, o_929 P), (858, o_930 P), (859, o_931 P), (860, o_932 P), (861, o_933 P), (862, o_934 P), (863, o_935 P), (864, o_936 P), (865, o_937 P), (866, o_938 P), (867, o_939 P), (868, o_940 P), (869, o_941 P), (870, o_942 P), (871, o_943 P)]
noncomputable def tree_978 (P : Params) : BT := put (tree_943 P) [(3, o_944 P), (12, o_945 P), (872, o_946 P), (873, o_947 P), (874, o_948 P), (875, o_949 P), (876, o_950 P), (877, o_951 P), (878, o_952 P), (879, o_953 P), (880, o_954 P), (881, o_955 P), (882, o_956 P), (883, o_957 P), (884, o_958 P), (885, o_959 P), (886, o_960 P), (887, o_961 P), (888, o_962 P), (889, o_963 P), (890, o_964 P), (891, o_965 P), (892, o_966 P), (893, o_967 P), (894, o_968 P), (895, o_969 P), (896, o_970 P), (897, o_971 P), (898, o_972 P), (899, o_973 P), (900, o_974 P), (901, o_975 P), (902, o_976 P), (903, o_977 P), (904, o_978 P)]
noncomputable def Kas : List Addr := (2 :: 3 :: 15 :: 17 :: 18 :: 20 :: 21 :: 29 :: 31 :: 32 :: 34 :: 35 :: 36 :: 38 :: 39 :: 41 :: 42 :: 43 :: 45 :: 46 :: 48 :: 49 :: 50 :: 52 :: 53 :: 55 :: 56 :: 57 :: 58 :: 59 :: 60 :: 61 :: 64 :: 66 :: 67 :: 69 :: 70 :: 78 :: 80 :: 81 :: 83 :: 84 :: 85 :: 87 :: 88 :: 90 :: 91 :: 92 :: 94 :: 95 :: 97 :: 98 :: 99 :: 100 :: 101 :: 102 :: 103 :: 113 :: 114 :: 116 :: 117 :: 119 :: 120 :: 121 :: 124 :: 125 :: 126 :: 128 :: 129 :: 131 :: 132 :: 133 :: 135 :: 136 :: 138 :: 139 :: 140 :: 141 :: 142 :: 143 :: 144 :: 147 :: 150 :: 151 :: 152 :: 155 :: 156 :: 157 :: 159 :: 160 :: 162 :: 163 :: 164 :: 167 :: 168 :: 176 :: 178 :: 179 :: 181 :: 182 :: 183 :: 185 :: 186 :: 188 :: 189 :: 190 :: 192 :: 193 :: 195 :: 196 :: 197 :: 198 :: 199 :: 200 :: 201 :: 211 :: 212 :: 214 :: 215 :: 217 :: 218 :: 219 :: 222 :: 223 :: 224 :: 227 :: 228 :: 229 :: 232 :: 233 :: 234 :: 236 :: 237 :: 239 :: 240 :: 241 :: 242 :: 243 :: 244 :: 245 :: 248 :: 250 :: 251 :: 253 :: 254 :: 255 :: 257 :: 258 :: 260 :: 261 :: 262 :: 265 :: 266 :: 267 :: 270 :: 271 :: 272 :: 275 :: 276 :: 277 :: 279 :: 280 :: 282 :: 283 :: 291 :: 293 :: 294 :: 296 :: 297 :: 298 :: 301 :: 302 :: 303 :: 304 :: 305 :: 306 :: 307 :: 317 :: 318 :: 320 :: 321 :: 323 :: 324 :: 325 :: 326 :: 327 :: 328 :: 329 :: 332 :: 334 :: 335 :: 337 :: 338 :: 339 :: 341 :: 342 :: 344 :: 345 :: 346 :: 348 :: 349 :: 351 :: 352 :: 353 :: 355 :: 356 :: 358 :: 359 :: 360 :: 362 :: 363 :: 365 :: 366 :: 367 :: 368 :: 369 :: 372 :: 373 :: 374 :: 377 :: 378 :: 379 :: 381 :: 382 :: 384 :: 385 :: 386 :: 388 :: 389 :: 391 :: 392 :: 393 :: 395 :: 396 :: 398 :: 399 :: 400 :: 402 :: 403 :: 405 :: 406 :: 407 :: 409 :: 410 :: 412 :: 413 :: 414 :: 416 :: 417 :: 419 :: 420 :: 421 :: 423 :: 424 :: 426 :: 427 :: 428 :: 430 :: 431 :: 433 :: 434 :: 435 :: 437 :: 438 :: 440 :: 441 :: 442 :: 444 :: 445 :: 447 :: 448 :: 449 :: 452 :: 453 :: 461 :: 463 :: 464 :: 466 :: 467 :: 468 :: 471 :: 472 :: 473 :: 474 :: 475 :: 476 :: 477 :: 480 :: 482 :: 483 :: 485 :: 486 :: 487 :: 490 :: 491 :: 492 :: 494 :: 495 :: 497 :: 498 :: 499 :: 501 :: 502 :: 504 :: 505 :: 506 :: 508 :: 509 :: 511 :: 512 :: 513 :: 516 :: 517 :: 518 :: 520 :: 521 :: 523 :: 524 :: 532 :: 534 :: 535 :: 537 :: 538 :: 539 :: 540 :: 541 :: 542 :: 543 :: 546 :: 548 :: 549 :: 551 :: 552 :: 553 :: 555 :: 556 :: 558 :: 559 :: 560 :: 563 :: 564 :: 565 :: 568 :: 569 :: 570 :: 572 :: 573 :: 575 :: 576 :: 577 :: 579 :: 580 :: 582 :: 583 :: 584 :: 586 :: 587 :: 589 :: 590 :: 591 :: 593 :: 594 :: 596 :: 597 :: 605 :: 607 :: 608 :: 610 :: 611 :: 612 :: 615 :: 616 :: 617 :: 618 :: 619 :: 620 :: 621 :: 624 :: 626 :: 627 :: 629 :: 630 :: 638 :: 640 :: 641 :: 643 :: 644 :: 645 :: 648 :: 649 :: 650 :: 651 :: 652 :: 653 :: 654 :: 664 :: 666 :: 667 :: 669 :: 670 :: 671 :: 674 :: 675 :: 676 :: 677 :: 678 :: 679 :: 680 :: 690 :: 692 :: 693 :: 695 :: 696 :: 697 :: 700 :: 701 :: 702 :: 703 :: 704 :: 705 :: 706 :: 709 :: 711 :: 712 :: 714 :: 715 :: 716 :: 718 :: 719 :: 721 :: 722 :: 723 :: 725 :: 726 :: 728 :: 729 :: 730 :: 732 :: 733 :: 735 :: 736 :: 737 :: 740 :: 741 :: 742 :: 744 :: 745 :: 747 :: 748 :: 749 :: 751 :: 752 :: 754 :: 755 :: 756 :: 758 :: 759 :: 761 :: 762 :: 763 :: 765 :: 766 :: 768 :: 769 :: 777 :: 779 :: 780 :: 782 :: 783 :: 784 :: 786 :: 787 :: 789 :: 790 :: 791 :: 793 :: 794 :: 796 :: 797 :: 798 :: 800 :: 801 :: 803 :: 804 :: 805 :: 808 :: 809 :: 810 :: 811 :: 812 :: 813 :: 814 :: 824 :: 825 :: 827 :: 828 :: 830 :: 831 :: 832 :: 834 :: 835 :: 837 :: 838 :: 839 :: 841 :: 842 :: 844 :: 845 :: 846 :: 848 :: 849 :: 851 :: 852 :: 853 :: 856 :: 857 :: 858 :: 859 :: 860 :: 861 :: 862 :: 865 :: 867 :: 868 :: 870 :: 871 :: 872 :: 873 :: 875 :: 876 :: 878 :: 879 :: 880 :: 883 :: 884 :: 885 :: 888 :: 889 :: 890 :: 893 :: 894 :: 895 :: 898 :: 899 :: 900 :: 903 :: 904 :: [])
noncomputable def heap_46 (P : Params) : Heap := ⟨#[boot_o_0 P, boot_o_1 P, boot_o_2 P, boot_o_3 P, boot_o_4 P, boot_o_5 P, boot_o_6 P, boot_o_7 P, boot_o_8 P, boot_o_9 P, boot_o_10 P, o_43 P, o_44 P, o_45 P, o_46 P], ⟨[], [], [], 0, [], [], false, #[], [], 0, false, false, false, 0, [2000, 10, 10], false, 0, true, [], [], 0, false⟩⟩
noncomputable def heap_979 (P : Params) : Heap := ⟨(List.toArray (boot_o_0 P :: boot_o_1 P :: boot_o_2 P :: o_944 P :: boot_o_4 P :: boot_o_5 P :: boot_o_6 P :: boot_o_7 P :: boot_o_8 P :: boot_o_9 P :: boot_o_10 P :: o_43 P :: o_945 P :: o_45 P :: o_46 P :: o_51 P :: o_52 P :: o_53 P :: o_54 P :: o_55 P :: o_56 P :: o_57 P :: o_58 P :: o_59 P :: o_60 P :: o_61 P :: o_62 P :: o_63 P :: o_64 P :: o_65 P :: o_66 P :: o_67 P :: o_68 P :: o_69 P :: o_70 P :: o_71 P :: o_72 P :: o_73 P :: o_74 P :: o_75 P :: o_76 P :: o_77 P :: o_78 P :: o_79 P :: o_80 P :: o_81 P :: o_82 P :: o_83 P :: o_84 P :: o_85 P :: o_86 P :: o_87 P :: o_88 P :: o_89 P :: o_90 P :: o_91 P :: o_92 P :: o_93 P :: o_94 P :: o_95 P :: o_96 P :: o_97 P :: o_98 P :: o_99 P :: o_100 P :: o_101 P :: o_102 P :: o_103 P :: o_104 P :: o_105 P :: o_106 P :: o_109 P :: o_110 P :: o_111 P :: o_112 P :: o_113 P :: o_114 P :: o_115 P :: o_116 P :: o_117 P :: o_118 P :: o_119 P :: o_120 P :: o_121 P :: o_122 P :: o_123 P :: o_124 P :: o_125 P :: o_126 P :: o_127 P :: o_128 P :: o_129 P :: o_130 P :: o_131 P :: o_132 P :: o_133 P :: o_134 P :: o_135 P :: o_136 P :: o_137 P :: o_138 P :: o_139 P :: o_140 P :: o_141 P :: o_142 P :: o_143 P :: o_146 P :: o_147 P :: o_148 P :: o_149 P :: o_150 P :: o_151 P :: o_152 P :: o_153 P :: o_154 P :: o_155 P :: o_156 P :: o_157 P :: o_158 P :: o_159 P :: o_160 P :: o_161 P :: o_162 P :: o_163 P :: o_164 P :: o_165 P :: o_166 P :: o_167 P :: o_168 P :: o_169 P :: o_170 P :: o_171 P :: o_172 P :: o_173 P :: o_174 P :: o_175 P :: o_176 P :: o_177 P :: o_178 P :: o_179 P :: o_180 P :: o_181 P :: o_182 P :: o_183 P :: o_184 P :: o_185 P :: o_186 P :: o_187 P :: o_188 P :: o_189 P :: o_190 P :: o_191 P :: o_192 P :: o_193 P :: o_194 P :: o_195 P :: o_196 P :: o_199 P :: o_200 P :: o_201 P :: o_202 P :: o_203 P :: o_204 P :: o_205 P :: o_206 P :: o_207 P :: o_208 P :: o_209 P :: o_210 P :: o_211 P :: o_212 P :: o_213 P :: o_214 P :: o_215 P :: o_216 P :: o_217 P :: o_218 P :: o_219 P :: o_220 P :: o_221 P :: o_222 P :: o_223 P :: o_224 P :: o_225 P :: o_226 P :: o_227 P :: o_228 P :: o_229 P :: o_230 P :: o_231 P :: o_232 P :: o_233 P :: o_234 P :: o_235 P :: o_236 P :: o_237 P :: o_238 P :: o_239 P :: o_240 P :: o_241 P :: o_242 P :: o_243 P :: o_244 P :: o_245 P :: o_248 P :: o_249 P :: o_250 P :: o_251 P :: o_252 P :: o_253 P :: o_254 P :: o_255 P :: o_256 P :: o_257 P :: o_258 P :: o_259 P :: o_260 P :: o_261 P :: o_262 P :: o_263 P :: o_264 P :: o_265 P :: o_266 P :: o_267 P :: o_268 P :: o_269 P :: o_270 P :: o_271 P :: o_272 P :: o_273 P :: o_274 P :: o_275 P :: o_276 P :: o_277 P :: o_278 P :: o_279 P :: o_280 P :: o_281 P :: o_282 P :: o_283 P :: o_284 P :: o_285 P :: o_286 P :: o_287 P :: o_288 P :: o_289 P :: o_290 P :: o_291 P :: o_292 P :: o_293 P :: o_294 P :: o_295 P :: o_296 P :: o_297 P :: o_298 P :: o_301 P :: o_302 P :: o_303 P :: o_304 P :: o_305 P :: o_306 P :: o_307 P :: o_308 P :: o_309 P :: o_310 P :: o_311 P :: o_312 P :: o_313 P :: o_314 P :: o_315 P :: o_316 P :: o_317 P :: o_318 P :: o_319 P :: o_320 P :: o_321 P :: o_322 P :: o_323 P :: o_324 P :: o_325 P :: o_326 P :: o_327 P :: o_328 P :: o_329 P :: o_332 P :: o_333 P :: o_334 P :: o_335 P :: o_336 P :: o_337 P :: o_338 P :: o_339 P :: o_340 P :: o_341 P :: o_342 P :: o_343 P :: o_344 P :: o_345 P :: o_346 P :: o_347 P :: o_348 P :: o_349 P :: o_350 P :: o_351 P :: o_352 P :: o_353 P :: o_354 P :: o_355 P :: o_356 P :: o_357 P :: o_360 P :: o_361 P :: o_362 P :: o_363 P :: o_364 P :: o_365 P :: o_366 P :: o_367 P :: o_368 P :: o_369 P :: o_370 P :: o_371 P :: o_372 P :: o_373 P :: o_374 P :: o_375 P :: o_376 P :: o_377 P :: o_378 P :: o_379 P :: o_380 P :: o_381 P :: o_382 P :: o_383 P :: o_384 P :: o_385 P :: o_386 P :: o_387 P :: o_388 P :: o_389 P :: o_390 P :: o_391 P :: o_392 P :: o_393 P :: o_394 P :: o_395 P :: o_396 P :: o_397 P :: o_398 P :: o_399 P :: o_400 P :: o_401 P :: o_402 P :: o_403 P :: o_404 P :: o_405 P :: o_406 P :: o_407 P :: o_408 P :: o_409 P :: o_410 P :: o_411 P :: o_412 P :: o_413 P :: o_414 P :: o_415 P :: o_416 P :: o_419 P :: o_420 P :: o_421 P :: o_422 P :: o_423 P :: o_424 P :: o_425 P :: o_426 P :: o_427 P :: o_428 P :: o_429 P :: o_430 P :: o_431 P :: o_432 P :: o_433 P :: o_434 P :: o_435 P :: o_436 P :: o_437 P :: o_438 P :: o_439 P :: o_440 P :: o_441 P :: o_442 P :: o_443 P :: o_444 P :: o_445 P :: o_446 P :: o_447 P :: o_448 P :: o_449 P :: o_450 P :: o_451 P :: o_452 P :: o_453 P :: o_454 P :: o_455 P :: o_456 P :: o_457 P :: o_458 P :: o_459 P :: o_460 P :: o_461 P :: o_462 P :: o_463 P :: o_464 P :: o_465 P :: o_466 P :: o_467 P :: o_468 P :: o_469 P :: o_470 P :: o_471 P :: o_472 P :: o_473 P :: o_474 P :: o_475 P :: o_476 P :: o_477 P :: o_478 P :: o_479 P :: o_480 P :: o_481 P :: o_482 P :: o_483 P :: o_484 P :: o_485 P :: o_486 P :: o_487 P :: o_488 P :: o_489 P :: o_490 P :: o_491 P :: o_492 P :: o_493 P :: o_496 P :: o_497 P :: o_498 P :: o_499 P :: o_500 P :: o_501 P :: o_502 P :: o_503 P :: o_504 P :: o_505 P :: o_506 P :: o_507 P :: o_508 P :: o_509 P :: o_510 P :: o_511 P :: o_512 P :: o_513 P :: o_514 P :: o_515 P :: o_516 P :: o_517 P :: o_518 P :: o_519 P :: o_520 P :: o_521 P :: o_522 P :: o_523 P :: o_524 P :: o_525 P :: o_526 P :: o_527 P :: o_528 P :: o_529 P :: o_530 P :: o_531 P :: o_532 P :: o_533 P :: o_534 P :: o_535 P :: o_536 P :: o_537 P :: o_538 P :: o_539 P :: o_540 P :: o_541 P :: o_542 P :: o_543 P :: o_544 P :: o_545 P :: o_546 P :: o_547 P :: o_548 P :: o_549 P :: o_550 P :: o_551 P :: o_552 P :: o_555 P :: o_556 P :: o_557 P :: o_558 P :: o_559 P :: o_560 P :: o_561 P :: o_562 P :: o_563 P :: o_564 P :: o_565 P :: o_566 P :: o_567 P :: o_568 P :: o_569 P :: o_570 P :: o_571 P :: o_572 P :: o_573 P :: o_574 P :: o_575 P :: o_576 P :: o_577 P :: o_578 P :: o_579 P :: o_580 P :: o_581 P :: o_582 P :: o_583 P :: o_584 P :: o_585 P :: o_586 P :: o_587 P :: o_588 P :: o_589 P :: o_590 P :: o_591 P :: o_592 P :: o_593 P :: o_594 P :: o_595 P :: o_596 P :: o_597 P :: o_598 P :: o_599 P :: o_600 P :: o_601 P :: o_604 P :: o_605 P :: o_606 P :: o_607 P :: o_608 P :: o_609 P :: o_610 P :: o_611 P :: o_612 P :: o_613 P :: o_614 P :: o_615 P :: o_616 P :: o_617 P :: o_618 P :: o_619 P :: o_620 P :: o_621 P :: o_622 P :: o_623 P :: o_624 P :: o_625 P :: o_626 P :: o_627 P :: o_628 P :: o_629 P :: o_630 P :: o_631 P :: o_632 P :: o_633 P :: o_634 P :: o_635 P :: o_636 P :: o_637 P :: o_638 P :: o_639 P :: o_640 P :: o_641 P :: o_642 P :: o_643 P :: o_644 P :: o_645 P :: o_646 P :: o_647 P :: o_648 P :: o_649 P :: o_650 P :: o_651 P :: o_652 P :: o_653 P :: o_654 P :: o_655 P :: o_658 P :: o_659 P :: o_660 P :: o_661 P :: o_662 P :: o_663 P :: o_664 P :: o_665 P :: o_666 P :: o_667 P :: o_668 P :: o_669 P :: o_670 P :: o_671 P :: o_672 P :: o_673 P :: o_674 P :: o_675 P :: o_676 P :: o_677 P :: o_678 P :: o_679 P :: o_680 P :: o_681 P :: o_682 P :: o_683 P :: o_684 P :: o_685 P :: o_686 P :: o_687 P :: o_688 P :: o_689 P :: o_690 P :: o_693 P :: o_694 P :: o_695 P :: o_696 P :: o_697 P :: o_698 P :: o_699 P :: o_700 P :: o_701 P :: o_702 P :: o_703 P :: o_704 P :: o_705 P :: o_706 P :: o_707 P :: o_708 P :: o_709 P :: o_710 P :: o_711 P :: o_712 P :: o_713 P :: o_714 P :: o_715 P :: o_716 P :: o_717 P :: o_718 P :: o_721 P :: o_722 P :: o_723 P :: o_724 P :: o_725 P :: o_726 P :: o_727 P :: o_728 P :: o_729 P :: o_730 P :: o_731 P :: o_732 P :: o_733 P :: o_734 P :: o_735 P :: o_736 P :: o_737 P :: o_738 P :: o_739 P :: o_740 P :: o_741 P :: o_742 P :: o_743 P :: o_744 P :: o_745 P :: o_746 P :: o_749 P :: o_750 P :: o_751 P :: o_752 P :: o_753 P :: o_754 P :: o_755 P :: o_756 P :: o_757 P :: o_758 P :: o_759 P :: o_760 P :: o_761 P :: o_762 P :: o_763 P :: o_764 P :: o_765 P :: o_766 P :: o_767 P :: o_768 P :: o_769 P :: o_770 P :: o_771 P :: o_772 P :: o_773 P :: o_774 P :: o_775 P :: o_776 P :: o_777 P :: o_778 P :: o_779 P :: o_780 P :: o_781 P :: o_782 P :: o_783 P :: o_784 P :: o_785 P :: o_786 P :: o_787 P :: o_788 P :: o_789 P :: o_790 P :: o_791 P :: o_792 P :: o_793 P :: o_794 P :: o_795 P :: o_796 P :: o_797 P :: o_798 P :: o_799 P :: o_800 P :: o_801 P :: o_802 P :: o_805 P :: o_806 P :: o_807 P :: o_808 P :: o_809 P :: o_810 P :: o_811 P :: o_812 P :: o_813 P :: o_814 P :: o_815 P :: o_816 P :: o_817 P :: o_818 P :: o_819 P :: o_820 P :: o_821 P :: o_822 P :: o_823 P :: o_824 P :: o_825 P :: o_826 P :: o_827 P :: o_828 P :: o_829 P :: o_830 P :: o_831 P :: o_832 P :: o_833 P :: o_834 P :: o_835 P :: o_836 P :: o_837 P :: o_840 P :: o_841 P :: o_842 P :: o_843 P :: o_844 P :: o_845 P :: o_846 P :: o_847 P :: o_848 P :: o_849 P :: o_850 P :: o_851 P :: o_852 P :: o_853 P :: o_854 P :: o_855 P :: o_856 P :: o_857 P :: o_858 P :: o_859 P :: o_860 P :: o_861 P :: o_862 P :: o_863 P :: o_864 P :: o_865 P :: o_866 P :: o_867 P :: o_868 P :: o_869 P :: o_870 P :: o_871 P :: o_872 P :: o_873 P :: o_874 P :: o_875 P :: o_876 P :: o_877 P :: o_878 P :: o_879 P :: o_880 P :: o_881 P :: o_882 P :: o_883 P :: o_884 P :: o_885 P :: o_886 P :: o_889 P :: o_890 P :: o_891 P :: o_892 P :: o_893 P :: o_894 P :: o_895 P :: o_896 P :: o_897 P :: o_898 P :: o_899 P :: o_900 P :: o_901 P :: o_902 P :: o_903 P :: o_904 P :: o_905 P :: o_906 P :: o_907 P :: o_908 P :: o_909 P :: o_910 P :: o_911 P :: o_912 P :: o_913 P :: o_914 P :: o_915 P :: o_916 P :: o_917 P :: o_918 P :: o_919 P :: o_920 P :: o_921 P :: o_922 P :: o_923 P :: o_924 P :: o_925 P :: o_926 P :: o_927 P :: o_928 P :: o_929 P :: o_930 P :: o_931 P :: o_932 P :: o_933 P :: o_934 P :: o_935 P :: o_936 P :: o_937 P :: o_938 P :: o_939 P :: o_940 P :: o_941 P :: o_942 P :: o_943 P :: o_946 P :: o_947 P :: o_948 P :: o_949 P :: o_950 P :: o_951 P :: o_952 P :: o_953 P :: o_954 P :: o_955 P :: o_956 P :: o_957 P :: o_958 P :: o_959 P :: o_960 P :: o_961 P :: o_962 P :: o_963 P :: o_964 P :: o_965 P :: o_966 P :: o_967 P :: o_968 P :: o_969 P :: o_970 P :: o_971 P :: o_972 P :: o_973 P :: o_974 P :: o_975 P :: o_976 P :: o_977 P :: o_978 P :: [])), ⟨[], [], [], 0, [], [], false, #[], [], 0, false, false, false, 0, [2000, 10, 10], false, 0, true, [], [], 0, false⟩⟩
noncomputable def sts_49 : List Stmt := [tp 0, tp 1, tp 2, tp 3, tp 4]
noncomputable def sts_107 : List Stmt := [tp 5, tp 6, tp 7]
noncomputable def sts_144 : List Stmt := [tp 8, tp 9, tp 10]
noncomputable def sts_197 : List Stmt := [tp 11, tp 12, tp 13, tp 14]
noncomputable def sts_246 : List Stmt := [tp 15, tp 16]
noncomputable def sts_299 : List Stmt := [tp 17, tp 18, tp 19, tp 20, tp 21, tp 22, tp 23, tp 24, tp 25, tp 26]
noncomputable def sts_330 : List Stmt := [tp 27]
noncomputable def sts_358 : List Stmt := [tp 28, tp 29, tp 30, tp 31, tp 32, tp 33, tp 34]
noncomputable def sts_417 : List Stmt := [tp 35, tp 36, tp 37, tp 38, tp 39, tp 40, tp 41, tp 42, tp 43, tp 44, tp 45, tp 46, tp 47, tp 48, tp 49, tp 50]
noncomputable def sts_494 : List Stmt := [tp 51, tp 52, tp 53, tp 54, tp 55, tp 56]
noncomputable def sts_553 : List Stmt := [tp 57, tp 58, tp 59, tp 60, tp 61, tp 62, tp 63, tp 64]
noncomputable def sts_602 : List Stmt := [tp 65, tp 66, tp 67, tp 68, tp 69, tp 70, tp 71, tp 72, tp 73]
noncomputable def sts_656 : List Stmt := [tp 74, tp 75, tp 76]
noncomputable def sts_691 : List Stmt := [tp 77]
noncomputable def sts_719 : List Stmt := [tp 78]
noncomputable def sts_747 : List Stmt := [tp 79, tp 80, tp 81, tp 82, tp 83, tp 84]
noncomputable def sts_803 : List Stmt := [tp 85, tp 86, tp 87, tp 88, tp 89, tp 90]
noncomputable def sts_838 : List Stmt := [tp 91, tp 92, tp 93, tp 94, tp 95]
noncomputable def sts_887 : List Stmt := [tp 96, tp 97, tp 98]
noncomputable def sts_944 : List Stmt := [tp 99, tp 100, tp 101, tp 102, tp 103, tp 104, tp 105]
noncomputable def env_41 : Env := { scope := Pg.main.scope, locals := mainNs, globals := mainNs, cells := [], code := .ref 13, frame := some 14 }
noncomputable def bE : List Stmt := behindTheImports Pg
noncomputable abbrev cE : Code := .body bE env_41
noncomputable abbrev z0 : Pos := ⟨0, 0, 0, 0⟩
noncomputable abbrev B0 : List Frame := [topFrame z0]
noncomputable abbrev an0 : Option Value := some (.ref 6)
noncomputable def Piece (a b : World → OsState → SharedT) (sts : List Stmt) (N : Nat) (p p' : Pos) : Prop :=
  ∀ w, (fun os => Fast.tw10110043849684766642 Fast.tw14364793385576792824 Pg w 11 an0 1 N (a w os) (piecesOf sts env_41 cE p B0)) = fun os => some (Flow.next, b w os, cE, p')
theorem Piece.run {a b : World → OsState → SharedT} {sts : List Stmt} {N : Nat} {p p' : Pos} (h : Piece a b sts N p p') {w : World} {os : OsState} {M : Nat} {rest : List Stmt} {r : Shared}
    (k : topRun treeTable Pg w 11 an0 M (b w os).abs (restOf rest env_41 cE p' B0) = some r) : topRun treeTable Pg w 11 an0 (N + M) (a w os).abs (restOf (sts ++ rest) env_41 cE p B0) = some r :=
  piece_app (segRun_of (by
    have e := congrFun (h w) os
    rw [← Fast.te10110043849684766642, ← Fast.te14364793385576792824] at e
    exact e)) k
theorem q_107 : Piece (stt tree_47 15 187) (stt tree_106 71 262) sts_49 399 ⟨0, 0, 0, 0⟩ ⟨33, 0, 33, 8⟩ := by intro w; kernel_rfl
theorem q_144 : Piece (stt tree_106 71 262) (stt tree_143 106 315) sts_107 309 ⟨33, 0, 33, 8⟩ ⟨36, 0, 48, 16⟩ := by intro w; kernel_rfl
theorem q_197 : Piece (stt tree_143 106 315) (stt tree_196 157 387) sts_144 377 ⟨36, 0, 48, 16⟩ ⟨75, 0, 78, 41⟩ := by intro w; kernel_rfl
theorem q_246 : Piece (stt tree_196 157 387) (stt tree_245 204 467) sts_197 371 ⟨75, 0, 78, 41⟩ ⟨92, 0, 128, 103⟩ := by intro w; kernel_rfl
theorem q_299 : Piece (stt tree_245 204 467) (stt tree_298 255 532) sts_246 372 ⟨92, 0, 128, 103⟩ ⟨148, 0, 151, 30⟩ := by intro w; kernel_rfl
theorem q_330 : Piece (stt tree_298 255 532) (stt tree_329 284 585) sts_299 193 ⟨148, 0, 151, 30⟩ ⟨207, 0, 207, 7⟩ := by intro w; kernel_rfl
theorem q_358 : Piece (stt tree_329 284 585) (stt tree_357 310 626) sts_330 257 ⟨207, 0, 207, 7⟩ ⟨208, 0, 218, 91⟩ := by intro w; kernel_rfl
theorem q_417 : Piece (stt tree_357 310 626) (stt tree_416 367 709) sts_358 395 ⟨208, 0, 218, 91⟩ ⟨248, 0, 248, 8⟩ := by intro w; kernel_rfl
theorem q_494 : Piece (stt tree_416 367 709) (stt tree_493 442 824) sts_417 393 ⟨248, 0, 248, 8⟩ ⟨309, 0, 309, 4⟩ := by intro w; kernel_rfl
theorem q_553 : Piece (stt tree_493 442 824) (stt tree_552 499 897) sts_494 395 ⟨309, 0, 309, 4⟩ ⟨332, 0, 336, 22⟩ := by intro w; kernel_rfl
theorem q_602 : Piece (stt tree_552 499 897) (stt tree_601 546 983) sts_553 387 ⟨332, 0, 336, 22⟩ ⟨385, 0, 389, 22⟩ := by intro w; kernel_rfl
theorem q_656 : Piece (stt tree_601 546 983) (stt tree_655 598 1068) sts_602 265 ⟨385, 0, 389, 22⟩ ⟨446, 0, 446, 8⟩ := by intro w; kernel_rfl
theorem q_691 : Piece (stt tree_655 598 1068) (stt tree_690 631 1121) sts_656 298 ⟨446, 0, 446, 8⟩ ⟨469, 0, 469, 8⟩ := by intro w; kernel_rfl
theorem q_719 : Piece (stt tree_690 631 1121) (stt tree_718 657 1156) sts_691 251 ⟨469, 0, 469, 8⟩ ⟨470, 0, 476, 100⟩ := by intro w; kernel_rfl
theorem q_747 : Piece (stt tree_718 657 1156) (stt tree_746 683 1191) sts_719 251 ⟨470, 0, 476, 100⟩ ⟨477, 0, 483, 109⟩ := by intro w; kernel_rfl
theorem q_803 : Piece (stt tree_746 683 1191) (stt tree_802 737 1272) sts_747 392 ⟨477, 0, 483, 109⟩ ⟨527, 0, 527, 8⟩ := by intro w; kernel_rfl
theorem q_838 : Piece (stt tree_802 737 1272) (stt tree_837 770 1317) sts_803 161 ⟨527, 0, 527, 8⟩ ⟨562, 0, 562, 8⟩ := by intro w; kernel_rfl
theorem q_887 : Piece (stt tree_837 770 1317) (stt tree_886 817 1385) sts_838 384 ⟨562, 0, 562, 8⟩ ⟨585, 0, 585, 9⟩ := by intro w; kernel_rfl
theorem q_944 : Piece (stt tree_886 817 1385) (stt tree_943 872 1462) sts_887 395 ⟨585, 0, 585, 9⟩ ⟨611, 0, 611, 8⟩ := by intro w; kernel_rfl
theorem q_979 : Piece (stt tree_943 872 1462) (stt tree_978 905 1511) sts_944 181 ⟨611, 0, 611, 8⟩ ⟨656, 0, 677, 15⟩ := by intro w; kernel_rfl
theorem pre_q : ∀ w : World, (fun os => Fast.tw15667345088766844465 Fast.tw14364793385576792824 Pg w 11 an0 12 ⟨boot_heap w.params, Array.mk [], boot_drawn, boot_toks, os⟩ (topStub Pg)) =
    fun os => some (⟨heap_46 w.params, Array.mk [], {}, 187, os⟩, ⟨Fast.tw11892475500146522536 Fast.tw14364793385576792824 cE, cE, z0, B0⟩) := by intro w; kernel_rfl
theorem block_q : ∀ w : World, (fun os => Fast.tw14374325043358763698 Fast.tw14364793385576792824 Pg w 11 an0 1 1 ⟨heap_46 w.params, Array.mk [], {}, 187, os⟩ (blockOf bE env_41 cE z0 B0)) =
    fun os => some (Flow.next, (stt tree_47 15 187 w os).abs, cE, z0) := by intro w; kernel_rfl
theorem fin_q : ∀ w : World, (fun os => Fast.tw14082659384304107361 Fast.tw14364793385576792824 Pg w 11 an0 2 (stt tree_978 905 1511 w os).abs ⟨doneF Flow.next, cE, ⟨656, 0, 677, 15⟩, B0⟩) =
    fun os => some ⟨heap_979 w.params, Array.mk [], {}, 1511, os⟩ := by intro w; kernel_rfl
theorem bE_eq : bE = sts_49 ++ (sts_107 ++ (sts_144 ++ (sts_197 ++ (sts_246 ++ (sts_299 ++ (sts_330 ++ (sts_358 ++ (sts_417 ++ (sts_494 ++ (sts_553 ++ (sts_602 ++ (sts_656 ++ (sts_691 ++ (sts_719 ++ (sts_747 ++ (sts_803 ++ (sts_838 ++ (sts_887 ++ (sts_944 ++ []))))))))))))))))))) := by kernel_rfl
theorem run (w : World) (os : OsState) : topRun treeTable Pg w 11 an0 (12 + (1 + (399 + (309 + (377 + (371 + (372 + (193 + (257 + (395 + (393 + (395 + (387 + (265 + (298 + (251 + (251 + (392 + (161 + (384 + (395 + (181 + 2)))))))))))))))))))))) ⟨boot_heap w.params, Array.mk [], boot_drawn, boot_toks, os⟩ (topStub Pg) = some ⟨heap_979 w.params, Array.mk [], {}, 1511, os⟩ := by
  have e1 := congrFun (pre_q w) os
  have e2 := congrFun (block_q w) os
  have e3 := congrFun (fin_q w) os
  rw [← Fast.te15667345088766844465, ← Fast.te14364793385576792824, ← Fast.te11892475500146522536] at e1
  rw [← Fast.te14374325043358763698, ← Fast.te14364793385576792824] at e2
  rw [← Fast.te14082659384304107361, ← Fast.te14364793385576792824] at e3
  have k := (q_107.run (q_144.run (q_197.run (q_246.run (q_299.run (q_330.run (q_358.run (q_417.run (q_494.run (q_553.run (q_602.run (q_656.run (q_691.run (q_719.run (q_747.run (q_803.run (q_838.run (q_887.run (q_944.run (q_979.run (piece_nil e3)))))))))))))))))))))
  rw [← bE_eq] at k
  exact go_top e1 (piece_block e2 k)
theorem opn : ∀ w : World, (fencedOpening treeTable Pg w 12938).map (fun s => (s.heap, s.gens, s.drawn, s.toks)) = some (boot_heap w.params, Array.mk [], boot_drawn, boot_toks) :=
  boot_open (by kernel_rfl) (by kernel_rfl) (by intro s; kernel_rfl)
theorem size0 : ∀ w : World, ((boot_heap w.params).isNs mainGlobals && (Array.mk [] : Array GenState).size == 0, (boot_heap w.params).objs.size, (boot_heap w.params).nsMap mainGlobals "__annotations__") = (true, 11, an0) := by
  intro w; rewrite [Fast.te8920871248978507458]; kernel_rfl
noncomputable abbrev HK : Hook := kmHook hd.heap_39 Kas (fun _ => by kernel_rfl) [874]
noncomputable abbrev XT : Shared → Bool := fun s => xlAt vw [] s && recOk (RowW.records PySem.Challenge.rw_nu0204_01.row.toRowW) s
noncomputable abbrev sF (w : World) (os : OsState) : Shared := ⟨heap_979 w.params, Array.mk [], {}, 1511, os⟩
theorem lk_st (w : World) : (fun os => staticsOk (importedModules Pg.main.body) (boot_heap w.params) (heap_979 w.params) && namesBound Pg (heap_979 w.params) && gensDone (sF w os) && laidKept (boot_heap w.params) (heap_979 w.params)) = fun _ => true := by
  rewrite [Fast.te5923862056798008813]; kernel_rfl
theorem lk_1 (w : World) (os : OsState) : (openSeen vw [] (importedModules Pg.main.body) XT true (sF w os)).1 = expectedOf vw := by
  rewrite [Fast.te4187177175401517315]; kernel_rfl
theorem lk_2 (w : World) (os : OsState) : (openSeen vw [] (importedModules Pg.main.body) XT true (sF w os)).2.1 = bltViewBooted := by
  rewrite [Fast.te4187177175401517315]; kernel_rfl
theorem lk_3 (w : World) (os : OsState) : (openSeen vw [] (importedModules Pg.main.body) XT true (sF w os)).2.2.1 = true := by
  rewrite [Fast.te4187177175401517315]; kernel_rfl
theorem lk_4 (w : World) (os : OsState) : (openSeen vw [] (importedModules Pg.main.body) XT true (sF w os)).2.2.2.1 = true := by
  rewrite [Fast.te4187177175401517315]; kernel_rfl
theorem lk_5 (w : World) (os : OsState) : (openSeen vw [] (importedModules Pg.main.body) XT true (sF w os)).2.2.2.2.1 = pinGoodD (drecsOf vw) := by
  rewrite [Fast.te4187177175401517315]; kernel_rfl
theorem lk_6 (w : World) (os : OsState) : (openSeen vw [] (importedModules Pg.main.body) XT true (sF w os)).2.2.2.2.2.1 = plainGoodE vw (looseW vw []) := by
  rewrite [Fast.te4187177175401517315]; kernel_rfl
theorem lk_7 (w : World) (os : OsState) : (openSeen vw [] (importedModules Pg.main.body) XT true (sF w os)).2.2.2.2.2.2.1 = plainGoodD vw [] := by
  rewrite [Fast.te4187177175401517315]; kernel_rfl
theorem lk_8 (w : World) (os : OsState) : (openSeen vw [] (importedModules Pg.main.body) XT true (sF w os)).2.2.2.2.2.2.2.1 = wideGood vw := by
  rewrite [Fast.te4187177175401517315]; kernel_rfl
theorem lk_9 (w : World) (os : OsState) : (openSeen vw [] (importedModules Pg.main.body) XT true (sF w os)).2.2.2.2.2.2.2.2 = clsGoodW vw [] := by
  rewrite [Fast.te4187177175401517315]; kernel_rfl

theorem lk_seen (w : World) (os : OsState) : openSeen vw [] (importedModules Pg.main.body) XT true (sF w os) = openGood vw [] :=
  Prod.ext (lk_1 w os) (Prod.ext (lk_2 w os) (Prod.ext (lk_3 w os) (Prod.ext (lk_4 w os) (Prod.ext (lk_5 w os) (Prod.ext (lk_6 w os) (Prod.ext (lk_7 w os) (Prod.ext (lk_8 w os) (lk_9 w os))))))))
theorem lk_y (w : World) : (fun os => HK.obs (sF w os)) = fun _ => HK.val w := by kernel_rfl
theorem left : LeftO Pg vw [] XT HK.obs HK.val 12938 :=
  LeftO.of_pieces opn size0 run (by kernel_rfl) fun w => funext fun os => looks_pair (congrFun (lk_st w) os) (looks_pair (lk_seen w os) (congrFun (lk_y w) os))
end Mine
end
section
set_option autoImplicit false
set_option linter.unusedVariables false
namespace Mine

noncomputable abbrev Led := List (Addr × Obj)
noncomputable abbrev tupOf (its : Array Value) (n : Nat) : Obj := { cls := .type "tuple", data := .seq its n }

structure GC where
  prog : Program
  w : World
  K : Frag
  p : Program
  loose : List Str
  mean : ExcName → Option Value
  mg : Str → Option Value
  mb : Str → Option Value
  pl : Addr
  tkQual : Str
  tkParams : Arguments
  tkBody : List Stmt
  tkScope : Scope

inductive MV where
  | none
  | bool (b : Bool)
  | int (i : Int)
  | str (s : Str)
  | tup (l : List MV)
  | lst (l : List MV)
  | dic (l : List (Int × MV))
  | obj (c : Addr) (fs : List (Str × MV))
  | set (l : List Int)
  | rng (a b : Int)
  | st (v : Value)
  | take
  | place

noncomputable def canT (vs : List Int) (led : Bool) : SetTable := { mask := if vs.length ≤ 4 then 7 else 31, place := (vs.map Int.toNat).toArray, dummies := #[], finger := 0, led := led, moves := if vs.length ≤ 4 then 0 else 1, plain := true }
noncomputable def subs : List Int → List (List Int)
  | [] => [[]]
  | x :: r => (subs r).map (x :: ·) ++ subs r
noncomputable def seven : List Int := [0, 1, 2, 3, 4, 5, 6]
noncomputable def CanSet (w : World) (o : Obj) (vs : List Int) : Prop :=
  ∃ es ep, o = { cls := .type "set", dict := none, data := .set es ep (canT vs (!(w.params.followText "set-order"))) } ∧ vs ∈ subs seven ∧ es.toList.map (·.1) = vs ∧ (∀ e ∈ es.toList, ∃ tk, e.2 = .int e.1 tk)
inductive Taker (g : GC) (fz : Led) (tf : Addr) : Prop
  | mk (clos : List (Str × Addr)) (doc pm : Value) (c' : Addr) (ctv : Value) (oc : Obj) (vs : Array Value) (t : Tok) (a1 a2 : Addr) (o1 o2 : Obj) (lc : Addr) (nc : Nat) (us : List Value) (ns : List Int)
    (h1 : (tf, fnMade (Str.ofString "take") g.tkQual g.tkParams g.tkBody g.tkScope clos doc pm c' ctv) ∈ fz) (h2 : (c', oc) ∈ fz) (h3 : oc.data = .fields vs) (h4 : vs[1]? = some (.str g.tkQual t))
    (h5 : clos.lookup (Str.ofString "cells") = some a1) (h6 : clos.lookup (Str.ofString "place") = some a2) (h7 : (a1, o1) ∈ fz) (h8 : o1.data = .cell (some (.ref lc))) (h9 : (a2, o2) ∈ fz) (h10 : o2.data = .cell (some (.ref g.pl)))
    (h11 : (lc, listOf us.toArray nc) ∈ fz) (h12 : IntsAre us ns) (h13 : 1 ≤ ns.length) (h14 : ns.length ≤ 63)

inductive Rep (g : GC) (fz : Led) : Value → MV → Prop
  | none : Rep g fz .none .none
  | bool (b : Bool) : Rep g fz (.bool b) (.bool b)
  | int (i : Int) (t : Tok) : Rep g fz (.int i t) (.int i)
  | str (s : Str) (t : Tok) : Rep g fz (.str s t) (.str s)
  | st (v : Value) : handedIn v = true → Rep g fz v (.st v)
  | take (tf : Addr) : Taker g fz tf → Rep g fz (.ref tf) .take
  | place : Rep g fz (.ref g.pl) .place
  | set {a : Addr} {o : Obj} {vs : List Int} : (a, o) ∈ fz → CanSet g.w o vs → Rep g fz (.ref a) (.set vs)
  | rng {r : Addr} {a b : Int} {t u v : Tok} : (r, ({ cls := .type "range", dict := none, data := .fields #[.int a t, .int b u, .int 1 v], slots := #[] } : Obj)) ∈ fz → Rep g fz (.ref r) (.rng a b)
  | tup {a : Addr} {vs : List Value} {n : Nat} {ms : List MV} : (a, tupOf vs.toArray n) ∈ fz → vs.length = ms.length → vs.length ≤ 1000 → (∀ (i : Nat) (v : Value) (m : MV), vs[i]? = some v → ms[i]? = some m → Rep g fz v m) → Rep g fz (.ref a) (.tup ms)
  | lst {a : Addr} {vs : List Value} {n : Nat} {ms : List MV} : (a, listOf vs.toArray n) ∈ fz → vs.length = ms.length → vs.length ≤ 1000 → (∀ (i : Nat) (v : Value) (m : MV), vs[i]? = some v → ms[i]? = some m → Rep g fz v m) → Rep g fz (.ref a) (.lst ms)
  | dic {a : Addr} {o : Obj} {kvs : List (Int × Value)} {es : List (Int × MV)} : (a, o) ∈ fz → (a == sysModules) = false → o.IsDictOf (PySem.intKind g.prog g.w) kvs → kvs.map (·.1) = es.map (·.1) → kvs.length ≤ 1000 →
      (∀ (i : Nat) (v : Value) (m : MV), (kvs[i]?).map (·.2) = some v → (es[i]?).map (·.2) = some m → Rep g fz v m) → Rep g fz (.ref a) (.dic es)
  | obj {x C d : Addr} {es : List DictEntry} {n : Nat} {fs : List (Str × MV)} (val : Str → Value) : (x, instObj C d) ∈ fz → (d, dictOf es n) ∈ fz → (∀ name, fs.lookup name = none → getL name es = some none) →
      (∀ name m, fs.lookup name = some m → getL name es = some (some (val name))) → es.length ≤ 100 → (∀ name m, fs.lookup name = some m → Rep g fz (val name) m) → Rep g fz (.ref x) (.obj C fs)

theorem Taker.mono {g : GC} {fz fz' : Led} {tf : Addr} (hs : ∀ p ∈ fz, p ∈ fz') (h : Taker g fz tf) : Taker g fz' tf := by
  obtain ⟨clos, doc, pm, c', ctv, oc, vs, t, a1, a2, o1, o2, lc, nc, us, ns, h1, h2, h3, h4, h5, h6, h7, h8, h9, h10, h11, h12, h13, h14⟩ := h
  exact ⟨clos, doc, pm, c', ctv, oc, vs, t, a1, a2, o1, o2, lc, nc, us, ns, hs _ h1, hs _ h2, h3, h4, h5, h6, hs _ h7, h8, hs _ h9, h10, hs _ h11, h12, h13, h14⟩
theorem Rep.mono {g : GC} {fz fz' : Led} {v : Value} {m : MV} (hs : ∀ p ∈ fz, p ∈ fz') (h : Rep g fz v m) : Rep g fz' v m := by
  induction h with
  | none => exact .none
  | bool b => exact .bool b
  | int i t => exact .int i t
  | str s t => exact .str s t
  | st v h => exact .st v h
  | take tf h => exact .take tf (h.mono hs)
  | place => exact .place
  | set h c => exact .set (hs _ h) c
  | rng h => exact .rng (hs _ h)
  | tup h1 h2 h3 _ ih => exact .tup (hs _ h1) h2 h3 ih
  | lst h1 h2 h3 _ ih => exact .lst (hs _ h1) h2 h3 ih
  | dic h1 h2 h3 h4 h5 _ ih => exact .dic (hs _ h1) h2 h3 h4 h5 ih
  | obj val h1 h2 h3 h4 h5 _ ih => exact .obj val (hs _ h1) (hs _ h2) h3 h4 h5 ih
theorem Rep.handed {g : GC} {fz : Led} {v : Value} {m : MV} (h : Rep g fz v m) : handedIn v = true := by
  cases h <;> first | rfl | assumption

section
variable {g : GC} {fz : Led} {u : Value} {P : Value → Prop}
@[elab_as_elim] theorem Rep.elim_none (h : Rep g fz u .none) (k : P .none) : P u := by cases h; exact k
@[elab_as_elim] theorem Rep.elim_bool {b : Bool} (h : Rep g fz u (.bool b)) (k : P (.bool b)) : P u := by cases h; exact k
@[elab_as_elim] theorem Rep.elim_int {i : Int} (h : Rep g fz u (.int i)) (k : ∀ t, P (.int i t)) : P u := by cases h; exact k _
@[elab_as_elim] theorem Rep.elim_str {x : Str} (h : Rep g fz u (.str x)) (k : ∀ t, P (.str x t)) : P u := by cases h; exact k _
@[elab_as_elim] theorem Rep.elim_st {v : Value} (h : Rep g fz u (.st v)) (k : handedIn v = true → P v) : P u := by cases h; exact k (by assumption)
@[elab_as_elim] theorem Rep.elim_take (h : Rep g fz u .take) (k : ∀ tf, Taker g fz tf → P (.ref tf)) : P u := by cases h; exact k _ (by assumption)
@[elab_as_elim] theorem Rep.elim_place (h : Rep g fz u .place) (k : P (.ref g.pl)) : P u := by cases h; exact k
@[elab_as_elim] theorem Rep.elim_set {vs : List Int} (h : Rep g fz u (.set vs)) (k : ∀ {a : Addr} {o : Obj}, (a, o) ∈ fz → CanSet g.w o vs → P (.ref a)) : P u := by cases h with | set a b => exact k a b
@[elab_as_elim] theorem Rep.elim_rng {a b : Int} (h : Rep g fz u (.rng a b)) (k : ∀ {r : Addr} {t u v : Tok}, (r, ({ cls := .type "range", dict := Option.none, data := .fields #[.int a t, .int b u, .int 1 v], slots := #[] } : Obj)) ∈ fz → P (.ref r)) : P u := by cases h with | rng a => exact k a
@[elab_as_elim] theorem Rep.elim_tup {ms : List MV} (h : Rep g fz u (.tup ms)) (k : ∀ {a : Addr} {vs : List Value} {n : Nat}, (a, tupOf vs.toArray n) ∈ fz → vs.length = ms.length → vs.length ≤ 1000 → (∀ (i : Nat) (v : Value) (m : MV), vs[i]? = some v → ms[i]? = some m → Rep g fz v m) → P (.ref a)) : P u := by cases h with | tup a b c d => exact k a b c d
@[elab_as_elim] theorem Rep.elim_lst {ms : List MV} (h : Rep g fz u (.lst ms)) (k : ∀ {a : Addr} {vs : List Value} {n : Nat}, (a, listOf vs.toArray n) ∈ fz → vs.length = ms.length → vs.length ≤ 1000 → (∀ (i : Nat) (v : Value) (m : MV), vs[i]? = some v → ms[i]? = some m → Rep g fz v m) → P (.ref a)) : P u := by cases h with | lst a b c d => exact k a b c d
@[elab_as_elim] theorem Rep.elim_dic {es : List (Int × MV)} (h : Rep g fz u (.dic es)) (k : ∀ {a : Addr} {o : Obj} {kvs : List (Int × Value)}, (a, o) ∈ fz → (a == sysModules) = false → o.IsDictOf (PySem.intKind g.prog g.w) kvs → kvs.map (·.1) = es.map (·.1) → kvs.length ≤ 1000 → (∀ (i : Nat) (v : Value) (m : MV), (kvs[i]?).map (·.2) = some v → (es[i]?).map (·.2) = some m → Rep g fz v m) → P (.ref a)) : P u := by cases h with | dic a b c d e f => exact k a b c d e f
@[elab_as_elim] theorem Rep.elim_obj {C : Addr} {fs : List (Str × MV)} (h : Rep g fz u (.obj C fs)) (k : ∀ {x d : Addr} {es : List DictEntry} {n : Nat} (val : Str → Value), (x, instObj C d) ∈ fz → (d, dictOf es n) ∈ fz → (∀ name, fs.lookup name = Option.none → getL name es = some Option.none) → (∀ name m, fs.lookup name = some m → getL name es = some (some (val name))) → es.length ≤ 100 → (∀ name m, fs.lookup name = some m → Rep g fz (val name) m) → P (.ref x)) : P u := by cases h with | obj v a b c d e f => exact k v a b c d e f
end

noncomputable def RepL (g : GC) (fz : Led) (vs : List Value) (ms : List MV) : Prop := vs.length = ms.length ∧ ∀ (i : Nat) (v : Value) (m : MV), vs[i]? = some v → ms[i]? = some m → Rep g fz v m
theorem RepL.mono {g : GC} {fz fz' : Led} {vs : List Value} {ms : List MV} (hs : ∀ p ∈ fz, p ∈ fz') (h : RepL g fz vs ms) : RepL g fz' vs ms := ⟨h.1, fun i v m a b => (h.2 i v m a b).mono hs⟩
theorem RepL.nil {g : GC} {fz : Led} : RepL g fz [] [] := ⟨rfl, fun i v m a _ => by simp at a⟩
theorem RepL.cons {g : GC} {fz : Led} {v : Value} {m : MV} {vs : List Value} {ms : List MV} (h : Rep g fz v m) (hr : RepL g fz vs ms) : RepL g fz (v :: vs) (m :: ms) :=
  ⟨by simp [hr.1], fun i u n a b => by
    cases i with
    | zero => simp at a b; subst a b; exact h
    | succ i => simp at a b; exact hr.2 i u n a b⟩
theorem RepL.cons_inv {g : GC} {fz : Led} {vs : List Value} {m : MV} {ms : List MV} (h : RepL g fz vs (m :: ms)) : ∃ v vs', vs = v :: vs' ∧ Rep g fz v m ∧ RepL g fz vs' ms := by
  obtain ⟨hl, hr⟩ := h
  cases vs with
  | nil => simp at hl
  | cons v vs' => exact ⟨v, vs', rfl, hr 0 v m rfl rfl, by simpa using hl, fun i u n a b => hr (i + 1) u n (by simpa using a) (by simpa using b)⟩
theorem RepL.nil_inv {g : GC} {fz : Led} {vs : List Value} (h : RepL g fz vs []) : vs = [] := List.length_eq_zero_iff.mp h.1
theorem RepL.snoc {g : GC} {fz : Led} {v : Value} {m : MV} {vs : List Value} {ms : List MV} (hr : RepL g fz vs ms) (h : Rep g fz v m) : RepL g fz (vs ++ [v]) (ms ++ [m]) :=
  ⟨by simp [hr.1], fun i u n a b => by
    by_cases hi : i < vs.length
    · rw [List.getElem?_append_left hi] at a
      rw [List.getElem?_append_left (by rw [← hr.1]; exact hi)] at b
      exact hr.2 i u n a b
    · rw [List.getElem?_append_right (by omega)] at a
      rw [List.getElem?_append_right (by rw [← hr.1]; omega), ← hr.1] at b
      cases hj : i - vs.length with
      | zero => rw [hj] at a b; simp at a b; subst a b; exact h
      | succ j => rw [hj] at a; simp at a⟩

@[elab_as_elim] theorem RepL.elim_cons {g : GC} {fz : Led} {P : List Value → Prop} {vs : List Value} {m : MV} {ms : List MV} (h : RepL g fz vs (m :: ms)) (k : ∀ v vs', Rep g fz v m → RepL g fz vs' ms → P (v :: vs')) : P vs := by
  obtain ⟨v, vs', rfl, a, b⟩ := h.cons_inv
  exact k v vs' a b
@[elab_as_elim] theorem RepL.elim_nil {g : GC} {fz : Led} {P : List Value → Prop} {vs : List Value} (h : RepL g fz vs []) (k : P []) : P vs := by
  rw [h.nil_inv]; exact k
@[elab_as_elim] theorem vs0 {P : List Value → Prop} {vs : List Value} (h : vs.length = 0) (k : P []) : P vs := by
  rw [List.length_eq_zero_iff.mp h]; exact k
theorem vsS {P : List Value → Prop} {n : Nat} {vs : List Value} (h : vs.length = n + 1) (k : ∀ a r, r.length = n → P (a :: r)) : P vs := by
  cases vs with
  | nil => cases h
  | cons a r => exact k a r (Nat.succ.inj h)
@[elab_as_elim] theorem vs1 {P : List Value → Prop} {vs : List Value} (h : vs.length = 1) (k : ∀ a, P [a]) : P vs := vsS h fun a _ h => vs0 h (k a)
@[elab_as_elim] theorem vs2 {P : List Value → Prop} {vs : List Value} (h : vs.length = 2) (k : ∀ a b, P [a, b]) : P vs := vsS h fun a _ h => vs1 h (k a)
@[elab_as_elim] theorem vs3 {P : List Value → Prop} {vs : List Value} (h : vs.length = 3) (k : ∀ a b c, P [a, b, c]) : P vs := vsS h fun a _ h => vs2 h (k a)
@[elab_as_elim] theorem vs4 {P : List Value → Prop} {vs : List Value} (h : vs.length = 4) (k : ∀ a b c d, P [a, b, c, d]) : P vs := vsS h fun a _ h => vs3 h (k a)
theorem len2 {us : List Value} (h : us.length = 2) : ∃ a b, us = [a, b] := vs2 h fun a b => ⟨a, b, rfl⟩
theorem len3 {us : List Value} (h : us.length = 3) : ∃ a b c, us = [a, b, c] := vs3 h fun a b c => ⟨a, b, c, rfl⟩

structure St (h₀ : Heap) (L : Addr) (m : Str → Option Value) (led : Led) (h : Heap) : Prop where
  fr : Fr h₀ L h m
  nw : News h₀ L h led
  nd : (led.map (·.1)).Nodup

theorem St.lt {h₀ h : Heap} {L : Addr} {m : Str → Option Value} {led : Led} (S : St h₀ L m led h) : ∀ p ∈ led, p.1 < h.objs.size := fun p hp => Heap.lt_size (S.nw p hp).1
theorem St.alloc {h₀ h : Heap} {L : Addr} {m : Str → Option Value} {led : Led} (S : St h₀ L m led h) (o : Obj) (hf : o.isFreed = false := by rfl) : St h₀ L m ((h.objs.size, o) :: led) (h.push o) :=
  ⟨S.fr.push o, S.nw.push S.fr o hf, by
    rw [List.map_cons, List.nodup_cons]
    refine ⟨fun hm => ?_, S.nd⟩
    obtain ⟨p, hp, e⟩ := List.mem_map.mp hm
    have := S.lt p hp
    rw [e] at this
    exact Nat.lt_irrefl _ this⟩
theorem St.perm {h₀ h : Heap} {L : Addr} {m : Str → Option Value} {led led' : Led} (S : St h₀ L m led h) (p : led.Perm led') : St h₀ L m led' h :=
  ⟨S.fr, fun q hq => S.nw q (p.mem_iff.mpr hq), (p.map _).nodup_iff.mp S.nd⟩
theorem St.sub {h₀ h : Heap} {L : Addr} {m : Str → Option Value} {led led' : Led} (S : St h₀ L m led h) (p : led'.Sublist led) : St h₀ L m led' h :=
  ⟨S.fr, fun q hq => S.nw q (p.subset hq), (p.map _).nodup S.nd⟩
theorem St.keeps {h₀ h h' : Heap} {L : Addr} {m : Str → Option Value} {led : Led} (S : St h₀ L m led h) (k : ∀ b o, h.get? b = some o → h'.get? b = some o) : St h₀ L m led h' :=
  ⟨⟨S.fr.ns.keeps k, fun b o e => k b o (S.fr.keep b o e), S.fr.above⟩, fun p hp => ⟨k _ _ (S.nw p hp).1, (S.nw p hp).2⟩, S.nd⟩
theorem St.dNe {h₀ h : Heap} {L d : Addr} {m : Str → Option Value} {pre post : Led} {o : Obj} (S : St h₀ L m (pre ++ (d, o) :: post) h) : (∀ p ∈ pre, p.1 ≠ d) ∧ (∀ p ∈ post, p.1 ≠ d) := by
  have n := S.nd
  rw [List.map_append, List.map_cons, List.nodup_append] at n
  obtain ⟨_, n2, n3⟩ := n
  rw [List.nodup_cons] at n2
  refine ⟨fun p hp e => n3 p.1 (List.mem_map_of_mem hp) d (by simp) e, fun p hp e => n2.1 (List.mem_map.mpr ⟨p, hp, e⟩)⟩
theorem St.turn {h₀ h h' : Heap} {L d : Addr} {m : Str → Option Value} {pre post : Led} {o o' : Obj} (S : St h₀ L m (pre ++ (d, o) :: post) h) (hs : Heap.ExtBut d h h') (ho : h'.get? d = some o') : St h₀ L m (pre ++ (d, o') :: post) h' := by
  have D := S.nw (d, o) (by simp)
  obtain ⟨h1, h2⟩ := S.dNe
  refine ⟨⟨S.fr.ns.extBut hs (Ne.symm D.2.1), fun b x e => hs b x (fun q => ?_) (S.fr.keep b x e), S.fr.above⟩, fun p hp => ?_, ?_⟩
  · have := D.2.2; rw [← q, e] at this; cases this
  · rcases List.mem_append.mp hp with hp | hp
    · have P := S.nw p (List.mem_append_left _ hp); exact ⟨hs _ _ (h1 p hp) P.1, P.2⟩
    · rcases List.mem_cons.mp hp with rfl | hp
      · exact ⟨ho, D.2⟩
      · have P := S.nw p (List.mem_append_right _ (.tail _ hp)); exact ⟨hs _ _ (h2 p hp) P.1, P.2⟩
  · have := S.nd
    simpa using this
theorem St.named {h₀ h h' : Heap} {L : Addr} {m m' : Str → Option Value} {led : Led} (S : St h₀ L m led h) (hn : h'.Ns L m') (hs : Heap.SameBut L h h') : St h₀ L m' led h' :=
  ⟨S.fr.set hn hs, S.nw.set hs, S.nd⟩

noncomputable abbrev plE (g : GC) (k : Int) (t : Tok) : Addr × Obj := (g.pl, listOf #[.int k t] 0)

noncomputable def Sta (g : GC) (h₀ : Heap) (L : Addr) (m : Str → Option Value) (mt : Led) (k : Int) (fz : Led) (h : Heap) : Prop := ∃ t, St h₀ L m (plE g k t :: (mt ++ fz)) h

theorem Sta.alloc {g : GC} {h₀ h : Heap} {L : Addr} {m : Str → Option Value} {mt fz : Led} {k : Int} (S : Sta g h₀ L m mt k fz h) (o : Obj) (hf : o.isFreed = false := by rfl) : Sta g h₀ L m mt k ((h.objs.size, o) :: fz) (h.push o) := by
  obtain ⟨t, S⟩ := S
  refine ⟨t, (S.alloc o hf).perm ?_⟩
  refine (List.Perm.swap _ _ _).trans (List.Perm.cons _ ?_)
  exact (List.perm_middle).symm
theorem Sta.allocM {g : GC} {h₀ h : Heap} {L : Addr} {m : Str → Option Value} {mt fz : Led} {k : Int} (S : Sta g h₀ L m mt k fz h) (o : Obj) (hf : o.isFreed = false := by rfl) : Sta g h₀ L m ((h.objs.size, o) :: mt) k fz (h.push o) := by
  obtain ⟨t, S⟩ := S
  exact ⟨t, (S.alloc o hf).perm (List.Perm.swap _ _ _)⟩
theorem Sta.keeps {g : GC} {h₀ h h' : Heap} {L : Addr} {m : Str → Option Value} {mt fz : Led} {k : Int} (S : Sta g h₀ L m mt k fz h) (q : ∀ b o, h.get? b = some o → h'.get? b = some o) : Sta g h₀ L m mt k fz h' := by
  obtain ⟨t, S⟩ := S
  exact ⟨t, S.keeps q⟩
theorem Sta.freeze {g : GC} {h₀ h : Heap} {L d : Addr} {o : Obj} {m : Str → Option Value} {mt fz : Led} {k : Int} (S : Sta g h₀ L m ((d, o) :: mt) k fz h) : Sta g h₀ L m mt k ((d, o) :: fz) h := by
  obtain ⟨t, S⟩ := S
  exact ⟨t, S.perm (List.Perm.cons _ (List.perm_middle).symm)⟩
theorem Sta.dropM {g : GC} {h₀ h : Heap} {L : Addr} {p : Addr × Obj} {m : Str → Option Value} {mt fz : Led} {k : Int} (S : Sta g h₀ L m (p :: mt) k fz h) : Sta g h₀ L m mt k fz h := by
  obtain ⟨t, S⟩ := S
  exact ⟨t, S.sub (List.Sublist.cons_cons _ (List.sublist_cons_self _ _))⟩
theorem Sta.turnM {g : GC} {h₀ h h' : Heap} {L d : Addr} {m : Str → Option Value} {pre post fz : Led} {o o' : Obj} {k : Int} (S : Sta g h₀ L m (pre ++ (d, o) :: post) k fz h) (hs : Heap.ExtBut d h h') (ho : h'.get? d = some o') : Sta g h₀ L m (pre ++ (d, o') :: post) k fz h' := by
  obtain ⟨t, S⟩ := S
  have e : ∀ x : Obj, plE g k t :: (pre ++ (d, x) :: post ++ fz) = (plE g k t :: pre) ++ (d, x) :: (post ++ fz) := fun x => by simp
  refine ⟨t, ?_⟩
  rw [e] at S ⊢
  exact S.turn hs ho
theorem Sta.get {g : GC} {h₀ h : Heap} {L : Addr} {m : Str → Option Value} {mt fz : Led} {k : Int} (S : Sta g h₀ L m mt k fz h) {p : Addr × Obj} (hp : p ∈ fz) : h.get? p.1 = some p.2 := by
  obtain ⟨t, S⟩ := S
  exact (S.nw p (.tail _ (List.mem_append_right _ hp))).1
theorem Sta.getM {g : GC} {h₀ h : Heap} {L : Addr} {m : Str → Option Value} {mt fz : Led} {k : Int} (S : Sta g h₀ L m mt k fz h) {p : Addr × Obj} (hp : p ∈ mt) : h.get? p.1 = some p.2 := by
  obtain ⟨t, S⟩ := S
  exact (S.nw p (.tail _ (List.mem_append_left _ hp))).1
theorem Sta.ns {g : GC} {h₀ h : Heap} {L : Addr} {m : Str → Option Value} {mt fz : Led} {k : Int} (S : Sta g h₀ L m mt k fz h) : h.Ns L m := by
  obtain ⟨t, S⟩ := S
  exact S.fr.ns
theorem Sta.keep {g : GC} {h₀ h : Heap} {L : Addr} {m : Str → Option Value} {mt fz : Led} {k : Int} (S : Sta g h₀ L m mt k fz h) : ∀ b o, h₀.get? b = some o → h.get? b = some o := by
  obtain ⟨t, S⟩ := S
  exact S.fr.keep
theorem Sta.fr {g : GC} {h₀ h : Heap} {L : Addr} {m : Str → Option Value} {mt fz : Led} {k : Int} (S : Sta g h₀ L m mt k fz h) : Fr h₀ L h m := by
  obtain ⟨t, S⟩ := S
  exact S.fr
theorem Sta.nwF {g : GC} {h₀ h : Heap} {L : Addr} {m : Str → Option Value} {mt fz : Led} {k : Int} (S : Sta g h₀ L m mt k fz h) : News h₀ L h fz := by
  obtain ⟨t, S⟩ := S
  exact fun p hp => S.nw p (.tail _ (List.mem_append_right _ hp))

structure Ok (g : GC) (n : Nat) (A : Around) (fe : Env) (h₀ : Heap) (L : Addr) : Prop where
  below : ∃ A₀ base outer, Below A₀ base outer h₀ ∧ A.frames = some (fe :: outer)
  frame : fe.frame = some L
  kind : fe.scope.kind = .function
  kin : g.K.In h₀
  top : Top g.p g.loose g.mean g.mg g.mb h₀
  hand : A.handled = none
  room : A.depth + 2 * n + 2 < recursionLimit
  units : A.units + 12 * n + 100 < cLine
theorem Ok.le {g : GC} {n n' : Nat} {A : Around} {fe : Env} {h₀ : Heap} {L : Addr} (O : Ok g n A fe h₀ L) (h : n' ≤ n) : Ok g n' A fe h₀ L :=
  ⟨O.below, O.frame, O.kind, O.kin, O.top, O.hand, by have := O.room; omega, by have := O.units; omega⟩

inductive CellAt (g : GC) (env : Env) (mt fz : Led) (x : Str) (v : MV) : Prop
  | mk (c : Addr) (o : Obj) (u : Value) (a : env.cells.lookup x = some c) (b : (c, o) ∈ mt ∨ (c, o) ∈ fz) (d : o.data = .cell (some u)) (r : Rep g fz u v)
theorem CellAt.imp {g : GC} {env : Env} {mt mt' fz fz' : Led} {x : Str} {v : MV} (h1 : ∀ p ∈ mt, p ∈ mt') (h2 : ∀ p ∈ fz, p ∈ fz') (h : CellAt g env mt fz x v) : CellAt g env mt' fz' x v := by
  obtain ⟨c, o, u, a, b, d, r⟩ := h
  exact ⟨c, o, u, a, b.imp (h1 _) (h2 _), d, r.mono h2⟩
structure Vars (g : GC) (env : Env) (sc : Scope) (σ : List (Str × MV)) (h₀ : Heap) (L : Addr) (m : Str → Option Value) (mt fz : Led) : Prop where
  scope : env.scope = sc
  kind : sc.kind = .function
  globals : env.globals = mainGlobals
  builtins : env.builtins = builtinsNs
  locs : ∃ mN, ((env.locals = L ∧ mN = m) ∨ (∃ oC, (env.locals, oC) ∈ mt ∧ ∀ h : Heap, h.get? env.locals = some oC → h.Ns env.locals mN)) ∧
    ∀ x v, σ.lookup x = some v → sc.names.lookup x = some .local → ∃ u, mN x = some u ∧ Rep g fz u v
  cells : ∀ x, sc.names.lookup x = some .cell ∨ sc.names.lookup x = some .free → ∃ c, env.cells.lookup x = some c
  vals : ∀ x v, σ.lookup x = some v → sc.names.lookup x = some .cell ∨ sc.names.lookup x = some .free → CellAt g env mt fz x v
theorem Vars.mono {g : GC} {env : Env} {sc : Scope} {σ : List (Str × MV)} {h₀ : Heap} {L : Addr} {m : Str → Option Value} {mt fz fz' : Led} (V : Vars g env sc σ h₀ L m mt fz) (hs : ∀ p ∈ fz, p ∈ fz') : Vars g env sc σ h₀ L m mt fz' :=
  ⟨V.scope, V.kind, V.globals, V.builtins, let ⟨mN, a, b⟩ := V.locs; ⟨mN, a, fun x v e q => let ⟨u, c, d⟩ := b x v e q; ⟨u, c, d.mono hs⟩⟩, V.cells,
    fun x v e q => (V.vals x v e q).imp (fun _ h => h) hs⟩

inductive Aft (g : GC) (h₀ : Heap) (L : Addr) (m : Str → Option Value) (mt fz : Led) (s : Shared) (v : Value) (s' : Shared) (mv : MV) (k' : Int) : Prop
  | mk (h' : Heap) (tk' : Nat) (fz' : Led) (e : s' = { s with heap := h', toks := tk' }) (hs : ∀ p ∈ fz, p ∈ fz') (S : Sta g h₀ L m mt k' fz' h') (R : Rep g fz' v mv)
inductive Res (g : GC) (h₀ : Heap) (L : Addr) (m : Str → Option Value) (mt fz : Led) (s : Shared) (Q : MV → Int → Prop) (v : Value) (s' : Shared) : Prop
  | mk (mv : MV) (k' : Int) (q : Q mv k') (a : Aft g h₀ L m mt fz s v s' mv k')

noncomputable def Ev (g : GC) (n : Nat) (sc : Scope) (e : Expr) (σ : List (Str × MV)) (k : Int) (Q : MV → Int → Prop) : Prop :=
  ∀ A fe h₀ L m mt fz env s E, Ok g n A fe h₀ L → Vars g env sc σ h₀ L m mt fz → (env = fe ∨ env.frame = fe.frame) → Sta g h₀ L m mt k fz s.heap →
    wpAny (model g.prog g.w) A (eval e env) (Res g h₀ L m mt fz s Q) E s

noncomputable def Fn (g : GC) (n : Nat) (f : MV) (args : List MV) (k : Int) (Q : MV → Int → Prop) : Prop :=
  ∀ A fe h₀ L m mt fz s E fv vs, Ok g n A fe h₀ L → Sta g h₀ L m mt k fz s.heap → Rep g fz fv f → RepL g fz vs args →
    wpAny (model g.prog g.w) A (call fv vs) (Res g h₀ L m mt fz s Q) E s

theorem Aft.trans {g : GC} {h₀ : Heap} {L : Addr} {m : Str → Option Value} {mt fz fz₁ : Led} {s : Shared} {h₁ : Heap} {tk₁ : Nat} {v : Value} {s' : Shared} {mv : MV} {k' : Int} (hs : ∀ p ∈ fz, p ∈ fz₁)
    (h : Aft g h₀ L m mt fz₁ { s with heap := h₁, toks := tk₁ } v s' mv k') : Aft g h₀ L m mt fz s v s' mv k' := by
  obtain ⟨h', tk', fz', e, a, b, c⟩ := h
  exact ⟨h', tk', fz', e, fun p hp => a p (hs p hp), b, c⟩
theorem Res.trans {g : GC} {h₀ : Heap} {L : Addr} {m : Str → Option Value} {mt fz fz₁ : Led} {s : Shared} {h₁ : Heap} {tk₁ : Nat} {v : Value} {s' : Shared} {Q : MV → Int → Prop} (hs : ∀ p ∈ fz, p ∈ fz₁)
    (h : Res g h₀ L m mt fz₁ { s with heap := h₁, toks := tk₁ } Q v s') : Res g h₀ L m mt fz s Q v s' := by
  obtain ⟨mv, k', q, a⟩ := h
  exact ⟨mv, k', q, a.trans hs⟩
theorem Res.imp {g : GC} {h₀ : Heap} {L : Addr} {m : Str → Option Value} {mt fz : Led} {s : Shared} {v : Value} {s' : Shared} {Q Q' : MV → Int → Prop} (hq : ∀ v k, Q v k → Q' v k)
    (h : Res g h₀ L m mt fz s Q v s') : Res g h₀ L m mt fz s Q' v s' := by
  obtain ⟨mv, k', q, a⟩ := h
  exact ⟨mv, k', hq _ _ q, a⟩
section
variable {g : GC} {M : Model} {A : Around} {t : Sem Value} {h₀ : Heap} {L : Addr} {m : Str → Option Value} {mt fz fz₁ : Led} {s s₀ : Shared} {h₁ : Heap} {tk₁ : Nat} {Q : MV → Int → Prop} {E : Value → Shared → Prop} {P : Value → Shared → Prop}
theorem wp_trans (hs : ∀ p ∈ fz, p ∈ fz₁) (h : wpAny M A t (Res g h₀ L m mt fz₁ { s with heap := h₁, toks := tk₁ } Q) E s₀) : wpAny M A t (Res g h₀ L m mt fz s Q) E s₀ :=
  wpAny_mono h (fun _ _ => Res.trans (s := s) hs) fun _ _ x => x
theorem wp_res (h : wpAny M A t (Res g h₀ L m mt fz s Q) E s₀)
    (k : ∀ v mv k' h' tk' fz', Q mv k' → (∀ p ∈ fz, p ∈ fz') → Sta g h₀ L m mt k' fz' h' → Rep g fz' v mv → P v { s with heap := h', toks := tk' }) : wpAny M A t P E s₀ :=
  wpAny_mono h (fun v s' x => by
    obtain ⟨mv, k', q, h', tk', fz', e, hs, S, R⟩ := x
    rw [e]
    exact k v mv k' h' tk' fz' q hs S R) fun _ _ x => x
end
theorem Ev.mono {g : GC} {n : Nat} {sc : Scope} {e : Expr} {σ : List (Str × MV)} {k : Int} {Q Q' : MV → Int → Prop} (h : Ev g n sc e σ k Q) (hq : ∀ v k, Q v k → Q' v k) : Ev g n sc e σ k Q' :=
  fun A fe h₀ L m mt fz env s E O V hf S => wpAny_mono (h A fe h₀ L m mt fz env s E O V hf S) (fun _ _ => Res.imp hq) fun _ _ x => x
theorem Fn.mono {g : GC} {n : Nat} {f : MV} {args : List MV} {k : Int} {Q Q' : MV → Int → Prop} (h : Fn g n f args k Q) (hq : ∀ v k, Q v k → Q' v k) : Fn g n f args k Q' :=
  fun A fe h₀ L m mt fz s E fv vs O S R RL => wpAny_mono (h A fe h₀ L m mt fz s E fv vs O S R RL) (fun _ _ => Res.imp hq) fun _ _ x => x
end Mine
end
section
set_option autoImplicit false
set_option linter.unusedVariables false
namespace Mine
variable {g : GC} {n : Nat} {sc : Scope} {σ : List (Str × MV)} {k : Int} {Q : MV → Int → Prop}

theorem Aft.here {h₀ : Heap} {L : Addr} {m : Str → Option Value} {mt fz : Led} {s : Shared} {v : Value} {mv : MV} {k' : Int} {tk : Nat} (S : Sta g h₀ L m mt k' fz s.heap) (R : Rep g fz v mv) :
    Aft g h₀ L m mt fz s v { s with toks := tk } mv k' := ⟨s.heap, tk, fz, rfl, fun _ h => h, S, R⟩
theorem Aft.here0 {h₀ : Heap} {L : Addr} {m : Str → Option Value} {mt fz : Led} {s : Shared} {v : Value} {mv : MV} {k' : Int} (S : Sta g h₀ L m mt k' fz s.heap) (R : Rep g fz v mv) :
    Aft g h₀ L m mt fz s v s mv k' := ⟨s.heap, s.toks, fz, rfl, fun _ h => h, S, R⟩

theorem ev_int {i : Int} {kk : Nat} {pos : Pos} (h : Q (.int i) k) : Ev g n sc (.Constant (.int i) kk pos) σ k Q :=
  fun _ _ _ _ _ _ _ _ _ _ _ _ _ S => wpAny_Constant_int ⟨_, _, h, .here S (.int _ _)⟩
theorem ev_str {x : Str} {kk : Nat} {pos : Pos} (h : Q (.str x) k) : Ev g n sc (.Constant (.str x) kk pos) σ k Q :=
  fun _ _ _ _ _ _ _ _ _ _ _ _ _ S => wpAny_Constant_str ⟨_, _, h, .here S (.str _ _)⟩
theorem ev_none {kk : Nat} {pos : Pos} (h : Q .none k) : Ev g n sc (.Constant .none kk pos) σ k Q :=
  fun _ _ _ _ _ _ _ _ _ _ _ _ _ S => wpAny_Constant_none ⟨_, _, h, .here0 S .none⟩
theorem ev_bool {b : Bool} {kk : Nat} {pos : Pos} (h : Q (.bool b) k) : Ev g n sc (.Constant (.bool b) kk pos) σ k Q :=
  fun _ _ _ _ _ _ _ _ _ _ _ _ _ S => wpAny_Constant_bool ⟨_, _, h, .here0 S (.bool _)⟩

theorem ev_local {x : Str} {pos : Pos} {v : MV} (hl : sc.names.lookup x = some .local) (hv : σ.lookup x = some v) (h : Q v k) (hd : (x == ("__debug__" : Str)) = false := by decide) : Ev g n sc (.Name x pos) σ k Q := by
  intro A fe h₀ L m mt fz env s E O V hf S
  obtain ⟨mN, hloc, hval⟩ := V.locs
  obtain ⟨u, e1, r⟩ := hval x v hv hl
  have hns : s.heap.Ns env.locals mN := by
    rcases hloc with ⟨e, rfl⟩ | ⟨oC, hm, hN⟩
    · rw [e]; exact S.ns
    · exact hN _ (S.getM hm)
  exact wpAny_Name (wpAny_loadName_local (by rw [V.scope]; exact V.kind) (by show env.scope.names.lookup x = _; rw [V.scope]; exact hl) hns e1 ⟨_, _, h, .here0 S r⟩) hd
theorem ev_cell {x : Str} {pos : Pos} {v : MV} (hl : sc.names.lookup x = some .cell) (hv : σ.lookup x = some v) (h : Q v k) (hd : (x == ("__debug__" : Str)) = false := by decide) : Ev g n sc (.Name x pos) σ k Q := by
  intro A fe h₀ L m mt fz env s E O V hf S
  obtain ⟨c, o, u, e1, hm, e2, r⟩ := V.vals x v hv (.inl hl)
  have ho : s.heap.get? c = some o := hm.elim (fun q => S.getM q) fun q => S.get q
  exact wpAny_Name (wpAny_loadName_cell (by rw [V.scope]; exact V.kind) (by show env.scope.names.lookup x = _; rw [V.scope]; exact hl) e1 ⟨o, ho, e2⟩ ⟨_, _, h, .here0 S r⟩) hd
theorem ev_free {x : Str} {pos : Pos} {v : MV} (hl : sc.names.lookup x = some .free) (hv : σ.lookup x = some v) (h : Q v k) (hd : (x == ("__debug__" : Str)) = false := by decide) (hn : (x == ("__classdict__" : Str)) = false := by decide) : Ev g n sc (.Name x pos) σ k Q := by
  intro A fe h₀ L m mt fz env s E O V hf S
  obtain ⟨c, o, u, e1, hm, e2, r⟩ := V.vals x v hv (.inr hl)
  have ho : s.heap.get? c = some o := hm.elim (fun q => S.getM q) fun q => S.get q
  exact wpAny_Name (wpAny_loadName_free (by rw [V.scope]; exact V.kind) (by show env.scope.names.lookup x = _; rw [V.scope]; exact hl) e1 ⟨o, ho, e2⟩ ⟨_, _, h, .here0 S r⟩ hn) hd
theorem ev_global {x : Str} {pos : Pos} {u : Value} {v : MV} (hl : sc.names.lookup x = some .globalImplicit) (e : nsIn g.K mainGlobals x = some (some u)) (r : ∀ fz, Rep g fz u v) (h : Q v k) (hd : (x == ("__debug__" : Str)) = false := by decide) : Ev g n sc (.Name x pos) σ k Q := by
  intro A fe h₀ L m mt fz env s E O V hf S
  have G : s.heap.Ns env.globals g.mg := by rw [V.globals]; exact O.top.g.keeps S.keep
  exact Name_function_global (by rw [V.scope]; exact V.kind) (by show env.scope.names.lookup x = _; rw [V.scope]; exact hl) (loadGlobal_global G (mg_of O.kin O.top.g e) ⟨_, _, h, .here0 S (r fz)⟩) hd
theorem ev_builtin {x : Str} {pos : Pos} {u : Value} (hl : sc.names.lookup x = some .globalImplicit) (e : nsIn g.K mainGlobals x = some none) (hv : bootBuiltins x = some u) (hn : x ≠ "__name__") (hh : handedIn u = true) (h : Q (.st u) k) (hd : (x == ("__debug__" : Str)) = false := by decide) : Ev g n sc (.Name x pos) σ k Q := by
  intro A fe h₀ L m mt fz env s E O V hf S
  have G : s.heap.Ns env.globals g.mg := by rw [V.globals]; exact O.top.g.keeps S.keep
  have B : s.heap.Ns env.builtins g.mb := by rw [V.builtins]; exact O.top.b.keeps S.keep
  exact Name_function_global (by rw [V.scope]; exact V.kind) (by show env.scope.names.lookup x = _; rw [V.scope]; exact hl) (loadGlobal_builtin G (mg_none_of O.kin O.top.g e) B ((O.top.builtins x hn).trans hv) ⟨_, _, h, .here0 S (.st _ hh)⟩) hd

noncomputable def Op2 (g : GC) (n : Nat) (t : Value → Value → Sem Value) (a b : MV) (k : Int) (Q : MV → Int → Prop) : Prop :=
  ∀ A fe h₀ L m mt fz s E u v, Ok g n A fe h₀ L → Sta g h₀ L m mt k fz s.heap → Rep g fz u a → Rep g fz v b → wpAny (model g.prog g.w) A (t u v) (Res g h₀ L m mt fz s Q) E s
noncomputable def Op1 (g : GC) (n : Nat) (t : Value → Sem Value) (a : MV) (k : Int) (Q : MV → Int → Prop) : Prop :=
  ∀ A fe h₀ L m mt fz s E u, Ok g n A fe h₀ L → Sta g h₀ L m mt k fz s.heap → Rep g fz u a → wpAny (model g.prog g.w) A (t u) (Res g h₀ L m mt fz s Q) E s
noncomputable def Tr (g : GC) (n : Nat) (a : MV) (k : Int) (Q : Bool → Prop) : Prop :=
  ∀ A fe h₀ L m mt fz s E u, Ok g n A fe h₀ L → Sta g h₀ L m mt k fz s.heap → Rep g fz u a → wpAny (model g.prog g.w) A (truthy u) (fun b s' => Q b ∧ ∃ tk, s' = { s with toks := tk }) E s

theorem seq2 {A : Around} {fe : Env} {h₀ : Heap} {L : Addr} {m : Str → Option Value} {mt fz : Led} {env : Env} {s : Shared} {E : Value → Shared → Prop} {l r : Expr} {t : Value → Value → Sem Value}
    (O : Ok g n A fe h₀ L) (V : Vars g env sc σ h₀ L m mt fz) (hf : env = fe ∨ env.frame = fe.frame) (S : Sta g h₀ L m mt k fz s.heap)
    (h : Ev g n sc l σ k fun a k₁ => Ev g n sc r σ k₁ fun b k₂ => Op2 g n t a b k₂ Q) :
    wpAny (model g.prog g.w) A (eval l env) (fun a s₁ => wpAny (model g.prog g.w) A (eval r env) (fun b s₂ => wpAny (model g.prog g.w) A (t a b) (Res g h₀ L m mt fz s Q) E s₂) E s₁) E s := by
  refine wp_res (h A fe h₀ L m mt fz env s E O V hf S) fun a ma k₁ h' tk' fz' h₁ hs S₁ R₁ => ?_
  refine wp_res (h₁ A fe h₀ L m mt fz' env _ E O (V.mono hs) hf S₁) fun b mb k₂ h'' tk'' fz'' h₂ hs' S₂ R₂ => ?_
  refine wpAny_mono (h₂ A fe h₀ L m mt fz'' _ E a b O S₂ (R₁.mono hs') R₂) (fun v s₃ ⟨mv, k₃, q, a⟩ => ⟨mv, k₃, q, ?_⟩) fun _ _ x => x
  exact Aft.trans (fun p hp => hs' p (hs p hp)) a

theorem ev_BinOp {l r : Expr} {op : Operator} {pos : Pos} (h : Ev g n sc l σ k fun a k₁ => Ev g n sc r σ k₁ fun b k₂ => Op2 g n (binaryOp op) a b k₂ Q) : Ev g n sc (.BinOp l op r pos) σ k Q :=
  fun A fe h₀ L m mt fz env s E O V hf S => wpAny_BinOp (seq2 O V hf S h)
theorem ev_Compare {l r : Expr} {op : CmpOp} {pos : Pos} (h : Ev g n sc l σ k fun a k₁ => Ev g n sc r σ k₁ fun b k₂ => Op2 g n (compareOp op) a b k₂ Q) (hm : behindInMarks op r = false := by with_unfolding_all rfl) : Ev g n sc (.Compare l [op] [r] pos) σ k Q :=
  fun A fe h₀ L m mt fz env s E O V hf S => wpAny_Compare1 (seq2 O V hf S h) hm
theorem ev_UnaryOp {x : Expr} {op : UnaryOp} {pos : Pos} (h : Ev g n sc x σ k fun a k₁ => Op1 g n (unaryOp op) a k₁ Q) : Ev g n sc (.UnaryOp op x pos) σ k Q := by
  intro A fe h₀ L m mt fz env s E O V hf S
  refine wpAny_UnaryOp (wp_res (h A fe h₀ L m mt fz env s E O V hf S) fun a ma k₁ h' tk' fz' h₁ hs S₁ R₁ => ?_)
  exact wpAny_mono (h₁ A fe h₀ L m mt fz' _ E a O S₁ R₁) (fun _ _ => Res.trans (s := s) hs) fun _ _ x => x

inductive ResB (g : GC) (h₀ : Heap) (L : Addr) (m : Str → Option Value) (mt fz : Led) (s : Shared) (Q : Bool → Int → Prop) (b : Bool) (s' : Shared) : Prop
  | mk (k' : Int) (q : Q b k') (a : Aft g h₀ L m mt fz s .none s' .none k')
theorem ResB.trans {h₀ : Heap} {L : Addr} {m : Str → Option Value} {mt fz fz₁ : Led} {s : Shared} {h₁ : Heap} {tk₁ : Nat} {b : Bool} {s' : Shared} {Q : Bool → Int → Prop} (hs : ∀ p ∈ fz, p ∈ fz₁)
    (h : ResB g h₀ L m mt fz₁ { s with heap := h₁, toks := tk₁ } Q b s') : ResB g h₀ L m mt fz s Q b s' := by
  obtain ⟨k', q, a⟩ := h
  exact ⟨k', q, a.trans hs⟩
theorem wp_resB {M : Model} {A : Around} {t : Sem Bool} {h₀ : Heap} {L : Addr} {m : Str → Option Value} {mt fz : Led} {s s₀ : Shared} {Q : Bool → Int → Prop} {E : Value → Shared → Prop} {P : Bool → Shared → Prop} (h : wpAny M A t (ResB g h₀ L m mt fz s Q) E s₀)
    (k : ∀ b k' h' tk' fz', Q b k' → (∀ p ∈ fz, p ∈ fz') → Sta g h₀ L m mt k' fz' h' → P b { s with heap := h', toks := tk' }) : wpAny M A t P E s₀ :=
  wpAny_mono h (fun v s' x => by
    obtain ⟨k', q, h', tk', fz', e, hs, S, _⟩ := x
    rw [e]
    exact k v k' h' tk' fz' q hs S) fun _ _ x => x
noncomputable def Ts (g : GC) (n : Nat) (sc : Scope) (e : Expr) (σ : List (Str × MV)) (k : Int) (Q : Bool → Int → Prop) : Prop :=
  ∀ A fe h₀ L m mt fz env s E, Ok g n A fe h₀ L → Vars g env sc σ h₀ L m mt fz → (env = fe ∨ env.frame = fe.frame) → Sta g h₀ L m mt k fz s.heap →
    wpAny (model g.prog g.w) A (isTrue e env (eval e env)) (ResB g h₀ L m mt fz s Q) E s
theorem ts_cmp {l r : Expr} {op : CmpOp} {pos : Pos} {Q : Bool → Int → Prop} (h : Ev g n sc l σ k fun a k₁ => Ev g n sc r σ k₁ fun b k₂ => Op2 g n (compareOp op) a b k₂ fun c k₃ => Tr g n c k₃ fun t => Q t k₃) (hm : behindInMarks op r = false := by with_unfolding_all rfl) : Ts g n sc (.Compare l [op] [r] pos) σ k Q := by
  intro A fe h₀ L m mt fz env s E O V hf S
  refine wpAny_isTrue_Compare1 (wpAny_mono (seq2 (E := E) O V hf S h) (fun a s₁ h₁ => wpAny_mono h₁ (fun b s₂ h₂ => wp_res h₂ fun c mc k₃ h' tk' fz' h₃ hs S₃ R₃ => ?_) fun _ _ x => x) fun _ _ x => x) hm
  refine wpAny_mono (h₃ A fe h₀ L m mt fz' _ E c O S₃ R₃) (fun t s₄ ⟨q, tk, e⟩ => ⟨k₃, q, ?_⟩) fun _ _ x => x
  subst e
  exact ⟨h', tk, fz', rfl, hs, S₃, .none⟩
theorem ts_val {e : Expr} {Q : Bool → Int → Prop} (h : Ev g n sc e σ k fun a k₁ => Tr g n a k₁ fun t => Q t k₁) (he : ∀ env whole, isTrue e env whole = (do let v ← whole; standAt e.pos; holding [v] (truthy v)) := by intro _ _; rfl) : Ts g n sc e σ k Q := by
  intro A fe h₀ L m mt fz env s E O V hf S
  refine isTrue_plain (wp_res (h A fe h₀ L m mt fz env s E O V hf S) fun c mc k₃ h' tk' fz' h₃ hs S₃ R₃ => ?_) (he env _)
  refine wpAny_mono (h₃ A fe h₀ L m mt fz' _ E c O S₃ R₃) (fun t s₄ ⟨q, tk, e⟩ => ⟨k₃, q, ?_⟩) fun _ _ x => x
  subst e
  exact ⟨h', tk, fz', rfl, hs, S₃, .none⟩
theorem ts_not {x : Expr} {pos : Pos} {Q : Bool → Int → Prop} (h : Ts g n sc x σ k fun b k' => Q (!b) k') : Ts g n sc (.UnaryOp .Not x pos) σ k Q :=
  fun A fe h₀ L m mt fz env s E O V hf S => isTrue_not (wpAny_mono (h A fe h₀ L m mt fz env s E O V hf S) (fun b s' x => by obtain ⟨k', q, a⟩ := x; exact ⟨k', q, a⟩) fun _ _ x => x)
theorem ts_andN {pos : Pos} {Q : Bool → Int → Prop} (h : Q true k) : Ts g n sc (.BoolOp .And [] pos) σ k Q :=
  fun A fe h₀ L m mt fz env s E O V hf S => isTrue_and_nil ⟨_, h, .here0 S .none⟩
theorem ts_orN {pos : Pos} {Q : Bool → Int → Prop} (h : Q false k) : Ts g n sc (.BoolOp .Or [] pos) σ k Q :=
  fun A fe h₀ L m mt fz env s E O V hf S => isTrue_or_nil ⟨_, h, .here0 S .none⟩
theorem ts_and {x : Expr} {rest : List Expr} {pos : Pos} {Q : Bool → Int → Prop} (h : Ts g n sc x σ k fun b k' => if b then Ts g n sc (.BoolOp .And rest pos) σ k' Q else Q false k') : Ts g n sc (.BoolOp .And (x :: rest) pos) σ k Q := by
  intro A fe h₀ L m mt fz env s E O V hf S
  refine isTrue_and (wp_resB (h A fe h₀ L m mt fz env s E O V hf S) fun b k₁ h' tk' fz' h₁ hs S₁ => ?_)
  cases b with
  | true => exact wpAny_mono (h₁ A fe h₀ L m mt fz' env _ E O (V.mono hs) hf S₁) (fun _ _ => ResB.trans (s := s) hs) fun _ _ x => x
  | false => exact ⟨k₁, h₁, _, _, _, rfl, hs, S₁, .none⟩
theorem ts_or {x : Expr} {rest : List Expr} {pos : Pos} {Q : Bool → Int → Prop} (h : Ts g n sc x σ k fun b k' => if b then Q true k' else Ts g n sc (.BoolOp .Or rest pos) σ k' Q) : Ts g n sc (.BoolOp .Or (x :: rest) pos) σ k Q := by
  intro A fe h₀ L m mt fz env s E O V hf S
  refine isTrue_or (wp_resB (h A fe h₀ L m mt fz env s E O V hf S) fun b k₁ h' tk' fz' h₁ hs S₁ => ?_)
  cases b with
  | true => exact ⟨k₁, h₁, _, _, _, rfl, hs, S₁, .none⟩
  | false => exact wpAny_mono (h₁ A fe h₀ L m mt fz' env _ E O (V.mono hs) hf S₁) (fun _ _ => ResB.trans (s := s) hs) fun _ _ x => x
theorem ev_IfExp {test body orelse : Expr} {pos : Pos} (h : Ts g n sc test σ k fun b k' => if b then Ev g n sc body σ k' Q else Ev g n sc orelse σ k' Q) : Ev g n sc (.IfExp test body orelse pos) σ k Q := by
  intro A fe h₀ L m mt fz env s E O V hf S
  refine wpAny_IfExp (wp_resB (h A fe h₀ L m mt fz env s E O V hf S) fun b k₁ h' tk' fz' h₁ hs S₁ => ?_)
  cases b <;> exact wpAny_mono (h₁ A fe h₀ L m mt fz' env _ E O (V.mono hs) hf S₁) (fun _ _ => Res.trans (s := s) hs) fun _ _ x => x

noncomputable def Evs (g : GC) (n : Nat) (sc : Scope) : List Expr → List (Str × MV) → Int → (List MV → Int → Prop) → Prop
  | [], _, k, Q => Q [] k
  | e :: r, σ, k, Q => Ev g n sc e σ k fun v k₁ => Evs g n sc r σ k₁ fun vs k₂ => Q (v :: vs) k₂
inductive ResL (g : GC) (h₀ : Heap) (L : Addr) (m : Str → Option Value) (mt fz : Led) (s : Shared) (Q : List MV → Int → Prop) (vs : List Value) (s' : Shared) : Prop
  | mk (ms : List MV) (k' : Int) (q : Q ms k') (h' : Heap) (tk' : Nat) (fz' : Led) (e : s' = { s with heap := h', toks := tk' }) (hs : ∀ p ∈ fz, p ∈ fz') (S : Sta g h₀ L m mt k' fz' h') (R : RepL g fz' vs ms)
theorem wp_resL {M : Model} {A : Around} {t : Sem (List Value)} {h₀ : Heap} {L : Addr} {m : Str → Option Value} {mt fz : Led} {s s₀ : Shared} {Q : List MV → Int → Prop} {E : Value → Shared → Prop} {P : List Value → Shared → Prop} (h : wpAny M A t (ResL g h₀ L m mt fz s Q) E s₀)
    (k : ∀ vs ms k' h' tk' fz', Q ms k' → (∀ p ∈ fz, p ∈ fz') → Sta g h₀ L m mt k' fz' h' → RepL g fz' vs ms → P vs { s with heap := h', toks := tk' }) : wpAny M A t P E s₀ :=
  wpAny_mono h (fun v s' x => by
    obtain ⟨mv, k', q, h', tk', fz', e, hs, S, R⟩ := x
    rw [e]
    exact k v mv k' h' tk' fz' q hs S R) fun _ _ x => x
noncomputable def plainArgs : List Expr → Bool
  | [] => true
  | .Starred .. :: _ => false
  | _ :: r => plainArgs r
theorem starEach_plain {e : Expr} {rest : List Expr} {env : Env} (h : plainArgs (e :: rest) = true) : starEach (e :: rest) env = (false, eval e env) :: starEach rest env ∧ plainArgs rest = true := by
  cases e <;> first | exact ⟨rfl, h⟩ | cases h
theorem spliced_ok {A : Around} {fe : Env} {h₀ : Heap} {L : Addr} {m : Str → Option Value} {mt : Led} {env : Env} {E : Value → Shared → Prop} {pos : Pos} (O : Ok g n A fe h₀ L) (hf : env = fe ∨ env.frame = fe.frame) :
    ∀ {es : List Expr} {k : Int} {Q : List MV → Int → Prop} {fz : Led} {s : Shared}, plainArgs es = true → Vars g env sc σ h₀ L m mt fz → Sta g h₀ L m mt k fz s.heap → Evs g n sc es σ k Q →
      wpAny (model g.prog g.w) A (spliced (backTo pos (starEach es env))) (ResL g h₀ L m mt fz s Q) E s
  | [], k, Q, fz, s, _, V, S, h => spliced_none ⟨[], k, h, s.heap, s.toks, fz, rfl, fun _ h => h, S, .nil⟩
  | e :: r, k, Q, fz, s, hp, V, S, h => by
    obtain ⟨he, hp'⟩ := starEach_plain (env := env) hp
    refine spliced_more ?_ he
    refine wp_res (h A fe h₀ L m mt fz env s E O V hf S) fun v mv k₁ h' tk' fz' h₁ hs S₁ R₁ => ?_
    refine wp_resL (spliced_ok O hf (k := k₁) (fz := fz') hp' (V.mono hs) S₁ h₁) fun vs ms k₂ h'' tk'' fz'' q hs' S₂ R₂ => ?_
    exact ⟨mv :: ms, k₂, q, h'', tk'', fz'', rfl, fun p hp => hs' p (hs p hp), S₂, .cons (R₁.mono hs') R₂⟩

theorem Evs.len {es : List Expr} : ∀ {k : Int} {Q : List MV → Int → Prop}, Evs g n sc es σ k Q → Evs g n sc es σ k fun ms k' => ms.length = es.length ∧ Q ms k' := by
  induction es with
  | nil => intro k Q h; exact ⟨rfl, h⟩
  | cons e r ih => intro k Q h; exact Ev.mono h fun v k₁ h₁ => by
                     have := ih h₁
                     simpa [Evs] using this

theorem ev_Tuple {es : List Expr} {kk : Nat} {pos : Pos} (h : Evs g n sc es σ k fun ms k' => Q (.tup ms) k') (hp : plainArgs es = true := by with_unfolding_all rfl) (hl : es.length ≤ 1000 := by decide) : Ev g n sc (.Tuple es kk pos) σ k Q := by
  intro A fe h₀ L m mt fz env s E O V hf S
  refine Tuple_ (wp_resL (spliced_ok O hf hp V S h.len) fun vs ms k' h' tk' fz' zq hs S' R => ?_)
  obtain ⟨hl', q⟩ := zq
  have hvl : vs.length ≤ 1000 := by rw [R.1, hl']; exact hl
  refine wpAny_newObj_type ⟨_, k', q, _, _, _, rfl, fun p hp => .tail _ (hs p hp), S'.alloc _, .tup (n := 0) (.head _) R.1 hvl fun i v m a b => (R.2 i v m a b).mono fun p hp => .tail _ hp⟩ ?_
  show vs.toArray.size ≤ sizeLine
  rw [List.size_toArray, sizeLine_eq]; omega
theorem ev_List {es : List Expr} {pos : Pos} (h : Evs g n sc es σ k fun ms k' => Q (.lst ms) k') (hp : plainArgs es = true := by with_unfolding_all rfl) (hl : es.length ≤ 1000 := by decide) : Ev g n sc (.List es pos) σ k Q := by
  intro A fe h₀ L m mt fz env s E O V hf S
  refine List_ (wp_resL (spliced_ok O hf hp V S h.len) fun vs ms k' h' tk' fz' zq hs S' R => ?_)
  obtain ⟨hl', q⟩ := zq
  have hvl : vs.length ≤ 1000 := by rw [R.1, hl']; exact hl
  refine wpAny_newObj_type ⟨_, k', q, _, _, _, rfl, fun p hp => .tail _ (hs p hp), S'.alloc _, .lst (n := 0) (.head _) R.1 hvl fun i v m a b => (R.2 i v m a b).mono fun p hp => .tail _ hp⟩ ?_
  show vs.toArray.size ≤ sizeLine
  rw [List.size_toArray, sizeLine_eq]; omega

theorem keeps_any {fz : Led} {h₀ h : Heap} {L : Addr} {m : Str → Option Value} {mt : Led} {f : MV} {fv : Value} (O : g.K.In h) (S : Sta g h₀ L m mt k fz h) (R : Rep g fz fv f) (hf : f = .take ∨ (∃ v, f = .st v ∧ (keepIn g.K v = true ∨ (∃ T, v = .type T) ∨ ∃ i, v = .builtin i))) (M : Model) :
    ∃ kp, (kp = Keeper.frame ∨ kp = Keeper.machine ∨ kp = Keeper.boundFrame) ∧ Looks M h (keeperOf fv) kp := by
  rcases hf with rfl | ⟨v, rfl, hk⟩
  · refine R.elim_take fun tf hT => ?_
    obtain ⟨clos, doc, pm, c', ctv, oc, vs, t, a1, a2, o1, o2, lc, nc, us, ns, h1, _⟩ := hT
    exact keeps_F h ⟨_, _, _, _, S.get h1⟩
  · refine R.elim_st fun hh => ?_
    rcases hk with hk | ⟨T, rfl⟩ | ⟨i, rfl⟩
    · exact keeps_K hk h O
    · exact ⟨.machine, .inr (.inl rfl), fun A Q E s k q => wpAny_pure q⟩
    · exact ⟨.machine, .inr (.inl rfl), fun A Q E s k q => wpAny_pure q⟩
noncomputable def Callee (g : GC) (f : MV) : Prop := f = .take ∨ (∃ v, f = .st v ∧ (keepIn g.K v = true ∨ (∃ T, v = .type T) ∨ ∃ i, v = .builtin i))

theorem backTo_any {pos : Pos} {env : Env} : ∀ {es : List Expr}, plainArgs es = true → (backTo pos (starEach es env)).any (·.1) = false
  | [], _ => rfl
  | e :: r, h => by
    obtain ⟨he, hr⟩ := starEach_plain (env := env) h
    rw [he]
    show (false || (backTo pos (starEach r env)).any (·.1)) = false
    rw [backTo_any hr]; rfl
theorem evalArgs_evs {A : Around} {fe : Env} {h₀ : Heap} {L : Addr} {m : Str → Option Value} {mt : Led} {env : Env} {E : Value → Shared → Prop} {pos : Pos} (O : Ok g n A fe h₀ L) (hf : env = fe ∨ env.frame = fe.frame)
    {es : List Expr} {k : Int} {Q : List MV → Int → Prop} {fz : Led} {s : Shared} {f : Value} (hp : plainArgs es = true) (V : Vars g env sc σ h₀ L m mt fz) (S : Sta g h₀ L m mt k fz s.heap) (h : Evs g n sc es σ k Q) :
    wpAny (model g.prog g.w) A (evalArgs f true (backTo pos (starEach es env)) []) (fun a s' => a.kw = [] ∧ ResL g h₀ L m mt fz s Q a.pos s') E s := by
  cases es with
  | nil => exact evalArgs_nil3 ⟨rfl, [], k, h, s.heap, s.toks, fz, rfl, fun _ h => h, S, .nil⟩
  | cons e r =>
    have hh := spliced_ok (E := E) (pos := pos) O hf hp V S h
    obtain ⟨he, hr⟩ := starEach_plain (env := env) hp
    rw [he] at hh ⊢
    exact evalArgs_plain (wpAny_mono hh (fun _ _ x => ⟨rfl, x⟩) fun _ _ x => x)

theorem callWith_ev {A : Around} {fe : Env} {h₀ : Heap} {L : Addr} {m : Str → Option Value} {mt : Led} {env : Env} {E : Value → Shared → Prop} {pos : Pos} (O : Ok g n A fe h₀ L) (hf : env = fe ∨ env.frame = fe.frame)
    {es : List Expr} {k : Int} {fz : Led} {s : Shared} {f : MV} {fv : Value} {first : List MV} {vs₀ : List Value} (hp : plainArgs es = true) (V : Vars g env sc σ h₀ L m mt fz) (S : Sta g h₀ L m mt k fz s.heap) (R : Rep g fz fv f) (R₀ : RepL g fz vs₀ first) (hc : Callee g f)
    (h : Evs g n sc es σ k fun ms k' => Fn g n f (first ++ ms) k' Q) :
    wpAny (model g.prog g.w) A (callWith pos fv vs₀ (backTo pos (starEach es env)) []) (Res g h₀ L m mt fz s Q) E s := by
  refine callWith_of (P := fun hp => ∃ kp, (kp = Keeper.frame ∨ kp = Keeper.machine ∨ kp = Keeper.boundFrame) ∧ Looks (model g.prog g.w) hp (keeperOf fv) kp) (by rw [backTo_any hp]; rfl) (fun _ x => x) ?_
  refine wpAny_mono (evalArgs_evs O hf hp V S h) (fun a s₁ ⟨hkw, ms, k₁, h₁, h', tk', fz', e, hs, S₁, R₁⟩ => ?_) fun _ _ x => x
  subst e
  refine ⟨keeps_any (O.kin.keeps S₁.keep) S₁ (R.mono hs) hc _, ?_⟩
  rw [hkw]
  have RL : RepL g fz' (vs₀ ++ a.pos) (first ++ ms) := by
    have R0 := R₀.mono hs
    refine ⟨by simp [R0.1, R₁.1], fun i v mv a' b' => ?_⟩
    by_cases hi : i < vs₀.length
    · rw [List.getElem?_append_left hi] at a'
      rw [List.getElem?_append_left (by rw [← R0.1]; exact hi)] at b'
      exact R0.2 i v mv a' b'
    · rw [List.getElem?_append_right (by omega)] at a'
      rw [List.getElem?_append_right (by rw [← R0.1]; omega), ← R0.1] at b'
      exact R₁.2 _ v mv a' b'
  exact wpAny_mono (h₁ A fe h₀ L m mt fz' _ E fv _ O S₁ (R.mono hs) RL) (fun _ _ => Res.trans (s := s) hs) fun _ _ x => x
theorem append_nil_repL {fz : Led} : RepL g fz [] [] := .nil

theorem ev_Call {x : Str} {p pos : Pos} {es : List Expr} (h : Ev g n sc (.Name x p) σ k fun f k₁ => Callee g f ∧ Evs g n sc es σ k₁ fun ms k' => Fn g n f ms k' Q) (hp : plainArgs es = true := by with_unfolding_all rfl) : Ev g n sc (.Call (.Name x p) es [] pos) σ k Q := by
  intro A fe h₀ L m mt fz env s E O V hf S
  refine wpAny_Call_NameR (wp_res (h A fe h₀ L m mt fz env s E O V hf S) fun fv mf k₁ h' tk' fz' zq hs S₁ R₁ => ?_)
  obtain ⟨hc, h₁⟩ := zq
  exact wpAny_mono (callWith_ev O hf hp (V.mono hs) S₁ R₁ .nil hc h₁) (fun _ _ => Res.trans (s := s) hs) fun _ _ x => x

noncomputable def Mth (g : GC) (n : Nat) (name : Str) (a : MV) (k : Int) (Q : MV → List MV → Prop) : Prop :=
  ∀ A fe h₀ L m mt fz s E u pl, Ok g n A fe h₀ L → Sta g h₀ L m mt k fz s.heap → Rep g fz u a →
    wpAny (model g.prog g.w) A (getMethod u name pl) (fun fx s' => ∃ tk f first, s' = { s with toks := tk } ∧ Q f first ∧ Callee g f ∧ Rep g fz fx.1 f ∧ RepL g fz fx.2 first) E s
theorem ev_Method {o : Expr} {name : Str} {apos pos : Pos} {es : List Expr} (h : Ev g n sc o σ k fun ov k₁ => Mth g n name ov k₁ fun f first => Evs g n sc es σ k₁ fun ms k' => Fn g n f (first ++ ms) k' Q)
    (hp : plainArgs es = true := by with_unfolding_all rfl)
    (he : ∀ env, ∃ pl : Sem Bool, eval (.Call (.Attribute o name apos) es [] pos) env = (do let ov ← eval o env; standAt apos.atName; let (f, first) ← holding [ov] (getMethod ov name pl); callWith pos f first (backTo pos (starEach es env)) (backToKw pos (keywordEach [] env))) := by intro _; exact ⟨_, rfl⟩) :
    Ev g n sc (.Call (.Attribute o name apos) es [] pos) σ k Q := by
  intro A fe h₀ L m mt fz env s E O V hf S
  obtain ⟨pl, he⟩ := he env
  refine methodCall_KW (pl := pl) (wp_res (h A fe h₀ L m mt fz env s E O V hf S) fun ov mo k₁ h' tk' fz' h₁ hs S₁ R₁ => ?_) he
  refine wpAny_mono (h₁ A fe h₀ L m mt fz' _ E ov pl O S₁ R₁) (fun fx s₂ ⟨tk, f, first, e, h₂, hc, Rf, Rs⟩ => ?_) fun _ _ x => x
  subst e
  exact wpAny_mono (callWith_ev O hf hp (V.mono hs) S₁ Rf Rs hc h₂) (fun _ _ => Res.trans (s := s) hs) fun _ _ x => x

theorem ev_Attr {value : Expr} {attr : Str} {pos : Pos} (h : Ev g n sc value σ k fun a k₁ => Op1 g n (fun o => getAttr o attr true) a k₁ Q)
    (he : ∀ env, eval (.Attribute value attr pos) env = (do let o ← eval value env; standAt pos.atName; let r ← holding [o] (getAttr o attr true); letTemporaryGo value o r; pure r) := by intro _; with_unfolding_all rfl) :
    Ev g n sc (.Attribute value attr pos) σ k Q := by
  intro A fe h₀ L m mt fz env s E O V hf S
  refine Attribute_any_ (wp_res (h A fe h₀ L m mt fz env s E O V hf S) fun a ma k₁ h' tk' fz' h₁ hs S₁ R₁ => ?_) (he env)
  exact wpAny_mono (h₁ A fe h₀ L m mt fz' _ E a O S₁ R₁) (fun _ _ => Res.trans (s := s) hs) fun _ _ x => x
noncomputable def FieldOk (K : Frag) (C : Addr) (name : Str) : Prop := plainGet K C name = true ∧ hasDictIn K C = true ∧ ∃ attr, findIn K (.ref C) name = some attr ∧ noGet K attr = true
theorem op_field {C : Addr} {fs : List (Str × MV)} {name : Str} {v : MV} (hF : FieldOk g.K C name) (hv : fs.lookup name = some v) (h : Q v k) : Op1 g n (fun o => getAttr o name true) (.obj C fs) k Q := by
  intro A fe h₀ L m mt fz s E u O S R
  obtain ⟨h1, h2, attr, h3, h4⟩ := hF
  refine R.elim_obj fun val m1 m2 _ hg _ hr => ?_
  have r := hr name v hv
  exact get_own S.fr O.kin (InstAt.of_news S.nwF m1 m2) h1 h2 h3 h4 (hg name v hv) r.handed ⟨v, k, h, .here S r⟩
theorem mth_own {C : Addr} {fs : List (Str × MV)} {name : Str} {f : Addr} {Q : MV → List MV → Prop} (hg : plainGet g.K C name = true) (hf : findIn g.K (.ref C) name = some (some (.ref f))) (ht : isFn g.K (.ref f) = true) (hk : keepIn g.K (.ref f) = true) (hl : fs.lookup name = none)
    (h : Q (.st (.ref f)) [.obj C fs]) : Mth g n name (.obj C fs) k Q := by
  intro A fe h₀ L m mt fz s E u pl O S R
  refine R.elim_obj fun val m1 m2 hn h1 hb h2 => ?_
  exact method_inst S.fr O.kin (InstAt.of_news S.nwF m1 m2) hg hf ht (hn name hl) ⟨s.toks, _, _, rfl, h, .inr ⟨_, rfl, .inl hk⟩, .st _ rfl, .cons (.obj val m1 m2 hn h1 hb h2) .nil⟩

theorem ev_Sub {value slice : Expr} {pos : Pos} (h : Ev g n sc value σ k fun a k₁ => Ev g n sc slice σ k₁ fun b k₂ => Op2 g n (subscriptTail value slice) a b k₂ Q) : Ev g n sc (.Subscript value slice pos) σ k Q :=
  fun A fe h₀ L m mt fz env s E O V hf S => Subscript_ (seq2 O V hf S h)
end Mine
end
section
set_option autoImplicit false
set_option linter.unusedVariables false
namespace Mine

inductive Own where
  | lst (l : List MV)
  | dic (l : List (Int × MV))
  | set (l : List Int)
  | inst (x c : Addr) (fs : List (Str × MV))
inductive OwnLed (g : GC) (fz : Led) (a : Addr) : Own → Led → Prop
  | lst {vs : List Value} {n : Nat} {ms : List MV} : RepL g fz vs ms → vs.length ≤ 1000 → OwnLed g fz a (.lst ms) [(a, listOf vs.toArray n)]
  | dic {o : Obj} {kvs : List (Int × Value)} {es : List (Int × MV)} : (a == sysModules) = false → o.IsDictOf (PySem.intKind g.prog g.w) kvs → kvs.map (·.1) = es.map (·.1) → kvs.length ≤ 1000 →
      (∀ (i : Nat) (v : Value) (m : MV), (kvs[i]?).map (·.2) = some v → (es[i]?).map (·.2) = some m → Rep g fz v m) → OwnLed g fz a (.dic es) [(a, o)]
  | set {o : Obj} {l : List Int} : CanSet g.w o l → OwnLed g fz a (.set l) [(a, o)]
  | inst {C d : Addr} {es : List DictEntry} {n : Nat} {fs : List (Str × MV)} (val : Str → Value) : (∀ name, fs.lookup name = none → getL name es = some none) →
      (∀ name m, fs.lookup name = some m → getL name es = some (some (val name))) → (∀ name m, fs.lookup name = some m → Rep g fz (val name) m) → es.length ≤ fs.length → fs.length ≤ 100 → OwnLed g fz a (.inst a C fs) [(a, instObj C d), (d, dictOf es n)]
theorem OwnLed.mono {g : GC} {fz fz' : Led} {a : Addr} {ow : Own} {l : Led} (hs : ∀ p ∈ fz, p ∈ fz') (h : OwnLed g fz a ow l) : OwnLed g fz' a ow l := by
  cases h with
  | lst r b => exact .lst (r.mono hs) b
  | dic a b c d e => exact .dic a b c d fun i v m x y => (e i v m x y).mono hs
  | set c => exact .set c
  | inst val a b c d e => exact .inst val a b (fun n m x => (c n m x).mono hs) d e

inductive OwnC (g : GC) (fz : Led) (m : Str → Option Value) (x : Str) (ow : Own) (P : Led → Prop) (led : Led) : Prop
  | mk (a : Addr) (l₁ l₂ : Led) (e : led = l₁ ++ l₂) (hm : m x = some (.ref a)) (ho : OwnLed g fz a ow l₁) (hr : P l₂)
noncomputable def Owns (g : GC) (fz : Led) (m : Str → Option Value) : List (Str × Own) → Led → Prop
  | [], led => led = []
  | (x, ow) :: r, led => OwnC g fz m x ow (Owns g fz m r) led
theorem Owns.mono {g : GC} {fz fz' : Led} {m : Str → Option Value} (hs : ∀ p ∈ fz, p ∈ fz') : ∀ {ω : List (Str × Own)} {l : Led}, Owns g fz m ω l → Owns g fz' m ω l
  | [], _, h => h
  | (_, _) :: _, _, ⟨a, l₁, l₂, e, hm, ho, hr⟩ => ⟨a, l₁, l₂, e, hm, ho.mono hs, Owns.mono hs hr⟩
theorem Owns.names {g : GC} {fz : Led} {m m' : Str → Option Value} : ∀ {ω : List (Str × Own)} {l : Led}, Owns g fz m ω l → (∀ p ∈ ω, m' p.1 = m p.1) → Owns g fz m' ω l
  | [], _, h, _ => h
  | (_, _) :: _, _, ⟨a, l₁, l₂, e, hm, ho, hr⟩, k => ⟨a, l₁, l₂, e, (k _ (.head _)).trans hm, ho, Owns.names hr fun p hp => k p (.tail _ hp)⟩
noncomputable def setW (x : Str) (ow : Own) : List (Str × Own) → List (Str × Own)
  | [] => []
  | (y, o) :: r => if (y == x) = true then (y, ow) :: r else (y, o) :: setW x ow r
inductive OwnSplit (g : GC) (fz : Led) (m : Str → Option Value) (x : Str) (ow : Own) (ω : List (Str × Own)) (l : Led) : Prop
  | mk (a : Addr) (pre seg post : Led) (e : l = pre ++ (seg ++ post)) (hm : m x = some (.ref a)) (ho : OwnLed g fz a ow seg) (k : ∀ fz' ow' seg', (∀ p ∈ fz, p ∈ fz') → OwnLed g fz' a ow' seg' → Owns g fz' m (setW x ow' ω) (pre ++ (seg' ++ post)))
theorem Owns.split {g : GC} {fz : Led} {m : Str → Option Value} {x : Str} {ow : Own} : ∀ {ω : List (Str × Own)} {l : Led}, Owns g fz m ω l → ω.lookup x = some ow →
    OwnSplit g fz m x ow ω l
  | [], _, _, h => by cases h
  | (y, o) :: r, l, ⟨a, l₁, l₂, e, hm, ho, hr⟩, h => by
    rw [List.lookup_cons] at h
    cases hxy : x == y with
    | true =>
      rw [hxy] at h
      cases h
      have hy : x = y := eq_of_beq hxy
      subst hy
      refine ⟨a, [], l₁, l₂, e, hm, ho, fun fz' ow' seg' hs h' => ?_⟩
      show Owns g fz' m (if (x == x) = true then (x, ow') :: r else _) (seg' ++ l₂)
      rw [if_pos (by simp)]
      exact ⟨a, seg', l₂, rfl, hm, h', hr.mono hs⟩
    | false =>
      rw [hxy] at h
      obtain ⟨a', pre, seg, post, e', hm', ho', k⟩ := Owns.split hr h
      refine ⟨a', l₁ ++ pre, seg, post, by rw [e, e', List.append_assoc], hm', ho', fun fz' ow' seg' hs h' => ?_⟩
      have hyx : (y == x) = false := by
        cases q : y == x with
        | false => rfl
        | true => rw [eq_of_beq q] at hxy; simp at hxy
      show Owns g fz' m (if (y == x) = true then _ else (y, o) :: setW x ow' r) _
      rw [hyx, if_neg (by decide)]
      exact ⟨a, l₁, pre ++ (seg' ++ post), by rw [List.append_assoc], hm, ho.mono hs, k fz' ow' seg' hs h'⟩

structure VarsF (g : GC) (env : Env) (sc : Scope) (σ : List (Str × MV)) (L : Addr) (m : Str → Option Value) (mt fz : Led) : Prop where
  scope : env.scope = sc
  kind : sc.kind = .function
  globals : env.globals = mainGlobals
  builtins : env.builtins = builtinsNs
  loc : env.locals = L
  locs : ∀ x v, σ.lookup x = some v → sc.names.lookup x = some .local → ∃ u, m x = some u ∧ Rep g fz u v
  cells : ∀ x, sc.names.lookup x = some .cell ∨ sc.names.lookup x = some .free → ∃ c, env.cells.lookup x = some c
  vals : ∀ x v, σ.lookup x = some v → sc.names.lookup x = some .cell ∨ sc.names.lookup x = some .free → CellAt g env mt fz x v
theorem VarsF.vars {g : GC} {env : Env} {sc : Scope} {σ : List (Str × MV)} {h₀ : Heap} {L : Addr} {m : Str → Option Value} {mt fz : Led} (V : VarsF g env sc σ L m mt fz) : Vars g env sc σ h₀ L m mt fz :=
  ⟨V.scope, V.kind, V.globals, V.builtins, ⟨m, .inl ⟨V.loc, rfl⟩, V.locs⟩, V.cells, V.vals⟩
theorem VarsF.mono {g : GC} {env : Env} {sc : Scope} {σ : List (Str × MV)} {L : Addr} {m : Str → Option Value} {mt fz fz' : Led} (V : VarsF g env sc σ L m mt fz) (hs : ∀ p ∈ fz, p ∈ fz') : VarsF g env sc σ L m mt fz' :=
  ⟨V.scope, V.kind, V.globals, V.builtins, V.loc, fun x v e q => let ⟨u, c, d⟩ := V.locs x v e q; ⟨u, c, d.mono hs⟩, V.cells,
    fun x v e q => (V.vals x v e q).imp (fun _ h => h) hs⟩
theorem VarsF.wide {g : GC} {env : Env} {sc : Scope} {σ : List (Str × MV)} {L : Addr} {m : Str → Option Value} {cs mt0 ow fz : Led} (V : VarsF g env sc σ L m cs fz) : VarsF g env sc σ L m (ow ++ (cs ++ mt0)) fz :=
  ⟨V.scope, V.kind, V.globals, V.builtins, V.loc, V.locs, V.cells, fun x v a b => (V.vals x v a b).imp (fun _ q => List.mem_append_right _ (List.mem_append_left _ q)) fun _ h => h⟩
structure Cel (env : Env) (sc : Scope) (cs : Led) : Prop where
  at_ : ∀ x, sc.names.lookup x = some .cell → ∃ c o v, env.cells.lookup x = some c ∧ (c, o) ∈ cs ∧ o.data = .cell v
  inj : ∀ x y c, sc.names.lookup y = some .cell → env.cells.lookup x = some c → env.cells.lookup y = some c → x = y

inductive Sf (g : GC) (env : Env) (sc : Scope) (h₀ : Heap) (L : Addr) (mt0 fz0 : Led) (σ : List (Str × MV)) (ω : List (Str × Own)) (k : Int) (h : Heap) : Prop
  | mk (m : Str → Option Value) (cs ow fz : Led) (S : Sta g h₀ L m (ow ++ (cs ++ mt0)) k fz h) (hz : ∀ p ∈ fz0, p ∈ fz) (V : VarsF g env sc σ L m cs fz) (W : Owns g fz m ω ow) (C : Cel env sc cs)
theorem Sf.scope {g : GC} {env : Env} {sc : Scope} {h₀ : Heap} {L : Addr} {mt0 fz0 : Led} {σ : List (Str × MV)} {ω : List (Str × Own)} {k : Int} {h : Heap} (S : Sf g env sc h₀ L mt0 fz0 σ ω k h) : env.scope = sc := by
  obtain ⟨_, _, _, _, _, _, V, _, _⟩ := S
  exact V.scope
inductive Rf (g : GC) (h₀ : Heap) (L : Addr) (mt0 fz0 : Led) (v : Value) (mv : MV) (k : Int) (h : Heap) : Prop
  | mk (m : Str → Option Value) (cs fz : Led) (S : Sta g h₀ L m (cs ++ mt0) k fz h) (hz : ∀ p ∈ fz0, p ∈ fz) (R : Rep g fz v mv)
noncomputable abbrev Nx := List (Str × MV) → List (Str × Own) → Int → Prop
inductive FinN (g : GC) (env : Env) (sc : Scope) (h₀ : Heap) (L : Addr) (mt0 fz0 : Led) (N : Nx) (h' : Heap) : Prop
  | mk (σ : List (Str × MV)) (ω : List (Str × Own)) (k : Int) (q : N σ ω k) (S : Sf g env sc h₀ L mt0 fz0 σ ω k h')
inductive FinR (g : GC) (h₀ : Heap) (L : Addr) (mt0 fz0 : Led) (R : MV → Int → Prop) (v : Value) (h' : Heap) : Prop
  | mk (mv : MV) (k : Int) (q : R mv k) (r : Rf g h₀ L mt0 fz0 v mv k h')
noncomputable def Fl2 (g : GC) (env : Env) (sc : Scope) (h₀ : Heap) (L : Addr) (mt0 fz0 : Led) (N : Nx) (R : MV → Int → Prop) (fl : Flow) (h' : Heap) : Prop := match fl with
    | .next => FinN g env sc h₀ L mt0 fz0 N h'
    | .ret v => FinR g h₀ L mt0 fz0 R v h'
    | _ => False
inductive Fin2 (g : GC) (env : Env) (sc : Scope) (h₀ : Heap) (L : Addr) (mt0 fz0 : Led) (s : Shared) (N : Nx) (R : MV → Int → Prop) (fl : Flow) (s' : Shared) : Prop
  | mk (h' : Heap) (tk : Nat) (e : s' = { s with heap := h', toks := tk }) (x : Fl2 g env sc h₀ L mt0 fz0 N R fl h')
noncomputable def Ex (g : GC) (n : Nat) (sc : Scope) (st : Stmt) (σ : List (Str × MV)) (ω : List (Str × Own)) (k : Int) (N : Nx) (R : MV → Int → Prop) : Prop :=
  ∀ A h₀ L mt0 fz0 env s E, Ok g n A env h₀ L → Sf g env sc h₀ L mt0 fz0 σ ω k s.heap → wpAny (model g.prog g.w) A (exec st env) (Fin2 g env sc h₀ L mt0 fz0 s N R) E s
noncomputable def Exs (g : GC) (n : Nat) (sc : Scope) (sts : List Stmt) (σ : List (Str × MV)) (ω : List (Str × Own)) (k : Int) (N : Nx) (R : MV → Int → Prop) : Prop :=
  ∀ A h₀ L mt0 fz0 env s E, Ok g n A env h₀ L → Sf g env sc h₀ L mt0 fz0 σ ω k s.heap → wpAny (model g.prog g.w) A (execs sts env) (Fin2 g env sc h₀ L mt0 fz0 s N R) E s

section
variable {g : GC} {n : Nat} {sc : Scope} {σ : List (Str × MV)} {ω : List (Str × Own)} {k : Int} {N : Nx} {R : MV → Int → Prop}
theorem Fin2.mono {env : Env} {h₀ : Heap} {L : Addr} {mt0 fz0 : Led} {s : Shared} {h₁ : Heap} {tk₁ : Nat} {fl : Flow} {s' : Shared} {N' : Nx} {R' : MV → Int → Prop} (hN : ∀ σ ω k, N σ ω k → N' σ ω k) (hR : ∀ v k, R v k → R' v k)
    (h : Fin2 g env sc h₀ L mt0 fz0 { s with heap := h₁, toks := tk₁ } N R fl s') : Fin2 g env sc h₀ L mt0 fz0 s N' R' fl s' := by
  obtain ⟨h', tk, rfl, h⟩ := h
  refine ⟨h', tk, rfl, ?_⟩
  cases fl with
  | next => obtain ⟨σ, ω, k, a, b⟩ := h; exact ⟨σ, ω, k, hN _ _ _ a, b⟩
  | ret v => obtain ⟨mv, k, a, b⟩ := h; exact ⟨mv, k, hR _ _ a, b⟩
  | brk => exact h
  | cont => exact h
theorem Ex.mono {st : Stmt} {N' : Nx} {R' : MV → Int → Prop} (h : Ex g n sc st σ ω k N R) (hN : ∀ σ ω k, N σ ω k → N' σ ω k) (hR : ∀ v k, R v k → R' v k) : Ex g n sc st σ ω k N' R' :=
  fun A h₀ L mt0 fz0 env s E O S => wpAny_mono (h A h₀ L mt0 fz0 env s E O S) (fun _ _ x => Fin2.mono (h₁ := s.heap) (tk₁ := s.toks) hN hR x) fun _ _ x => x
theorem Exs.mono {st : List Stmt} {N' : Nx} {R' : MV → Int → Prop} (h : Exs g n sc st σ ω k N R) (hN : ∀ σ ω k, N σ ω k → N' σ ω k) (hR : ∀ v k, R v k → R' v k) : Exs g n sc st σ ω k N' R' :=
  fun A h₀ L mt0 fz0 env s E O S => wpAny_mono (h A h₀ L mt0 fz0 env s E O S) (fun _ _ x => Fin2.mono (h₁ := s.heap) (tk₁ := s.toks) hN hR x) fun _ _ x => x
theorem exs_nil (h : N σ ω k) : Exs g n sc [] σ ω k N R := fun A h₀ L mt0 fz0 env s E O S => wpAny_execs_nil ⟨s.heap, s.toks, rfl, σ, ω, k, h, S⟩
theorem exs_cons {st : Stmt} {r : List Stmt} (h : Ex g n sc st σ ω k (fun σ' ω' k' => Exs g n sc r σ' ω' k' N R) R) : Exs g n sc (st :: r) σ ω k N R := by
  intro A h₀ L mt0 fz0 env s E O S
  refine wpAny_execs_cons (wpAny_mono (h A h₀ L mt0 fz0 env s E O S) (fun fl s₁ ⟨h', tk, e, x⟩ => ?_) fun _ _ x => x)
  subst e
  cases fl with
  | next =>
    obtain ⟨σ', ω', k', a, S'⟩ := x
    exact wpAny_mono (a A h₀ L mt0 fz0 env _ E O S') (fun fl s₂ y => Fin2.mono (fun _ _ _ x => x) (fun _ _ x => x) y) fun _ _ x => x
  | ret v => exact ⟨h', tk, rfl, x⟩
  | brk => exact x.elim
  | cont => exact x.elim
theorem ex_Return {e : Expr} {pos : Pos} (h : Ev g n sc e σ k R) : Ex g n sc (.Return (some e) pos) σ ω k N R := by
  intro A h₀ L mt0 fz0 env s E O S
  obtain ⟨m, cs, ow, fz, S, hz, V, W, C⟩ := S
  have V' : VarsF g env sc σ L m (ow ++ (cs ++ mt0)) fz := V.wide
  refine wpAny_Return_some (wp_res (h A env h₀ L m _ fz env s E O V'.vars (.inl rfl) S) fun v mv k₁ h' tk' fz' q hs S₁ R₁ => ?_)
  exact ⟨h', tk', rfl, mv, k₁, q, m, ow ++ cs, fz', by rw [List.append_assoc]; exact S₁, fun p hp => hs p (hz p hp), R₁⟩
theorem ex_If {test : Expr} {body orelse : List Stmt} {pos : Pos} (h : Ts g n sc test σ k fun b k' => if b then Exs g n sc body σ ω k' N R else Exs g n sc orelse σ ω k' N R) : Ex g n sc (.If test body orelse pos) σ ω k N R := by
  intro A h₀ L mt0 fz0 env s E O S
  obtain ⟨m, cs, ow, fz, S, hz, V, W, C⟩ := S
  have V' : VarsF g env sc σ L m (ow ++ (cs ++ mt0)) fz := V.wide
  refine wpAny_If (wp_resB (h A env h₀ L m _ fz env s E O V'.vars (.inl rfl) S) fun b k₁ h' tk' fz' q hs S₁ => ?_)
  have S2 : Sf g env sc h₀ L mt0 fz0 σ ω k₁ h' := ⟨m, cs, ow, fz', S₁, fun p hp => hs p (hz p hp), V.mono hs, W.mono hs, C⟩
  cases b <;> exact wpAny_mono (q A h₀ L mt0 fz0 env _ E O S2) (fun fl s₂ y => Fin2.mono (fun _ _ _ x => x) (fun _ _ x => x) y) fun _ _ x => x

inductive SE (g : GC) (env : Env) (sc : Scope) (h₀ : Heap) (L : Addr) (mt0 fz0 : Led) (σ : List (Str × MV)) (ω : List (Str × Own)) (s : Shared) (Q : MV → Int → Prop) (v : Value) (s' : Shared) : Prop
  | mk (mv : MV) (k' : Int) (h' : Heap) (tk' : Nat) (m : Str → Option Value) (cs ow fz : Led) (q : Q mv k') (e : s' = { s with heap := h', toks := tk' }) (S : Sta g h₀ L m (ow ++ (cs ++ mt0)) k' fz h') (hz : ∀ p ∈ fz0, p ∈ fz) (V : VarsF g env sc σ L m cs fz) (W : Owns g fz m ω ow) (C : Cel env sc cs) (R : Rep g fz v mv)
theorem wp_se {M : Model} {A : Around} {t : Sem Value} {env : Env} {h₀ : Heap} {L : Addr} {mt0 fz0 : Led} {s s₀ : Shared} {Q : MV → Int → Prop} {E : Value → Shared → Prop} {P : Value → Shared → Prop} (h : wpAny M A t (SE g env sc h₀ L mt0 fz0 σ ω s Q) E s₀)
    (k : ∀ v mv k' h' tk' m cs ow fz, Q mv k' → Sta g h₀ L m (ow ++ (cs ++ mt0)) k' fz h' → (∀ p ∈ fz0, p ∈ fz) → VarsF g env sc σ L m cs fz → Owns g fz m ω ow → Cel env sc cs → Rep g fz v mv → P v { s with heap := h', toks := tk' }) : wpAny M A t P E s₀ :=
  wpAny_mono h (fun v s' x => by
    obtain ⟨mv, k', h', tk', m, cs, ow, fz, q, e, S, hz, V, W, C, R⟩ := x
    rw [e]
    exact k v mv k' h' tk' m cs ow fz q S hz V W C R) fun _ _ x => x
theorem stmt_ev {A : Around} {h₀ : Heap} {L : Addr} {mt0 fz0 : Led} {env : Env} {s : Shared} {E : Value → Shared → Prop} {e : Expr} {Q : MV → Int → Prop} (O : Ok g n A env h₀ L) (S : Sf g env sc h₀ L mt0 fz0 σ ω k s.heap) (h : Ev g n sc e σ k Q) :
    wpAny (model g.prog g.w) A (eval e env) (SE g env sc h₀ L mt0 fz0 σ ω s Q) E s := by
  obtain ⟨m, cs, ow, fz, S, hz, V, W, C⟩ := S
  have V' : VarsF g env sc σ L m (ow ++ (cs ++ mt0)) fz := V.wide
  refine wpAny_mono (h A env h₀ L m _ fz env s E O V'.vars (.inl rfl) S) (fun v s₁ ⟨mv, k₁, q, h', tk', fz', e, hs, S₁, R₁⟩ => ?_) fun _ _ x => x
  exact ⟨mv, k₁, h', tk', m, cs, ow, fz', q, e, S₁, fun p hp => hs p (hz p hp), V.mono hs, W.mono hs, C, R₁⟩

theorem store_local {A : Around} {h₀ : Heap} {L : Addr} {mt0 fz0 cs ow fz : Led} {env : Env} {s : Shared} {E : Value → Shared → Prop} {m : Str → Option Value} {x : Str} {v : Value} {mv : MV} {Q : Unit → Shared → Prop}
    (S : Sta g h₀ L m (ow ++ (cs ++ mt0)) k fz s.heap) (hz : ∀ p ∈ fz0, p ∈ fz) (V : VarsF g env sc σ L m cs fz) (W : Owns g fz m ω ow) (C : Cel env sc cs) (Rv : Rep g fz v mv) (hl : sc.names.lookup x = some .local) (hω : ∀ p ∈ ω, p.1 ≠ x)
    (h : ∀ h' tk, Sf g env sc h₀ L mt0 fz0 ((x, mv) :: σ) ω k h' → Q () { s with heap := h', toks := tk }) : wpAny (model g.prog g.w) A (storeName env x v) Q E s := by
  obtain ⟨t, S⟩ := S
  refine wpAny_storeName_local (m := m) (by show env.scope.names.lookup x = _; rw [V.scope]; exact hl) (by rw [V.loc]; exact S.fr.ns) (fun h' hn hs => ?_) (by rw [V.scope]; show (sc.kind == .class || (sc.kind == .module && _)) = false; rw [V.kind]; rfl)
  rw [V.loc] at hn hs
  refine h h' _ ⟨_, cs, ow, fz, ⟨t, S.named hn hs⟩, hz, ⟨V.scope, V.kind, V.globals, V.builtins, V.loc, fun y u e q => ?_, V.cells, fun y u e q => ?_⟩, W.names fun p hp => if_neg (hω p hp), C⟩
  · rw [List.lookup_cons] at e
    cases hy : y == x with
    | true => rw [hy] at e; cases e; exact ⟨v, by rw [if_pos (eq_of_beq hy)], Rv⟩
    | false =>
      rw [hy] at e
      obtain ⟨u', a, b⟩ := V.locs y u e q
      exact ⟨u', by rw [if_neg (by intro w; rw [w] at hy; simp at hy)]; exact a, b⟩
  · rw [List.lookup_cons] at e
    cases hy : y == x with
    | true => rw [eq_of_beq hy, hl] at q; rcases q with q | q <;> cases q
    | false => rw [hy] at e; exact V.vals y u e q
theorem store_cell {A : Around} {h₀ : Heap} {L : Addr} {mt0 fz0 cs ow fz : Led} {env : Env} {s : Shared} {E : Value → Shared → Prop} {m : Str → Option Value} {x : Str} {v : Value} {mv : MV} {Q : Unit → Shared → Prop}
    (S : Sta g h₀ L m (ow ++ (cs ++ mt0)) k fz s.heap) (hz : ∀ p ∈ fz0, p ∈ fz) (V : VarsF g env sc σ L m cs fz) (W : Owns g fz m ω ow) (C : Cel env sc cs) (Rv : Rep g fz v mv) (hl : sc.names.lookup x = some .cell)
    (h : ∀ h' tk, Sf g env sc h₀ L mt0 fz0 ((x, mv) :: σ) ω k h' → Q () { s with heap := h', toks := tk }) : wpAny (model g.prog g.w) A (storeName env x v) Q E s := by
  obtain ⟨c, o, v₀, e1, hc, hd⟩ := C.at_ x hl
  have ho := S.getM (p := (c, o)) (List.mem_append_right _ (List.mem_append_left _ hc))
  obtain ⟨pre, post, rfl⟩ := List.append_of_mem hc
  refine wpAny_storeName_cell (by rw [V.scope]; exact V.kind) (by show env.scope.names.lookup x = _; rw [V.scope]; exact hl) e1 ⟨o, ho, hd⟩ fun h' hv hs => ?_
  obtain ⟨o', ho', hd'⟩ := hv
  have sp : ∀ q : Obj, ow ++ (pre ++ (c, q) :: post ++ mt0) = (ow ++ pre) ++ (c, q) :: (post ++ mt0) := fun q => by simp
  have S' : Sta g h₀ L m (ow ++ (pre ++ (c, o') :: post ++ mt0)) k fz h' := by rw [sp] at S ⊢; exact S.turnM hs.extBut ho'
  refine h h' s.toks ⟨m, pre ++ (c, o') :: post, ow, fz, S', hz, ⟨V.scope, V.kind, V.globals, V.builtins, V.loc, fun y u e q => ?_, V.cells, fun y u e q => ?_⟩, W, ⟨fun y hy => ?_, C.inj⟩⟩
  · rw [List.lookup_cons] at e
    cases hy : y == x with
    | true => rw [eq_of_beq hy, hl] at q; cases q
    | false => rw [hy] at e; exact V.locs y u e q
  · rw [List.lookup_cons] at e
    cases hy : y == x with
    | true =>
      rw [hy] at e; cases e
      exact ⟨c, o', v, by rw [eq_of_beq hy]; exact e1, .inl (by simp), hd', Rv⟩
    | false =>
      rw [hy] at e
      obtain ⟨c2, o2, u2, a1, a2, a3, a4⟩ := V.vals y u e q
      have hne : c2 ≠ c := fun w => by
        rw [w] at a1
        rw [C.inj y x c hl a1 e1] at hy; simp at hy
      refine ⟨c2, o2, u2, a1, a2.imp (fun w => ?_) id, a3, a4⟩
      simp only [List.mem_append, List.mem_cons, Prod.mk.injEq] at w ⊢
      rcases w with w | w | w
      · exact .inl w
      · exact absurd w.1 hne
      · exact .inr (.inr w)
  · obtain ⟨c2, o2, v2, a1, a2, a3⟩ := C.at_ y hy
    by_cases hyx : y = x
    · subst hyx
      exact ⟨c, o', _, e1, by simp, hd'⟩
    · have hne : c2 ≠ c := fun w => by rw [w] at a1; exact hyx (C.inj y x c hl a1 e1)
      refine ⟨c2, o2, v2, a1, ?_, a3⟩
      simp only [List.mem_append, List.mem_cons, Prod.mk.injEq] at a2 ⊢
      rcases a2 with w | w | w
      · exact .inl w
      · exact absurd w.1 hne
      · exact .inr (.inr w)
theorem ex_Assign {x : Str} {px pos : Pos} {e : Expr} (h : Ev g n sc e σ k fun v k' => N ((x, v) :: σ) ω k') (hl : sc.names.lookup x = some .local) (hω : ∀ p ∈ ω, p.1 ≠ x)
    (hs : ∀ env : Env, env.scope = sc → swapsWith e (some (.Name x px)) pos.line env = pure false := by intro _ _; rfl) : Ex g n sc (.Assign [.Name x px] e pos) σ ω k N R := by
  intro A h₀ L mt0 fz0 env s E O S
  have he : env.scope = sc := S.scope
  refine wpAny_Assign_Name (wp_se (stmt_ev (E := E) O S h) fun v mv k₁ h' tk' m cs ow fz q S₁ hz V W C R₁ => ?_) (hs env he)
  exact store_local S₁ hz V W C R₁ hl hω fun h'' tk'' S'' => ⟨h'', tk'', rfl, _, ω, k₁, q, S''⟩
theorem ex_AssignC {x : Str} {px pos : Pos} {e : Expr} (h : Ev g n sc e σ k fun v k' => N ((x, v) :: σ) ω k') (hl : sc.names.lookup x = some .cell)
    (hs : ∀ env : Env, env.scope = sc → swapsWith e (some (.Name x px)) pos.line env = pure false := by intro _ _; rfl) : Ex g n sc (.Assign [.Name x px] e pos) σ ω k N R := by
  intro A h₀ L mt0 fz0 env s E O S
  have he : env.scope = sc := S.scope
  refine wpAny_Assign_Name (wp_se (stmt_ev (E := E) O S h) fun v mv k₁ h' tk' m cs ow fz q S₁ hz V W C R₁ => ?_) (hs env he)
  exact store_cell S₁ hz V W C R₁ hl fun h'' tk'' S'' => ⟨h'', tk'', rfl, _, ω, k₁, q, S''⟩

theorem lookup_mem {α β : Type} [BEq α] [LawfulBEq α] {x : α} {v : β} : ∀ {l : List (α × β)}, l.lookup x = some v → (x, v) ∈ l
  | [], h => by cases h
  | (y, u) :: r, h => by
    rw [List.lookup_cons] at h
    cases hy : x == y with
    | true => rw [hy] at h; cases h; rw [eq_of_beq hy]; exact .head _
    | false => rw [hy] at h; exact .tail _ (lookup_mem h)
theorem fn_plain {nm qual : Str} {params : Arguments} {body : List Stmt} {dV kV doc pm cdv ct oc : Value} {an od : Option Addr} {osl : Array (Option Value)} {f : Addr} {args : List MV} {ps : List Str} {Q : MV → Int → Prop}
    (ho : g.K.lookup f = some ⟨oc, od, .func (fnOf nm qual params body sc dV kV doc pm an cdv ct), osl⟩) (hcd : codeIn g.K cdv qual = true) (hlen : ps.length = args.length)
    (hb : ∀ vs : List Value, vs.length = ps.length → ∀ s : Shared, g.K.In s.heap → BindsTo s (fnOf nm qual params body sc dV kV doc pm an cdv ct) ⟨vs, []⟩ (ps.zip vs)) (hloc : ∀ x ∈ ps, sc.names.lookup x = some .local)
    (hcell : ∀ x ∈ sc.names, x.2 ≠ .cell) (hfree : ∀ x ∈ sc.names, x.2 ≠ .free) (hco : sc.isCoroutine = false) (hgen : sc.isGenerator = false) (hk : sc.kind = .function)
    (h : Exs g n sc body (ps.zip args).reverse [] k (fun _ _ k' => Q .none k') Q) : Fn g (n + 1) (.st (.ref f)) args k Q := by
  intro A fe h₀ L m mt fz s E fv vs O S R RL
  refine R.elim_st fun hh => ?_
  obtain ⟨A₀, base, outer, B, hA⟩ := O.below
  obtain ⟨t, S⟩ := S
  have kin := O.kin.keeps S.fr.keep
  have hroom : A.depth < recursionLimit := by have := O.room; omega
  have hvl : vs.length = ps.length := by rw [RL.1, hlen]
  refine wpAny_call (callX_plain (cl := []) (binds := ps.zip vs) B S.fr S.nw O.top.nolimit hA O.frame O.kind (kin _ _ ho) rfl (codeRec_of kin hcd) hroom (hb vs hvl s kin) (fun y hy => hloc _ ((List.of_mem_zip hy).1)) (fun g' L' h₁ FG F' N' B' st _ => ?_) hcell hco hgen hk)
  have O' : Ok g n (A.deeper (envX qual sc L' f cdv [])) (envX qual sc L' f cdv []) g' L' := by
    refine ⟨⟨A, base, _, B', Around.frames_deeper B'.stack⟩, rfl, hk, O.kin.keeps st, O.top.keeps st, O.hand, ?_, ?_⟩
    · have := O.room; show A.depth + 1 + 2 * n + 2 < recursionLimit; omega
    · have := O.units; show A.units + 3 + 12 * n + 100 < cLine; omega
  have hlook : ∀ x v, ((ps.zip args).reverse).lookup x = some v → ∃ u, ((ps.zip vs).reverse).lookup x = some u ∧ Rep g fz u v := by
    have gen : ∀ (ps : List Str) (as : List MV) (us : List Value) (a : List (Str × MV)) (b : List (Str × Value)), RepL g fz us as → (∀ x v, a.lookup x = some v → ∃ u, b.lookup x = some u ∧ Rep g fz u v) →
        (∀ x, a.lookup x = none → b.lookup x = none) → (∀ x v, ((ps.zip as).reverse ++ a).lookup x = some v → ∃ u, ((ps.zip us).reverse ++ b).lookup x = some u ∧ Rep g fz u v) := by
      intro ps
      induction ps with
      | nil => intro as us a b _ h1 h2; simpa using h1
      | cons p ps ih =>
        intro as us a b hr h1 h2
        cases as with
        | nil => rw [RepL.nil_inv hr]; simpa using h1
        | cons x as =>
          obtain ⟨u, us', rfl, r1, r2⟩ := RepL.cons_inv hr
          have := ih as us' ((p, x) :: a) ((p, u) :: b) r2 (fun y v e => by
            rw [List.lookup_cons] at e ⊢
            cases hy : y == p with
            | true => rw [hy] at e; cases e; exact ⟨u, rfl, r1⟩
            | false => rw [hy] at e; exact h1 y v e) (fun y e => by
            rw [List.lookup_cons] at e ⊢
            cases hy : y == p with
            | true => rw [hy] at e; cases e
            | false => rw [hy] at e; exact h2 y e)
          simpa using this
    have := gen ps args vs [] [] RL (fun x v e => by cases e) (fun x e => rfl)
    simpa using this
  have S' : Sf g (envX qual sc L' f cdv []) sc g' L' mt fz (ps.zip args).reverse [] k h₁ :=
    ⟨_, [], [], fz, ⟨t, F', N', S.nd⟩, fun _ h => h, ⟨rfl, hk, rfl, rfl, rfl, fun x v e _ => hlook x v e, fun x q => ?_, fun x v e q => ?_⟩, rfl, ⟨fun x q => ?_, fun x y c _ a _ => by cases a⟩⟩
  · refine wpAny_mono (h (A.deeper (envX qual sc L' f cdv [])) g' L' mt fz (envX qual sc L' f cdv []) { s with heap := h₁, toks := s.toks + (ps.zip vs).length } _ O' S') (fun fl s' ⟨h', tk, e, x⟩ => ?_) fun _ _ x => x
    subst e
    have key : ∀ v mv k', Q mv k' → Rf g g' L' mt fz v mv k' h' → LeaveK h₀ L m g' (fun r s' => match r with | .ok (.ret v) => Res g h₀ L m mt fz s Q v s' | .ok _ => False | .error e => E e s') v { s with heap := h', toks := tk } := by
      rintro v mv k' q ⟨m', cs, fz', ⟨t', S₂⟩, hz, Rv⟩
      have S₃ : St g' L' m' (plE g k' t' :: (mt ++ fz')) h' := S₂.sub (by
        refine List.Sublist.cons_cons _ ?_
        rw [List.append_assoc]
        exact List.sublist_append_right _ _)
      exact ⟨L', m', _, S₃.fr, S₃.nw, fun F₄ N₄ => ⟨mv, k', q, h', tk, fz', rfl, hz, ⟨t', F₄, N₄, S₃.nd⟩, Rv⟩⟩
    cases fl with
    | next =>
      obtain ⟨σ', ω', k', q, m', cs, ow, fz', S₂, hz, _⟩ := x
      exact key .none .none k' q ⟨m', ow ++ cs, fz', by rw [List.append_assoc]; exact S₂, hz, .none⟩
    | ret v =>
      obtain ⟨mv, k', q, r⟩ := x
      exact key v mv k' q r
    | brk => exact x.elim
    | cont => exact x.elim
  · rcases q with q | q
    · exact absurd rfl (hcell _ (lookup_mem q))
    · exact absurd rfl (hfree _ (lookup_mem q))
  · rcases q with q | q
    · exact absurd rfl (hcell _ (lookup_mem q))
    · exact absurd rfl (hfree _ (lookup_mem q))
  · exact absurd rfl (hcell _ (lookup_mem q))
end
end Mine
end
section
set_option autoImplicit false
set_option linter.unusedVariables false
namespace Mine

theorem bindL_lookup {kindOf : Str → Option NameKind} {x : Str} (hx : kindOf x = some .local) : ∀ (bs : List (Str × Value)) (m : Str → Option Value), bindL kindOf bs m x = (bs.reverse.lookup x).or (m x)
  | [], m => by simp [bindL]
  | (y, v) :: r, m => by
    show bindL kindOf r (if kindOf y = some .local then fun z => if z = y then some v else m z else m) x = _
    rw [bindL_lookup hx r, List.reverse_cons, List.lookup_append]
    cases e : r.reverse.lookup x with
    | some u => rfl
    | none =>
      by_cases hy : x = y
      · subst hy; simp [hx]
      · have : (x == y) = false := by simpa using hy
        split <;> simp [hy, List.lookup_cons, this]
theorem bindC_lookup {kindOf : Str → Option NameKind} {x : Str} (hx : kindOf x ≠ some .local) : ∀ (bs : List (Str × Value)) (m : Str → Option Value), bindC kindOf bs m x = (bs.reverse.lookup x).or (m x)
  | [], m => by simp [bindC]
  | (y, v) :: r, m => by
    show bindC kindOf r (if kindOf y = some .local then m else fun z => if z = y then some v else m z) x = _
    rw [bindC_lookup hx r, List.reverse_cons, List.lookup_append]
    cases e : r.reverse.lookup x with
    | some u => rfl
    | none =>
      by_cases hy : x = y
      · subst hy; simp [hx]
      · have : (x == y) = false := by simpa using hy
        split <;> simp [hy, List.lookup_cons, this]
theorem cellsAre_get {cm : Str → Option Value} {cl : List (Str × Addr)} {cells : Led} (h : CellsAre cm cl cells) {x : Str} {c : Addr} (hx : cl.lookup x = some c) : ∃ o, (c, o) ∈ cells ∧ o.data = .cell (cm x) := by
  induction h with
  | nil => cases hx
  | cons hd hr ih =>
    rename_i n' c' o' cs' cells'
    rw [List.lookup_cons] at hx
    cases e : x == n' with
    | true => rw [e] at hx; cases hx; exact ⟨o', .head _, by rw [eq_of_beq e]; exact hd⟩
    | false => rw [e] at hx; obtain ⟨o, a, b⟩ := ih hx; exact ⟨o, .tail _ a, b⟩
theorem cellsAre_addr {cm : Str → Option Value} {cl : List (Str × Addr)} {cells : Led} (h : CellsAre cm cl cells) : cells.map (·.1) = cl.map (·.2) := by
  induction h with
  | nil => rfl
  | cons hd hr ih => simp [ih]
theorem cellsFrom_fresh : ∀ (names : List (Str × NameKind)) (n lo : Nat) (acc : List (Str × Addr)), lo ≤ n → (∀ p ∈ acc, lo ≤ p.2 ∧ p.2 < n) → (acc.map (·.2)).Nodup →
    (∀ p ∈ cellsFrom n names acc, lo ≤ p.2) ∧ ((cellsFrom n names acc).map (·.2)).Nodup
  | [], n, lo, acc, _, h, nd => ⟨fun p hp => (h p hp).1, nd⟩
  | (y, kd) :: r, n, lo, acc, hlo, h, nd => by
    unfold cellsFrom
    split
    · refine cellsFrom_fresh r (n + 1) lo ((y, n) :: acc) (by omega) (fun p hp => ?_) ?_
      · rcases List.mem_cons.mp hp with rfl | hp
        · exact ⟨hlo, Nat.lt_succ_self _⟩
        · have := h p hp; exact ⟨this.1, Nat.lt_succ_of_lt this.2⟩
      · rw [List.map_cons, List.nodup_cons]
        refine ⟨fun hm => ?_, nd⟩
        obtain ⟨p, hp, e⟩ := List.mem_map.mp hm
        have := (h p hp).2
        rw [e] at this
        exact Nat.lt_irrefl _ this
    · exact cellsFrom_fresh r n lo acc hlo h nd
theorem nodup_inj {l : List (Str × Addr)} (nd : (l.map (·.2)).Nodup) {x y : Str} {c : Addr} (h1 : (x, c) ∈ l) (h2 : (y, c) ∈ l) : x = y := by
  induction l with
  | nil => cases h1
  | cons p r ih =>
    rw [List.map_cons, List.nodup_cons] at nd
    rcases List.mem_cons.mp h1 with e1 | h1
    · rcases List.mem_cons.mp h2 with e2 | h2
      · rw [← e1] at e2; exact (Prod.mk.inj e2).1.symm
      · exact absurd (List.mem_map.mpr ⟨_, h2, by rw [← e1]⟩) nd.1
    · rcases List.mem_cons.mp h2 with e2 | h2
      · exact absurd (List.mem_map.mpr ⟨_, h1, by rw [← e2]⟩) nd.1
      · exact ih nd.2 h1 h2

section
variable {g : GC} {n : Nat} {sc : Scope} {σ : List (Str × MV)} {ω : List (Str × Own)} {k : Int} {N : Nx} {R : MV → Int → Prop}

theorem zip_lookup {fz : Led} {ps : List Str} {args : List MV} {vs : List Value} (RL : RepL g fz vs args) :
    ∀ x v, ((ps.zip args).reverse).lookup x = some v → ∃ u, ((ps.zip vs).reverse).lookup x = some u ∧ Rep g fz u v := by
  have gen : ∀ (ps : List Str) (as : List MV) (us : List Value) (a : List (Str × MV)) (b : List (Str × Value)), RepL g fz us as → (∀ x v, a.lookup x = some v → ∃ u, b.lookup x = some u ∧ Rep g fz u v) →
      (∀ x, a.lookup x = none → b.lookup x = none) → (∀ x v, ((ps.zip as).reverse ++ a).lookup x = some v → ∃ u, ((ps.zip us).reverse ++ b).lookup x = some u ∧ Rep g fz u v) := by
    intro ps
    induction ps with
    | nil => intro as us a b _ h1 h2; simpa using h1
    | cons p ps ih =>
      intro as us a b hr h1 h2
      cases as with
      | nil => rw [RepL.nil_inv hr]; simpa using h1
      | cons x as =>
        obtain ⟨u, us', rfl, r1, r2⟩ := RepL.cons_inv hr
        have := ih as us' ((p, x) :: a) ((p, u) :: b) r2 (fun y v e => by
          rw [List.lookup_cons] at e ⊢
          cases hy : y == p with
          | true => rw [hy] at e; cases e; exact ⟨u, rfl, r1⟩
          | false => rw [hy] at e; exact h1 y v e) (fun y e => by
          rw [List.lookup_cons] at e ⊢
          cases hy : y == p with
          | true => rw [hy] at e; cases e
          | false => rw [hy] at e; exact h2 y e)
        simpa using this
  have := gen ps args vs [] [] RL (fun x v e => by cases e) (fun x e => rfl)
  simpa using this

theorem leave_key {h₀ g' : Heap} {L L' : Addr} {m : Str → Option Value} {mt fz : Led} {s : Shared} {E : Value → Shared → Prop} {Q : MV → Int → Prop} {h' : Heap} {tk : Nat} {v : Value} {mv : MV} {k' : Int}
    (q : Q mv k') (r : Rf g g' L' mt fz v mv k' h') :
    LeaveK h₀ L m g' (fun r s' => match r with | .ok (.ret v) => Res g h₀ L m mt fz s Q v s' | .ok _ => False | .error e => E e s') v { s with heap := h', toks := tk } := by
  obtain ⟨m', cs, fz', ⟨t', S₂⟩, hz, Rv⟩ := r
  have S₃ : St g' L' m' (plE g k' t' :: (mt ++ fz')) h' := S₂.sub (by
    refine List.Sublist.cons_cons _ ?_
    rw [List.append_assoc]
    exact List.sublist_append_right _ _)
  exact ⟨L', m', _, S₃.fr, S₃.nw, fun F₄ N₄ => ⟨mv, k', q, h', tk, fz', rfl, hz, ⟨t', F₄, N₄, S₃.nd⟩, Rv⟩⟩

theorem fn_cells {nm qual : Str} {params : Arguments} {body : List Stmt} {dV kV doc pm cdv ct oc : Value} {an od : Option Addr} {osl : Array (Option Value)} {f : Addr} {args : List MV} {ps : List Str} {Q : MV → Int → Prop}
    (ho : g.K.lookup f = some ⟨oc, od, .func (fnOf nm qual params body sc dV kV doc pm an cdv ct), osl⟩) (hcd : codeIn g.K cdv qual = true) (hlen : ps.length = args.length)
    (hb : ∀ vs : List Value, vs.length = ps.length → ∀ s : Shared, g.K.In s.heap → BindsTo s (fnOf nm qual params body sc dV kV doc pm an cdv ct) ⟨vs, []⟩ (ps.zip vs)) (hloc : ∀ x ∈ ps, sc.names.lookup x = some .local ∨ sc.names.lookup x = some .cell)
    (hnd : ((cellsFrom 0 sc.names []).map (·.1)).Nodup) (hfree : ∀ x ∈ sc.names, x.2 ≠ .free) (hco : sc.isCoroutine = false) (hgen : sc.isGenerator = false) (hk : sc.kind = .function)
    (h : Exs g n sc body (ps.zip args).reverse [] k (fun _ _ k' => Q .none k') Q) : Fn g (n + 1) (.st (.ref f)) args k Q := by
  intro A fe h₀ L m mt fz s E fv vs O S R RL
  cases R with
  | st v hh =>
  obtain ⟨A₀, base, outer, B, hA⟩ := O.below
  obtain ⟨t, S⟩ := S
  have kin := O.kin.keeps S.fr.keep
  have hroom : A.depth < recursionLimit := by have := O.room; omega
  have hvl : vs.length = ps.length := by rw [RL.1, hlen]
  have hkind : ∀ n', ∀ x ∈ ps.zip vs, sc.names.lookup x.1 = some .local ∨ (sc.names.lookup x.1 = some .cell ∧ ((cellsFrom n' sc.names []).lookup x.1).isSome = true) := fun n' x hx =>
    (hloc _ ((List.of_mem_zip hx).1)).imp id fun q => ⟨q, cellsFrom_some _ _ _ (.inl q)⟩
  refine wpAny_call (callX_cells (binds := ps.zip vs) B S.fr S.nw O.top.nolimit hA O.frame O.kind (kin _ _ ho) rfl (codeRec_of kin hcd) hroom (hb vs hvl s kin) hkind hnd (fun g' L' h₁ tk₁ cells FG F' N' Y B' st lt => ?_) hco hgen hk)
  have O' : Ok g n (A.deeper (envOfC qual sc L' f cdv)) (envOfC qual sc L' f cdv) g' L' := by
    refine ⟨⟨A, base, _, B', Around.frames_deeper B'.stack⟩, rfl, hk, O.kin.keeps st, O.top.keeps st, O.hand, ?_, ?_⟩
    · have := O.room; show A.depth + 1 + 2 * n + 2 < recursionLimit; omega
    · have := O.units; show A.units + 3 + 12 * n + 100 < cLine; omega
  obtain ⟨cf1, cf2⟩ := cellsFrom_fresh sc.names (L' + 1) (L' + 1) [] (Nat.le_refl _) (fun p hp => nomatch hp) (by simp)
  have ha := cellsAre_addr Y
  have S₁ : St g' L' (bindL (envOfC qual sc L' f cdv).kindOf (ps.zip vs) fun _ => none) (plE g k t :: (cells ++ mt ++ fz)) h₁ := by
    have S0 : St g' L' (bindL (envOfC qual sc L' f cdv).kindOf (ps.zip vs) fun _ => none) (cells ++ (plE g k t :: (mt ++ fz))) h₁ := ⟨F', N', by
      rw [List.map_append, List.nodup_append]
      refine ⟨by rw [ha]; exact cf2, S.nd, fun a ha1 b hb1 e => ?_⟩
      rw [ha] at ha1
      obtain ⟨p, hp, rfl⟩ := List.mem_map.mp ha1
      obtain ⟨q, hq, rfl⟩ := List.mem_map.mp hb1
      have h1 := cf1 p hp
      have h2 := lt q hq
      rw [e] at h1
      exact absurd (Nat.lt_of_lt_of_le h2 (Nat.le_of_succ_le h1)) (Nat.lt_irrefl _)⟩
    refine S0.perm ?_
    rw [List.append_assoc]
    exact List.perm_middle
  have kd : ∀ x, (envOfC qual sc L' f cdv).kindOf x = sc.names.lookup x := fun x => rfl
  have S' : Sf g (envOfC qual sc L' f cdv) sc g' L' mt fz (ps.zip args).reverse [] k h₁ := by
    refine ⟨_, cells, [], fz, ⟨t, S₁⟩, fun _ h => h, ⟨rfl, hk, rfl, rfl, rfl, fun x v e q => ?_, fun x q => ?_, fun x v e q => ?_⟩, rfl, ⟨fun x q => ?_, fun x y c _ a b => ?_⟩⟩
    · obtain ⟨u, e1, r⟩ := zip_lookup RL x v e
      exact ⟨u, by rw [bindL_lookup (by rw [kd]; exact q), e1]; rfl, r⟩
    · rcases q with q | q
      · exact Option.isSome_iff_exists.mp (cellsFrom_some sc.names (L' + 1) [] (.inl q))
      · exact absurd rfl (hfree _ (lookup_mem q))
    · rcases q with q | q
      · obtain ⟨c, hc⟩ := Option.isSome_iff_exists.mp (cellsFrom_some sc.names (L' + 1) [] (.inl q))
        obtain ⟨o, hm, hd⟩ := cellsAre_get Y hc
        obtain ⟨u, e1, r⟩ := zip_lookup RL x v e
        refine ⟨c, o, u, hc, .inl hm, ?_, r⟩
        rw [hd, bindC_lookup (by rw [kd, q]; decide), e1]; rfl
      · exact absurd rfl (hfree _ (lookup_mem q))
    · obtain ⟨c, hc⟩ := Option.isSome_iff_exists.mp (cellsFrom_some sc.names (L' + 1) [] (.inl q))
      obtain ⟨o, hm, hd⟩ := cellsAre_get Y hc
      exact ⟨c, o, _, hc, hm, hd⟩
    · exact nodup_inj cf2 (lookup_mem a) (lookup_mem b)
  refine wpAny_mono (h _ g' L' mt fz (envOfC qual sc L' f cdv) { s with heap := h₁, toks := tk₁ } _ O' S') (fun fl s' ⟨h', tk, e, x⟩ => ?_) fun _ _ x => x
  subst e
  cases fl with
  | next =>
    obtain ⟨σ', ω', k', q, m', cs, ow, fz', S₂, hz, _⟩ := x
    exact leave_key (s := s) (tk := tk) (m := m) q ⟨m', ow ++ cs, fz', by rw [List.append_assoc]; exact S₂, hz, .none⟩
  | ret v =>
    obtain ⟨mv, k', q, r⟩ := x
    exact leave_key (s := s) (tk := tk) (m := m) q r
  | brk => exact x.elim
  | cont => exact x.elim

theorem fn_class {nm qual : Str} {params : Arguments} {body : List Stmt} {dV kV doc pm cdv ct oc : Value} {an od : Option Addr} {osl : Array (Option Value)} {C f : Addr} {args : List MV} {self : Str} {ps : List Str} {Q : MV → Int → Prop} {σ₀ : List (Str × MV)}
    (hm : makesIn g.K C = true) (hi : findIn g.K (.ref C) "__init__" = some (some (.ref f))) (hf : isFn g.K (.ref f) = true)
    (ho : g.K.lookup f = some ⟨oc, od, .func (fnOf nm qual params body sc dV kV doc pm an cdv ct), osl⟩) (hcd : codeIn g.K cdv qual = true)
    (hb : ∀ fz vs, RepL g fz vs args → ∃ us ms, (∀ x : Value, ∀ s : Shared, g.K.In s.heap → BindsTo s (fnOf nm qual params body sc dV kV doc pm an cdv ct) ⟨x :: vs, []⟩ ((self, x) :: ps.zip us)) ∧ RepL g fz us ms ∧ σ₀ = (ps.zip ms).reverse)
    (hloc : ∀ x ∈ self :: ps, sc.names.lookup x = some .local) (hself : self ∉ ps)
    (hcell : ∀ x ∈ sc.names, x.2 ≠ .cell) (hfree : ∀ x ∈ sc.names, x.2 ≠ .free) (hco : sc.isCoroutine = false) (hgen : sc.isGenerator = false) (hk : sc.kind = .function)
    (h : ∀ x, Exs g n sc body σ₀ [(self, .inst x C [])] k (fun _ ω' k' => ∃ fs, ω' = [(self, .inst x C fs)] ∧ Q (.obj C fs) k') (fun _ _ => False)) : Fn g (n + 1) (.st (.ref C)) args k Q := by
  intro A fe h₀ L m mt fz s E fv vs O S R RL
  cases R with
  | st v hh =>
  obtain ⟨A₀, base, outer, B, hA⟩ := O.below
  obtain ⟨t, S⟩ := S
  refine call_cls S.fr O.kin S.nw hm hi hf fun x dx h₁ F₁ N₁ lt1 lt2 => ?_
  have kin := O.kin.keeps F₁.keep
  have hdp := depth_under_make A C vs
  have hun := units_under_make A C vs
  have hroom : (A.under (.builtin "type.__call__" ⟨.ref C :: vs, []⟩)).depth < recursionLimit := by rw [hdp]; have := O.room; omega
  obtain ⟨us, ms, hbind, RL', rfl⟩ := hb fz vs RL
  have nd1 : (((x, instObj C dx) :: (dx, dictOf [] 0) :: plE g k t :: (mt ++ fz)).map (·.1)).Nodup := by
    rw [List.map_cons, List.map_cons, List.nodup_cons, List.nodup_cons]
    refine ⟨fun q => ?_, fun q => ?_, S.nd⟩
    · rcases List.mem_cons.mp q with q | q
      · exact absurd lt2 (by show ¬ dx < x; rw [show x = dx from q]; exact Nat.lt_irrefl _)
      · obtain ⟨p, hp, e⟩ := List.mem_map.mp q
        have := lt1 p hp; rw [e] at this; exact absurd (Nat.lt_trans this lt2) (Nat.lt_irrefl _)
    · obtain ⟨p, hp, e⟩ := List.mem_map.mp q
      have := lt1 p hp; rw [e] at this; exact absurd this (Nat.lt_irrefl _)
  refine callX_plain (cl := []) (binds := (self, .ref x) :: ps.zip us) B F₁ N₁ O.top.nolimit hA O.frame O.kind (kin _ _ ho) rfl (codeRec_of kin hcd) hroom (hbind (.ref x) _ kin) (fun y hy => ?_) (fun g' L' h₂ FG F' N' B' st _ => ?_) hcell hco hgen hk
  · rcases List.mem_cons.mp hy with rfl | hy
    · exact hloc _ (.head _)
    · exact hloc _ (.tail _ ((List.of_mem_zip hy).1))
  have O' : Ok g n ((A.under (.builtin "type.__call__" ⟨.ref C :: vs, []⟩)).deeper (envX qual sc L' f cdv [])) (envX qual sc L' f cdv []) g' L' := by
    refine ⟨⟨_, base, _, B', Around.frames_deeper B'.stack⟩, rfl, hk, O.kin.keeps st, O.top.keeps st, O.hand, ?_, ?_⟩
    · have := O.room; show (A.under (.builtin "type.__call__" ⟨.ref C :: vs, []⟩)).depth + 1 + 2 * n + 2 < recursionLimit; rw [hdp]; omega
    · have := O.units; show (A.under (.builtin "type.__call__" ⟨.ref C :: vs, []⟩)).units + 3 + 12 * n + 100 < cLine; rw [hun]; omega
  have hlook : ∀ y v, ((ps.zip ms).reverse).lookup y = some v → ∃ u, (((self, Value.ref x) :: ps.zip us).reverse).lookup y = some u ∧ Rep g fz u v := fun y v e => by
    obtain ⟨u, e1, r⟩ := zip_lookup RL' y v e
    exact ⟨u, by rw [List.reverse_cons, List.lookup_append, e1]; rfl, r⟩
  have hlself : (((self, Value.ref x) :: ps.zip us).reverse).lookup self = some (.ref x) := by
    rw [List.reverse_cons, List.lookup_append]
    have : ((ps.zip us).reverse).lookup self = none := by
      cases q : ((ps.zip us).reverse).lookup self with
      | none => rfl
      | some u => exact absurd ((List.of_mem_zip (List.mem_reverse.mp (lookup_mem q))).1) hself
    rw [this]
    simp
  have S₁ : St g' L' (fun y => ((self, Value.ref x) :: ps.zip us).reverse.lookup y) (plE g k t :: (([(x, instObj C dx), (dx, dictOf [] 0)] ++ mt) ++ fz)) h₂ := by
    have S0 : St g' L' (fun y => ((self, Value.ref x) :: ps.zip us).reverse.lookup y) ((x, instObj C dx) :: (dx, dictOf [] 0) :: plE g k t :: (mt ++ fz)) h₂ := ⟨F', N', nd1⟩
    refine S0.perm ?_
    exact List.Perm.trans (List.Perm.cons _ (List.Perm.swap _ _ _)) (List.Perm.swap _ _ _)
  have S' : Sf g (envX qual sc L' f cdv []) sc g' L' mt fz (ps.zip ms).reverse [(self, .inst x C [])] k h₂ := by
    refine ⟨_, [], [(x, instObj C dx), (dx, dictOf [] 0)], fz, ⟨t, S₁⟩, fun _ h => h, ⟨rfl, hk, rfl, rfl, rfl, fun y v e _ => hlook y v e, fun y q => ?_, fun y v e q => ?_⟩,
      ⟨x, [(x, instObj C dx), (dx, dictOf [] 0)], [], rfl, hlself, .inst (fun _ => .none) (fun _ _ => rfl) (fun _ _ e => by cases e) (fun _ _ e => by cases e) (Nat.le_refl _) (by decide), rfl⟩, ⟨fun y q => ?_, fun y z c _ a _ => by cases a⟩⟩
    · rcases q with q | q
      · exact absurd rfl (hcell _ (lookup_mem q))
      · exact absurd rfl (hfree _ (lookup_mem q))
    · rcases q with q | q
      · exact absurd rfl (hcell _ (lookup_mem q))
      · exact absurd rfl (hfree _ (lookup_mem q))
    · exact absurd rfl (hcell _ (lookup_mem q))
  refine wpAny_mono (h x _ g' L' mt fz (envX qual sc L' f cdv []) { s with heap := h₂, toks := s.toks + ((self, Value.ref x) :: ps.zip us).length } _ O' S') (fun fl s' ⟨h', tk, e, z⟩ => ?_) fun _ _ x => x
  subst e
  cases fl with
  | next =>
    obtain ⟨σ', ω', k', ⟨fs, rfl, q⟩, m', cs, ow, fz', S₂, hz, V₂, W₂, C₂⟩ := z
    obtain ⟨a, l₁, l₂, rfl, hma, hol, hl2⟩ := W₂
    subst hl2
    cases hol with
    | inst val i1 i2 i3 i4 i5 =>
      rename_i d es nn
      obtain ⟨t₂, S₂⟩ := S₂
      have S₃ : St g' L' m' (plE g k' t₂ :: (mt ++ ((x, instObj C d) :: (d, dictOf es nn) :: fz'))) h' := by
        have S4 : St g' L' m' (plE g k' t₂ :: ((x, instObj C d) :: (d, dictOf es nn) :: (mt ++ fz'))) h' := by
          refine S₂.sub ?_
          refine List.Sublist.cons_cons _ ?_
          simp only [List.append_nil, List.cons_append, List.nil_append]
          exact List.Sublist.cons_cons _ (List.Sublist.cons_cons _ (List.Sublist.append (List.sublist_append_right _ _) (List.Sublist.refl _)))
        refine S4.perm (List.Perm.cons _ ?_)
        refine List.Perm.trans ?_ (List.perm_middle).symm
        exact List.Perm.cons _ (List.perm_middle).symm
      exact ⟨L', m', _, S₃.fr, S₃.nw, fun F₄ N₄ => ⟨rfl, .obj C fs, k', q, h', tk, _, rfl, fun p hp => .tail _ (.tail _ (hz p hp)), ⟨t₂, F₄, N₄, S₃.nd⟩,
        .obj val (.head _) (.tail _ (.head _)) i1 i2 (Nat.le_trans i4 i5) fun nm mv e => (i3 nm mv e).mono fun p hp => .tail _ (.tail _ hp)⟩⟩
  | ret v =>
    obtain ⟨mv, k', q, r⟩ := z
    exact q.elim
  | brk => exact z.elim
  | cont => exact z.elim
end
end Mine
end
section
set_option autoImplicit false
set_option linter.unusedVariables false
namespace Mine

theorem isStr_str (s : Str) (t : Tok) (x : Str) : (Value.str s t).isStr x = (s == x) := rfl
theorem getL_put_same (x : Str) (hsh : Int) (t : Tok) (v : Value) : ∀ es : List DictEntry, getL x (putL x hsh (.str x t) v es) = some (some v)
  | [] => by simp [putL, getL, isStr_str]
  | e :: r => by
    unfold putL
    cases h : e.key.isStr x with
    | true => simp [getL, h]
    | false =>
      simp only [Bool.false_eq_true, if_false]
      have ih := getL_put_same x hsh t v r
      unfold getL at ih ⊢
      rw [List.find?_cons]
      simp only [h]
      split at ih
      · rename_i e' he; rw [he]; exact ih
      · split at ih <;> cases ih
theorem getL_put_ne {x y : Str} (hxy : y ≠ x) (hsh : Int) (t : Tok) (v : Value) : ∀ es : List DictEntry, getL y (putL x hsh (.str x t) v es) = getL y es
  | [] => by
    have : (x == y) = false := by simpa using Ne.symm hxy
    simp [putL, getL, isStr_str, this, DictEntry.refKey]
  | e :: r => by
    have ih := getL_put_ne hxy hsh t v r
    unfold putL
    cases h : e.key.isStr x with
    | true =>
      have hk : e.key.isStr y = false := by
        cases hh : e.key with
        | str s tt =>
          rw [hh] at h
          rw [isStr_str] at h ⊢
          have := eq_of_beq h
          subst this
          simpa using Ne.symm hxy
        | _ => rw [hh] at h; simp [Value.isStr] at h
      simp [getL, hk, DictEntry.refKey]
    | false =>
      simp only [Bool.false_eq_true, if_false]
      unfold getL at ih ⊢
      rw [List.find?_cons, List.find?_cons]
      cases h2 : e.key.isStr y with
      | true => rfl
      | false =>
        simp only [List.any_cons]
        cases h3 : (putL x hsh (.str x t) v r).find? (fun x => x.key.isStr y) with
        | some e' =>
          rw [h3] at ih
          cases h4 : r.find? (fun x => x.key.isStr y) with
          | some e'' => rw [h4] at ih; simpa using ih
          | none =>
            rw [h4] at ih
            dsimp only at ih
            split at ih <;> cases ih
        | none =>
          rw [h3] at ih
          cases h4 : r.find? (fun x => x.key.isStr y) with
          | some e'' => rw [h4] at ih; dsimp only at ih; split at ih <;> cases ih
          | none =>
            rw [h4] at ih
            dsimp only at ih ⊢
            by_cases q : e.refKey = true
            · simp [q]
            · simp only [q, Bool.false_or]
              simpa [q] using ih
theorem putL_len (x : Str) (hsh : Int) (key v : Value) : ∀ es : List DictEntry, (putL x hsh key v es).length ≤ es.length + 1
  | [] => by simp [putL]
  | e :: r => by
    unfold putL
    split
    · simp
    · have := putL_len x hsh key v r; simp; omega
theorem upd_of {d : Addr} {o o' : Obj} : ∀ {pre post : Led}, (∀ p ∈ pre, p.1 ≠ d) → (∀ p ∈ post, p.1 ≠ d) → Upd d o o' (pre ++ (d, o) :: post) (pre ++ (d, o') :: post)
  | [], _, _, h => .head h
  | p :: r, _, h1, h2 => .tail (h1 p (.head _)) (upd_of (fun q hq => h1 q (.tail _ hq)) h2)

noncomputable def PutOk (K : Frag) (C : Addr) (name : Str) : Prop := findIn K (.ref C) "__setattr__" = some (some (.builtin "object.__setattr__")) ∧ plainOver K C = true ∧ takerIn K C name = some none ∧ hasDictIn K C = true

section
variable {g : GC} {n : Nat} {sc : Scope} {σ : List (Str × MV)} {ω : List (Str × Own)} {k : Int} {N : Nx} {R : MV → Int → Prop}

theorem ex_SetAttr {self attr : Str} {sp apos pos : Pos} {e : Expr} {x C : Addr} {fs : List (Str × MV)} (hω : ω.lookup self = some (.inst x C fs)) (hl : sc.names.lookup self = some .local) (hP : PutOk g.K C attr) (hn : fs.length ≤ 90)
    (h : Ev g n sc e σ k fun v k' => N σ (setW self (.inst x C ((attr, v) :: fs)) ω) k')
    (hs : ∀ env : Env, env.scope = sc → swapsWith e (some (.Attribute (.Name self sp) attr apos)) pos.line env = pure false := by intro _ _; rfl) (hd : (self == ("__debug__" : Str)) = false := by decide) :
    Ex g n sc (.Assign [.Attribute (.Name self sp) attr apos] e pos) σ ω k N R := by
  intro A h₀ L mt0 fz0 env s E O S
  have he : env.scope = sc := S.scope
  refine plainObj_wpAny_Assign_Attribute (wp_se (stmt_ev (E := E) O S h) fun v mv k₁ h' tk' m cs ow fz q S₁ hz V W C₁ R₁ => ?_) (hs env he)
  obtain ⟨a, pre, seg, post, hled, hma, hol, hback⟩ := W.split hω
  obtain ⟨t, S₁⟩ := S₁
  cases hol with
  | inst val i1 i2 i3 i4 i5 =>
    rename_i d es nn
    refine wpAny_Name (wpAny_loadName_local (m := m) (by rw [he]; exact V.kind) (by show env.scope.names.lookup self = _; rw [he]; exact hl) (by rw [V.loc]; exact S₁.fr.ns) hma ?_) hd
    have sp1 : ∀ q : Obj, plE g k₁ t :: (pre ++ ([(x, instObj C d), (d, q)] ++ post) ++ (cs ++ mt0) ++ fz) = (plE g k₁ t :: (pre ++ [(x, instObj C d)])) ++ (d, q) :: (post ++ (cs ++ mt0) ++ fz) := fun q => by simp
    have S₂ := S₁
    rw [hled, sp1] at S₂
    obtain ⟨d1, d2⟩ := S₂.dNe
    obtain ⟨p1, p2, p3, p4⟩ := hP
    have hget : (getL attr es).isSome = true := by
      cases q : fs.lookup attr with
      | none => rw [i1 attr q]; rfl
      | some mv' => rw [i2 attr mv' q]; rfl
    have hI : PySem.W.InstAt h' x (instObj C d) C (some (dictOf es nn)) := InstAt.of_news S₂.nw (by simp) (by simp)
    refine set_dict S₂.fr O.kin S₂.nw hI rfl p1 p2 p3 p4 hget rfl (upd_of d1 d2) (Nat.le_trans (putL_len _ _ _ _ _) (by omega)) fun h₃ F₃ N₃ => ?_
    have S₃ : St h₀ L m (plE g k₁ t :: (pre ++ ([(x, instObj C d), (d, dictOf (putL attr (PyData.keyHash g.w.params attr) (.str attr (tk' + 1)) v es) (putN attr es nn))] ++ post) ++ (cs ++ mt0) ++ fz)) h₃ := by
      rw [sp1]
      refine ⟨F₃, N₃, ?_⟩
      have := S₂.nd
      simpa using this
    refine ⟨h₃, _, rfl, σ, _, k₁, q, m, cs, pre ++ ([(x, instObj C d), (d, dictOf (putL attr (PyData.keyHash g.w.params attr) (.str attr (tk' + 1)) v es) (putN attr es nn))] ++ post), fz, ⟨t, S₃⟩, hz, V, ?_, C₁⟩
    refine hback fz _ _ (fun _ h => h) (.inst (fun y => if y = attr then v else val y) (fun y hy => ?_) (fun y mv' hy => ?_) (fun y mv' hy => ?_) ?_ ?_)
    · rw [List.lookup_cons] at hy
      cases e : y == attr with
      | true => rw [e] at hy; cases hy
      | false =>
        rw [e] at hy
        rw [getL_put_ne (by intro w; rw [w] at e; simp at e)]
        exact i1 y hy
    · rw [List.lookup_cons] at hy
      cases e : y == attr with
      | true => rw [eq_of_beq e, if_pos rfl]; exact getL_put_same _ _ _ _ _
      | false =>
        rw [e] at hy
        have hne : y ≠ attr := by intro w; rw [w] at e; simp at e
        rw [getL_put_ne hne, if_neg hne]
        exact i2 y mv' hy
    · rw [List.lookup_cons] at hy
      cases e : y == attr with
      | true => rw [e] at hy; cases hy; rw [eq_of_beq e, if_pos rfl]; exact R₁
      | false =>
        rw [e] at hy
        have hne : y ≠ attr := by intro w; rw [w] at e; simp at e
        rw [if_neg hne]
        exact i3 y mv' hy
    · have := putL_len attr (PyData.keyHash g.w.params attr) (.str attr (tk' + 1)) v es
      simp only [List.length_cons]
      omega
    · simp only [List.length_cons]; omega
end
end Mine
end
section
set_option autoImplicit false
set_option linter.unusedVariables false
namespace Mine
theorem Sta.dropI {g : GC} {h₀ h h' : Heap} {L I : Addr} {m : Str → Option Value} {pre post fz : Led} {o : Obj} {k : Int} (S : Sta g h₀ L m (pre ++ (I, o) :: post) k fz h) (hk : ∀ b o, b ≠ I → h.get? b = some o → h'.get? b = some o) : Sta g h₀ L m (pre ++ post) k fz h' := by
  obtain ⟨t, S⟩ := S
  have sp : plE g k t :: (pre ++ (I, o) :: post ++ fz) = (plE g k t :: pre) ++ (I, o) :: (post ++ fz) := by simp
  have sp2 : plE g k t :: (pre ++ post ++ fz) = (plE g k t :: pre) ++ (post ++ fz) := by simp
  rw [sp] at S
  obtain ⟨n1, n2⟩ := S.dNe
  have hN : ∀ p ∈ (plE g k t :: pre) ++ (post ++ fz), p.1 ≠ I := fun p hp => (List.mem_append.mp hp).elim (n1 p) (n2 p)
  have Sd : St h₀ L m ((plE g k t :: pre) ++ (post ++ fz)) h := S.sub (List.Sublist.append (List.Sublist.refl _) (List.sublist_cons_self _ _))
  have D := S.nw (I, o) (by simp)
  refine ⟨t, ?_⟩
  rw [sp2]
  exact ⟨⟨Sd.fr.ns.extBut (fun b o hb e => hk b o hb e) (Ne.symm D.2.1), fun b o e => hk b o (fun q => by have := D.2.2; rw [← q, e] at this; cases this) (Sd.fr.keep b o e), Sd.fr.above⟩,
    fun p hp => ⟨hk _ _ (hN p hp) (Sd.nw p hp).1, (Sd.nw p hp).2⟩, Sd.nd⟩
theorem kept {fp : List Addr} {I : Addr} {fz : Led} {h h' : Heap} {oI : Obj} (hfp : ∀ b ∈ fp, b = I ∨ ∃ ob, (b, ob) ∈ fz) (a1 : h.get? I = some oI) (a2 : h'.get? I = some oI) (z1 : ∀ p ∈ fz, h.get? p.1 = some p.2) (z2 : ∀ p ∈ fz, h'.get? p.1 = some p.2) :
    ∀ b ∈ fp, ∀ o, h.get? b = some o → h'.get? b = some o := fun b hb o e => by
  rcases hfp b hb with rfl | ⟨ob, hob⟩
  · exact (a1.symm.trans e) ▸ a2
  · exact ((z1 _ hob).symm.trans e) ▸ z2 _ hob

inductive Itm : MV → List MV → Prop
  | lst (ms : List MV) : Itm (.lst ms) ms
  | tup (ms : List MV) : Itm (.tup ms) ms
  | dic (es : List (Int × MV)) : Itm (.dic es) (es.map fun p => .int p.1)
  | rng (a b : Int) : -1000 ≤ a → a ≤ 1000 → -1000 ≤ b → b ≤ 1000 → Itm (.rng a b) ((List.range (b - a).toNat).map fun i => .int (a + (i : Nat)))

noncomputable def PlainIt (o : Obj) : Prop := ∃ T, o.cls = .type T ∧ (["enumerate", "zip", "dict_itemiterator", "dict_reverseitemiterator", "odict_iterator", "itertools.zip_longest", "itertools.pairwise"] : List String).contains T = false
structure Wk (g : GC) (A : Around) (fz : Led) (I : Addr) (ms : List MV) (Sa : Nat → Heap → Prop) : Prop where
  walks : ∃ fp P, Walks g.prog g.w A I fp [I] ms.length P Sa ∧ (∀ b ∈ fp, b = I ∨ ∃ o, (b, o) ∈ fz) ∧ (∀ i v, P i v → i < ms.length → ∃ mi, ms[i]? = some mi ∧ Rep g fz v mi)
  alive : ∀ i h, Sa i h → ∃ o, h.get? I = some o ∧ PlainIt o

section
variable {g : GC} {A : Around} {h₀ : Heap} {L : Addr} {m : Str → Option Value} {mt fz : Led} {k : Int} {s : Shared} {E : Value → Shared → Prop}
theorem iter_any {v : Value} {mv : MV} {ms : List MV} {Q : Value → Shared → Prop} (hh : A.handled = none) (S : Sta g h₀ L m mt k fz s.heap) (R : Rep g fz v mv) (hi : Itm mv ms)
    (h : ∀ (oI : Obj) Sa, oI.isFreed = false → Wk g A fz s.heap.objs.size ms Sa → Sa 0 (s.heap.push oI) → Q (.ref s.heap.objs.size) { s with heap := s.heap.push oI }) :
    wpAny (model g.prog g.w) A (pyIter v) Q E s := by
  have ltf : ∀ {a : Addr} {o : Obj}, (a, o) ∈ fz → a < s.heap.objs.size := fun hm => Heap.lt_size (S.get hm)
  cases hi with
  | lst ms =>
    refine R.elim_lst fun hm hl hb hr => ?_
    rename_i a vs nn
    have hls : s.heap.IsList a vs.toArray := ⟨_, S.get hm, rfl, _, rfl⟩
    have hne : a ≠ s.heap.objs.size := Nat.ne_of_lt (ltf hm)
    have W0 := Walks.list (prog := g.prog) (w := g.w) hh s.heap.objs.size a hne vs.toArray
    have ez : vs.toArray.size = ms.length := by rw [List.size_toArray]; exact hl
    rw [ez] at W0
    refine wpAny_pyIter_list hls (h _ (fun i h => h.IsListIter s.heap.objs.size a i ∧ h.IsList a vs.toArray) rfl ⟨⟨_, _, W0, fun b hb => ?_, fun i v hp hi => ?_⟩, fun i h q => ?_⟩ ⟨⟨_, Heap.get?_push_size _ rfl, rfl, rfl⟩, hls.at fun o e => Heap.get?_push_of_some _ e⟩)
    · rcases List.mem_cons.mp hb with e | e
      · exact .inl e
      · rw [List.mem_singleton.mp e]; exact .inr ⟨_, hm⟩
    · have e := List.getElem?_eq_getElem hi
      exact ⟨_, e, hr i v _ (by simpa using hp) e⟩
    · obtain ⟨⟨o, ho, hc, _⟩, _⟩ := q; exact ⟨o, ho, _, hc, by decide⟩
  | tup ms =>
    refine R.elim_tup fun hm hl hb hr => ?_
    rename_i a vs nn
    have hls : s.heap.IsTuple a vs.toArray := ⟨_, S.get hm, rfl, _, rfl⟩
    have hne : a ≠ s.heap.objs.size := Nat.ne_of_lt (ltf hm)
    have hls' : (s.heap.push { cls := .type "tuple_iterator", data := .fields #[.ref a, .int 0 0] }).IsTuple a vs.toArray := ⟨_, Heap.get?_push_of_some _ (S.get hm), rfl, _, rfl⟩
    have W0 := Walks.tuple (prog := g.prog) (w := g.w) hh s.heap.objs.size a hne vs.toArray
    have ez : vs.toArray.size = ms.length := by rw [List.size_toArray]; exact hl
    rw [ez] at W0
    refine wpAny_pyIter_tuple hls (h _ (fun i h => h.IsTupleIter s.heap.objs.size a i ∧ h.IsTuple a vs.toArray) rfl ⟨⟨_, _, W0, fun b hb => ?_, fun i v hp hi => ?_⟩, fun i h q => ?_⟩ ⟨⟨_, Heap.get?_push_size _ rfl, rfl, rfl⟩, hls'⟩)
    · rcases List.mem_cons.mp hb with e | e
      · exact .inl e
      · rw [List.mem_singleton.mp e]; exact .inr ⟨_, hm⟩
    · have e := List.getElem?_eq_getElem hi
      exact ⟨_, e, hr i v _ (by simpa using hp) e⟩
    · obtain ⟨⟨o, ho, hc, _⟩, _⟩ := q; exact ⟨o, ho, _, hc, by decide⟩
  | dic es =>
    refine R.elim_dic fun hm hsm hd hk hb hr => ?_
    rename_i a o kvs
    obtain ⟨en, ep, e1, e2, e3, e4, e5⟩ := hd
    have hls : s.heap.DictAt (PySem.intKind g.prog g.w) a kvs ep := ⟨_, en, S.get hm, e1, e2, e3, e4, e5⟩
    have hne : a ≠ s.heap.objs.size := Nat.ne_of_lt (ltf hm)
    have hlen : kvs.length = (es.map fun p => MV.int p.1).length := by have := congrArg List.length hk; simpa using this
    have W0 := Walks.dictKeys (prog := g.prog) (w := g.w) (knd := PySem.intKind g.prog g.w) hh s.heap.objs.size a hne kvs ep
    refine wpAny_pyIter_dict hsm hls (h _ (fun i h => h.IsKeyIter s.heap.objs.size a i kvs.length ep ∧ h.DictAt (PySem.intKind g.prog g.w) a kvs ep) rfl ⟨⟨_, _, by rw [← hlen]; exact W0, fun b hb => ?_, fun i v hp hi => ?_⟩, fun i h q => ?_⟩
      ⟨⟨_, Heap.get?_push_size _ rfl, rfl, rfl⟩, ⟨_, en, Heap.get?_push_of_some _ (S.get hm), e1, e2, e3, e4, e5⟩⟩)
    · rcases List.mem_cons.mp hb with e | e
      · exact .inl e
      · rw [List.mem_singleton.mp e]; exact .inr ⟨_, hm⟩
    · obtain ⟨kk, x, h1, h2⟩ := hp
      have h3 : (es.map (·.1))[i]? = some kk := by rw [← hk]; simp [h1]
      have h4 : (es.map fun p => MV.int p.1)[i]? = some (.int kk) := by
        rw [List.getElem?_map] at h3 ⊢
        cases q : es[i]? with
        | none => rw [q] at h3; cases h3
        | some y => rw [q] at h3; simp at h3; simp [h3]
      refine ⟨_, h4, ?_⟩
      have : ∃ t, v = .int kk t := by
        cases v <;> simp [PySem.intKind, Value.isInt] at h2
        exact ⟨_, by rw [h2]⟩
      obtain ⟨t, rfl⟩ := this
      exact .int _ _
    · obtain ⟨⟨o, ho, hc, _⟩, _⟩ := q; exact ⟨o, ho, _, hc, by decide⟩
  | rng a b h1 h2 h3 h4 =>
    refine R.elim_rng fun hm => ?_
    rename_i r t u v
    have hlen : ((List.range (b - a).toNat).map fun i => MV.int (a + (i : Nat))).length = (b - a).toNat := by simp
    have W0 := Walks.range (prog := g.prog) (w := g.w) hh s.heap.objs.size a 1 (b - a).toNat
    refine wpAny_pyIter_range (S.get hm) (small_one (by omega) (by omega) (by omega) (by omega)) (h _ (fun i h => IsRangeIter h s.heap.objs.size (a + (i : Nat) * 1) (((b - a).toNat : Int) - (i : Nat)) 1) rfl ⟨⟨_, _, by rw [hlen]; exact W0, fun b hb => ?_, fun i v hp hi => ?_⟩, fun i h q => ⟨_, q, _, rfl, by decide⟩⟩ ?_)
    · exact .inl (List.mem_singleton.mp hb)
    · obtain ⟨t, rfl⟩ := hp
      rw [hlen] at hi
      refine ⟨.int (a + i), by simp [hi], ?_⟩
      rw [Int.mul_one]; exact .int _ _
    · show IsRangeIter _ _ _ _ _
      rw [rangeSize_nat]
      simpa using Heap.get?_push_size _ rfl
end

section
variable {g : GC} {n : Nat} {sc : Scope} {σ : List (Str × MV)} {ω : List (Str × Own)} {k : Int} {N : Nx} {R : MV → Int → Prop}

theorem Sf.withI {env : Env} {h₀ : Heap} {L : Addr} {mt0 fz0 : Led} {h : Heap} {oI : Obj} (hf : oI.isFreed = false) (S : Sf g env sc h₀ L mt0 fz0 σ ω k h) : Sf g env sc h₀ L ((h.objs.size, oI) :: mt0) fz0 σ ω k (h.push oI) := by
  obtain ⟨m, cs, ow, fz, S, hz, V, W, C⟩ := S
  obtain ⟨t, S⟩ := S.allocM oI hf
  refine ⟨m, cs, ow, fz, ⟨t, S.perm (List.Perm.cons _ ?_)⟩, hz, V, W, C⟩
  simp only [List.cons_append, List.append_assoc]
  refine List.Perm.trans ?_ (List.Perm.append_left ow (List.perm_middle).symm)
  exact (List.perm_middle).symm
theorem Sf.outI {env : Env} {h₀ : Heap} {L : Addr} {mt0 fz0 : Led} {h : Heap} {p : Addr × Obj} (S : Sf g env sc h₀ L (p :: mt0) fz0 σ ω k h) : Sf g env sc h₀ L mt0 fz0 σ ω k h := by
  obtain ⟨m, cs, ow, fz, ⟨t, S⟩, hz, V, W, C⟩ := S
  refine ⟨m, cs, ow, fz, ⟨t, S.sub (List.Sublist.cons_cons _ ?_)⟩, hz, V, W, C⟩
  exact List.Sublist.append (List.Sublist.append (List.Sublist.refl _) (List.Sublist.append (List.Sublist.refl _) (List.sublist_cons_self _ _))) (List.Sublist.refl _)
theorem Sf.turnI {env : Env} {h₀ : Heap} {L : Addr} {mt0 fz0 : Led} {h h' : Heap} {I : Addr} {oI oI' : Obj} (S : Sf g env sc h₀ L ((I, oI) :: mt0) fz0 σ ω k h) (hs : Heap.ExtBut I h h') (ho : h'.get? I = some oI') : Sf g env sc h₀ L ((I, oI') :: mt0) fz0 σ ω k h' := by
  obtain ⟨m, cs, ow, fz, S, hz, V, W, C⟩ := S
  have sp : ∀ q : Obj, ow ++ (cs ++ (I, q) :: mt0) = (ow ++ cs) ++ (I, q) :: mt0 := fun q => by simp
  rw [sp] at S
  have := S.turnM hs ho
  rw [← sp] at this
  exact ⟨m, cs, ow, fz, this, hz, V, W, C⟩
theorem Sf.getI {env : Env} {h₀ : Heap} {L : Addr} {mt0 fz0 : Led} {h : Heap} {p : Addr × Obj} (S : Sf g env sc h₀ L (p :: mt0) fz0 σ ω k h) : h.get? p.1 = some p.2 := by
  obtain ⟨m, cs, ow, fz, S, hz, V, W, C⟩ := S
  exact S.getM (by simp)
theorem Sf.getZ {env : Env} {h₀ : Heap} {L : Addr} {mt0 fz0 : Led} {h : Heap} (S : Sf g env sc h₀ L mt0 fz0 σ ω k h) {p : Addr × Obj} (hp : p ∈ fz0) : h.get? p.1 = some p.2 := by
  obtain ⟨m, cs, ow, fz, S, hz, V, W, C⟩ := S
  exact S.get (hz _ hp)
theorem Sf.keeps {env : Env} {h₀ : Heap} {L : Addr} {mt0 fz0 : Led} {h h' : Heap} (S : Sf g env sc h₀ L mt0 fz0 σ ω k h) (q : ∀ b o, h.get? b = some o → h'.get? b = some o) : Sf g env sc h₀ L mt0 fz0 σ ω k h' := by
  obtain ⟨m, cs, ow, fz, S, hz, V, W, C⟩ := S
  exact ⟨m, cs, ow, fz, S.keeps q, hz, V, W, C⟩
theorem Sf.up {env : Env} {h₀ : Heap} {L : Addr} {mt0 fz0 fz1 : Led} {h : Heap} (hz : ∀ p ∈ fz0, p ∈ fz1) (S : Sf g env sc h₀ L mt0 fz1 σ ω k h) : Sf g env sc h₀ L mt0 fz0 σ ω k h := by
  obtain ⟨m, cs, ow, fz, S, hz', V, W, C⟩ := S
  exact ⟨m, cs, ow, fz, S, fun p hp => hz' p (hz p hp), V, W, C⟩

theorem Sf.dropI {env : Env} {h₀ : Heap} {L I : Addr} {oI : Obj} {mt0 fz0 : Led} {h h' : Heap} (S : Sf g env sc h₀ L ((I, oI) :: mt0) fz0 σ ω k h) (hk : ∀ b o, b ≠ I → h.get? b = some o → h'.get? b = some o) : Sf g env sc h₀ L mt0 fz0 σ ω k h' := by
  obtain ⟨m, cs, ow, fz, S, hz, V, W, C⟩ := S
  have sp : ow ++ (cs ++ (I, oI) :: mt0) = (ow ++ cs) ++ (I, oI) :: mt0 := by simp
  rw [sp] at S
  have S' := S.dropI hk
  rw [List.append_assoc] at S'
  exact ⟨m, cs, ow, fz, S', hz, V, W, C⟩
inductive ForI (g : GC) (env : Env) (sc : Scope) (h₀ : Heap) (L : Addr) (mt0 fz : Led) (s : Shared) (I : Addr) (ms : List MV) (Sa : Nat → Heap → Prop) (J : Nat → Nx) (c : Nat) (s' : Shared) : Prop
  | mk (i : Nat) (σ' : List (Str × MV)) (ω' : List (Str × Own)) (k' : Int) (hh : Heap) (tk : Nat) (oI' : Obj) (e1 : c = ms.length - i) (hle : i ≤ ms.length) (e : s' = { s with heap := hh, toks := tk }) (SF : Sf g env sc h₀ L ((I, oI') :: mt0) fz σ' ω' k' hh) (hSa : Sa i hh) (hJ : J i σ' ω' k')
theorem ex_For {x : Str} {px pos : Pos} {iter : Expr} {body : List Stmt} (hl : sc.names.lookup x = some .local)
    (h : Ev g n sc iter σ k fun mv k₁ => ∃ ms, ∃ J : Nat → Nx, Itm mv ms ∧ J 0 σ ω k₁ ∧
      (∀ i mi σ' ω' k', ms[i]? = some mi → J i σ' ω' k' → (∀ p ∈ ω', p.1 ≠ x) ∧ Exs g n sc body ((x, mi) :: σ') ω' k' (J (i + 1)) R) ∧ (∀ σ' ω' k', J ms.length σ' ω' k' → N σ' ω' k'))
    (hs : ∀ (env : Env) x, foldedSetIterable iter env x = pure x := by intro _ _; rfl) : Ex g n sc (.For (.Name x px) iter body [] pos) σ ω k N R := by
  intro A h₀ L mt0 fz0 env s E O S
  refine wpAny_For (wp_se (stmt_ev O S h) fun v mv k₁ h' tk' m cs ow fz zq S₁ hz V W C₁ R₁ => ?_) (hs env)
  obtain ⟨ms, J, hi, hj, turn, done⟩ := zq
  refine iter_any (s := { s with heap := h', toks := tk' }) O.hand S₁ R₁ hi fun oI Sa hfree WK hst => ?_
  obtain ⟨⟨fp, P, Wl, hfp, hP⟩, alive⟩ := WK
  have Sf0 : Sf g env sc h₀ L mt0 fz σ ω k₁ h' := ⟨m, cs, ow, fz, S₁, fun _ h => h, V, W, C₁⟩
  have Sf1 := Sf0.withI hfree
  refine codeAny_forLoop (ForI g env sc h₀ L mt0 fz s h'.objs.size ms Sa J)
    ?_ ms.length ⟨0, σ, ω, k₁, _, _, oI, rfl, Nat.zero_le _, rfl, Sf1, hst, hj⟩
  rintro c s' ⟨i, σ', ω', k', hh, tk, oI', rfl, hle, rfl, SF, hSa, hJ⟩
  by_cases hlt : i < ms.length
  · refine Wl.item i _ _ _ hlt hSa fun u h₂ tk₂ hPu hSa' hk₂ => ?_
    obtain ⟨mi, hmi, Ru⟩ := hP i u hPu hlt
    obtain ⟨oJ, hoJ, _⟩ := alive _ _ hSa'
    have SF2 : Sf g env sc h₀ L ((h'.objs.size, oJ) :: mt0) fz σ' ω' k' h₂ := SF.turnI (fun b o hb e => hk₂ b o (fun q => hb (List.mem_singleton.mp q)) e) hoJ
    obtain ⟨hωx, hbody⟩ := turn i mi σ' ω' k' hmi hJ
    obtain ⟨m₂, cs₂, ow₂, fz₂, S₂, hz₂, V₂, W₂, C₂⟩ := SF2
    refine wpAny_assign_Name (store_local S₂ hz₂ V₂ W₂ C₂ (Ru.mono hz₂) hl hωx fun h₃ tk₃ SF3 => ?_)
    refine wpAny_mono (hbody A h₀ L ((h'.objs.size, oJ) :: mt0) fz env _ _ O SF3) (fun fl s₄ ⟨h₄, tk₄, e, y⟩ => ?_) fun _ _ x => x
    subst e
    cases fl with
    | next =>
      obtain ⟨σ₄, ω₄, k₄, hJ₄, SF4⟩ := y
      refine ⟨ms.length - (i + 1), by omega, i + 1, σ₄, ω₄, k₄, h₄, tk₄, oJ, rfl, hlt, rfl, SF4, ?_, hJ₄⟩
      exact Wl.frame _ _ _ hSa' (kept hfp hoJ SF4.getI (fun p hp => S₂.get (hz₂ _ hp)) fun p hp => SF4.getZ hp)
    | ret v =>
      obtain ⟨mv', k₄, q, m₄, cs₄, fz₄, ⟨t₄, S₄⟩, hz₄, R₄⟩ := y
      refine ⟨h₄, tk₄, rfl, mv', k₄, q, m₄, cs₄, fz₄, ⟨t₄, S₄.sub (List.Sublist.cons_cons _ ?_)⟩, fun p hp => hz₄ p (hz p hp), R₄⟩
      exact List.Sublist.append (List.Sublist.append (List.Sublist.refl _) (List.sublist_cons_self _ _)) (List.Sublist.refl _)
    | brk => exact y.elim
    | cont => exact y.elim
  · have hie : i = ms.length := by omega
    subst hie
    refine Wl.done _ _ _ hSa fun h₂ tk₂ hk₂ => ?_
    refine wpAny_execs_nil ?_
    obtain ⟨m₃, cs₃, ow₃, fz₃, S₃, hz₃, V₃, W₃, C₃⟩ := SF.dropI fun b o hb e => hk₂ b o (fun q => hb (List.mem_singleton.mp q)) e
    exact ⟨h₂, tk₂, rfl, σ', ω', k', done σ' ω' k' hJ, m₃, cs₃, ow₃, fz₃, S₃, fun p hp => hz₃ p (hz p hp), V₃, W₃, C₃⟩
end
end Mine
end
section
set_option autoImplicit false
set_option linter.unusedVariables false
namespace Mine

theorem lot_go {prog : Program} {w : World} {A : Around} {E : Value → Shared → Prop} {s : Shared} {target : Expr} {I : Addr} {v : Value} {o : Obj} {Q : Unit → Shared → Prop} (ho : s.heap.get? I = some o) (hp : PlainIt o) (h : Q () s) : wpAny (model prog w) A (letOwnedTupleGo target (.ref I) v) Q E s := by
  obtain ⟨T, hc, hn⟩ := hp
  unfold letOwnedTupleGo
  have key : wpAny (model prog w) A (do
      let (.ref r, .ref a) := (Value.ref I, v) | return
      let o ← load r
      match o.cls, o.data with
      | .type n, .fields vs =>
        if (["enumerate", "zip", "dict_itemiterator", "dict_reverseitemiterator", "odict_iterator", "itertools.zip_longest", "itertools.pairwise"] : List String).contains n && vs[0]? == some (rawInt a) then
          rule "for.unpacks-the-owned-tuple"
          updateField r 0 .none
      | _, _ => pure ()) Q E s := by
    cases v with
    | ref a =>
      refine wpAny_bind (wpAny_load ho ?_)
      rw [hc]
      cases hd : o.data with
      | fields vs =>
        dsimp only
        rw [hn, Bool.false_and, if_neg (by decide)]
        exact wpAny_pure h
      | _ => exact wpAny_pure h
    | _ => exact wpAny_pure h
  cases target <;> first | exact key | exact wpAny_pure h

noncomputable def relab (scc sc : Scope) : Scope :=
  { scc with names := scc.names.map fun (n, k) => if (k == .free && sc.kind == .function && sc.names.lookup n == some .cell) then (n, .cell) else (n, k) }
theorem relabel_eq {scc sc : Scope} {env : Env} (h : env.scope = sc) : relabel scc env = relab scc sc := by
  subst h; rfl
theorem relab_lookup {scc sc : Scope} {x : Str} : (relab scc sc).names.lookup x = (scc.names.lookup x).map fun k => if (k == .free && sc.kind == .function && sc.names.lookup x == some .cell) = true then .cell else k := by
  show (scc.names.map _).lookup x = _
  generalize scc.names = l
  induction l with
  | nil => rfl
  | cons p r ih =>
    obtain ⟨y, kd⟩ := p
    rw [List.map_cons]
    by_cases hc : (kd == .free && sc.kind == .function && sc.names.lookup y == some .cell) = true
    · dsimp only
      rw [if_pos hc, List.lookup_cons, List.lookup_cons]
      cases e : x == y with
      | true => rw [eq_of_beq e]; dsimp only; rw [Option.map_some, if_pos hc]
      | false => exact ih
    · dsimp only
      rw [if_neg hc, List.lookup_cons, List.lookup_cons]
      cases e : x == y with
      | true => rw [eq_of_beq e]; dsimp only; rw [Option.map_some, if_neg hc]
      | false => exact ih

theorem closure_ok {scc : Scope} {env : Env} (h : ∀ x, (x, NameKind.free) ∈ scc.names → ∃ c, env.cells.lookup x = some c) :
    ∃ cl, closureFor scc env = pure cl ∧ ∀ x, (x, NameKind.free) ∈ scc.names → cl.lookup x = env.cells.lookup x := by
  have gen : ∀ (l : List (Str × NameKind)) (acc : List (Str × Addr)), (∀ x, (x, NameKind.free) ∈ l → ∃ c, env.cells.lookup x = some c) → (∀ p ∈ acc, env.cells.lookup p.1 = some p.2) →
      ∃ cl, (forIn l acc fun (x : Str × NameKind) (r : List (Str × Addr)) => (match x with | (name, kind) => if (kind == NameKind.free) = true then (do let c ← cellOf env name; pure (ForInStep.yield ((name, c) :: r))) else pure (ForInStep.yield r) : Sem (ForInStep (List (Str × Addr))))) = pure cl ∧
        (∀ p ∈ cl, env.cells.lookup p.1 = some p.2) ∧ (∀ p ∈ acc, p ∈ cl) ∧ ∀ x, (x, NameKind.free) ∈ l → ∃ c, (x, c) ∈ cl := by
    intro l
    induction l with
    | nil => intro acc _ h2; exact ⟨acc, rfl, h2, fun _ h => h, fun _ h => nomatch h⟩
    | cons p r ih =>
      intro acc h1 h2
      obtain ⟨y, kd⟩ := p
      rw [List.forIn_cons]
      by_cases hk : (kd == NameKind.free) = true
      · obtain ⟨c, hc⟩ := h1 y (by rw [eq_of_beq hk]; exact .head _)
        obtain ⟨cl, e, a, b, d⟩ := ih ((y, c) :: acc) (fun x hx => h1 x (.tail _ hx)) (fun p hp => by rcases List.mem_cons.mp hp with rfl | hp; exact hc; exact h2 p hp)
        refine ⟨cl, ?_, a, fun p hp => b p (.tail _ hp), fun x hx => ?_⟩
        · rw [← e]
          simp only [hk, if_true, cellOf, hc]
          rfl
        · rcases List.mem_cons.mp hx with e1 | hx
          · cases e1; exact ⟨c, b _ (.head _)⟩
          · exact d x hx
      · obtain ⟨cl, e, a, b, d⟩ := ih acc (fun x hx => h1 x (.tail _ hx)) h2
        refine ⟨cl, ?_, a, b, fun x hx => ?_⟩
        · rw [← e]
          simp only [hk, if_false]
          rfl
        · rcases List.mem_cons.mp hx with e1 | hx
          · cases e1; exact absurd rfl hk
          · exact d x hx
  obtain ⟨cl, e, a, b, d⟩ := gen scc.names [] h fun _ h => nomatch h
  refine ⟨cl, ?_, fun x hx => ?_⟩
  · unfold closureFor
    have e2 := congrArg (fun t => t >>= fun cs => (pure cs : Sem (List (Str × Addr)))) e
    exact e2
  · obtain ⟨c, hc⟩ := d x hx
    have e1 := a _ hc
    cases q : cl.lookup x with
    | none => exact absurd hc (fun hc => by
        have : ∀ (l : List (Str × Addr)), (x, c) ∈ l → l.lookup x ≠ none := by
          intro l
          induction l with
          | nil => intro h; cases h
          | cons p r ih =>
            intro h
            rw [List.lookup_cons]
            rcases List.mem_cons.mp h with rfl | h
            · simp
            · split
              · simp
              · exact ih h
        exact this cl hc q)
    | some c' => exact (a _ (lookup_mem q)).symm

inductive Tgt (scc : Scope) : Expr → MV → List (Str × MV) → Prop
  | name {x : Str} (px : Pos) (mi : MV) : scc.names.lookup x = some .local → Tgt scc (.Name x px) mi [(x, mi)]
  | pair {a b : Str} (pa pb tp : Pos) (kk : Nat) (x y : MV) : scc.names.lookup a = some .local → scc.names.lookup b = some .local → Tgt scc (.Tuple [.Name a pa, .Name b pb] kk tp) (.tup [x, y]) [(b, y), (a, x)]

noncomputable def NsO (C : Addr) (oC : Obj) (mC : Str → Option Value) : Prop := ∀ h : Heap, h.get? C = some oC → h.Ns C mC
theorem nsO_of {h : Heap} {C : Addr} {mC : Str → Option Value} (hn : h.Ns C mC) : ∃ oC, h.get? C = some oC ∧ NsO C oC mC := by
  obtain ⟨o, es, ep, e, r⟩ := hn
  exact ⟨o, e, fun h' e' => ⟨o, es, ep, e', r⟩⟩

section
variable {g : GC} {n : Nat} {scc sc : Scope} {k : Int}
theorem assign_tgt {A : Around} {E : Value → Shared → Prop} {s : Shared} {h₀ : Heap} {L : Addr} {m mC : Str → Option Value} {mt fz : Led} {target : Expr} {mi : MV} {τ : List (Str × MV)} {v : Value} {cenv : Env} {Q : Unit → Shared → Prop}
    (hh : A.handled = none) (T : Tgt scc target mi τ) (hsc : cenv.scope = relab scc sc) (hkd : scc.kind = .function) (S : Sta g h₀ L m mt k fz s.heap) (hn : s.heap.Ns cenv.locals mC) (Rv : Rep g fz v mi)
    (h : ∀ h' tk m', h'.Ns cenv.locals m' → (∀ c o, c ≠ cenv.locals → s.heap.get? c = some o → h'.get? c = some o) → (∀ x u, τ.lookup x = some u → ∃ v, m' x = some v ∧ Rep g fz v u) → (∀ x, τ.lookup x = none → m' x = mC x) → Q () { s with heap := h', toks := tk }) :
    wpAny (model g.prog g.w) A (assign target cenv v) Q E s := by
  have hl : ∀ x, scc.names.lookup x = some .local → cenv.kindOf x = some .local := fun x hx => by
    show cenv.scope.names.lookup x = _
    rw [hsc, relab_lookup, hx]; rfl
  have hp : (cenv.scope.kind == .class || (cenv.scope.kind == .module && cenv.locals != cenv.globals)) = false := by rw [hsc]; show (scc.kind == .class || (scc.kind == .module && _)) = false; rw [hkd]; rfl
  cases T with
  | name px mi hx =>
    refine wpAny_assign_Name (wpAny_storeName_local (hl _ hx) hn (fun h' hn' hs' => ?_) hp)
    refine h h' _ _ hn' (fun c o hc e => hs'.extBut c o hc e) (fun y u e => ?_) (fun y e => ?_)
    · rw [List.lookup_cons] at e
      split at e
      · rename_i q; cases e; exact ⟨v, by rw [if_pos (eq_of_beq q)], Rv⟩
      · cases e
    · rw [List.lookup_cons] at e
      split at e
      · cases e
      · rename_i q; exact if_neg (fun w => by rw [w] at q; simp at q)
  | pair pa pb tp kk x y ha hb =>
    refine Rv.elim_tup fun hm hlen hb' hr => ?_
    rename_i a b T' vs nn
    obtain ⟨v1, v2, rfl⟩ := len2 hlen
    refine kcp_assign hh ⟨_, S.get hm, rfl, _, rfl⟩ (hl _ ha) (hl _ hb) hp hn fun h' tk hn' hk' => ?_
    refine h h' _ _ hn' hk' (fun z u e => ?_) (fun z e => ?_)
    · have r1 := hr 0 v1 x rfl rfl
      have r2 := hr 1 v2 y rfl rfl
      rw [List.lookup_cons, List.lookup_cons] at e
      split at e
      · rename_i q; cases e; exact ⟨v2, by rw [if_pos (eq_of_beq q)], r2⟩
      · rename_i q
        split at e
        · rename_i q2; cases e
          refine ⟨v1, ?_, r1⟩
          rw [if_neg (fun w => by rw [w] at q; simp at q), if_pos (eq_of_beq q2)]
        · cases e
    · rw [List.lookup_cons, List.lookup_cons] at e
      split at e
      · cases e
      · rename_i q
        split at e
        · cases e
        · rename_i q2
          rw [if_neg (fun w => by rw [w] at q; simp at q), if_neg (fun w => by rw [w] at q2; simp at q2)]
end
end Mine
end
section
set_option autoImplicit false
set_option linter.unusedVariables false
namespace Mine

noncomputable def Emit (g : GC) (n : Nat) (sc : Scope) (ifs : List Expr) (elt : Expr) (σ : List (Str × MV)) (k : Int) (Q : MV → Int → Prop) (W : Int → Prop) : Prop := match ifs with
  | [] => Ev g n sc elt σ k Q
  | [c] => Ts g n sc c σ k fun b k' => if b then Ev g n sc elt σ k' Q else W k'
  | _ => False

structure CompSc (scc sc : Scope) (σ σf : List (Str × MV)) : Prop where
  kind : scc.kind = .function
  cell : ∀ y ∈ scc.names, y.2 ≠ .cell
  names : ∀ y ∈ scc.names, y.2 = .local → scc.names.lookup y.1 = some .local
  free : ∀ x, (x, NameKind.free) ∈ scc.names → sc.names.lookup x = some .cell ∨ sc.names.lookup x = some .free
  sub : ∀ x v, σf.lookup x = some v → scc.names.lookup x = some .free ∧ σ.lookup x = some v

section
variable {g : GC} {n : Nat} {scc sc : Scope} {σ σf : List (Str × MV)} {k : Int}

theorem comp_vars {h₀ : Heap} {L C : Addr} {m mC : Str → Option Value} {mt mt' fz : Led} {env : Env} {cl : List (Str × Addr)} {τ : List (Str × MV)} {oC : Obj} {h : Heap} (K : CompSc scc sc σ σf) (V : Vars g env sc σ h₀ L m mt fz)
    (hcl : ∀ x, (x, NameKind.free) ∈ scc.names → cl.lookup x = env.cells.lookup x) (hm : (C, oC) ∈ mt') (hN : NsO C oC mC) (hsub : ∀ p ∈ mt, p ∈ mt') (hτ : ∀ x u, τ.lookup x = some u → scc.names.lookup x = some .local ∧ ∃ v, mC x = some v ∧ Rep g fz v u) :
    Vars g (compEnvC scc cl C env) (relab scc sc) (τ ++ σf) h₀ L m mt' fz := by
  have fr : ∀ x, (relab scc sc).names.lookup x = some .cell ∨ (relab scc sc).names.lookup x = some .free → scc.names.lookup x = some .free := fun x hx => by
    rw [relab_lookup] at hx
    cases q : scc.names.lookup x with
    | none => rw [q] at hx; rcases hx with w | w <;> cases w
    | some kd =>
      rw [q] at hx
      simp only [Option.map_some, Option.some.injEq] at hx
      cases kd with
      | free => rfl
      | cell => exact absurd rfl (K.cell _ (lookup_mem q))
      | _ => simp at hx
  refine ⟨relabel_eq V.scope, K.kind, V.globals, V.builtins, ⟨mC, .inr ⟨oC, hm, hN⟩, fun x v e q => ?_⟩, fun x q => ?_, fun x v e q => ?_⟩
  · rw [List.lookup_append] at e
    cases w : τ.lookup x with
    | some u => rw [w] at e; cases e; exact (hτ x _ w).2
    | none =>
      rw [w] at e
      have := (K.sub x v e).1
      rw [relab_lookup, this] at q
      simp only [Option.map_some, Option.some.injEq] at q
      split at q <;> cases q
  · have hf := fr x q
    show ∃ c, cl.lookup x = some c
    rw [hcl x (lookup_mem hf)]
    exact V.cells x (K.free x (lookup_mem hf))
  · have hf := fr x q
    rw [List.lookup_append] at e
    cases w : τ.lookup x with
    | some u => rw [(hτ x u w).1] at hf; cases hf
    | none =>
      rw [w] at e
      obtain ⟨c, o, u, a1, a2, a3, a4⟩ := V.vals x v (K.sub x v e).2 (K.free x (lookup_mem hf))
      exact ⟨c, o, u, by show cl.lookup x = _; rw [hcl x (lookup_mem hf)]; exact a1, a2.imp (hsub _) id, a3, a4⟩
theorem tgt_local {target : Expr} {mi : MV} {τ : List (Str × MV)} (T : Tgt scc target mi τ) : ∀ x u, τ.lookup x = some u → scc.names.lookup x = some .local := by
  cases T with
  | name px mi hx =>
    intro y u e
    rw [List.lookup_cons] at e
    split at e
    · rename_i q; rw [eq_of_beq q]; exact hx
    · cases e
  | pair pa pb tp kk x y ha hb =>
    intro z u e
    rw [List.lookup_cons, List.lookup_cons] at e
    split at e
    · rename_i q; rw [eq_of_beq q]; exact hb
    · split at e
      · rename_i q; rw [eq_of_beq q]; exact ha
      · cases e

inductive CI (g : GC) (h₀ : Heap) (L : Addr) (m : Str → Option Value) (mt fz : Led) (s : Shared) (C D I : Addr) (ms : List MV) (Sa : Nat → Heap → Prop) (J : Nat → List MV → Int → Prop) (c : Nat) (s' : Shared) : Prop
  | mk (i : Nat) (acc : List MV) (k' : Int) (hh : Heap) (tk : Nat) (fz' : Led) (oC : Obj) (vs : List Value) (nn : Nat) (oI' : Obj) (mC : Str → Option Value) (e1 : c = ms.length - i) (hle : i ≤ ms.length) (e : s' = { s with heap := hh, toks := tk })
    (SS : Sta g h₀ L m ((C, oC) :: (D, listOf vs.toArray nn) :: (I, oI') :: mt) k' fz' hh) (hz : ∀ p ∈ fz, p ∈ fz') (hSa : Sa i hh) (hN : NsO C oC mC) (hR : RepL g fz' vs acc) (hJ : J i acc k')
inductive CT (g : GC) (n : Nat) (scc sc : Scope) (σf : List (Str × MV)) (envC : Env) (ifs : List Expr) (elt : Expr) (h₀ : Heap) (L : Addr) (m : Str → Option Value) (mt fz : Led) (s : Shared) (C D I : Addr) (ms : List MV) (Sa : Nat → Heap → Prop) (J : Nat → List MV → Int → Prop) (c : Nat) (s₂ : Shared) : Prop
  | mk (i : Nat) (mi : MV) (acc : List MV) (k' : Int) (hh : Heap) (tk : Nat) (fz' : Led) (oC : Obj) (vs : List Value) (nn : Nat) (oI' : Obj) (mC : Str → Option Value) (τ : List (Str × MV)) (hc : c = ms.length - i) (hlt : i < ms.length) (hmi : ms[i]? = some mi) (e : s₂ = { s with heap := hh, toks := tk })
    (SS : Sta g h₀ L m ((C, oC) :: (D, listOf vs.toArray nn) :: (I, oI') :: mt) k' fz' hh) (hz : ∀ p ∈ fz, p ∈ fz') (hSa : Sa (i + 1) hh) (hN : NsO C oC mC) (hR : RepL g fz' vs acc) (hvl : vs.length ≤ i)
    (VV : Vars g envC (relab scc sc) (τ ++ σf) h₀ L m ((C, oC) :: (D, listOf vs.toArray nn) :: (I, oI') :: mt) fz') (hE : Emit g n (relab scc sc) ifs elt (τ ++ σf) k' (fun r k'' => J (i + 1) (acc ++ [r]) k'') (fun k'' => J (i + 1) acc k''))
theorem comp_core {A : Around} {fe env : Env} {h₀ : Heap} {L : Addr} {m : Str → Option Value} {mt fz : Led} {s : Shared} {E : Value → Shared → Prop} {elt target iter : Expr} {ifs : List Expr} {pos : Pos} {cl : List (Str × Addr)} {ms : List MV} {I : Addr} {oI : Obj} {Sa : Nat → Heap → Prop}
    {J : Nat → List MV → Int → Prop} {RR : Value → Addr → Result → Shared → Prop} (O : Ok g n A fe h₀ L) (V : Vars g env sc σ h₀ L m mt fz) (hf : env = fe ∨ env.frame = fe.frame) (K : CompSc scc sc σ σf)
    (hcl : ∀ x, (x, NameKind.free) ∈ scc.names → cl.lookup x = env.cells.lookup x) (S : Sta g h₀ L m ((I, oI) :: mt) k fz s.heap) (WK : Wk g A fz I ms Sa) (hst : Sa 0 s.heap) (hif : ifs = [] ∨ ∃ c, ifs = [c]) (hlen : ms.length ≤ 1000) (hj : J 0 [] k)
    (turn : ∀ i mi acc k', ms[i]? = some mi → J i acc k' → ∃ τ, Tgt scc target mi τ ∧ Emit g n (relab scc sc) ifs elt (τ ++ σf) k' (fun r k'' => J (i + 1) (acc ++ [r]) k'') (fun k'' => J (i + 1) acc k''))
    (hRR : ∀ D C h' tk oC nn vs fz' acc k' mC, Sta g h₀ L m ((C, oC) :: (D, listOf vs.toArray nn) :: mt) k' fz' h' → (∀ p ∈ fz, p ∈ fz') → NsO C oC mC → RepL g fz' vs acc → vs.length ≤ 1000 → J ms.length acc k' → RR (.ref D) C (.ok .next) { s with heap := h', toks := tk }) :
    wpAny (model g.prog g.w) A (newList []) (fun acc s₃ => wpAny (model g.prog g.w) A (newFunctionEnv scc env.globals cl [] env.qual none .none (some env)) (fun cenv s₄ =>
      codeAny (model g.prog g.w) A (.compStart (.ListComp elt [⟨target, iter, ifs, 0⟩] scc pos) 0 (.ref I) acc { cenv with scope := relabel scc env }) (RR acc cenv.locals) s₄) E s₃) E s := by
  obtain ⟨⟨fp, P, Wl, hfp, hP⟩, alive⟩ := WK
  refine wpAny_newObj_type (wpAny_newFunctionEnv K.cell (by intro y hy; simp at hy) (fun h₁ hns₁ hsb₁ => ?_) K.kind)
  dsimp only at hns₁ hsb₁ ⊢
  generalize hD : s.heap.objs.size = D at hns₁ hsb₁ ⊢
  have SD : Sta g h₀ L m ((D, listOf ([] : List Value).toArray 0) :: (I, oI) :: mt) k fz (s.heap.push (listOf ([] : List Value).toArray 0)) := by rw [← hD]; exact S.allocM _
  generalize hH2 : s.heap.push { cls := .type "list", dict := none, data := .seq ([] : List Value).toArray } = H2 at hns₁ hsb₁ ⊢
  have SD : Sta g h₀ L m ((D, listOf ([] : List Value).toArray 0) :: (I, oI) :: mt) k fz H2 := by rw [← hH2]; exact SD
  generalize hCC : H2.objs.size = C at hns₁ hsb₁ ⊢
  obtain ⟨oC, hoC, hNC⟩ := nsO_of hns₁
  have SC : Sta g h₀ L m ((C, oC) :: (D, listOf ([] : List Value).toArray 0) :: (I, oI) :: mt) k fz h₁ := by
    have := SD.allocM { cls := .type "dict", data := .dict #[] }
    rw [hCC] at this
    exact Sta.turnM (pre := []) this hsb₁.extBut hoC
  have hsz : Sa 0 h₁ := Wl.frame _ _ _ hst (kept hfp (S.getM (p := (I, oI)) (.head _)) (SC.getM (p := (I, oI)) (.tail _ (.tail _ (.head _)))) (fun p hp => S.get hp) fun p hp => SC.get hp)
  have loop : ∀ s₃ : Shared, s₃ = { s with heap := h₁, toks := s.toks + ([] : List (Str × Value)).length } →
      codeAny (model g.prog g.w) A (.compLoop (.ListComp elt [⟨target, iter, ifs, 0⟩] scc pos) 0 (.ref I) (.ref D) (compEnvC scc cl C env)) (RR (.ref D) C) s₃ := by
    rintro s₃ rfl
    let J' : Nat → List MV → Int → Prop := fun i acc k' => acc.length ≤ i ∧ J i acc k'
    let Inv : Nat → Shared → Prop := CI g h₀ L m mt fz s C D I ms Sa J'
    have inv0 : Inv ms.length { s with heap := h₁, toks := s.toks + ([] : List (Str × Value)).length } := ⟨0, [], k, h₁, _, fz, oC, [], 0, oI, _, rfl, Nat.zero_le _, rfl, SC, fun _ h => h, hsz, hNC, .nil, Nat.le_refl _, hj⟩
    have start : ∀ c s', Inv c s' → ∀ (E' : Value → Shared → Prop) (Z : Unit → Shared → Prop), (∀ c', c' < c → ∀ s'', Inv c' s'' → Z () s'') →
        wpAny (model g.prog g.w) A (pyNext (.ref I)) (fun r s₁ => match r with
          | none => RR (.ref D) C (.ok .next) s₁
          | some v => wpAny (model g.prog g.w) A (letOwnedTupleGo target (.ref I) v) (fun _ s₀ => wpAny (model g.prog g.w) A (assign target (compEnvC scc cl C env) v) (fun _ s₂ =>
              CT g n scc sc σf (compEnvC scc cl C env) ifs elt h₀ L m mt fz s C D I ms Sa J c s₂) E' s₀) E' s₁) E' s' := by
      rintro c s' ⟨i, acc, k', hh, tk, fz', oC, vs, nn, oI', mC, rfl, hle, rfl, SS, hz, hSa, hN, hR, hvl, hJ⟩ E' Z hZ
      by_cases hlt : i < ms.length
      · refine Wl.item i _ _ _ hlt hSa fun u h₂ tk₂ hPu hSa' hk₂ => ?_
        obtain ⟨mi, hmi, Ru⟩ := hP i u hPu hlt
        obtain ⟨oJ, hoJ, hpl⟩ := alive _ _ hSa'
        have S2 : Sta g h₀ L m ((C, oC) :: (D, listOf vs.toArray nn) :: (I, oJ) :: mt) k' fz' h₂ := Sta.turnM (pre := [(C, oC), (D, listOf vs.toArray nn)]) SS (fun b o hb e => hk₂ b o (fun q => hb (List.mem_singleton.mp q)) e) hoJ
        obtain ⟨τ, T, hE⟩ := turn i mi acc k' hmi hJ
        refine lot_go hoJ hpl ?_
        refine assign_tgt O.hand T (relabel_eq V.scope) K.kind S2 (mC := mC) (hN _ (S2.getM (.head _))) (Ru.mono hz) fun h₃ tk₃ m₃ hn₃ hk₃ hτ _ => ?_
        obtain ⟨oC3, hoC3, hN3⟩ := nsO_of hn₃
        have S3 : Sta g h₀ L m ((C, oC3) :: (D, listOf vs.toArray nn) :: (I, oJ) :: mt) k' fz' h₃ := Sta.turnM (pre := []) S2 (fun b o hb e => hk₃ b o hb e) hoC3
        refine ⟨i, mi, acc, k', h₃, tk₃, fz', oC3, vs, nn, oJ, m₃, τ, rfl, hlt, hmi, rfl, S3, hz, Wl.frame _ _ _ hSa' (kept hfp hoJ (S3.getM (p := (I, oJ)) (.tail _ (.tail _ (.head _)))) (fun p hp => S2.get (hz p hp)) fun p hp => S3.get (hz p hp)), hN3, hR, by rw [hR.1]; exact hvl, ?_, hE⟩
        exact comp_vars (h := h₃) K (V.mono hz) hcl (.head _) hN3 (fun p hp => by simp [hp]) fun x u e => ⟨tgt_local T x u e, hτ x u e⟩
      · have hie : i = ms.length := by omega
        subst hie
        refine Wl.done _ _ _ hSa fun h₂ tk₂ hk₂ => ?_
        have S2 : Sta g h₀ L m ((C, oC) :: (D, listOf vs.toArray nn) :: mt) k' fz' h₂ := Sta.dropI (pre := [(C, oC), (D, listOf vs.toArray nn)]) SS (fun b o hb e => hk₂ b o (fun q => hb (List.mem_singleton.mp q)) e)
        exact hRR D C h₂ tk₂ oC nn vs fz' acc k' mC S2 hz hN hR (by have := hR.1; omega) hJ
    have grow : ∀ (c i : Nat) (mi : MV) (acc : List MV) (k' : Int) (hh : Heap) (tk : Nat) (fz' : Led) (oC : Obj) (vs : List Value) (nn : Nat) (oI' : Obj) (mC : Str → Option Value) (y : Value) (r : MV) (k'' : Int) (hh' : Heap) (tk' : Nat) (fz'' : Led) (E' : Value → Shared → Prop), c = ms.length - i → i < ms.length → Sta g h₀ L m ((C, oC) :: (D, listOf vs.toArray nn) :: (I, oI') :: mt) k' fz' hh → (∀ p ∈ fz, p ∈ fz') → Sa (i + 1) hh →
        NsO C oC mC → RepL g fz' vs acc → vs.length ≤ i → (∀ p ∈ fz', p ∈ fz'') → Sta g h₀ L m ((C, oC) :: (D, listOf vs.toArray nn) :: (I, oI') :: mt) k'' fz'' hh' → Rep g fz'' y r → J (i + 1) (acc ++ [r]) k'' →
        wpAny (model g.prog g.w) A (call (.builtin "list.append") [.ref D, y]) (fun _ s₅ => ∃ m, m < c ∧ Inv m s₅) E' { s with heap := hh', toks := tk' } := by
      intro c i mi acc k' hh tk fz' oC vs nn oI' mC y r k'' hh' tk' fz'' E' hc hi SS hz hSa hN hR hvl hz2 S2 Ry hJ
      have hpl : ({ s with heap := hh', toks := tk' } : Shared).heap.PlainList D vs.toArray := ⟨nn, S2.getM (p := (D, listOf vs.toArray nn)) (by simp)⟩
      refine wpAny_list_append_plain hpl (fun h₅ hl₅ hs₅ => ?_) (by rw [List.size_toArray, sizeLine_eq]; omega)
      obtain ⟨n5, e5⟩ := hl₅
      have S5 : Sta g h₀ L m ((C, oC) :: (D, listOf (vs ++ [y]).toArray n5) :: (I, oI') :: mt) k'' fz'' h₅ := Sta.turnM (pre := [(C, oC)]) S2 hs₅.extBut (by rw [e5]; simp)
      exact ⟨ms.length - (i + 1), by omega, i + 1, acc ++ [r], k'', h₅, tk', fz'', oC, vs ++ [y], n5, oI', mC, rfl, hi, rfl, S5, fun p hp => hz2 p (hz p hp),
        Wl.frame _ _ _ hSa (kept hfp (SS.getM (p := (I, oI')) (.tail _ (.tail _ (.head _)))) (S5.getM (p := (I, oI')) (.tail _ (.tail _ (.head _)))) (fun p hp => SS.get (hz p hp)) fun p hp => S5.get (hz2 _ (hz p hp))), hN, (hR.mono hz2).snoc Ry, by have := hR.1; simp; omega, hJ⟩
    rcases hif with rfl | ⟨ct, rfl⟩
    · skip
      refine kcp_loop Inv (fun c s' hI => wpAny_mono (start c s' hI _ (fun _ _ => True) fun _ _ _ _ => trivial) (fun r s₁ h₁ => ?_) fun _ _ x => x) ms.length inv0
      cases r with
      | none => exact h₁
      | some v =>
        refine wpAny_mono h₁ (fun _ s₀ h₂ => wpAny_mono h₂ (fun _ s₂ h₃ => ?_) fun _ _ x => x) fun _ _ x => x
        obtain ⟨i, mi, acc, k', hh, tk, fz', oC, vs, nn, oI', mC, τ, hc, hlt, hmi, rfl, SS, hz, hSa, hN, hR, hvl, VV, hE⟩ := h₃
        refine wp_res (hE A fe h₀ L m _ fz' _ _ _ O VV (.inr (hf.elim (fun e => by rw [e]; rfl) fun e => e)) SS) fun y r k'' hh' tk' fz'' hJ hz2 S2 Ry => ?_
        exact grow c i mi acc k' hh tk fz' oC vs nn oI' mC y r k'' hh' tk' fz'' _ hc hlt SS hz hSa hN hR hvl hz2 S2 Ry hJ
    · skip
      refine kct_loop Inv (fun c s' hI => wpAny_mono (start c s' hI _ (fun _ _ => True) fun _ _ _ _ => trivial) (fun r s₁ h₁ => ?_) fun _ _ x => x) ms.length inv0
      cases r with
      | none => exact h₁
      | some v =>
        refine wpAny_mono h₁ (fun _ s₀ h₂ => wpAny_mono h₂ (fun _ s₂ h₃ => ?_) fun _ _ x => x) fun _ _ x => x
        obtain ⟨i, mi, acc, k', hh, tk, fz', oC, vs, nn, oI', mC, τ, hc, hlt, hmi, rfl, SS, hz, hSa, hN, hR, hvl, VV, hE⟩ := h₃
        have hfe : compEnvC scc cl C env = fe ∨ (compEnvC scc cl C env).frame = fe.frame := .inr (hf.elim (fun e => by rw [e]; rfl) fun e => e)
        refine wp_resB (hE A fe h₀ L m _ fz' _ _ _ O VV hfe SS) fun b k₂ hh₂ tk₂ fz₂ hb hz2 S2 => ?_
        cases b with
        | true =>
          refine wp_res (hb A fe h₀ L m _ fz₂ _ _ _ O (VV.mono hz2) hfe S2) fun y r k'' hh' tk' fz'' hJ hz3 S3 Ry => ?_
          exact grow c i mi acc k' hh tk fz' oC vs nn oI' mC y r k'' hh' tk' fz'' _ hc hlt SS hz hSa hN hR hvl (fun p hp => hz3 p (hz2 p hp)) S3 Ry hJ
        | false =>
          exact ⟨ms.length - (i + 1), by omega, i + 1, acc, k₂, hh₂, tk₂, fz₂, oC, vs, nn, oI', mC, rfl, hlt, rfl, S2, fun p hp => hz2 p (hz p hp),
            Wl.frame _ _ _ hSa (kept hfp (SS.getM (p := (I, oI')) (.tail _ (.tail _ (.head _)))) (S2.getM (p := (I, oI')) (.tail _ (.tail _ (.head _)))) (fun p hp => SS.get (hz p hp)) fun p hp => S2.get (hz2 _ (hz p hp))), hN, hR.mono hz2, by have := hR.1; omega, hb⟩
  exact codeAny_compStart_list (loop _ rfl) (Wl.self 0 _ _ _ hsz (loop _ rfl))
end
end Mine
end
section
set_option autoImplicit false
set_option linter.unusedVariables false
namespace Mine
section
variable {g : GC} {n : Nat} {scc sc : Scope} {σ σf : List (Str × MV)} {ω : List (Str × Own)} {k : Int} {N : Nx} {R : MV → Int → Prop}

noncomputable def Src (g : GC) (n : Nat) (scc sc : Scope) (σf : List (Str × MV)) (target elt : Expr) (ifs : List Expr) (Q : MV → Int → Prop) (mv : MV) (k₁ : Int) : Prop :=
  ∃ ms, ∃ J : Nat → List MV → Int → Prop, Itm mv ms ∧ ms.length ≤ 1000 ∧ J 0 [] k₁ ∧
    (∀ i mi acc k', ms[i]? = some mi → J i acc k' → ∃ τ, Tgt scc target mi τ ∧ Emit g n (relab scc sc) ifs elt (τ ++ σf) k' (fun r k'' => J (i + 1) (acc ++ [r]) k'') (fun k'' => J (i + 1) acc k'')) ∧
    (∀ acc k', J ms.length acc k' → Q (.lst acc) k')

theorem ev_ListComp {elt target iter : Expr} {ifs : List Expr} {pos : Pos} {Q : MV → Int → Prop} (K : CompSc scc sc σ σf) (h : Ev g n sc iter σ k (Src g n scc sc σf target elt ifs Q)) (hif : ifs = [] ∨ ∃ c, ifs = [c])
    (hs : ∀ (env : Env) x, foldedSetIterable iter env x = pure x := by intro _ _; rfl) : Ev g n sc (.ListComp elt [⟨target, iter, ifs, 0⟩] scc pos) σ k Q := by
  intro A fe h₀ L m mt fz env s E O V hf S
  obtain ⟨cl, hclos, hcl⟩ := closure_ok (scc := scc) (env := env) fun x hx => V.cells x (K.free x hx)
  rw [eval_ListComp]
  refine wpAny_comprehension_free (use := none) rfl (hs env) hclos K.kind K.names (wp_res (h A fe h₀ L m mt fz env s E O V hf S) fun v mv k₁ h' tk' fz' zq hz S₁ R₁ => ?_)
  obtain ⟨ms, J, hi, hlen, hj, turn, done⟩ := zq
  refine iter_any (s := { s with heap := h', toks := tk' }) O.hand S₁ R₁ hi fun oI Sa hfree WK hst => ?_
  refine comp_core (RR := fun acc C => compPost (model g.prog g.w) A E none _ acc C) O (V.mono hz) hf K hcl (S₁.allocM oI hfree) WK hst hif hlen hj turn ?_
  intro D C h₃ tk₃ oC nn vs fz₃ acc k₃ mC S₃ hz₃ hN hR hvl hJ
  refine ⟨mC, hN _ (S₃.getM (.head _)), fun h₄ hs₄ => ?_⟩
  have S₄ : Sta g h₀ L m ((D, listOf vs.toArray nn) :: mt) k₃ fz₃ h₄ := Sta.dropI (pre := []) S₃ fun b o hb e => hs₄.extBut b o hb e
  exact ⟨.lst acc, k₃, done acc k₃ hJ, h₄, tk₃, _, rfl, fun p hp => .tail _ (hz₃ p (hz p hp)), S₄.freeze, .lst (.head _) hR.1 hvl fun i v m a b => (hR.2 i v m a b).mono fun p hp => .tail _ hp⟩

theorem ex_AssignComp {x : Str} {px pos spos : Pos} {elt target iter : Expr} {ifs : List Expr} (K : CompSc scc sc σ σf) (h : Ev g n sc iter σ k (Src g n scc sc σf target elt ifs fun v k' => N ((x, v) :: σ) ω k')) (hif : ifs = [] ∨ ∃ c, ifs = [c])
    (hl : sc.names.lookup x = some .local) (hω : ∀ p ∈ ω, p.1 ≠ x) (hsw : ∀ env : Env, env.scope = sc → swapsWith (.ListComp elt [⟨target, iter, ifs, 0⟩] scc pos) (some (.Name x px)) spos.line env = pure true)
    (hs : ∀ (env : Env) x, foldedSetIterable iter env x = pure x := by intro _ _; rfl) : Ex g n sc (.Assign [.Name x px] (.ListComp elt [⟨target, iter, ifs, 0⟩] scc pos) spos) σ ω k N R := by
  intro A h₀ L mt0 fz0 env s E O S
  obtain ⟨m, cs, ow, fz, S, hz, V, W, C₁⟩ := S
  have V' : VarsF g env sc σ L m (ow ++ (cs ++ mt0)) fz := V.wide
  obtain ⟨cl, hclos, hcl⟩ := closure_ok (scc := scc) (env := env) fun x hx => V.cells x (K.free x hx)
  rw [exec_Assign_Name_used _ _ _ _ (hsw env V.scope)]
  refine wpAny_bind (wpAny_standAt (wpAny_bind ?_))
  show wpAny _ A (do let _ ← comprehension (.ListComp elt [⟨target, iter, ifs, 0⟩] scc pos) scc env _ (newList []) false (eval iter env) (some (assign (.Name x px) env))) _ _ s
  refine wpAny_bind (wpAny_mono (wpAny_comprehension_free (use := some (assign (.Name x px) env)) (Q := fun _ s' => Fin2 g env sc h₀ L mt0 fz0 s N R .next s') rfl (hs env) hclos K.kind K.names
    (wpAny_mono (h A env h₀ L m _ fz env s E O V'.vars (.inl rfl) S) (fun v s₁ ⟨mv, k₁, ⟨ms, J, hi, hlen, hj, turn, done⟩, h', tk', fz', e, hz2, S₁, R₁⟩ => ?_) fun _ _ e => e)) (fun _ s' hq => wpAny_pure (wpAny_pure hq)) fun _ _ e => e)
  subst e
  refine iter_any (s := { s with heap := h', toks := tk' }) O.hand S₁ R₁ hi fun oI Sa hfree WK hst => ?_
  refine comp_core (RR := fun acc C => compPost (model g.prog g.w) A E (some (assign (.Name x px) env)) _ acc C) O (V'.mono hz2).vars (.inl rfl) K hcl (S₁.allocM oI hfree) WK hst hif hlen hj turn ?_
  intro D C h₃ tk₃ oC nn vs fz₃ acc k₃ mC S₃ hz₃ hN hR hvl hJ
  have hC : C ≠ L := by
    obtain ⟨t, S3⟩ := S₃
    exact (S3.nw (C, oC) (by simp)).2.1
  have S₄ : Sta g h₀ L m ((C, oC) :: (ow ++ (cs ++ mt0))) k₃ ((D, listOf vs.toArray nn) :: fz₃) h₃ := by
    obtain ⟨t, S3⟩ := S₃
    refine ⟨t, S3.perm (List.Perm.cons _ (List.Perm.cons _ ?_))⟩
    exact (List.perm_middle).symm
  have hz4 : ∀ p ∈ fz, p ∈ (D, listOf vs.toArray nn) :: fz₃ := fun p hp => .tail _ (hz₃ p (hz2 p hp))
  show wpAny _ A (assign (.Name x px) env (.ref D)) _ _ _
  have sp : (C, oC) :: (ow ++ (cs ++ mt0)) = (C, oC) :: (ow ++ (cs ++ mt0)) := rfl
  have S₅ : Sta g h₀ L m (ow ++ (cs ++ ((C, oC) :: mt0))) k₃ ((D, listOf vs.toArray nn) :: fz₃) h₃ := by
    obtain ⟨t, S3⟩ := S₄
    refine ⟨t, S3.perm (List.Perm.cons _ (List.Perm.append_right _ ?_))⟩
    refine List.Perm.trans ?_ (List.Perm.append_left ow (List.perm_middle).symm)
    exact (List.perm_middle).symm
  refine wpAny_assign_Name (store_local (s := { s with heap := h₃, toks := tk₃ }) (mt0 := (C, oC) :: mt0) (fz0 := (D, listOf vs.toArray nn) :: fz₃) S₅ (fun _ h => h) (V.mono hz4) (W.mono hz4) C₁ (mv := .lst acc) (.lst (.head _) hR.1 hvl fun i v m a b => (hR.2 i v m a b).mono fun p hp => .tail _ hp) hl hω fun h₆ tk₆ S₆ => ?_)
  refine ⟨mC, hN _ (S₆.getI), fun h₇ hs₇ => ?_⟩
  obtain ⟨m₆, cs₆, ow₆, fz₆, S₆, hz₆, V₆, W₆, C₆⟩ := S₆
  have sp : ow₆ ++ (cs₆ ++ (C, oC) :: mt0) = (ow₆ ++ cs₆) ++ (C, oC) :: mt0 := by simp
  rw [sp] at S₆
  have S₇ := Sta.dropI S₆ fun b o hb e => hs₇.extBut b o hb e
  rw [List.append_assoc] at S₇
  exact ⟨h₇, tk₆, rfl, _, ω, k₃, done acc k₃ hJ, m₆, cs₆, ow₆, fz₆, S₇, fun p hp => hz₆ p (hz4 p (hz p hp)), V₆, W₆, C₆⟩
end
end Mine
end
section
set_option autoImplicit false
set_option linter.unusedVariables false
namespace Mine
section
variable {prog : Program} {w : World} {A : Around} {s : Shared}
theorem compTurn2_0 (elt t1 i1 t2 i2 : Expr) (scope : Scope) (pos : Pos) (it acc : Value) (env : Env) :
    compTurn (.ListComp elt [⟨t1, i1, [], 0⟩, ⟨t2, i2, [], 0⟩] scope pos) 0 it acc env = (standAt i1.pos >>= fun _ => pyNext it >>= fun r => match r with
      | none => pure (.done .next)
      | some v => letOwnedTupleGo t1 it v >>= fun _ => assign t1 env v >>= fun _ =>
        eval i2 env >>= fun x => standAt i2.pos >>= fun _ => foldedSetIterable i2 env x >>= fun x => holding [x] (pyIter x) >>= fun it2 =>
          runOwn (.compStart (.ListComp elt [⟨t1, i1, [], 0⟩, ⟨t2, i2, [], 0⟩] scope pos) 1 it2 acc env) env >>= fun _ =>
          again (.compLoop (.ListComp elt [⟨t1, i1, [], 0⟩, ⟨t2, i2, [], 0⟩] scope pos) 0 it acc env)) := by rfl
theorem compTurn2_1 (elt t1 i1 t2 i2 : Expr) (scope : Scope) (pos : Pos) (it acc : Value) (env : Env) :
    compTurn (.ListComp elt [⟨t1, i1, [], 0⟩, ⟨t2, i2, [], 0⟩] scope pos) 1 it acc env = (standAt i2.pos >>= fun _ => pyNext it >>= fun r => match r with
      | none => pure (.done .next)
      | some v => letOwnedTupleGo t2 it v >>= fun _ => assign t2 env v >>= fun _ =>
        (eval elt env >>= fun x => call (.builtin "list.append") [acc, x] >>= fun _ => pure ()) >>= fun _ =>
          again (.compLoop (.ListComp elt [⟨t1, i1, [], 0⟩, ⟨t2, i2, [], 0⟩] scope pos) 1 it acc env)) := by rfl

theorem loop2_0 {elt t1 i1 t2 i2 : Expr} {scope : Scope} {pos : Pos} {it acc : Value} {env : Env} {R : Result → Shared → Prop} (I : Nat → Shared → Prop)
    (turn : ∀ n s, I n s → ∀ E, wpAny (model prog w) A (pyNext it) (fun r s₁ => match r with
      | none => R (.ok .next) s₁
      | some v => wpAny (model prog w) A (letOwnedTupleGo t1 it v) (fun _ s₀ => wpAny (model prog w) A (assign t1 env v) (fun _ s₂ =>
          wpAny (model prog w) A (eval i2 env) (fun x s₃ => wpAny (model prog w) A (pyIter x) (fun it2 s₄ =>
            codeAny (model prog w) A (.compStart (.ListComp elt [⟨t1, i1, [], 0⟩, ⟨t2, i2, [], 0⟩] scope pos) 1 it2 acc env) (fun r s₅ => match r with | .ok _ => ∃ m, m < n ∧ I m s₅ | .error e => False) s₄) E s₃) E s₂) E s₀) E s₁) E s)
    (n : Nat) (h : I n s) (hs : ∀ x, foldedSetIterable i2 env x = pure x) : codeAny (model prog w) A (.compLoop (.ListComp elt [⟨t1, i1, [], 0⟩, ⟨t2, i2, [], 0⟩] scope pos) 0 it acc env) R s := by
  refine codeAny_loop rfl I (fun n s hI => ?_) n h
  show wpAny _ A ((compTurn (.ListComp elt [⟨t1, i1, [], 0⟩, ⟨t2, i2, [], 0⟩] scope pos) 0 it acc env).onRaise (fun x => do noteFrame x env; theTreesLotGoes x)) _ _ s
  refine wpAny_noted ?_
  rw [compTurn2_0]
  refine wpAny_bind (wpAny_standAt (wpAny_bind (wpAny_mono (turn n s hI _) (fun r s₁ h₁ => ?_) fun _ _ h' => h')))
  cases r with
  | none => exact wpAny_pure h₁
  | some v =>
    refine wpAny_bind (wpAny_mono h₁ (fun _ s₀ h₀' => wpAny_bind (wpAny_mono h₀' (fun _ s₂ h₂ => wpAny_bind (wpAny_mono h₂ (fun x s₃ h₃ => ?_) fun _ _ h' => h')) fun _ _ h' => h')) fun _ _ h' => h')
    refine wpAny_bind (wpAny_standAt (wpAny_bind (wpAny_of_eq (hs x) ?_)))
    refine wpAny_bind (wpAny_holding (wpAny_mono h₃ (fun it2 s₄ h₄ => wpAny_bind (wpAny_runOwn (codeAny_mono h₄ fun r s₅ h₅ => ?_))) fun _ _ h' => h'))
    cases r with
    | ok f => exact wpAny_pure ⟨rfl, h₅⟩
    | error e => exact h₅.elim
theorem loop2_1 {elt t1 i1 t2 i2 : Expr} {scope : Scope} {pos : Pos} {it acc : Value} {env : Env} {R : Result → Shared → Prop} (I : Nat → Shared → Prop)
    (turn : ∀ n s, I n s → ∀ E, wpAny (model prog w) A (pyNext it) (fun r s₁ => match r with
      | none => R (.ok .next) s₁
      | some v => wpAny (model prog w) A (letOwnedTupleGo t2 it v) (fun _ s₀ => wpAny (model prog w) A (assign t2 env v) (fun _ s₂ =>
          wpAny (model prog w) A (eval elt env) (fun x s₄ => wpAny (model prog w) A (call (.builtin "list.append") [acc, x]) (fun _ s₅ => ∃ m, m < n ∧ I m s₅) E s₄) E s₂) E s₀) E s₁) E s)
    (n : Nat) (h : I n s) : codeAny (model prog w) A (.compLoop (.ListComp elt [⟨t1, i1, [], 0⟩, ⟨t2, i2, [], 0⟩] scope pos) 1 it acc env) R s := by
  refine codeAny_loop rfl I (fun n s hI => ?_) n h
  show wpAny _ A ((compTurn (.ListComp elt [⟨t1, i1, [], 0⟩, ⟨t2, i2, [], 0⟩] scope pos) 1 it acc env).onRaise (fun x => do noteFrame x env; theTreesLotGoes x)) _ _ s
  refine wpAny_noted ?_
  rw [compTurn2_1]
  refine wpAny_bind (wpAny_standAt (wpAny_bind (wpAny_mono (turn n s hI _) (fun r s₁ h₁ => ?_) fun _ _ h' => h')))
  cases r with
  | none => exact wpAny_pure h₁
  | some v =>
    refine wpAny_bind (wpAny_mono h₁ (fun _ s₀ h₀' => wpAny_bind (wpAny_mono h₀' (fun _ s₂ h₂ => ?_) fun _ _ h' => h')) fun _ _ h' => h')
    exact wpAny_bind (wpAny_bind (wpAny_mono h₂ (fun x s₄ h₄ => wpAny_bind (wpAny_mono h₄ (fun _ s₅ h₅ => wpAny_pure (wpAny_pure ⟨rfl, h₅⟩)) fun _ _ h' => h')) fun _ _ h' => h'))
theorem start2 {e : Expr} {d : Nat} {it acc : Value} {env : Env} {R : Result → Shared → Prop} (hd : ((clausesOf e)[d]?).elim false (·.is_async != 0) = false) (hq : (Code.compLoop e d it acc env).quiet = true) (hfr : (Code.compStart e d it acc env).isFrame = false)
    (h0 : codeAny (model prog w) A (.compLoop e d it acc env) R s) (hself : ∀ Q : Value → Shared → Prop, Q it s → ∀ E, wpAny (model prog w) A (pyIter it) Q E s) (hu : A.under (.compStart e d it acc env) = A := by rfl)
    (hden : denote table (.compStart e d it acc env) = (compStart e d it acc env).onRaise (fun x => do noteFrame x env; standAt theWindowsPlace) := by rfl) :
    codeAny (model prog w) A (.compStart e d it acc env) R s := by
  refine codeAny_of_tree ?_
  show wpAny _ _ (denote table (.compStart e d it acc env)) _ _ s
  rw [hden, hu]
  refine wpAny_notedAt ?_
  unfold compStart
  rw [if_neg (by rw [hd]; decide)]
  show wpAny _ _ (ask >>= _) _ _ s
  refine wpAny_bind (wpAny_askSetting (wpAny_ite ?_))
  split
  · exact wpAny_bind (wpAny_pure (wpAny_pure (And.intro rfl h0)))
  · refine wpAny_bind (wpAny_rule ?_)
    split
    · exact wpAny_bind (wpAny_standAt (wpAny_bind (hself _ (wpAny_pure (And.intro hq h0)) _)))
    · exact wpAny_bind (hself _ (wpAny_pure (And.intro hq h0)) _)
end
end Mine
end
section
set_option autoImplicit false
set_option linter.unusedVariables false
namespace Mine
section
variable {g : GC} {n : Nat} {scc sc : Scope} {σ σf : List (Str × MV)} {k : Int}

noncomputable def Src2 (g : GC) (n : Nat) (scc sc : Scope) (σf : List (Str × MV)) (t1 t2 i2 elt : Expr) (Q : MV → Int → Prop) (mv : MV) (k₁ : Int) : Prop :=
  ∃ ms, ∃ J : Nat → List MV → Int → Prop, Itm mv ms ∧ J 0 [] k₁ ∧ (∀ i acc k', J i acc k' → acc.length ≤ 900) ∧
    (∀ i mi acc k', ms[i]? = some mi → J i acc k' → ∃ τ, Tgt scc t1 mi τ ∧ Ev g n (relab scc sc) i2 (τ ++ σf) k' fun mv2 k2 => ∃ ms2, ∃ J2 : Nat → List MV → Int → Prop, Itm mv2 ms2 ∧ J2 0 acc k2 ∧ (∀ j acc k', J2 j acc k' → acc.length ≤ 900) ∧
      (∀ j mj acc' k', ms2[j]? = some mj → J2 j acc' k' → ∃ τ2, Tgt scc t2 mj τ2 ∧ (∀ x u, τ.lookup x = some u → τ2.lookup x = none) ∧ Ev g n (relab scc sc) elt ((τ2 ++ τ) ++ σf) k' fun r k'' => J2 (j + 1) (acc' ++ [r]) k'') ∧
      (∀ acc' k', J2 ms2.length acc' k' → J (i + 1) acc' k')) ∧
    (∀ acc k', J ms.length acc k' → Q (.lst acc) k')

inductive CJ (g : GC) (h₀ : Heap) (L : Addr) (m : Str → Option Value) (mt fz : Led) (s : Shared) (C D I I2 : Addr) (oJ : Obj) (ms : List MV) (Sb : Nat → Heap → Prop) (Sa : Heap → Prop) (τ : List (Str × MV)) (J : Nat → List MV → Int → Prop) (c : Nat) (s' : Shared) : Prop
  | mk (j : Nat) (acc : List MV) (k' : Int) (hh : Heap) (tk : Nat) (fz' : Led) (oC : Obj) (vs : List Value) (nn : Nat) (oI2 : Obj) (mC : Str → Option Value) (e1 : c = ms.length - j) (hle : j ≤ ms.length) (e : s' = { s with heap := hh, toks := tk })
    (SS : Sta g h₀ L m ((I2, oI2) :: (C, oC) :: (D, listOf vs.toArray nn) :: (I, oJ) :: mt) k' fz' hh) (hz : ∀ p ∈ fz, p ∈ fz') (hSb : Sb j hh) (hSa : Sa hh) (hN : NsO C oC mC) (hτ : ∀ x u, τ.lookup x = some u → ∃ v, mC x = some v ∧ Rep g fz' v u) (hR : RepL g fz' vs acc) (hJ : J j acc k')
theorem ev_ListComp2 {elt t1 i1 t2 i2 : Expr} {pos : Pos} {Q : MV → Int → Prop} (K : CompSc scc sc σ σf) (h : Ev g n sc i1 σ k (Src2 g n scc sc σf t1 t2 i2 elt Q))
    (hs : ∀ (env : Env) x, foldedSetIterable i1 env x = pure x := by intro _ _; rfl) (hs2 : ∀ (env : Env) x, foldedSetIterable i2 env x = pure x := by intro _ _; rfl) : Ev g n sc (.ListComp elt [⟨t1, i1, [], 0⟩, ⟨t2, i2, [], 0⟩] scc pos) σ k Q := by
  intro A fe h₀ L m mt fz env s E O V hf S
  obtain ⟨cl, hclos, hcl⟩ := closure_ok (scc := scc) (env := env) fun x hx => V.cells x (K.free x hx)
  rw [eval_ListComp]
  refine wpAny_comprehension_free (use := none) rfl (hs env) hclos K.kind K.names (wp_res (h A fe h₀ L m mt fz env s E O V hf S) fun v mv k₁ h' tk' fz' zq hz S₁ R₁ => ?_)
  obtain ⟨ms, J, hi, hj, hJl, turn, done⟩ := zq
  refine iter_any (s := { s with heap := h', toks := tk' }) O.hand S₁ R₁ hi fun oI Sa hfree WK hst => ?_
  have S₁' := S₁.allocM oI hfree
  generalize hI : h'.objs.size = I at S₁' WK
  have V' := V.mono hz
  obtain ⟨⟨fp, P, Wl, hfp, hP⟩, alive⟩ := WK
  generalize hh₁ : h'.push oI = hI1 at S₁' hst
  have hfe : ∀ C, (compEnvC scc cl C env) = fe ∨ (compEnvC scc cl C env).frame = fe.frame := fun C => .inr (hf.elim (fun e => by rw [e]; rfl) fun e => e)
  refine wpAny_newObj_type (wpAny_newFunctionEnv K.cell (by intro y hy; simp at hy) (fun h₁ hns₁ hsb₁ => ?_) K.kind)
  dsimp only at hns₁ hsb₁ ⊢
  generalize hD : hI1.objs.size = D at hns₁ hsb₁ ⊢
  have SD : Sta g h₀ L m ((D, listOf ([] : List Value).toArray 0) :: (I, oI) :: mt) k₁ fz' (hI1.push (listOf ([] : List Value).toArray 0)) := by rw [← hD]; exact S₁'.allocM _
  generalize hH2 : hI1.push { cls := .type "list", dict := none, data := .seq ([] : List Value).toArray } = H2 at hns₁ hsb₁ ⊢
  have SD : Sta g h₀ L m ((D, listOf ([] : List Value).toArray 0) :: (I, oI) :: mt) k₁ fz' H2 := by rw [← hH2]; exact SD
  generalize hCC : H2.objs.size = C at hns₁ hsb₁ ⊢
  obtain ⟨oC, hoC, hNC⟩ := nsO_of hns₁
  have SC : Sta g h₀ L m ((C, oC) :: (D, listOf ([] : List Value).toArray 0) :: (I, oI) :: mt) k₁ fz' h₁ := by
    have := SD.allocM { cls := .type "dict", data := .dict #[] }
    rw [hCC] at this
    exact Sta.turnM (pre := []) this hsb₁.extBut hoC
  have hsz : Sa 0 h₁ := Wl.frame _ _ _ hst (kept hfp (S₁'.getM (p := (I, oI)) (.head _)) (SC.getM (p := (I, oI)) (.tail _ (.tail _ (.head _)))) (fun p hp => S₁'.get hp) fun p hp => SC.get hp)
  let RR : Result → Shared → Prop := compPost (model g.prog g.w) A E none (Res g h₀ L m mt fz s Q) (.ref D) C
  have loop : ∀ s₃ : Shared, s₃ = { s with heap := h₁, toks := tk' + ([] : List (Str × Value)).length } →
      codeAny (model g.prog g.w) A (.compLoop (.ListComp elt [⟨t1, i1, [], 0⟩, ⟨t2, i2, [], 0⟩] scc pos) 0 (.ref I) (.ref D) (compEnvC scc cl C env)) RR s₃ := by
    rintro s₃ rfl
    refine loop2_0 (CI g h₀ L m mt fz' s C D I ms Sa J) ?_ ms.length ⟨0, [], k₁, h₁, _, fz', oC, [], 0, oI, _, rfl, Nat.zero_le _, rfl, SC, fun _ h => h, hsz, hNC, .nil, hj⟩ (hs2 _)
    rintro c s' ⟨i, acc, k', hh, tk, fz₂, oC, vs, nn, oI', mC, rfl, hle, rfl, SS, hz₂, hSa, hN, hR, hJ⟩ E'
    by_cases hlt : i < ms.length
    · refine Wl.item i _ _ _ hlt hSa fun u h₂ tk₂ hPu hSa' hk₂ => ?_
      obtain ⟨mi, hmi, Ru⟩ := hP i u hPu hlt
      obtain ⟨oJ, hoJ, hpl⟩ := alive _ _ hSa'
      have S2 : Sta g h₀ L m ((C, oC) :: (D, listOf vs.toArray nn) :: (I, oJ) :: mt) k' fz₂ h₂ := Sta.turnM (pre := [(C, oC), (D, listOf vs.toArray nn)]) SS (fun b o hb e => hk₂ b o (fun q => hb (List.mem_singleton.mp q)) e) hoJ
      obtain ⟨τ, T, hE⟩ := turn i mi acc k' hmi hJ
      refine lot_go hoJ hpl ?_
      refine assign_tgt O.hand T (relabel_eq V.scope) K.kind S2 (mC := mC) (hN _ (S2.getM (.head _))) (Ru.mono hz₂) fun h₃ tk₃ m₃ hn₃ hk₃ hτ _ => ?_
      obtain ⟨oC3, hoC3, hN3⟩ := nsO_of hn₃
      have S3 : Sta g h₀ L m ((C, oC3) :: (D, listOf vs.toArray nn) :: (I, oJ) :: mt) k' fz₂ h₃ := Sta.turnM (pre := []) S2 (fun b o hb e => hk₃ b o hb e) hoC3
      have VV := comp_vars (h := h₃) K (V'.mono hz₂) hcl (mt' := (C, oC3) :: (D, listOf vs.toArray nn) :: (I, oJ) :: mt) (.head _) hN3 (fun p hp => by simp [hp]) fun x u e => ⟨tgt_local T x u e, hτ x u e⟩
      refine wp_res (hE A fe h₀ L m _ fz₂ _ _ _ O VV (hfe C) S3) fun v2 mv2 k2 h₄ tk₄ fz₄ zq hz₄ S4 R4 => ?_
      obtain ⟨ms2, J2, hi2, hj2, hJ2l, turn2, done2⟩ := zq
      have hSa4 : Sa (i + 1) h₄ := Wl.frame _ _ _ hSa' (kept hfp hoJ (S4.getM (p := (I, oJ)) (.tail _ (.tail _ (.head _)))) (fun p hp => S2.get (hz₂ p hp)) fun p hp => S4.get (hz₄ _ (hz₂ p hp)))
      refine iter_any (s := { s with heap := h₄, toks := tk₄ }) O.hand S4 R4 hi2 fun o2 Sb hfree2 WK2 hst2 => ?_
      have S5 := S4.allocM o2 hfree2
      obtain ⟨⟨fp2, P2, Wl2, hfp2, hP2⟩, alive2⟩ := WK2
      generalize hI2 : h₄.objs.size = I2 at S5 Wl2 alive2 hfp2
      generalize hh5 : h₄.push o2 = h₅ at S5 hst2
      have hSa5 : Sa (i + 1) h₅ := Wl.frame _ _ _ hSa4 (kept hfp (S4.getM (p := (I, oJ)) (.tail _ (.tail _ (.head _)))) (S5.getM (p := (I, oJ)) (.tail _ (.tail _ (.tail _ (.head _))))) (fun p hp => S4.get (hz₄ _ (hz₂ p hp))) fun p hp => S5.get (hz₄ _ (hz₂ p hp)))
      refine start2 (by rfl) rfl rfl ?_ (fun Q2 hQ2 E2 => Wl2.self 0 _ _ _ hst2 hQ2)
      refine loop2_1 (CJ g h₀ L m mt fz₄ s C D I I2 oJ ms2 Sb (Sa (i + 1)) τ J2)
        ?_ ms2.length ⟨0, acc, k2, h₅, tk₄, fz₄, oC3, vs, nn, o2, m₃, rfl, Nat.zero_le _, rfl, S5, fun _ h => h, hst2, hSa5, hN3, (fun x u e => let ⟨v, a, b⟩ := hτ x u e; ⟨v, a, b.mono hz₄⟩), hR.mono hz₄, hj2⟩
      rintro c2 s'' ⟨j, acc', k₆, hh₆, tk₆, fz₆, oC', vs', nn', oI2, mC', rfl, hle2, rfl, S6, hz6, hSb, hSa6, hN6, hτ6, hR6, hJ6⟩ E2
      by_cases hlt2 : j < ms2.length
      · refine Wl2.item j _ _ _ hlt2 hSb fun u2 h₇ tk₇ hPu2 hSb' hk₇ => ?_
        obtain ⟨mj, hmj, Ru2⟩ := hP2 j u2 hPu2 hlt2
        obtain ⟨oK, hoK, hpl2⟩ := alive2 _ _ hSb'
        have S7 : Sta g h₀ L m ((I2, oK) :: (C, oC') :: (D, listOf vs'.toArray nn') :: (I, oJ) :: mt) k₆ fz₆ h₇ := Sta.turnM (pre := []) S6 (fun b o hb e => hk₇ b o (fun q => hb (List.mem_singleton.mp q)) e) hoK
        obtain ⟨τ2, T2, hdis, hE2⟩ := turn2 j mj acc' k₆ hmj hJ6
        refine lot_go hoK hpl2 ?_
        refine assign_tgt O.hand T2 (relabel_eq V.scope) K.kind S7 (mC := mC') (hN6 _ (S7.getM (.tail _ (.head _)))) (Ru2.mono hz6) fun h₈ tk₈ m₈ hn₈ hk₈ hτ8 hold8 => ?_
        obtain ⟨oC8, hoC8, hN8⟩ := nsO_of hn₈
        have S8 : Sta g h₀ L m ((I2, oK) :: (C, oC8) :: (D, listOf vs'.toArray nn') :: (I, oJ) :: mt) k₆ fz₆ h₈ := Sta.turnM (pre := [(I2, oK)]) S7 (fun b o hb e => hk₈ b o hb e) hoC8
        have hτall : ∀ x u, (τ2 ++ τ).lookup x = some u → scc.names.lookup x = some .local ∧ ∃ v, m₈ x = some v ∧ Rep g fz₆ v u := fun x u e => by
          rw [List.lookup_append] at e
          cases w : τ2.lookup x with
          | some u' => rw [w] at e; cases e; exact ⟨tgt_local T2 x _ w, hτ8 x _ w⟩
          | none =>
            rw [w] at e
            refine ⟨tgt_local T x u e, ?_⟩
            rw [hold8 x w]
            exact hτ6 x u e
        have VV2 := comp_vars (h := h₈) K (V'.mono fun p hp => hz6 p (hz₄ p (hz₂ p hp))) hcl (mt' := (I2, oK) :: (C, oC8) :: (D, listOf vs'.toArray nn') :: (I, oJ) :: mt) (.tail _ (.head _)) hN8 (fun p hp => by simp [hp]) hτall
        refine wp_res (hE2 A fe h₀ L m _ fz₆ _ _ _ O VV2 (hfe C) S8) fun y r k₉ h₉ tk₉ fz₉ hJ9 hz9 S9 Ry => ?_
        have hpl : ({ s with heap := h₉, toks := tk₉ } : Shared).heap.PlainList D vs'.toArray := ⟨nn', S9.getM (p := (D, listOf vs'.toArray nn')) (by simp)⟩
        have hl9 := hJ2l _ _ _ hJ9
        have hl6 : vs'.length ≤ 900 := by have := hR6.1; simp at hl9; omega
        refine wpAny_list_append_plain hpl (fun h₅ hl₅ hs₅ => ?_) (by rw [List.size_toArray, sizeLine_eq]; omega)
        obtain ⟨n5, e5⟩ := hl₅
        have S10 : Sta g h₀ L m ((I2, oK) :: (C, oC8) :: (D, listOf (vs' ++ [y]).toArray n5) :: (I, oJ) :: mt) k₉ fz₉ h₅ := Sta.turnM (pre := [(I2, oK), (C, oC8)]) S9 hs₅.extBut (by rw [e5]; simp)
        exact ⟨ms2.length - (j + 1), by omega, j + 1, acc' ++ [r], k₉, h₅, tk₉, fz₉, oC8, vs' ++ [y], n5, oK, m₈, rfl, hlt2, rfl, S10, fun p hp => hz9 p (hz6 p hp),
          Wl2.frame _ _ _ hSb' (kept hfp2 (S7.getM (p := (I2, oK)) (.head _)) (S10.getM (p := (I2, oK)) (.head _)) (fun p hp => S7.get (hz6 p hp)) fun p hp => S10.get (hz9 _ (hz6 p hp))),
          Wl.frame _ _ _ hSa6 (kept hfp (S6.getM (p := (I, oJ)) (.tail _ (.tail _ (.tail _ (.head _))))) (S10.getM (p := (I, oJ)) (.tail _ (.tail _ (.tail _ (.head _))))) (fun p hp => S6.get (hz6 _ (hz₄ _ (hz₂ p hp)))) fun p hp => S10.get (hz9 _ (hz6 _ (hz₄ _ (hz₂ p hp))))),
          hN8, fun x u e => by
            rw [hold8 x (hdis x u e)]
            obtain ⟨v, a, b⟩ := hτ6 x u e
            exact ⟨v, a, b.mono hz9⟩, (hR6.mono hz9).snoc Ry, hJ9⟩
      · have hje : j = ms2.length := by omega
        subst hje
        refine Wl2.done _ _ _ hSb fun h₇ tk₇ hk₇ => ?_
        have S7 : Sta g h₀ L m ((C, oC') :: (D, listOf vs'.toArray nn') :: (I, oJ) :: mt) k₆ fz₆ h₇ := Sta.dropI (pre := []) S6 fun b o hb e => hk₇ b o (fun q => hb (List.mem_singleton.mp q)) e
        exact ⟨ms.length - (i + 1), by omega, i + 1, acc', k₆, h₇, tk₇, fz₆, oC', vs', nn', oJ, mC', rfl, hlt, rfl, S7, fun p hp => hz6 p (hz₄ p (hz₂ p hp)),
          Wl.frame _ _ _ hSa6 (kept hfp (S6.getM (p := (I, oJ)) (.tail _ (.tail _ (.tail _ (.head _))))) (S7.getM (p := (I, oJ)) (.tail _ (.tail _ (.head _)))) (fun p hp => S6.get (hz6 _ (hz₄ _ (hz₂ p hp)))) fun p hp => S7.get (hz6 _ (hz₄ _ (hz₂ p hp)))), hN6, hR6, done2 _ _ hJ6⟩
    · have hie : i = ms.length := by omega
      subst hie
      refine Wl.done _ _ _ hSa fun h₂ tk₂ hk₂ => ?_
      have S2 : Sta g h₀ L m ((C, oC) :: (D, listOf vs.toArray nn) :: mt) k' fz₂ h₂ := Sta.dropI (pre := [(C, oC), (D, listOf vs.toArray nn)]) SS (fun b o hb e => hk₂ b o (fun q => hb (List.mem_singleton.mp q)) e)
      have hvl : vs.length ≤ 1000 := by rw [hR.1]; exact Nat.le_trans (hJl _ _ _ hJ) (by decide)
      refine ⟨mC, hN _ (S2.getM (.head _)), fun h₄ hs₄ => ?_⟩
      have S₄ : Sta g h₀ L m ((D, listOf vs.toArray nn) :: mt) k' fz₂ h₄ := Sta.dropI (pre := []) S2 fun b o hb e => hs₄.extBut b o hb e
      exact ⟨.lst acc, k', done acc k' hJ, h₄, tk₂, _, rfl, fun p hp => .tail _ (hz₂ p (hz p hp)), S₄.freeze, .lst (.head _) hR.1 hvl fun i v m a b => (hR.2 i v m a b).mono fun p hp => .tail _ hp⟩
  have hu : A.under (.compStart (.ListComp elt [⟨t1, i1, [], 0⟩, ⟨t2, i2, [], 0⟩] scc pos) 0 (.ref I) (.ref D) (compEnvC scc cl C env)) = A := Around.under_of_weight rfl
  exact start2 (by rfl) rfl rfl (loop _ rfl) (fun Q2 hQ2 E2 => Wl.self 0 _ _ _ hsz hQ2)
end
end Mine
end
section
set_option autoImplicit false
set_option linter.unusedVariables false
namespace Mine

noncomputable def ins (v : Int) : List Int → List Int
  | [] => [v]
  | x :: r => if v < x then v :: x :: r else if v = x then x :: r else x :: ins v r

noncomputable def inSubs : List Int → List Int → Bool
  | _, [] => true
  | [], _ :: _ => false
  | x :: r, u :: us => if x == u then inSubs r us else inSubs r (u :: us)
theorem subs_nil : ∀ l : List Int, [] ∈ subs l
  | [] => .head _
  | x :: r => List.mem_append_right _ (subs_nil r)
theorem inSubs_mem : ∀ (l us : List Int), inSubs l us = true → us ∈ subs l
  | l, [], _ => subs_nil l
  | [], _ :: _, h => by simp [inSubs] at h
  | x :: r, u :: us, h => by
    unfold inSubs at h
    split at h
    · rename_i e
      rw [← eq_of_beq e]
      exact List.mem_append_left _ (List.mem_map_of_mem (inSubs_mem r us h))
    · exact List.mem_append_right _ (inSubs_mem r (u :: us) h)
noncomputable def midT (vs us : List Int) (led : Bool) : SetTable := { canT us led with mask := (canT vs led).mask, moves := (canT vs led).moves }
noncomputable def below7 (v : Int) (vs : List Int) : Nat := (vs.takeWhile fun x => decide (x < v)).length
noncomputable def chkAdd (vs : List Int) (v : Int) (led : Bool) : Bool :=
  let us := ins v vs
  if vs.contains v then us == vs else
  hashInt v == v && (canT vs led).freeSlot v == some (v.toNat, false) && (canT vs led).put v.toNat == (midT vs us led, below7 v vs) &&
  decide (below7 v vs ≤ vs.length) && (vs.take (below7 v vs) ++ v :: vs.drop (below7 v vs) == us) && (midT vs us led).fits (vs.length + 1) && (us.length == vs.length + 1) && inSubs seven us &&
    (if vs.length = 4 then (midT vs us led).tooFull else !(midT vs us led).tooFull)
noncomputable def fullT (us : List Int) (led : Bool) : SetTable := { canT us led with mask := 7, moves := 0 }
noncomputable def chkFive (us : List Int) (led : Bool) : Bool := us.length != 5 || ((fullT us led).relaid us.toArray 20 == some (canT us led, #[0, 1, 2, 3, 4]) && (canT us led).fits 5)
theorem chkFive_all : ((subs seven).all fun us => chkFive us true && chkFive us false) = true := by decide +kernel
theorem chkFive_at {us : List Int} (hv : us ∈ subs seven) (led : Bool) : chkFive us led = true := by
  have := List.all_eq_true.mp chkFive_all us hv
  rw [Bool.and_eq_true] at this
  cases led
  · exact this.2
  · exact this.1

theorem chkAdd_all : ((subs seven).all fun vs => seven.all fun v => chkAdd vs v true && chkAdd vs v false) = true := by decide +kernel
theorem chkAdd_at {vs : List Int} {v : Int} (hv : vs ∈ subs seven) (h : v ∈ seven) (led : Bool) : chkAdd vs v led = true := by
  have := List.all_eq_true.mp (List.all_eq_true.mp chkAdd_all vs hv) v h
  rw [Bool.and_eq_true] at this
  cases led
  · exact this.2
  · exact this.1
noncomputable def slotAt (vs : List Int) : Nat → Nat
  | 0 => 0
  | i + 1 => (vs.getD i 0).toNat + 1
noncomputable def chkWalk (vs : List Int) : Bool :=
  (List.range (vs.length + 1)).all fun i => SetTable.below (vs.map Int.toNat).toArray (slotAt vs i) == i
theorem chkWalk_all : ((subs seven).all fun vs => chkWalk vs && (canT vs true).fits vs.length && (canT vs false).fits vs.length && (vs.all fun v => seven.contains v && hashInt v == v) && decide (vs.Pairwise (· < ·)) && decide (vs.length ≤ 7)) = true := by decide +kernel
theorem chkWalk_at {vs : List Int} (hv : vs ∈ subs seven) : chkWalk vs = true ∧ (∀ led, (canT vs led).fits vs.length = true) ∧ (∀ v ∈ vs, v ∈ seven ∧ hashInt v = v) ∧ vs.Pairwise (· < ·) ∧ vs.length ≤ 7 := by
  have := List.all_eq_true.mp chkWalk_all vs hv
  simp only [Bool.and_eq_true, List.all_eq_true, decide_eq_true_eq, List.contains_iff_mem, beq_iff_eq] at this
  exact ⟨this.1.1.1.1.1, fun led => by cases led; exact this.1.1.1.2; exact this.1.1.1.1.2, this.1.1.2, this.1.2, this.2⟩

theorem eraseIdx_perm {α : Type} : ∀ (l : List α) (i : Nat) (h : i < l.length), (l[i] :: l.eraseIdx i).Perm l
  | x :: r, 0, h => by simp
  | x :: r, i + 1, h => by
    simp only [List.getElem_cons_succ, List.eraseIdx_cons_succ]
    exact (List.Perm.swap _ _ _).trans (List.Perm.cons _ (eraseIdx_perm r i (by simpa using h)))
theorem pick_perm {α : Type} (next : Nat → Nat) : ∀ (n k : Nat) (l : List α) (out : Array α), l.length = n → (pickOrder.go next n k l out).toList.Perm (out.toList ++ l)
  | 0, k, l, out, h => by
    rw [List.length_eq_zero_iff] at h; subst h
    unfold pickOrder.go; simp
  | n + 1, k, l, out, h => by
    unfold pickOrder.go
    have hlt : next k % l.length < l.length := Nat.mod_lt _ (by omega)
    rw [List.getElem?_eq_getElem hlt]
    dsimp only
    refine (pick_perm next n (k + 1) _ _ (by rw [List.length_eraseIdx, if_pos hlt]; omega)).trans ?_
    rw [Array.toList_push, List.append_assoc]
    refine List.Perm.append_left _ ?_
    exact eraseIdx_perm l _ hlt
theorem pickOrder_perm {α : Type} (next : Nat → Nat) (xs : Array α) : (pickOrder next xs).toList.Perm xs.toList := by
  have := pick_perm next xs.size 0 xs.toList #[] (by simp)
  simpa [pickOrder] using this
end Mine
end
section
set_option autoImplicit false
set_option linter.unusedVariables false
namespace Mine

theorem mem_ins {v x : Int} : ∀ {vs : List Int}, x ∈ ins v vs ↔ x = v ∨ x ∈ vs
  | [] => by simp [ins]
  | y :: r => by
    unfold ins
    split
    · simp
    · split
      · rename_i h; subst h; simp
      · simp only [List.mem_cons, mem_ins (vs := r)]
        constructor
        · rintro (h | h | h)
          · exact .inr (.inl h)
          · exact .inl h
          · exact .inr (.inr h)
        · rintro (h | h | h)
          · exact .inr (.inl h)
          · exact .inl h
          · exact .inr (.inr h)

structure AddFacts (vs : List Int) (v : Int) (led : Bool) : Prop where
  hash : hashInt v = v
  free : (canT vs led).freeSlot v = some (v.toNat, false)
  put : (canT vs led).put v.toNat = (midT vs (ins v vs) led, below7 v vs)
  at_ : vs.take (below7 v vs) ++ v :: vs.drop (below7 v vs) = ins v vs
  fits : (midT vs (ins v vs) led).fits (vs.length + 1) = true
  len : (ins v vs).length = vs.length + 1
  sub : ins v vs ∈ subs seven
  full : (midT vs (ins v vs) led).tooFull = decide (vs.length = 4)
theorem addFacts {vs : List Int} {v : Int} (hv : vs ∈ subs seven) (h : v ∈ seven) (hn : v ∉ vs) (led : Bool) : AddFacts vs v led := by
  have c := chkAdd_at hv h led
  unfold chkAdd at c
  have : vs.contains v = false := by simpa using hn
  simp only [this, Bool.false_eq_true, if_false, Bool.and_eq_true, beq_iff_eq, decide_eq_true_eq] at c
  obtain ⟨⟨⟨⟨⟨⟨⟨⟨c1, c2⟩, c3⟩, c4⟩, c5⟩, c6⟩, c7⟩, c8⟩, c9⟩ := c
  refine ⟨c1, c2, c3, c5, c6, c7, inSubs_mem _ _ c8, ?_⟩
  by_cases h4 : vs.length = 4
  · rw [if_pos h4] at c9; rw [c9]; simp [h4]
  · rw [if_neg h4] at c9; simp at c9; rw [c9]; simp [h4]
theorem ins_of_mem {vs : List Int} {v : Int} (hv : vs ∈ subs seven) (h : v ∈ seven) (hn : v ∈ vs) : ins v vs = vs := by
  have c := chkAdd_at hv h true
  unfold chkAdd at c
  have : vs.contains v = true := by simpa using hn
  simp only [this, if_true, beq_iff_eq] at c
  exact c
theorem ins_sub {vs : List Int} {v : Int} (hv : vs ∈ subs seven) (h : v ∈ seven) : ins v vs ∈ subs seven := by
  by_cases hn : v ∈ vs
  · rw [ins_of_mem hv h hn]; exact hv
  · exact (addFacts hv h hn true).sub
theorem mid_eq {vs us : List Int} {led : Bool} (hl : us.length = vs.length + 1) (h4 : vs.length ≠ 4) : midT vs us led = canT us led := by
  unfold midT canT
  rw [hl]
  by_cases h : vs.length ≤ 4
  · rw [if_pos h, if_pos h, if_pos (by omega), if_pos (by omega)]
  · rw [if_neg h, if_neg h, if_neg (by omega), if_neg (by omega)]
theorem mid_full {vs us : List Int} {led : Bool} (h4 : vs.length = 4) : midT vs us led = fullT us led := by
  unfold midT fullT canT
  rw [h4]; simp

theorem insertAt_toList {α : Type} (xs : Array α) (p : Nat) (x : α) : (SetTable.insertAt xs p x).toList = xs.toList.take p ++ x :: xs.toList.drop p := by
  unfold SetTable.insertAt
  rw [Array.toList_append, Array.toList_push, Array.toList_extract, Array.toList_extract]
  simp [List.take_of_length_le]

section
variable {prog : Program} {w : World} {A : Around} {E : Value → Shared → Prop} {s : Shared}
theorem five_at {α : Type} (es : Array α) (h : es.size = 5) : (#[0, 1, 2, 3, 4] : Array Nat).filterMap (es[·]?) = es := by
  obtain ⟨l⟩ := es
  match l, h with
  | [a, b, c, d, e], _ => simp

theorem setAdd_can {a : Addr} {o : Obj} {vs : List Int} {v : Int} {tk : Tok} {Q : Bool → Shared → Prop} (ho : s.heap.get? a = some o) (hc : CanSet w o vs) (hv : v ∈ seven)
    (h : ∀ b h' o', Heap.SameBut a s.heap h' → h'.get? a = some o' → CanSet w o' (ins v vs) → Q b { s with heap := h' }) :
    wpAny (model prog w) A (setAddHashed a (.int v tk) (hashInt v)) Q E s := by
  obtain ⟨es, ep, rfl, hsub, hmap, hel⟩ := id hc
  generalize hled : (!(w.params.followText "set-order")) = led at ho hc
  obtain ⟨_, hfit, hsev, hpw, hl7⟩ := chkWalk_at hsub
  have hsz : es.size = vs.length := by rw [← hmap]; simp
  have hfits : (canT vs led).fits es.size = true := by rw [hsz]; exact hfit led
  have hels : ElemsOf (PySem.intKind prog w) es.toList := fun e he => by
    obtain ⟨t, ht⟩ := hel e he
    have hm : e.1 ∈ vs := by rw [← hmap]; exact List.mem_map_of_mem he
    refine ⟨⟨e.1, by rw [ht]; exact intKind_is _ _ _ _, (hsev _ hm).2.symm⟩, by rw [ht]; rfl⟩
  have hkey : (PySem.intKind prog w).is v (.int v tk) = true := intKind_is _ _ _ _
  have hsc : (Value.int v tk).scannable = true := rfl
  have hb : es.size < scanBound := by rw [hsz]; unfold scanBound; omega
  show wpAny _ _ (setAddHashed a (.int v tk) ((PySem.intKind prog w).hash v)) _ _ _
  unfold setAddHashed setAddHashedIn
  refine wpAny_holding (wpAny_bind (wpAny_setState_of ho rfl hfits ?_))
  dsimp only
  rw [byScan_of hsc hb hels]
  simp only [↓reduceIte]
  unfold setAddByScan
  refine wpAny_bind ?_
  refine wpAny_bind (wpAny_rule ?_)
  refine wpAny_bind (wpAny_setScan_of hkey ho rfl hfits hels ?_)
  have hval : ∀ e ∈ es.toList, ((PySem.intKind prog w).is v e.2 = true ↔ e.1 = v) := fun e he => by
    obtain ⟨t, ht⟩ := hel e he
    rw [ht]
    constructor
    · intro q
      have := (PySem.intKind prog w).inj _ _ _ q (intKind_is (prog := prog) (w := w) e.1 t)
      exact this.symm
    · intro q; rw [q]; exact intKind_is _ _ _ _
  cases hr : List.findIdx? (fun e => (PySem.intKind prog w).is v e.2) es.toList with
  | some j =>
    dsimp only
    obtain ⟨hj, hpj, _⟩ := List.findIdx?_eq_some_iff_getElem.mp hr
    have hm : v ∈ vs := by
      have := (hval _ (List.getElem_mem hj)).mp hpj
      rw [← hmap, ← this]
      exact List.mem_map_of_mem (List.getElem_mem hj)
    refine wpAny_pure (wpAny_pure ?_)
    have := h false s.heap _ (Heap.SameBut.refl a s.heap) ho (by rw [ins_of_mem hsub hv hm]; subst hled; exact hc)
    exact this
  | none =>
    dsimp only
    have hm : v ∉ vs := fun hm => by
      rw [← hmap] at hm
      obtain ⟨e, he, q⟩ := List.mem_map.mp hm
      have h1 := List.findIdx?_eq_none_iff.mp hr e he
      rw [(hval e he).mpr q] at h1
      cases h1
    have F := addFacts hsub hv hm led
    have hh : (PySem.intKind prog w).hash v = v := F.hash
    rw [hh]
    have hgw : ∀ (b : Bool) {s₁ : Shared} {Q' : Unit → Shared → Prop}, Q' () s₁ → wpAny (model prog w) A (match b with | true => rule "set.scan.the-table-gave-way" | false => pure ()) Q' E s₁ :=
      fun b s₁ Q' hq => by cases b <;> first | exact wpAny_pure hq | exact wpAny_rule hq
    generalize hes' : SetTable.insertAt es (below7 v vs) (v, Value.int v tk) = es'
    have hsz' : es'.size = vs.length + 1 := by
      have := congrArg List.length (insertAt_toList es (below7 v vs) (v, Value.int v tk))
      rw [hes'] at this
      rw [← Array.length_toList, this]
      have h2 := congrArg List.length F.at_
      rw [F.len] at h2
      rw [← h2, ← hmap]
      simp
    have hmap' : es'.toList.map (·.1) = ins v vs := by
      rw [← hes', insertAt_toList, ← F.at_, ← hmap]
      simp [List.map_take, List.map_drop]
    have hel' : ∀ e ∈ es'.toList, ∃ tk, e.2 = .int e.1 tk := fun e he => by
      rw [← hes', insertAt_toList] at he
      rcases List.mem_append.mp he with he | he
      · exact hel e (List.mem_of_mem_take he)
      · rcases List.mem_cons.mp he with rfl | he
        · exact ⟨tk, rfl⟩
        · exact hel e (List.mem_of_mem_drop he)
    have hL : layNew (canT vs led) es v (Value.int v tk) = (es', midT vs (ins v vs) led, false, false) := by
      unfold layNew
      rw [F.free]
      dsimp only
      rw [F.put]
      dsimp only
      rw [hes', hsz', F.fits]
      unfold SetTable.orStandIn
      rw [F.fits]; simp
    rw [hL]
    dsimp only
    refine wpAny_bind (hgw false ?_)
    rw [show (midT vs (ins v vs) led).plain = true from rfl]
    simp only [↓reduceIte]
    rw [hashByValue_scannable 8 hsc]
    refine wpAny_bind (wpAny_pure ?_)
    simp only [plainKind, ↓reduceIte]
    refine wpAny_bind (wpAny_storeSet_of ho rfl ?_ (by rw [hsz', sizeLine_eq]; omega))
    have hg1 : (s.heap.update a (Obj.putSet es' (midT vs (ins v vs) led))).get? a = some { cls := .type "set", dict := none, data := .set es' (ep + 1) (midT vs (ins v vs) led) } := by
      have := Heap.get?_update_self (Obj.putSet es' (midT vs (ins v vs) led)) ho rfl
      exact this
    have hsb1 := Heap.SameBut.update s.heap a (Obj.putSet es' (midT vs (ins v vs) led))
    rw [F.full]
    by_cases h4 : vs.length = 4
    · simp only [h4, decide_true, Bool.not_false, Bool.true_and, ↓reduceIte]
      have c5 := chkFive_at F.sub led
      unfold chkFive at c5
      have hl5 : (ins v vs).length = 5 := by rw [F.len, h4]
      simp only [hl5, bne_self_eq_false, Bool.false_or, Bool.and_eq_true, beq_iff_eq] at c5
      have hRl : relayAll (midT vs (ins v vs) led) es' (SetTable.grown es'.size) = (es', canT (ins v vs) led, false) := by
        unfold relayAll
        have e1 : es'.map (·.1) = (ins v vs).toArray := by
          apply Array.ext'
          rw [Array.toList_map, hmap']
        rw [e1, mid_full h4, hsz', h4]
        rw [show SetTable.grown (4 + 1) = 20 from rfl, c5.1]
        dsimp only
        have e5 : es'.size = 5 := by rw [hsz', h4]
        rw [five_at es' e5, e5, c5.2]
        have : coversAll #[0, 1, 2, 3, 4] 5 = true := by decide
        rw [this]; simp
      rw [hRl]
      dsimp only
      refine wpAny_bind (hgw false ?_)
      refine wpAny_bind (wpAny_storeSet_of hg1 rfl ?_ (by rw [hsz', sizeLine_eq]; omega))
      have hg2 := Heap.get?_update_self (Obj.putSet es' (canT (ins v vs) led)) hg1 rfl
      refine wpAny_pure (wpAny_pure ?_)
      refine h true _ _ (hsb1.trans (Heap.SameBut.update _ a _)) hg2 ?_
      exact ⟨es', ep + 1 + 1, by rw [hled]; rfl, F.sub, hmap', hel'⟩
    · simp only [h4, decide_false, Bool.and_false, Bool.false_eq_true, ↓reduceIte]
      refine wpAny_pure (wpAny_pure ?_)
      refine h true _ _ hsb1 hg1 ?_
      exact ⟨es', ep + 1, by rw [hled, mid_eq F.len h4], F.sub, hmap', hel'⟩
end
end Mine
end
section
set_option autoImplicit false
set_option linter.unusedVariables false
set_option maxRecDepth 100000
namespace Mine

noncomputable def insAll (ns : List Int) (vs : List Int) : List Int := ns.foldl (fun a n => ins n a) vs
theorem insAll_sub : ∀ {ns vs : List Int}, vs ∈ subs seven → (∀ n ∈ ns, n ∈ seven) → insAll ns vs ∈ subs seven
  | [], _, h, _ => h
  | n :: r, vs, h, hn => insAll_sub (ns := r) (ins_sub h (hn n (.head _))) fun m hm => hn m (.tail _ hm)
theorem mem_insAll {x : Int} : ∀ {ns vs : List Int}, x ∈ insAll ns vs ↔ x ∈ ns ∨ x ∈ vs
  | [], _ => by simp [insAll]
  | n :: r, vs => by
    show x ∈ insAll r (ins n vs) ↔ _
    rw [mem_insAll (ns := r), mem_ins]
    simp only [List.mem_cons]
    constructor
    · rintro (h | h | h)
      · exact .inl (.inr h)
      · exact .inl (.inl h)
      · exact .inr h
    · rintro ((h | h) | h)
      · exact .inr (.inl h)
      · exact .inl h
      · exact .inr (.inr h)

theorem canSet_fresh (w : World) : CanSet w { cls := .type "set", dict := none, data := .set #[] 0 (.fresh 0 0 (!(w.params.followText "set-order"))) } [] :=
  ⟨#[], 0, rfl, subs_nil _, rfl, fun e he => by simp at he⟩

section
variable {prog : Program} {w : World} {A : Around} {R : Result → Shared → Prop} {I : Addr} {fp wr : List Addr} {n : Nat} {P : Nat → Value → Prop} {St : Nat → Heap → Prop}

theorem update_loop (W : Walks prog w A.in1 I fp wr n P St) (S : Addr) (hSf : S ∉ fp) (ns : List Int) (hn : ns.length = n) (hval : ∀ i v, P i v → ∃ t, v = .int (ns.getD i 0) t) (h7 : ∀ k ∈ ns, k ∈ seven) :
    ∀ (k i : Nat) (s : Shared) (vs : List Int) (o : Obj), n - i = k → i ≤ n → St i s.heap → s.heap.get? S = some o → CanSet w o vs →
      (∀ h' tk o', (∀ b o, b ∉ S :: wr → s.heap.get? b = some o → h'.get? b = some o) → h'.get? S = some o' → CanSet w o' (insAll (ns.drop i) vs) → R (.ok (.ret .none)) { s with heap := h', toks := tk }) →
      codeAny (model prog w) A (.builtin "set.update.loop" ⟨[.ref S, .ref I], []⟩) R s := by
  have hSw : S ∉ wr := fun h => hSf (W.sub _ h)
  intro k
  induction k with
  | zero =>
    intro i s vs o hk hi hst ho hc hR
    have hin : i = n := by omega
    subst hin
    refine codeAny_builtin F.entry_set_update_loop ?_
    rw [Around.under_plainId F.plain_set_update_loop _]
    show wpAny _ A.in1 (pyNext (.ref I) >>= _) _ _ s
    refine wpAny_bind (W.done s _ _ hst fun h' tk hk' => ?_)
    show wpAny _ A.in1 (ret Value.none) _ _ _
    refine wpAny_pure (hR h' tk o (fun b o hb e => hk' b o (fun h => hb (.tail _ h)) e) (hk' S o hSw ho) ?_)
    rw [← hn, List.drop_length]
    exact hc
  | succ k ih =>
    intro i s vs o hk hi hst ho hc hR
    have hlt : i < n := by omega
    refine codeAny_builtin F.entry_set_update_loop ?_
    rw [Around.under_plainId F.plain_set_update_loop _]
    show wpAny _ A.in1 (pyNext (.ref I) >>= _) _ _ s
    refine wpAny_bind (W.item i s _ _ hlt hst fun v h' tk hP hst' hk' => ?_)
    obtain ⟨t, rfl⟩ := hval i v hP
    have hi' : i < ns.length := by omega
    have hd : ns.drop i = ns.getD i 0 :: ns.drop (i + 1) := by
      rw [List.drop_eq_getElem_cons hi']; simp [hi']
    have hm : ns.getD i 0 ∈ ns := by simp [hi']
    show wpAny _ A.in1 (holding [Value.int (ns.getD i 0) t] (setAdd S (.int (ns.getD i 0) t)) >>= _) _ _ _
    refine wpAny_bind (wpAny_holding ?_)
    unfold setAdd
    refine wpAny_holding ?_
    refine wpAny_bind ((PySem.intKind prog w).pyHash (k := ns.getD i 0) (intKind_is _ _ _ _) ?_)
    refine setAdd_can (s := { s with heap := h', toks := tk + 1 }) (hk' S o hSw ho) hc (h7 _ hm) fun b h₂ o₂ hsb ho₂ hc₂ => ?_
    refine wpAny_pure ⟨plainId_quiet F.plain_set_update_loop _, ih (i + 1) _ _ o₂ (by omega) hlt (W.frame _ h' _ hst' fun b hb o e => ?_) ho₂ hc₂ fun h₃ tk₃ o₃ hk₃ ho₃ hc₃ => ?_⟩
    · exact hsb.extBut b o (fun h : b = S => hSf (by rw [← h]; exact hb)) e
    · refine hR h₃ tk₃ o₃ (fun b o hb e => hk₃ b o hb (hsb.extBut b o (fun h => hb (by rw [h]; exact .head _)) (hk' b o (fun h => hb (.tail _ h)) e))) ho₃ ?_
      rw [hd]; exact hc₃
end

section
variable {prog : Program} {w : World} {A : Around} {E : Value → Shared → Prop} {s : Shared}

theorem set_new_1 (a : Value) {led : Bool} (hled : led = !(w.params.followText "set-order")) {Q₁ : Value → Shared → Prop}
    (h : Q₁ (.ref s.heap.objs.size) { s with heap := s.heap.push { cls := .type "set", dict := none, data := .set #[] 0 (.fresh 0 0 led) } }) :
    codeAny (model prog w) A (.call (.builtin "set.__new__") ⟨[.type "set", a], []⟩) (wants Q₁ E) s := by
  subst hled
  refine codeAny_of_tree ?_
  show wpAny _ A.in1 (do checkBuiltinCall "set.__new__" ⟨[.type "set", a], []⟩; again (.builtin "set.__new__" ⟨[.type "set", a], []⟩)) _ _ s
  refine wpAny_bind (wpAny_of_eq (F.newCall_set_1 a) (wpAny_pure ⟨plainId_quiet F.plain_set_new _, codeAny_builtin F.entry_set_new ?_⟩))
  rw [Around.under_plainId F.plain_set_new _]
  unfold Builtin.«set.__new__» Builtin.Frozenset.newClass
  have hsub := sub_set_self
  obtain ⟨hp, g, d, tk, os⟩ := s
  dsimp only
  wp_walk
  refine wpAny_askSetting (wpAny_pure ?_)
  dsimp only
  simp only [newObj]
  refine wpAny_bind (wpAny_alloc (wpAny_pure ?_))
  exact wpAny_pure h
theorem set_new_0 {led : Bool} (hled : led = !(w.params.followText "set-order")) {Q₁ : Value → Shared → Prop}
    (h : Q₁ (.ref s.heap.objs.size) { s with heap := s.heap.push { cls := .type "set", dict := none, data := .set #[] 0 (.fresh 0 0 led) } }) :
    codeAny (model prog w) A (.call (.builtin "set.__new__") ⟨[.type "set"], []⟩) (wants Q₁ E) s := by
  subst hled
  refine codeAny_of_tree ?_
  show wpAny _ A.in1 (do checkBuiltinCall "set.__new__" ⟨[.type "set"], []⟩; again (.builtin "set.__new__" ⟨[.type "set"], []⟩)) _ _ s
  refine wpAny_bind (wpAny_of_eq F.newCall_set_0 (wpAny_pure ⟨plainId_quiet F.plain_set_new _, codeAny_builtin F.entry_set_new ?_⟩))
  rw [Around.under_plainId F.plain_set_new _]
  unfold Builtin.«set.__new__» Builtin.Frozenset.newClass
  have hsub := sub_set_self
  obtain ⟨hp, g, d, tk, os⟩ := s
  dsimp only
  wp_walk
  refine wpAny_askSetting (wpAny_pure ?_)
  dsimp only
  simp only [newObj]
  refine wpAny_bind (wpAny_alloc (wpAny_pure ?_))
  exact wpAny_pure h

set_option maxHeartbeats 1000000 in
theorem call_set_gen {args : List Value} {led : Bool} {Q : Value → Shared → Prop} (hct : checkTypeCall "set" ⟨args, []⟩ = pure ())
    (hnew : codeAny (model prog w) A.in1 (.call (.builtin "set.__new__") ⟨.type "set" :: args, []⟩) (wants (fun obj s₁ => obj = .ref s.heap.objs.size ∧ s₁ = { s with heap := s.heap.push { cls := .type "set", dict := none, data := .set #[] 0 (.fresh 0 0 led) } }) E) s)
    (hchk : ∀ (s₁ : Shared) (E₁ : Value → Shared → Prop) (Q₁ : Unit → Shared → Prop), s₁.TypeIs (.ref s.heap.objs.size) "set" → Q₁ () s₁ → wpAny (model prog w) A.in1.in1 (checkBuiltinCall "set.__init__" ⟨.ref s.heap.objs.size :: args, []⟩) Q₁ E₁ s₁)
    (hinit : ∀ E₁ : Value → Shared → Prop, wpAny (model prog w) A.in1.in1 (Builtin.«set.__init__» ⟨.ref s.heap.objs.size :: args, []⟩) (fun fin s' => fin = .done (.ret .none) ∧ Q (.ref s.heap.objs.size) s') E₁ { s with heap := s.heap.push { cls := .type "set", dict := none, data := .set #[] 0 (.fresh 0 0 led) } }) :
    wpAny (model prog w) A (call (.type "set") args) Q E s := by
  obtain ⟨c, tl, hmro⟩ := F.called_set.mro
  have hmade := F.called_set.made
  have hsub := F.called_set.sub
  refine wpAny_call (codeAny_of_tree ?_)
  show wpAny _ _ (callAny (.type "set") _) _ _ _
  refine wpAny_pure ⟨Code.quiet_builtin _ (by decide +kernel), codeAny_builtin F.entry_type_call ?_⟩
  rw [Around.under_plain (weight_type_call_type "set" args []) rfl]
  have h1 := F.called_set.notType
  have h2 := F.called_set.canCreate
  repeat (any_goals (first | assumption | wp_step))
  refine codeAny_mono hnew fun r s₁ hr => ?_
  cases r with
  | error e => exact hr
  | ok fl =>
    cases fl with
    | ret obj =>
      obtain ⟨rfl, rfl⟩ := hr
      have hS : (s.heap.push { cls := .type "set", dict := none, data := .set #[] 0 (.fresh 0 0 led) }).get? s.heap.objs.size = some { cls := .type "set", dict := none, data := .set #[] 0 (.fresh 0 0 led) } := Heap.get?_push_size _ rfl
      have hT : Shared.TypeIs { s with heap := s.heap.push { cls := .type "set", dict := none, data := .set #[] 0 (.fresh 0 0 led) } } (.ref s.heap.objs.size) "set" := ⟨_, hS, rfl⟩
      have hli := F.called_set.init.lookup
      have hbi := F.called_set.init.bind (.ref s.heap.objs.size)
      repeat (any_goals (first | assumption | wp_step))
      refine codeAny_mono (codeAny_call_builtin (R := wants (fun r s₂ => r = .none ∧ Q (.ref s.heap.objs.size) s₂) E) F.called_set.init.plain F.entry_set_init (hchk _ _ _ hT ?_)) fun r₂ s₂ hr₂ => ?_
      · refine wpAny_mono (hinit _) (fun fin s' ⟨e, q⟩ => ?_) fun _ _ x => x
        subst e
        exact ⟨rfl, q⟩
      · cases r₂ with
        | error e => exact hr₂
        | ok fl₂ =>
          cases fl₂ with
          | ret r =>
            obtain ⟨rfl, hr₂⟩ := hr₂
            repeat (any_goals (first | assumption | wp_step))
          | _ => exact hr₂.elim
    | _ => exact hr.elim

theorem call_set_none {Q : Value → Shared → Prop} (h : Q (.ref s.heap.objs.size) { s with heap := s.heap.push { cls := .type "set", dict := none, data := .set #[] 0 (.fresh 0 0 (!(w.params.followText "set-order"))) } }) :
    wpAny (model prog w) A (call (.type "set") []) Q E s := by
  refine call_set_gen F.typeCall_set_0 (set_new_0 rfl ⟨rfl, rfl⟩) (fun s₁ E₁ Q₁ hT q => check_set_init hT q) fun E₁ => ?_
  unfold Builtin.«set.__init__» noKeywords
  generalize (!(w.params.followText "set-order")) = led at h ⊢
  have hS : (s.heap.push { cls := .type "set", dict := none, data := .set #[] 0 (.fresh 0 0 led) }).get? s.heap.objs.size = some { cls := .type "set", dict := none, data := .set #[] 0 (.fresh 0 0 led) } := Heap.get?_push_size _ rfl
  have hT : Shared.TypeIs { s with heap := s.heap.push { cls := .type "set", dict := none, data := .set #[] 0 (.fresh 0 0 led) } } (.ref s.heap.objs.size) "set" := ⟨_, hS, rfl⟩
  wp_walk
  exact ⟨rfl, h⟩

theorem updateFrom_list {S l : Addr} {items : Array Value} {ns vs : List Int} {o : Obj} {nm : String} {Q : Unit → Shared → Prop} (hh : A.handled = none) (ho : s.heap.get? S = some o) (hc : CanSet w o vs) (hl : s.heap.IsList l items) (hi : PyProof.Rows.IntsAre items.toList ns)
    (h7 : ∀ k ∈ ns, k ∈ seven)
    (h : ∀ (h' : Heap) (tk : Nat) (o' : Obj), (∀ b o, b ≠ S → s.heap.get? b = some o → h'.get? b = some o) → h'.get? S = some o' → CanSet w o' (insAll ns vs) → Q () { s with heap := h', toks := tk }) :
    wpAny (model prog w) A (Builtin.Frozenset.updateFrom nm S (.ref l)) Q E s := by
  have hlS : l ≠ S := fun e => by
    subst e
    obtain ⟨o', ho', hcl, _⟩ := hl
    rw [ho] at ho'; cases ho'
    obtain ⟨es, ep, rfl, _⟩ := hc
    exact absurd hcl (by simp)
  obtain ⟨ol, hol, hcl, nl, hdl⟩ := id hl
  have hsls := F.sub_list_set
  have hslf := F.sub_list_frozenset
  have hTl : s.TypeIs (.ref l) "list" := ⟨ol, hol, hcl⟩
  have hne : (Value.type "list" == Value.type "dict") = false := by decide
  unfold Builtin.Frozenset.updateFrom Builtin.Frozenset.isAnySet
  generalize hPI : pyIter = PI
  wp_walk
  subst hPI
  refine wpAny_pyIter_list hl ?_
  refine wpAny_bind (wpAny_runValue ?_)
  have hneI : l ≠ s.heap.objs.size := Nat.ne_of_lt (Heap.lt_size hol)
  have hSI : S ≠ s.heap.objs.size := Nat.ne_of_lt (Heap.lt_size ho)
  have hval : ∀ (i : Nat) (v : Value), items[i]? = some v → ∃ t, v = .int (ns.getD i 0) t := fun i v hv =>
    PyProof.Rows.IntsAre.int_at hi i v (by rw [Array.getElem?_toList]; exact hv)
  have hlen : ns.length = items.size := by have := PyProof.Rows.IntsAre.length hi; rw [← this]; simp
  refine update_loop (Walks.list (A := A.in1) hh _ l hneI items) S (by simp only [List.mem_cons, List.not_mem_nil, or_false, not_or]; exact ⟨hSI, fun e => hlS e.symm⟩) ns hlen hval h7 (items.size - 0) 0 _ vs o (by omega) (Nat.zero_le _)
    ⟨⟨_, Heap.get?_push_size _ rfl, rfl, rfl⟩, hl.push _⟩ (Heap.get?_push_of_some _ ho) hc fun h' tk o' hk ho' hc' => ?_
  show wpAny _ _ (pure _) _ _ _
  refine wpAny_pure (h h' tk o' (fun b o hb e => hk b o (fun hm => ?_) (Heap.get?_push_of_some _ e)) ho' hc')
  rcases List.mem_cons.mp hm with q | q
  · exact hb q
  · rw [List.mem_singleton] at q
    have := Heap.lt_size e
    rw [q] at this
    exact Nat.lt_irrefl _ this
end
end Mine
end
section
set_option autoImplicit false
set_option linter.unusedVariables false
set_option maxRecDepth 100000
namespace Mine

theorem entry_set_iter : entryFor table "set.__iter__" = some Builtin.«frozenset.__iter__» :=
  entryFor_alias (id' := "frozenset.__iter__") (by kernel_rfl) rfl (by decide +kernel) (by kernel_rfl)
theorem slot_si_next : Slot "set_iterator" "__next__" "set_iterator.__next__" :=
  .of (owner := "set_iterator") (n := "__next__") (by rw [typeLookup_type, builtinLookup_eq_fast]; kernel_rfl) (by decide +kernel) (by decide +kernel) (by decide +kernel)
    (by first | exact .inl (by decide +kernel) | exact .inr (by decide +kernel)) (by rw [isSubtype_type]; kernel_rfl)
theorem entry_si_next : entryFor table "set_iterator.__next__" = some Builtin.«set_iterator.__next__» := entryFor_of_tree (by kernel_rfl)
theorem owner_si : Manifest.owners.lookup (String.ofList ['r', 'o', 't', 'a', 'r', 'e', 't', 'i', '_', 't', 'e', 's'].reverse) = some Manifest.sig_set_iterator := by kernel_rfl
theorem args_si_next (a : Value) : argsOk "set_iterator.__next__" ⟨[a], []⟩ := by
  unfold argsOk; rw [signature?_of (id := "set_iterator.__next__") (n := ['_', '_', 't', 'x', 'e', 'n', '_', '_']) (o := ['r', 'o', 't', 'a', 'r', 'e', 't', 'i', '_', 't', 'e', 's']) (by kernel_rfl) owner_si]; kernel_rfl
theorem slot_si_iter : ∃ id, Slot "set_iterator" "__iter__" id ∧ entryFor table id = some (Builtin.«set_iterator.__next__») ∨ True := ⟨"", .inr trivial⟩

section
variable {prog : Program} {w : World} {A : Around} {E : Value → Shared → Prop} {s : Shared}
theorem call_set_of {l : Addr} {items : Array Value} {ns : List Int} {Q : Value → Shared → Prop} (hh : A.handled = none) (hl : s.heap.IsList l items) (hi : PyProof.Rows.IntsAre items.toList ns) (h7 : ∀ k ∈ ns, k ∈ seven)
    (h : ∀ (h' : Heap) (tk : Nat) (o' : Obj), (∀ b o, s.heap.get? b = some o → h'.get? b = some o) → h'.get? s.heap.objs.size = some o' → CanSet w o' (insAll ns []) → Q (.ref s.heap.objs.size) { s with heap := h', toks := tk }) :
    wpAny (model prog w) A (call (.type "set") [.ref l]) Q E s := by
  refine call_set_gen (F.typeCall_set_1 _) (set_new_1 _ rfl ⟨rfl, rfl⟩) (fun s₁ E₁ Q₁ hT q => check_set_init_1 hT q) fun E₁ => ?_
  have hcan := canSet_fresh w
  generalize (!(w.params.followText "set-order")) = led at hcan ⊢
  have hS : (s.heap.push { cls := .type "set", dict := none, data := .set #[] 0 (.fresh 0 0 led) }).get? s.heap.objs.size = some { cls := .type "set", dict := none, data := .set #[] 0 (.fresh 0 0 led) } := Heap.get?_push_size _ rfl
  have hT : Shared.TypeIs { s with heap := s.heap.push { cls := .type "set", dict := none, data := .set #[] 0 (.fresh 0 0 led) } } (.ref s.heap.objs.size) "set" := ⟨_, hS, rfl⟩
  unfold Builtin.«set.__init__» noKeywords
  generalize hU : Builtin.Frozenset.updateFrom = U
  wp_walk
  subst hU
  refine updateFrom_list (s := { s with heap := s.heap.push { cls := .type "set", dict := none, data := .set #[] 0 (.fresh 0 0 led) } }) (by simp [hh]) hS hcan (hl.push _) hi h7 fun h' tk o' hk ho' hc' => ?_
  refine wpAny_pure ?_
  exact ⟨rfl, h h' tk o' (fun b o e => hk b o (Nat.ne_of_lt (Heap.lt_size e)) (Heap.get?_push_of_some _ e)) ho' hc'⟩
theorem set_update_method {S : Addr} {o : Obj} {vs : List Int} {pl : Sem Bool} {Q : Value × List Value → Shared → Prop} (ho : s.heap.get? S = some o) (hc : CanSet w o vs) (h : Q (.builtin "set.update", [.ref S]) s) :
    wpAny (model prog w) A (getMethod (.ref S) "update" pl) Q E s := by
  obtain ⟨es, ep, rfl, _⟩ := hc
  exact getMethod_builtin ⟨_, ho, rfl⟩ F.plainAttrs_set F.slot_set_update F.type_set_update (fun b e => by injection e with e; subst e; exact ⟨_, ho, rfl⟩) h
theorem call_set_update {S l : Addr} {items : Array Value} {ns vs : List Int} {o : Obj} {Q : Value → Shared → Prop} (hh : A.handled = none) (ho : s.heap.get? S = some o) (hc : CanSet w o vs) (hl : s.heap.IsList l items) (hi : PyProof.Rows.IntsAre items.toList ns)
    (h7 : ∀ k ∈ ns, k ∈ seven)
    (h : ∀ (h' : Heap) (tk : Nat) (o' : Obj), (∀ b o, b ≠ S → s.heap.get? b = some o → h'.get? b = some o) → h'.get? S = some o' → CanSet w o' (insAll ns vs) → Q .none { s with heap := h', toks := tk }) :
    wpAny (model prog w) A (call (.builtin "set.update") [.ref S, .ref l]) Q E s := by
  have hT : s.TypeIs (.ref S) "set" := by obtain ⟨es, ep, rfl, _⟩ := id hc; exact ⟨_, ho, rfl⟩
  refine wpAny_call_entry F.slot_set_update hT F.entry_set_update ?_ (F.args_set_update_2 _ _)
  unfold Builtin.«set.update» Builtin.Frozenset.manyOthers
  generalize hU : Builtin.Frozenset.updateFrom = U
  wp_walk
  subst hU
  refine updateFrom_list (by simp [hh]) ho hc hl hi h7 fun h' tk o' hk ho' hc' => ?_
  refine wpAny_pure ?_
  show wpAny _ _ (pure _) _ _ _
  refine wpAny_pure ?_
  exact wpAny_pure ⟨_, rfl, h h' tk o' hk ho' hc'⟩
end
end Mine
end
section
set_option autoImplicit false
set_option linter.unusedVariables false
set_option maxRecDepth 100000
namespace Mine

noncomputable def SIt (h : Heap) (I a : Addr) (slot i n ep : Nat) : Prop := ∃ o, h.get? I = some o ∧ o.cls = .type "set_iterator" ∧ o.data = .fields #[.int slot 0, .int i 0, .ref a, .int n 0, .int ep 0]
theorem SIt.typeIs {s : Shared} {I a : Addr} {slot i n ep : Nat} (x : SIt s.heap I a slot i n ep) : s.TypeIs (.ref I) "set_iterator" := let ⟨o, ho, hc, _⟩ := x; ⟨o, ho, hc⟩

section
variable {prog : Program} {w : World} {A : Around} {E : Value → Shared → Prop} {s : Shared} {a : Addr} {es : Array (Int × Value)} {ep : Nat} {vs : List Int} {led : Bool}

noncomputable abbrev setO (es : Array (Int × Value)) (ep : Nat) (vs : List Int) (led : Bool) : Obj := { cls := .type "set", dict := none, data := .set es ep (canT vs led) }

theorem set_state {Q : (Array (Int × Value) × Nat × SetTable) → Shared → Prop} (ho : s.heap.get? a = some (setO es ep vs led)) (hs : vs ∈ subs seven) (hm : es.toList.map (·.1) = vs) (h : Q (es, ep, canT vs led) s) : wpAny (model prog w) A (setState a) Q E s := by
  have hsz : es.size = vs.length := by rw [← hm]; simp
  exact wpAny_setState_of ho rfl (by rw [hsz]; exact (chkWalk_at hs).2.1 led) h
theorem byText_is {Q : Bool → Shared → Prop} (h : Q (w.params.followText "set-order") s) : wpAny (model prog w) A setsByText Q E s := by
  unfold setsByText
  exact wpAny_bind (wpAny_askSetting (wpAny_pure h))
theorem set_drawn {Q : Bool → Shared → Prop} (ho : s.heap.get? a = some (setO es ep vs led)) (hs : vs ∈ subs seven) (hm : es.toList.map (·.1) = vs) (h : Q false s) : wpAny (model prog w) A (setDrawn a) Q E s := by
  unfold setDrawn
  refine wpAny_bind (set_state ho hs hm ?_)
  dsimp only
  refine wpAny_bind (byText_is ?_)
  refine wpAny_pure ?_
  have : (canT vs led).plain = true := rfl
  generalize w.params.followText "set-order" = b
  cases b <;> exact h

theorem pyIter_set {Q : Value → Shared → Prop} (ho : s.heap.get? a = some (setO es ep vs led)) (hs : vs ∈ subs seven) (hm : es.toList.map (·.1) = vs)
    (h : Q (.ref s.heap.objs.size) { s with heap := s.heap.push { cls := .type "set_iterator", data := .fields #[.int 0 0, .int 0 0, .ref a, .int vs.length 0, .int ep 0] } }) : wpAny (model prog w) A (pyIter (.ref a)) Q E s := by
  have hT : s.TypeIs (.ref a) "set" := ⟨_, ho, rfl⟩
  have hsz : es.size = vs.length := by rw [← hm]; simp
  refine wpAny_pyIter_slot hT F.slot_set_iter (wpAny_call_entry F.slot_set_iter hT entry_set_iter ?_ (F.args_set_iter_1 _))
  unfold Builtin.«frozenset.__iter__» Builtin.Frozenset.slot0 slotArgs
  simp only [List.isEmpty_nil, Bool.not_true, Bool.false_eq_true, ↓reduceIte, bind_assoc, List.length_nil, bne_self_eq_false]
  unfold Builtin.Frozenset.addrOf Builtin.Frozenset.sizeOf
  refine wpAny_bind (wpAny_pure ?_)
  try dsimp only
  refine wpAny_bind (wpAny_pure ?_)
  refine wpAny_bind (wpAny_bind (wpAny_bind (set_state ho hs hm (wpAny_pure ?_))))
  refine wpAny_pure ?_
  refine wpAny_bind (set_drawn ho hs hm ?_)
  simp only [Bool.false_eq_true, ↓reduceIte]
  refine wpAny_bind (wpAny_pure ?_)
  unfold setEpoch
  refine wpAny_bind (wpAny_bind (set_state ho hs hm (wpAny_pure ?_)))
  dsimp only
  unfold newFields
  refine wpAny_bind (wpAny_newObj_type ?_)
  refine wpAny_pure ⟨_, rfl, "set_iterator", _, ⟨_, Heap.get?_push_size _ rfl, rfl⟩, slot_si_next.lookup, ?_⟩
  simpa [rawInt, hsz] using h

noncomputable def ordS (w : World) (a : Addr) (ep : Nat) (es : Array (Int × Value)) : Array (Int × Value) := if w.params.followText "set-order" = true then pickOrder (w.params.setOrder a ep) es else es
noncomputable def slS (w : World) (vs : List Int) (i : Nat) : Nat := if w.params.followText "set-order" = true then 0 else slotAt vs i
theorem ordS_perm : (ordS w a ep es).toList.Perm es.toList := by
  unfold ordS
  split
  · exact pickOrder_perm _ _
  · exact List.Perm.refl _
theorem slS_zero : slS w vs 0 = 0 := by unfold slS slotAt; split <;> rfl
theorem set_walk {Q : Array (Int × Value) → Shared → Prop} (ho : s.heap.get? a = some (setO es ep vs led)) (hs : vs ∈ subs seven) (hm : es.toList.map (·.1) = vs) (ht : w.params.followText "set-order" = true) (h : Q (ordS w a ep es) s) : wpAny (model prog w) A (setWalk a) Q E s := by
  unfold setWalk
  refine wpAny_bind (set_state ho hs hm ?_)
  dsimp only
  refine wpAny_bind (byText_is ?_)
  rw [ht]
  simp only [↓reduceIte]
  refine wpAny_bind (wpAny_askSetting (wpAny_pure ?_))
  unfold ordS at h
  rw [if_pos ht] at h
  exact h
theorem set_next {i : Nat} {Q : Option (Value × Nat) → Shared → Prop} (ho : s.heap.get? a = some (setO es ep vs led)) (hs : vs ∈ subs seven) (hm : es.toList.map (·.1) = vs) (hled : led = !(w.params.followText "set-order")) (hi : i ≤ vs.length)
    (h : Q (((ordS w a ep es)[i]?).map fun e => (e.2, slS w vs (i + 1))) s) : wpAny (model prog w) A (setNext a (slS w vs i) i ep) Q E s := by
  unfold setNext
  refine wpAny_bind (set_state ho hs hm ?_)
  dsimp only
  refine wpAny_bind (byText_is ?_)
  cases ht : w.params.followText "set-order" with
  | true =>
    simp only [↓reduceIte, bne_self_eq_false, Bool.false_eq_true]
    refine wpAny_bind (set_walk ho hs hm ht (wpAny_pure ?_))
    unfold slS at h ⊢
    simp only [ht, ↓reduceIte] at h ⊢
    exact h
  | false =>
    rw [ht] at hled
    simp only [Bool.not_false] at hled
    subst hled
    simp only [Bool.false_eq_true, ↓reduceIte]
    unfold ordS slS at h
    unfold slS
    simp only [ht, Bool.false_eq_true, ↓reduceIte] at h ⊢
    refine wpAny_bind (wpAny_pure ?_)
    have hb : SetTable.below (canT vs true).place (slotAt vs i) = i := by
      have c := (chkWalk_at hs).1
      unfold chkWalk at c
      have := List.all_eq_true.mp c i (by simp; omega)
      exact eq_of_beq this
    rw [hb]
    have hpl : (canT vs true).place[i]? = (vs[i]?).map Int.toNat := by
      show ((vs.map Int.toNat).toArray)[i]? = _
      simp
    have hes : es[i]?.map (·.1) = vs[i]? := by
      rw [← hm, ← Array.getElem?_toList]; simp
    rw [hpl, ← hes]
    refine wpAny_pure ?_
    cases he : es[i]? with
    | none => rw [he] at h; simpa using h
    | some e =>
      rw [he] at h
      have hv : vs[i]? = some e.1 := by rw [← hes, he]; rfl
      have : slotAt vs (i + 1) = e.1.toNat + 1 := by
        show (vs.getD i 0).toNat + 1 = _
        rw [List.getD_eq_getElem?_getD, hv]; rfl
      rw [this] at h
      simpa using h

theorem pyNext_set_item {I : Addr} {i : Nat} {x : Int × Value} {Q : Option Value → Shared → Prop} (hit : SIt s.heap I a (slS w vs i) i vs.length ep) (ho : s.heap.get? a = some (setO es ep vs led)) (hs : vs ∈ subs seven) (hm : es.toList.map (·.1) = vs)
    (hled : led = !(w.params.followText "set-order")) (hi : i < vs.length) (hx : (ordS w a ep es)[i]? = some x)
    (hQ : ∀ h', SIt h' I a (slS w vs (i + 1)) (i + 1) vs.length ep → Heap.SameBut I s.heap h' → Q (some x.2) { s with heap := h' }) : wpAny (model prog w) A (pyNext (.ref I)) Q E s := by
  obtain ⟨o, hI, hc, hd⟩ := id hit
  have hsz : es.size = vs.length := by rw [← hm]; simp
  unfold pyNext
  refine wpAny_bind (wpAny_attempt (wpAny_callSpecial?_slot (name := Str.ofString "__next__") hit.typeIs slot_si_next
    (wpAny_call_entry slot_si_next hit.typeIs entry_si_next ?_ (args_si_next _))))
  unfold Builtin.«set_iterator.__next__» slotArgs
  simp only [List.isEmpty_nil, Bool.not_true, Bool.false_eq_true, ↓reduceIte, List.length_nil, bne_self_eq_false]
  refine wpAny_bind (wpAny_pure ?_)
  try dsimp only
  refine wpAny_bind (wpAny_fieldsOf hI hd ?_)
  dsimp only
  refine wpAny_bind (wpAny_setEntries_of ho rfl (by rw [hsz]; exact (chkWalk_at hs).2.1 led) ?_)
  rw [if_neg (by rw [hsz]; simp)]
  try dsimp only
  simp only [Int.toNat_natCast]
  refine wpAny_bind (set_next ho hs hm hled (Nat.le_of_lt hi) ?_)
  rw [hx]
  dsimp only [Option.map]
  show wpAny _ _ (setField (.ref I) 0 (rawInt _) >>= _) _ _ s
  refine wpAny_bind (wpAny_setField hI hd (by simp) ?_)
  have hI1 : (s.heap.update I (Obj.mapFields (·.setIfInBounds 0 (rawInt (slS w vs (i + 1) : Nat))))).get? I = some (Obj.mapFields (·.setIfInBounds 0 (rawInt (slS w vs (i + 1) : Nat))) o) := Heap.get?_update_self _ hI (Obj.isFreed_of_fields (Obj.data_mapFields hd _))
  have hd1 : (Obj.mapFields (·.setIfInBounds 0 (rawInt (slS w vs (i + 1) : Nat))) o).data = .fields #[.int (slS w vs (i + 1)) 0, .int i 0, .ref a, .int vs.length 0, .int ep 0] := by rw [Obj.data_mapFields hd]; simp [rawInt]
  refine wpAny_bind (wpAny_setField hI1 hd1 (by simp) ?_)
  refine wpAny_pure ⟨_, rfl, wpAny_pure (hQ _ ⟨_, Heap.get?_update_self _ hI1 (Obj.isFreed_of_fields (Obj.data_mapFields hd1 _)), (Obj.cls_mapFields ..).trans ((Obj.cls_mapFields ..).trans hc), ?_⟩ ((Heap.SameBut.update ..).trans (Heap.SameBut.update ..)))⟩
  rw [Obj.data_mapFields hd1]; simp [rawInt]

theorem pyNext_set_end {I : Addr} {Q : Option Value → Shared → Prop} (hh : A.handled = none) (hit : SIt s.heap I a (slS w vs vs.length) vs.length vs.length ep) (ho : s.heap.get? a = some (setO es ep vs led)) (hs : vs ∈ subs seven) (hm : es.toList.map (·.1) = vs)
    (hled : led = !(w.params.followText "set-order"))
    (hQ : ∀ h', Heap.ExtBut I s.heap h' → Q none { s with heap := h' }) : wpAny (model prog w) A (pyNext (.ref I)) Q E s := by
  obtain ⟨o, hI, hc, hd⟩ := id hit
  have hsz : es.size = vs.length := by rw [← hm]; simp
  have hx : (ordS w a ep es)[vs.length]? = none := by
    have := (ordS_perm (w := w) (a := a) (ep := ep) (es := es)).length_eq
    rw [Array.length_toList, Array.length_toList, hsz] at this
    exact Array.getElem?_eq_none (by omega)
  unfold pyNext
  refine wpAny_bind (wpAny_attempt (wpAny_callSpecial?_slot (name := Str.ofString "__next__") hit.typeIs slot_si_next
    (wpAny_call_entry slot_si_next hit.typeIs entry_si_next ?_ (args_si_next _))))
  unfold Builtin.«set_iterator.__next__» slotArgs
  simp only [List.isEmpty_nil, Bool.not_true, Bool.false_eq_true, ↓reduceIte, List.length_nil, bne_self_eq_false]
  refine wpAny_bind (wpAny_pure ?_)
  try dsimp only
  refine wpAny_bind (wpAny_fieldsOf hI hd ?_)
  dsimp only
  refine wpAny_bind (wpAny_setEntries_of ho rfl (by rw [hsz]; exact (chkWalk_at hs).2.1 led) ?_)
  rw [if_neg (by rw [hsz]; simp)]
  try dsimp only
  simp only [Int.toNat_natCast]
  refine wpAny_bind (set_next ho hs hm hled (Nat.le_refl _) ?_)
  rw [hx]
  dsimp only [Option.map]
  show wpAny _ _ (setField (.ref I) 2 .none >>= _) _ _ s
  refine wpAny_bind (wpAny_setField hI hd (by simp) ?_)
  show wpAny _ _ (newExc (.type "StopIteration") [] >>= _) _ _ _
  refine wpAny_bind ?_
  simp only [newExc, newTuple]
  refine wpAny_bind (wpAny_newObj_type ?_ (by size_fits))
  refine wpAny_bind (m := firstArgMember _ _) (wpAny_of_eq (a := Value.none) (by first | rfl | (simp only [firstArgMember]; rfl)) ?_)
  refine wpAny_newObj_type ?_ (by size_fits)
  simp only [raiseNew]
  refine wpAny_bind (wpAny_handled ?_)
  rw [show A.in1.handled = none from hh]
  refine wpAny_bind (wpAny_pure (wpAny_throw ?_))
  refine wpAny_bind (wpAny_isInstance (T := "StopIteration") (b := true) ⟨_, Heap.get?_push_size _ rfl, rfl⟩ isSubtype_stop ?_)
  exact wpAny_pure (hQ _ (((Heap.SameBut.update ..).extBut.push _).push _))
end
end Mine
end
section
set_option autoImplicit false
set_option linter.unusedVariables false
set_option maxRecDepth 100000
namespace Mine

theorem slot_si_iter' : Slot "set_iterator" "__iter__" "set_iterator.__iter__" :=
  .of (owner := "set_iterator") (n := "__iter__") (by rw [typeLookup_type, builtinLookup_eq_fast]; kernel_rfl) (by decide +kernel) (by decide +kernel) (by decide +kernel)
    (by first | exact .inl (by decide +kernel) | exact .inr (by decide +kernel)) (by rw [isSubtype_type]; kernel_rfl)
theorem entry_si_iter : entryFor table "set_iterator.__iter__" = some Builtin.«dict_keyiterator.__iter__» :=
  entryFor_alias (id' := "dict_keyiterator.__iter__") (by kernel_rfl) rfl (by decide +kernel) (by kernel_rfl)
theorem args_si_iter (a : Value) : argsOk "set_iterator.__iter__" ⟨[a], []⟩ := by
  unfold argsOk; rw [signature?_of (id := "set_iterator.__iter__") (n := ['_', '_', 'r', 'e', 't', 'i', '_', '_']) (o := ['r', 'o', 't', 'a', 'r', 'e', 't', 'i', '_', 't', 'e', 's']) (by kernel_rfl) owner_si]; kernel_rfl

section
variable {prog : Program} {w : World} {A : Around} {E : Value → Shared → Prop} {s : Shared} {a : Addr} {es : Array (Int × Value)} {ep : Nat} {vs : List Int} {led : Bool}
theorem pyIter_si {I : Addr} {slot i n ep : Nat} {Q : Value → Shared → Prop} (hit : SIt s.heap I a slot i n ep) (h : Q (.ref I) s) : wpAny (model prog w) A (pyIter (.ref I)) Q E s := by
  refine wpAny_pyIter_slot hit.typeIs slot_si_iter' (wpAny_call_entry slot_si_iter' hit.typeIs entry_si_iter ?_ (args_si_iter _))
  show wpAny _ _ (ret (.ref I)) _ _ s
  exact wpAny_pure ⟨_, rfl, "set_iterator", _, hit.typeIs, slot_si_next.lookup, h⟩
theorem SIt.at' {h h' : Heap} {I a : Addr} {slot i n ep : Nat} (x : SIt h I a slot i n ep) (e : ∀ o, h.get? I = some o → h'.get? I = some o) : SIt h' I a slot i n ep := let ⟨o, ho, r⟩ := x; ⟨o, e _ ho, r⟩

theorem walks_set (hh : A.handled = none) (I : Addr) (hne : a ≠ I) (hs : vs ∈ subs seven) (hm : es.toList.map (·.1) = vs) (hled : led = !(w.params.followText "set-order")) :
    Walks prog w A I [I, a] [I] vs.length (fun i v => ∃ x, (ordS w a ep es)[i]? = some x ∧ v = x.2) (fun i h => SIt h I a (slS w vs i) i vs.length ep ∧ h.get? a = some (setO es ep vs led)) where
  sub := fun b hb => by simp at hb; simp [hb]
  frame := fun _ _ _ st hk => ⟨st.1.at' fun o e => hk I (by simp) o e, hk a (by simp) _ st.2⟩
  item := fun i s Q E hi st hQ => by
    have hsz : es.size = vs.length := by rw [← hm]; simp
    have hl : (ordS w a ep es).size = vs.length := by
      have := (ordS_perm (w := w) (a := a) (ep := ep) (es := es)).length_eq
      rw [Array.length_toList, Array.length_toList, hsz] at this
      exact this
    have hx : (ordS w a ep es)[i]? = some (ordS w a ep es)[i] := Array.getElem?_eq_getElem (by omega)
    refine pyNext_set_item st.1 st.2 hs hm hled hi hx fun h' hit' hs' => ?_
    exact hQ _ h' s.toks ⟨_, hx, rfl⟩ ⟨hit', hs'.extBut a _ hne st.2⟩ fun b o hb e => hs'.extBut b o (fun h => hb (by simp [h])) e
  done := fun s Q E st hQ => pyNext_set_end hh st.1 st.2 hs hm hled fun h' he' => hQ h' s.toks fun b o hb e => he' b o (fun h => hb (by simp [h])) e
  self := fun _ _ _ _ st hQ => pyIter_si st.1 hQ

theorem hint_set {Q : Bool → Shared → Prop} {r : Addr} (hT : s.TypeIs (.ref r) "set") (h : Q false s) : wpAny (model prog w) A (Builtin.List.listLengthHint (.ref r)) Q E s := by
  unfold Builtin.List.listLengthHint
  refine wpAny_bind (wpAny_specialOf hT PySem.F.slot_set_len.lookup ?_)
  generalize hid : ("set.__len__" : String) = id0
  wp_delta
  rw [show splitId id0 = some ("set", "__len__") from by subst hid; decide +kernel]
  subst hid
  refine wpAny_bind (wpAny_isInstance (T := "set") (b := true) hT (by rw [isSubtype_type]; kernel_rfl) ?_)
  refine wpAny_ite_split (fun hab => absurd hab (by decide)) (fun _ => ?_)
  refine wpAny_ite_split (fun _ => ?_) (fun hab => absurd (by decide +kernel) hab)
  refine wpAny_bind (wpAny_typeOf hT ?_)
  exact wpAny_pure h

theorem src_set (hs : vs ∈ subs seven) (hm : es.toList.map (·.1) = vs) (hled : led = !(w.params.followText "set-order")) :
    KdlSrc prog w "set" a a vs.length (fun i v => ∃ x, (ordS w a ep es)[i]? = some x ∧ v = x.2) (fun h => h.get? a = some (setO es ep vs led)) where
  type := fun _ ho => ⟨_, ho, rfl⟩
  there := fun _ ho => ⟨Heap.lt_size ho, Heap.lt_size ho⟩
  keep := fun _ _ ho hk => hk a (.inl rfl) _ ho
  notList := by decide
  notTuple := by decide
  hint := fun _ _ _ _ ho hq => hint_set ⟨_, ho, rfl⟩ hq
  iter := fun _ s hh ho => ⟨_, _, (fun _ _ hq => pyIter_set ho hs hm hq), walks_set hh _ (Nat.ne_of_lt (Heap.lt_size ho)) hs hm hled, ⟨⟨_, Heap.get?_push_size _ rfl, rfl, by rw [slS_zero]; rfl⟩, Heap.get?_push_of_some _ ho⟩⟩
end

theorem ints_of_at : ∀ {l : List (Int × Value)}, (∀ e ∈ l, ∃ tk, e.2 = .int e.1 tk) → IntsAre (l.map (·.2)) (l.map (·.1))
  | [], _ => .nil
  | e :: r, h => by
    obtain ⟨tk, ht⟩ := h e (.head _)
    rw [List.map_cons, List.map_cons, ht]
    exact .cons _ _ (ints_of_at fun x hx => h x (.tail _ hx))

section
variable {g : GC} {n : Nat} {k : Int} {Q : MV → Int → Prop}

theorem repL_ints {fz : Led} : ∀ {vs : List Value} {ns : List Int}, IntsAre vs ns → RepL g fz vs (ns.map .int)
  | _, _, .nil => .nil
  | _, _, .cons n t r => .cons (.int n t) (repL_ints r)
theorem ints_repL {fz : Led} : ∀ {vs : List Value} {ns : List Int}, RepL g fz vs (ns.map .int) → IntsAre vs ns
  | vs, [], h => by rw [RepL.nil_inv h]; exact .nil
  | vs, x :: r, h => by
    obtain ⟨v, vs', rfl, a, b⟩ := RepL.cons_inv h
    cases a with
    | int i t => exact .cons _ _ (ints_repL b)

theorem sort_tail {A : Around} {h₀ : Heap} {L : Addr} {m : Str → Option Value} {mt fz : Led} {s : Shared} {E : Value → Shared → Prop} {D : Addr} {vs : List Value} {ns : List Int} {c : Nat} {Q : Value → Shared → Prop}
    (S : Sta g h₀ L m ((D, listOf vs.toArray c) :: mt) k fz s.heap) (hi : IntsAre vs ns) (h64 : vs.length < 64)
    (h : ∀ h' vs' ns' c', Sta g h₀ L m ((D, listOf (vs' : List Value).toArray c') :: mt) k fz h' → IntsAre vs' ns' → ns'.Perm ns → ns'.Pairwise (· ≤ ·) → Q .none { s with heap := h' }) :
    wpAny (model g.prog g.w) A (call (.builtin "list.sort") [.ref D]) Q E s := by
  have ho := S.getM (p := (D, listOf vs.toArray c)) (.head _)
  refine wpAny_call_entry slot_list_sort ⟨_, ho, rfl⟩ entry_list_sort (list_sort_tree ho hi h64 fun out ns' a1 a2 a3 => ⟨_, rfl, ?_⟩) (args_list_sort _)
  obtain ⟨e, he⟩ := sortedHeap_at (vs := vs) (out := out) ho
  refine h _ out.toList ns' e ?_ a1 a2 a3
  refine Sta.turnM (pre := []) S (fun b o hb e => ?_) (by rw [Array.toArray_toList]; exact he)
  rw [sortedHeap_old hb (Heap.lt_size e)]
  exact e
end
end Mine
end
section
set_option autoImplicit false
set_option linter.unusedVariables false
set_option maxRecDepth 100000
namespace Mine

noncomputable def putM (es : List (Int × MV)) (k : Int) (m : MV) : List (Int × MV) :=
  if es.any (fun p => decide (p.1 = k)) = true then es.map (fun p => if p.1 = k then (p.1, m) else p) else es ++ [(k, m)]
noncomputable def dictM (ps : List (Int × MV)) : List (Int × MV) := ps.foldl (fun a p => putM a p.1 p.2) []

inductive RepD (g : GC) (fz : Led) : List (Int × Value) → List (Int × MV) → Prop
  | nil : RepD g fz [] []
  | cons {k : Int} {v : Value} {m : MV} {kvs : List (Int × Value)} {es : List (Int × MV)} : Rep g fz v m → RepD g fz kvs es → RepD g fz ((k, v) :: kvs) ((k, m) :: es)
section
variable {g : GC} {fz fz' : Led}
theorem RepD.keys {kvs : List (Int × Value)} {es : List (Int × MV)} (h : RepD g fz kvs es) : kvs.map (·.1) = es.map (·.1) := by
  induction h with
  | nil => rfl
  | cons _ _ ih => simp [ih]
theorem RepD.len {kvs : List (Int × Value)} {es : List (Int × MV)} (h : RepD g fz kvs es) : kvs.length = es.length := by
  have := congrArg List.length h.keys; simpa using this
theorem RepD.mono {kvs : List (Int × Value)} {es : List (Int × MV)} (hs : ∀ p ∈ fz, p ∈ fz') (h : RepD g fz kvs es) : RepD g fz' kvs es := by
  induction h with
  | nil => exact .nil
  | cons r _ ih => exact .cons (r.mono hs) ih
theorem RepD.idx {kvs : List (Int × Value)} {es : List (Int × MV)} (h : RepD g fz kvs es) : ∀ (i : Nat) (v : Value) (m : MV), (kvs[i]?).map (·.2) = some v → (es[i]?).map (·.2) = some m → Rep g fz v m := by
  induction h with
  | nil => intro i v m a _; simp at a
  | cons r _ ih =>
    intro i v m a b
    cases i with
    | zero => simp at a b; subst a; subst b; exact r
    | succ i => exact ih i v m (by simpa using a) (by simpa using b)
theorem RepD.of : ∀ {kvs : List (Int × Value)} {es : List (Int × MV)}, kvs.map (·.1) = es.map (·.1) → (∀ (i : Nat) (v : Value) (m : MV), (kvs[i]?).map (·.2) = some v → (es[i]?).map (·.2) = some m → Rep g fz v m) → RepD g fz kvs es
  | [], [], _, _ => .nil
  | [], _ :: _, h, _ => by simp at h
  | _ :: _, [], h, _ => by simp at h
  | (k, v) :: kvs, (k', m) :: es, h, hr => by
    simp only [List.map_cons, List.cons.injEq] at h
    obtain ⟨h1, h2⟩ := h

    subst h1
    exact .cons (hr 0 v m rfl rfl) (RepD.of h2 fun i v m a b => hr (i + 1) v m (by simpa using a) (by simpa using b))
theorem RepD.snoc {kvs : List (Int × Value)} {es : List (Int × MV)} {k : Int} {v : Value} {m : MV} (h : RepD g fz kvs es) (r : Rep g fz v m) : RepD g fz (kvs ++ [(k, v)]) (es ++ [(k, m)]) := by
  induction h with
  | nil => exact .cons r .nil
  | cons r' _ ih => exact .cons r' ih
theorem RepD.any {kvs : List (Int × Value)} {es : List (Int × MV)} (h : RepD g fz kvs es) (k : Int) : kvs.any (fun p => decide (p.1 = k)) = es.any (fun p => decide (p.1 = k)) := by
  induction h with
  | nil => rfl
  | cons _ _ ih => simp only [List.any_cons, ih]
theorem RepD.put {kvs : List (Int × Value)} {es : List (Int × MV)} {k : Int} {v : Value} {m : MV} (h : RepD g fz kvs es) (r : Rep g fz v m) : RepD g fz (stored kvs k v) (putM es k m) := by
  unfold stored putM
  rw [h.any]
  by_cases ha : es.any (fun p => decide (p.1 = k)) = true
  · rw [if_pos ha, if_pos ha]
    clear ha
    induction h with
    | nil => exact .nil
    | cons r' _ ih =>
      simp only [List.map_cons]
      rename_i k' v' m' kvs' es' _
      by_cases hk : k' = k
      · subst hk; simp only [if_true]; exact .cons r ih
      · simp only [hk, if_false]; exact .cons r' ih
  · rw [if_neg ha, if_neg ha]; exact h.snoc r
theorem RepD.at_ {kvs : List (Int × Value)} {es : List (Int × MV)} (h : RepD g fz kvs es) (k : Int) :
    (es.lookup k = none ∧ valueAt kvs k = none) ∨ ∃ m v, es.lookup k = some m ∧ valueAt kvs k = some v ∧ Rep g fz v m := by
  induction h with
  | nil => exact .inl ⟨rfl, rfl⟩
  | cons r _ ih =>
    rename_i k' v' m' kvs' es' _
    by_cases hk : k' = k
    · subst hk
      exact .inr ⟨m', v', by simp [List.lookup_cons], by simp [valueAt], r⟩
    · have h1 : (k == k') = false := by simpa using fun e => hk e.symm
      have e1 : ((k', m') :: es').lookup k = es'.lookup k := by rw [List.lookup_cons, h1]
      have e2 : valueAt ((k', v') :: kvs') k = valueAt kvs' k := by simp [valueAt, hk]
      rw [e1, e2]; exact ih
end

section
variable {prog : Program} {w : World} {A : Around} {E : Value → Shared → Prop} {s : Shared}

theorem keys_of_list {a : Addr} {xs : Array Value} {c : Nat} {Q : Option Value → Shared → Prop} (hx : s.heap.get? a = some (listOf xs c)) (hA : A.handled = none)
    (h : ∀ h' tk, (∀ b o, s.heap.get? b = some o → h'.get? b = some o) → Q none { s with heap := h', toks := tk }) : wpAny (model prog w) A (getAttr? (.ref a) "keys") Q E s := by
  obtain ⟨hp, gs, d, tk, os⟩ := s
  have hmiss : typeLookup (.type "list") "keys" = pure none := by rw [typeLookup_type, builtinLookup_eq_fast]; kernel_rfl
  have hT : ∀ tk', (⟨hp, gs, d, tk', os⟩ : Shared).TypeIs (.ref a) "list" := fun _ => ⟨_, hx, rfl⟩
  have f1 := sub_AttributeError
  have f3 := F.slot_list_getattribute.lookup
  have f4 := F.slot_list_getattribute.bind (.ref a)
  have f5 := am_list_getattr_none
  unfold getAttr? getAttrBy? getAttrBy
  repeat (any_goals (first | assumption | exact hT _ | ((with_reducible show wpAny _ _ (call (Value.builtin "list.__getattribute__") _ _) _ _ _); refine call_meets F.slot_list_getattribute (hT _) am_entry_list_getattribute (F.args_list_getattribute_2 _ _) (meets_getattribute_miss_list a xs c #[] "keys" _ hmiss (by decide) (by decide +kernel)) ⟨hx, hA, fun h' tk' e hx' => ?_⟩) | wp_step))
  obtain ⟨t', u', he⟩ := hx'.there
  show wpAny _ _ (getattributeRaised _ _ _ _ _ _ _) _ _ _
  unfold getattributeRaised
  repeat (any_goals (first | assumption | wp_step))
  exact h _ _ hx'.keeps

noncomputable def PairAt (h : Heap) (v : Value) (k : Int) (x : Value) : Prop := ∃ t tk c, v = .ref t ∧ h.get? t = some (tupOf #[.int k tk, x] c)

theorem dict_loop {R : Result → Shared → Prop} {I : Addr} {fp wr : List Addr} {n : Nat} {P : Nat → Value → Prop} {St : Nat → Heap → Prop} (W : Walks prog w A.in1 I fp wr n P St) (D : Addr) (hDf : D ∉ fp) (H0 : Heap) (ps : List (Int × Value)) (hn : ps.length = n)
    (hval : ∀ i v, P i v → ∀ k x, ps[i]? = some (k, x) → PairAt H0 v k x) (hDH : H0.get? D = none) (hwr : ∀ b ∈ wr, H0.get? b = none) (hsz : n ≤ 1000) :
    ∀ (j i : Nat) (s : Shared) (kvs : List (Int × Value)), n - i = j → i ≤ n → St i s.heap → s.heap.DictOf (PySem.intKind prog w) D kvs → kvs.length ≤ i → (∀ b o, H0.get? b = some o → s.heap.get? b = some o) →
      (∀ h' tk, (∀ b o, b ∉ D :: wr → s.heap.get? b = some o → h'.get? b = some o) → h'.DictOf (PySem.intKind prog w) D ((ps.drop i).foldl (fun a p => stored a p.1 p.2) kvs) → R (.ok (.ret .none)) { s with heap := h', toks := tk }) →
      codeAny (model prog w) A (.builtin "dict.update.loop" ⟨[.ref D, .ref I, rawInt i, .none], []⟩) R s := by
  have hDw : D ∉ wr := fun h => hDf (W.sub _ h)
  have e_loop : entryFor table "dict.update.loop" = some Builtin.«dict.update.loop» := entryFor_of_tree (by kernel_rfl)
  have p_loop : plainId "dict.update.loop" = true := by decide +kernel
  intro j
  induction j with
  | zero =>
    intro i s kvs hk hi hst hd hl hH hR
    have hin : i = n := by omega
    subst hin
    refine codeAny_builtin e_loop ?_
    rw [Around.under_plainId p_loop _]
    show wpAny _ A.in1 (pyNext (.ref I) >>= _) _ _ s
    refine wpAny_bind (W.done s _ _ hst fun h' tk hk' => ?_)
    show wpAny _ A.in1 (Builtin.Dict.addKeywords D [] >>= _) _ _ _
    refine wpAny_bind (wpAny_pure ?_)
    refine wpAny_pure (hR h' tk (fun b o hb e => hk' b o (fun h => hb (.tail _ h)) e) ?_)
    rw [← hn, List.drop_length]
    exact hd.at fun o e => hk' D o hDw e
  | succ j ih =>
    intro i s kvs hk hi hst hd hl hH hR
    have hlt : i < n := by omega
    refine codeAny_builtin e_loop ?_
    rw [Around.under_plainId p_loop _]
    show wpAny _ A.in1 (pyNext (.ref I) >>= _) _ _ s
    refine wpAny_bind (W.item i s _ _ hlt hst fun v h' tk hP hst' hk' => ?_)
    have hi' : i < ps.length := by omega
    obtain ⟨⟨k, x⟩, hkx⟩ : ∃ p, ps[i] = p := ⟨_, rfl⟩
    have hps : ps[i]? = some (k, x) := by rw [List.getElem?_eq_getElem hi', hkx]
    obtain ⟨t, tk', c, rfl, ht⟩ := hval i v hP k x hps
    have hd' : ps.drop i = (k, x) :: ps.drop (i + 1) := by rw [List.drop_eq_getElem_cons hi', hkx]
    have ht1 := hH _ _ ht
    have htw : t ∉ wr := fun h => by have := hwr t h; rw [this] at ht; cases ht
    have ht2 := hk' t _ htw ht1
    show wpAny _ A.in1 (holding [Value.ref t] _ >>= _) _ _ _
    refine wpAny_bind (wpAny_holding ?_)
    refine wpAny_bind (wpAny_tryCatch ?_)
    unfold Builtin.Dict.pairItems
    refine wpAny_bind (wpAny_typeOf (T := "tuple") ⟨_, ht2, rfl⟩ ?_)
    rw [if_pos (by decide)]
    refine wpAny_bind (wpAny_seqItems ht2 rfl ?_)
    refine wpAny_pure ?_
    show wpAny _ A.in1 (holding [Value.int k tk', x] (dictSet D (.int k tk') x)) _ _ _
    refine wpAny_holding ?_
    refine wpAny_dictSet_pairs (s := { s with heap := h', toks := tk }) (intKind_is _ _ _ _) (hd.at fun o e => hk' D o hDw e) (fun h₂ hd₂ hs₂ => ?_) (by rw [sizeLine_eq]; omega)
    refine wpAny_pure ⟨plainId_quiet p_loop _, ?_⟩
    rw [show (i : Int) + 1 = ((i + 1 : Nat) : Int) by omega]
    refine ih (i + 1) _ (stored kvs k x) (by omega) hlt (W.frame _ h' _ hst' fun b hb o e => ?_) hd₂ (Nat.le_trans (stored_length_le _ _ _) (by omega)) (fun b o e => ?_) fun h₃ tk₃ hk₃ hd₃ => ?_
    · exact hs₂.extBut b o (fun h => hDf (by rw [← h]; exact hb)) e
    · refine hs₂.extBut b o (fun h => ?_) (hk' b o (fun h => ?_) (hH b o e))
      · rw [h, hDH] at e; cases e
      · rw [hwr b h] at e; cases e
    · refine hR h₃ tk₃ (fun b o hb e => hk₃ b o hb (hs₂.extBut b o (fun h => hb (by rw [h]; exact .head _)) (hk' b o (fun h => hb (.tail _ h)) e))) ?_
      rw [hd']; exact hd₃

theorem call_dict_pairs {l : Addr} {items : List Value} {c : Nat} {ps : List (Int × Value)} {Q : Value → Shared → Prop} (hh : A.handled = none) (hl : s.heap.get? l = some (listOf items.toArray c)) (hlen : items.length = ps.length) (hsz : ps.length ≤ 1000)
    (hp : ∀ (i : Nat) v, items[i]? = some v → ∀ k x, ps[i]? = some (k, x) → PairAt s.heap v k x)
    (h : ∀ h' tk, (∀ b o, s.heap.get? b = some o → h'.get? b = some o) → h'.DictOf (PySem.intKind prog w) s.heap.objs.size (ps.foldl (fun a p => stored a p.1 p.2) []) → Q (.ref s.heap.objs.size) { s with heap := h', toks := tk }) :
    wpAny (model prog w) A (call (.type "dict") [.ref l]) Q E s := by
  refine callType_codes (Q₁ := fun obj s₁ => obj = .ref s.heap.objs.size ∧ s₁ = { s with heap := s.heap.push { cls := .type "dict", data := .dict #[] } }) F.kt_called_dict (F.kt_typeCall_dict_1 _) F.entry_dict_init (kt_code_dict_new _ ⟨rfl, rfl⟩) ?_
  rintro obj s₁ ⟨rfl, rfl⟩
  have hnew : (s.heap.push { cls := .type "dict", data := .dict #[] }).DictOf (PySem.intKind prog w) s.heap.objs.size [] := Heap.DictOf.new s.heap
  have hl1 : (s.heap.push { cls := .type "dict", data := .dict #[] }).get? l = some (listOf items.toArray c) := Heap.get?_push_of_some _ hl
  refine ⟨hnew.typeIs, F.args_dict_init_2 _ _, ?_⟩
  unfold Builtin.«dict.__init__»
  refine wpAny_bind ?_
  unfold Builtin.Dict.selfAndRest
  refine wpAny_bind (wpAny_notOrdered_dict hnew.typeIs ?_)
  show wpAny _ _ (pure (s.heap.objs.size, [Value.ref l])) _ _ _
  refine wpAny_pure ?_
  show wpAny _ _ (Builtin.Dict.updateFrom "dict.__init__" s.heap.objs.size (.ref l) [] .none) _ _ _
  unfold Builtin.Dict.updateFrom
  refine wpAny_bind (wpAny_typeOf (T := "list") ⟨_, hl1, rfl⟩ ?_)
  rw [if_pos (by decide)]
  refine wpAny_bind (keys_of_list (s := { s with heap := s.heap.push { cls := .type "dict", data := .dict #[] } }) hl1 (by simp [hh]) fun h₁ tk₁ hk₁ => ?_)
  rw [if_pos (by rfl)]
  refine wpAny_bind (wpAny_rule ?_)
  have hl2 := hk₁ _ _ hl1
  have hls : h₁.IsList l items.toArray := ⟨_, hl2, rfl, c, rfl⟩
  refine wpAny_bind (wpAny_pyIter_list (s := { s with heap := h₁, toks := tk₁ }) hls ?_)
  have hle : s.heap.objs.size < h₁.objs.size := by
    obtain ⟨o, es, ep, hg, _⟩ := hnew
    exact Heap.lt_size (hk₁ _ _ hg)
  have hneI : l ≠ h₁.objs.size := Nat.ne_of_lt (Heap.lt_size hl2)
  have p_loop : plainId "dict.update.loop" = true := by decide +kernel
  refine wpAny_pure ⟨plainId_quiet p_loop _, ?_⟩
  have hnone : ∀ b, s.heap.objs.size ≤ b → s.heap.get? b = none := fun b hb => Heap.get?_none_of_le hb
  have W0 := Walks.list (prog := prog) (w := w) (A := A.in1.in1) (by simp [hh]) h₁.objs.size l hneI items.toArray
  rw [show items.toArray.size = ps.length by simp [hlen]] at W0
  refine dict_loop (n := ps.length) (H0 := s.heap) (ps := ps) W0
    s.heap.objs.size ?_ rfl (fun i v hv k x hkx => hp i v (by simpa using hv) k x hkx) (hnone _ (Nat.le_refl _)) (fun b hb => ?_) hsz ps.length 0 _ [] (by omega) (Nat.zero_le _) ⟨⟨_, Heap.get?_push_size _ rfl, rfl, rfl⟩, hls.push _⟩ (((hnew.keep hk₁).push _)) (Nat.le_refl _)
    (fun b o e => Heap.get?_push_of_some _ (hk₁ _ _ (Heap.get?_push_of_some _ e))) fun h₂ tk₂ hk₂ hd₂ => ?_
  · simp only [List.mem_cons, List.not_mem_nil, or_false, not_or]
    exact ⟨Nat.ne_of_lt hle, Nat.ne_of_gt (Heap.lt_size hl)⟩
  · rw [List.mem_singleton.mp hb]; exact hnone _ (Nat.le_of_lt hle)
  · refine ⟨rfl, h h₂ tk₂ (fun b o e => hk₂ b o (fun hm => ?_) (Heap.get?_push_of_some _ (hk₁ _ _ (Heap.get?_push_of_some _ e)))) hd₂⟩
    have hb := Heap.lt_size e
    rcases List.mem_cons.mp hm with q | q
    · rw [q] at hb; exact Nat.lt_irrefl _ hb
    · rw [List.mem_singleton.mp q] at hb; exact absurd (Nat.lt_trans hb hle) (Nat.lt_irrefl _)
end
end Mine
end
section
set_option autoImplicit false
set_option linter.unusedVariables false
set_option maxRecDepth 100000
namespace Mine
variable {g : GC} {n : Nat} {k : Int} {Q : MV → Int → Prop}

theorem St.more {h₀ h h' : Heap} {L D : Addr} {m : Str → Option Value} {led : Led} {o : Obj} (S : St h₀ L m led h) (F : Fr h₀ L h' m) (N : News h₀ L h' ((D, o) :: led)) (hne : ∀ q ∈ led, q.1 ≠ D) : St h₀ L m ((D, o) :: led) h' :=
  ⟨F, N, by
    rw [List.map_cons, List.nodup_cons]
    refine ⟨fun hm => ?_, S.nd⟩
    obtain ⟨p, hp, e⟩ := List.mem_map.mp hm
    exact hne p hp e⟩
theorem Sta.fresh {h₀ h h' : Heap} {L D : Addr} {m : Str → Option Value} {mt fz : Led} {o : Obj} (S : Sta g h₀ L m mt k fz h) (hk : ∀ b o, h.get? b = some o → h'.get? b = some o) (hD : h.get? D = none) (ho : h'.get? D = some o) : Sta g h₀ L m ((D, o) :: mt) k fz h' := by
  obtain ⟨t, S⟩ := S
  have S' := S.keeps hk
  have hN : News h₀ L h' ((D, o) :: plE g k t :: (mt ++ fz)) := by
    intro p hp
    rcases List.mem_cons.mp hp with rfl | hp
    · refine ⟨ho, fun e => ?_, ?_⟩
      · subst e
        obtain ⟨oL, _, _, hL, _⟩ := S.fr.ns
        rw [hD] at hL; cases hL
      · cases hq : h₀.get? D with
        | none => rfl
        | some o' => rw [S.fr.keep _ _ hq] at hD; cases hD
    · exact S'.nw p hp
  refine ⟨t, (S'.more S'.fr hN fun q hq e => ?_).perm (List.Perm.swap _ _ _)⟩
  have := (S.nw q hq).1
  rw [e, hD] at this; cases this
theorem Sta.toks {h₀ h : Heap} {L : Addr} {m : Str → Option Value} {mt fz : Led} (S : Sta g h₀ L m mt k fz h) : True := trivial

theorem op_add {a b : Int} (h : Q (.int (a + b)) k) : Op2 g n (binaryOp .Add) (.int a) (.int b) k Q := by
  intro A fe h₀ L m mt fz s E u v O S Ra Rb
  refine Ra.elim_int fun _ => ?_
  refine Rb.elim_int fun _ => ?_
  exact add_int ⟨_, k, h, .here S (.int _ _)⟩
theorem op_and {a b : Int} (h : Q (.int (Builtin.bitAnd a b)) k) : Op2 g n (binaryOp .BitAnd) (.int a) (.int b) k Q := by
  intro A fe h₀ L m mt fz s E u v O S Ra Rb
  refine Ra.elim_int fun _ => ?_
  refine Rb.elim_int fun _ => ?_
  exact and_int ⟨_, k, h, .here S (.int _ _)⟩
theorem op_mul {a b : Int} (hm : IntMulOk a b) (h : Q (.int (a * b)) k) : Op2 g n (binaryOp .Mult) (.int a) (.int b) k Q := by
  intro A fe h₀ L m mt fz s E u v O S Ra Rb
  refine Ra.elim_int fun _ => ?_
  refine Rb.elim_int fun _ => ?_
  exact mul_int ⟨_, k, h, .here S (.int _ _)⟩ hm
theorem op_pow {a b : Int} (hb : 0 ≤ b) (hs : ↑(Builtin.Int.intBits a) * b ≤ 2 ^ 27) (h : Q (.int (a ^ b.toNat)) k) : Op2 g n (binaryOp .Pow) (.int a) (.int b) k Q := by
  intro A fe h₀ L m mt fz s E u v O S Ra Rb
  refine Ra.elim_int fun _ => ?_
  refine Rb.elim_int fun _ => ?_
  exact pow_int hb hs ⟨_, k, h, .here S (.int _ _)⟩
theorem op_mod {a b : Int} (hb : b ≠ 0) (h : Q (.int (a.fmod b)) k) : Op2 g n (binaryOp .Mod) (.int a) (.int b) k Q := by
  intro A fe h₀ L m mt fz s E u v O S Ra Rb
  refine Ra.elim_int fun _ => ?_
  refine Rb.elim_int fun _ => ?_
  exact mod_int' hb ⟨_, k, h, .here S (.int _ _)⟩
theorem op_fdiv {a b : Int} (hb : b ≠ 0) (hd : Builtin.divisionGoesByPylong a b = false) (h : Q (.int (a.fdiv b)) k) : Op2 g n (binaryOp .FloorDiv) (.int a) (.int b) k Q := by
  intro A fe h₀ L m mt fz s E u v O S Ra Rb
  refine Ra.elim_int fun _ => ?_
  refine Rb.elim_int fun _ => ?_
  exact floordiv_int hb ⟨_, k, h, .here S (.int _ _)⟩ (.inl hd)
theorem op_neg {a : Int} (h : Q (.int (-a)) k) : Op1 g n (unaryOp .USub) (.int a) k Q := by
  intro A fe h₀ L m mt fz s E u O S Ra
  refine Ra.elim_int fun _ => ?_
  exact neg_int ⟨_, k, h, .here S (.int _ _)⟩
theorem op_eq {a b : Int} (h : Q (.bool (a == b)) k) : Op2 g n (compareOp .Eq) (.int a) (.int b) k Q := by
  intro A fe h₀ L m mt fz s E u v O S Ra Rb
  refine Ra.elim_int fun _ => ?_
  refine Rb.elim_int fun _ => ?_
  exact eq_int ⟨_, k, h, .here0 S (.bool _)⟩
theorem op_ne {a b : Int} (h : Q (.bool (a != b)) k) : Op2 g n (compareOp .NotEq) (.int a) (.int b) k Q := by
  intro A fe h₀ L m mt fz s E u v O S Ra Rb
  refine Ra.elim_int fun _ => ?_
  refine Rb.elim_int fun _ => ?_
  exact ne_int ⟨_, k, h, .here0 S (.bool _)⟩
theorem op_lt {a b : Int} (h : Q (.bool (decide (a < b))) k) : Op2 g n (compareOp .Lt) (.int a) (.int b) k Q := by
  intro A fe h₀ L m mt fz s E u v O S Ra Rb
  refine Ra.elim_int fun _ => ?_
  refine Rb.elim_int fun _ => ?_
  exact lt_int ⟨_, k, h, .here0 S (.bool _)⟩
theorem op_le {a b : Int} (h : Q (.bool (decide (a ≤ b))) k) : Op2 g n (compareOp .LtE) (.int a) (.int b) k Q := by
  intro A fe h₀ L m mt fz s E u v O S Ra Rb
  refine Ra.elim_int fun _ => ?_
  refine Rb.elim_int fun _ => ?_
  exact le_int ⟨_, k, h, .here0 S (.bool _)⟩
theorem op_gt {a b : Int} (h : Q (.bool (decide (b < a))) k) : Op2 g n (compareOp .Gt) (.int a) (.int b) k Q := by
  intro A fe h₀ L m mt fz s E u v O S Ra Rb
  refine Ra.elim_int fun _ => ?_
  refine Rb.elim_int fun _ => ?_
  exact gt_int ⟨_, k, h, .here0 S (.bool _)⟩
theorem op_ge {a b : Int} (h : Q (.bool (decide (b ≤ a))) k) : Op2 g n (compareOp .GtE) (.int a) (.int b) k Q := by
  intro A fe h₀ L m mt fz s E u v O S Ra Rb
  refine Ra.elim_int fun _ => ?_
  refine Rb.elim_int fun _ => ?_
  exact ge_int ⟨_, k, h, .here0 S (.bool _)⟩
theorem op_eqs {a b : Str} (h : Q (.bool (a == b)) k) : Op2 g n (compareOp .Eq) (.str a) (.str b) k Q := by
  intro A fe h₀ L m mt fz s E u v O S Ra Rb
  refine Ra.elim_str fun _ => ?_
  refine Rb.elim_str fun _ => ?_
  exact eq_str ⟨_, k, h, .here0 S (.bool _)⟩
theorem op_isNone_none (h : Q (.bool true) k) : Op2 g n (compareOp .Is) .none .none k Q := by
  intro A fe h₀ L m mt fz s E u v O S Ra Rb
  refine Ra.elim_none ?_
  refine Rb.elim_none ?_
  exact is_none ⟨_, k, h, .here0 S (.bool _)⟩
theorem op_in_ints {a : Int} {ns : List Int} (h : Q (.bool (ns.any (· == a))) k) : Op2 g n (compareOp .In) (.int a) (.lst (ns.map .int)) k Q := by
  intro A fe h₀ L m mt fz s E u v O S Ra Rb
  refine Ra.elim_int fun _ => ?_
  refine Rb.elim_lst fun hm hl hb hr => ?_
  exact in_list_ints ⟨_, S.get hm, rfl, _, rfl⟩ (ints_repL ⟨hl, hr⟩) ⟨_, k, h, .here0 S (.bool _)⟩
theorem op_notin_ints {a : Int} {ns : List Int} (h : Q (.bool (!(ns.any (· == a)))) k) : Op2 g n (compareOp .NotIn) (.int a) (.lst (ns.map .int)) k Q := by
  intro A fe h₀ L m mt fz s E u v O S Ra Rb
  refine Ra.elim_int fun _ => ?_
  refine Rb.elim_lst fun hm hl hb hr => ?_
  exact notin_list_ints ⟨_, S.get hm, rfl, _, rfl⟩ (ints_repL ⟨hl, hr⟩) ⟨_, k, h, .here0 S (.bool _)⟩
theorem op_notin_dic {a : Int} {es : List (Int × MV)} (h : Q (.bool (!(es.lookup a).isSome)) k) : Op2 g n (compareOp .NotIn) (.int a) (.dic es) k Q := by
  intro A fe h₀ L m mt fz s E u v O S Ra Rb
  refine Ra.elim_int fun _ => ?_
  refine Rb.elim_dic fun hm hsm hd hk hb hr => ?_
  refine kdg_notin S.nwF hm hd hsm (intKind_is _ _ _ _) (es.lookup a).isSome ?_ ⟨_, k, h, .here S (.bool _)⟩
  rcases (RepD.of hk hr).at_ a with ⟨e1, e2⟩ | ⟨m, v, e1, e2, _⟩ <;> rw [e1, e2] <;> rfl
theorem tr_bool {b : Bool} {Q : Bool → Prop} (h : Q b) : Tr g n (.bool b) k Q := by
  intro A fe h₀ L m mt fz s E u O S R
  refine R.elim_bool ?_
  exact wpAny_truthy_bool ⟨h, s.toks, rfl⟩
theorem sub_lst {value slice : Expr} {ms : List MV} {i : Int} {mi : MV} (h0 : 0 ≤ i) (hi : ms[i.toNat]? = some mi) (h : Q mi k) (hl : ms.length ≤ 1000)
    (hs : ∀ a b t, subscripted slice false (.ref a) (.int b t) = operate [.ref a, .int b t] (getItem (.ref a) (.int b t)) := by intro _ _ _; with_unfolding_all rfl) : Op2 g n (subscriptTail value slice) (.lst ms) (.int i) k Q := by
  intro A fe h₀ L m mt fz s E u v O S Ra Rb
  refine Rb.elim_int fun _ => ?_
  refine Ra.elim_lst fun hm hlen hb hr => ?_
  have hlt : i.toNat < ms.length := by
    rcases Nat.lt_or_ge i.toNat ms.length with h | h
    · exact h
    · simp [List.getElem?_eq_none h] at hi
  rename_i a vs nn
  obtain ⟨x, hx⟩ : ∃ x, vs[i.toNat]? = some x := ⟨_, List.getElem?_eq_getElem (by omega)⟩
  have hls : s.heap.IsList a vs.toArray := ⟨_, S.get hm, rfl, _, rfl⟩
  exact tail_any hls.typeIs slot_list_getitem.lookup (wpAny_getItem_list hls h0 (by omega) (by simpa using hx) ⟨_, k, h, .here0 S (hr _ _ _ hx hi)⟩) (hs _ _ _)
theorem sub_tup {value slice : Expr} {ms : List MV} {i : Int} {mi : MV} (h0 : 0 ≤ i) (hi : ms[i.toNat]? = some mi) (h : Q mi k) (hl : ms.length ≤ 1000)
    (hs : ∀ a b t, subscripted slice false (.ref a) (.int b t) = operate [.ref a, .int b t] (getItem (.ref a) (.int b t)) := by intro _ _ _; with_unfolding_all rfl) : Op2 g n (subscriptTail value slice) (.tup ms) (.int i) k Q := by
  intro A fe h₀ L m mt fz s E u v O S Ra Rb
  refine Rb.elim_int fun _ => ?_
  refine Ra.elim_tup fun hm hlen hb hr => ?_
  have hlt : i.toNat < ms.length := by
    rcases Nat.lt_or_ge i.toNat ms.length with h | h
    · exact h
    · simp [List.getElem?_eq_none h] at hi
  rename_i a vs nn
  obtain ⟨x, hx⟩ : ∃ x, vs[i.toNat]? = some x := ⟨_, List.getElem?_eq_getElem (by omega)⟩
  refine item_tupleT (j := i.toNat) ⟨_, S.get hm, rfl, _, rfl⟩ (by omega) (by omega) ?_ hx ⟨_, k, h, .here0 S (hr _ _ _ hx hi)⟩ (hs _ _ _)
  have h1 : i < vs.length := by omega
  have h2 : ¬ i < 0 := by omega
  simp [seqIndex?, h0, h1, h2]
theorem sub_dic {value slice : Expr} {es : List (Int × MV)} {i : Int} {mi : MV} (hi : es.lookup i = some mi) (h : Q mi k)
    (hs : ∀ a b t, subscripted slice false (.ref a) (.int b t) = operate [.ref a, .int b t] (getItem (.ref a) (.int b t)) := by intro _ _ _; with_unfolding_all rfl) : Op2 g n (subscriptTail value slice) (.dic es) (.int i) k Q := by
  intro A fe h₀ L m mt fz s E u v O S Ra Rb
  refine Rb.elim_int fun _ => ?_
  refine Ra.elim_dic fun hm hsm hd hk hb hr => ?_
  rcases (RepD.of hk hr).at_ i with ⟨e1, e2⟩ | ⟨m, v, e1, e2, r⟩
  · rw [hi] at e1; cases e1
  · rw [hi] at e1; cases e1
    exact kdt_tail S.nwF hm hd (kdt_getItem S.nwF hm hd (intKind_is _ _ _ _) e2 ⟨_, k, h, .here S r⟩) (hs _ _ _)
end Mine
end
section
set_option autoImplicit false
set_option linter.unusedVariables false
set_option maxRecDepth 100000
namespace Mine
variable {g : GC} {n : Nat} {k : Int} {Q : MV → Int → Prop}

theorem fn_1 {f : Value} {a : MV} (h : ∀ A fe h₀ L m mt fz s E u, Ok g n A fe h₀ L → Sta g h₀ L m mt k fz s.heap → Rep g fz u a → wpAny (model g.prog g.w) A (call f [u]) (Res g h₀ L m mt fz s Q) E s) : Fn g n (.st f) [a] k Q := by
  intro A fe h₀ L m mt fz s E fv vs O S R RL
  cases R
  obtain ⟨u, us, rfl, ru, rr⟩ := RepL.cons_inv RL
  rw [RepL.nil_inv rr]
  exact h A fe h₀ L m mt fz s E u O S ru

theorem fn_len_lst {ms : List MV} (h : Q (.int ms.length) k) : Fn g n (.st (.builtin "len")) [.lst ms] k Q := fn_1 fun A fe h₀ L m mt fz s E u O S R => by
  refine R.elim_lst fun hm hl hb hr => ?_
  refine call_len_list ⟨_, S.get hm, rfl, _, rfl⟩ (by rw [List.size_toArray]; omega) ⟨_, k, h, ?_⟩
  rw [List.size_toArray, hl]
  exact .here S (.int _ _)
theorem fn_len_tup {ms : List MV} (h : Q (.int ms.length) k) : Fn g n (.st (.builtin "len")) [.tup ms] k Q := fn_1 fun A fe h₀ L m mt fz s E u O S R => by
  refine R.elim_tup fun hm hl hb hr => ?_
  refine len_tuple ⟨_, S.get hm, rfl, _, rfl⟩ (by rw [List.size_toArray]; omega) ⟨_, k, h, ?_⟩
  rw [List.size_toArray, hl]
  exact .here S (.int _ _)
theorem fn_range {b : Int} (h : Q (.rng 0 b) k) : Fn g n (.st (.type "range")) [.int b] k Q := fn_1 fun A fe h₀ L m mt fz s E u O S R => by
  cases R
  exact call_range_1 ⟨_, k, h, _, _, _, rfl, fun p hp => .tail _ hp, S.alloc _, .rng (.head _)⟩
theorem fn_tuple_lst {ms : List MV} (h : Q (.tup ms) k) : Fn g n (.st (.type "tuple")) [.lst ms] k Q := fn_1 fun A fe h₀ L m mt fz s E u O S R => by
  refine R.elim_lst fun hm hl hb hr => ?_
  rename_i a vs nn
  refine call_tuple_list ⟨_, S.get hm, rfl, _, rfl⟩ (fun h' hk => ?_) (by rw [List.size_toArray, sizeLine_eq]; omega)
  exact ⟨_, k, h, _, s.toks, _, rfl, fun p hp => .tail _ hp, (S.keeps hk).alloc _, .tup (n := 0) (.head _) hl hb fun i v m' a' b' => (hr i v m' a' b').mono fun p hp => .tail _ hp⟩
theorem fn_set_lst {ns : List Int} (h7 : ∀ i ∈ ns, i ∈ seven) (h : Q (.set (insAll ns [])) k) : Fn g n (.st (.type "set")) [.lst (ns.map .int)] k Q := fn_1 fun A fe h₀ L m mt fz s E u O S R => by
  refine R.elim_lst fun hm hl hb hr => ?_
  rename_i a vs nn
  refine call_set_of (items := vs.toArray) O.hand ⟨_, S.get hm, rfl, _, rfl⟩ (by simpa using ints_repL ⟨hl, hr⟩) h7 fun h' tk o' hk ho' hc' => ?_
  exact ⟨_, k, h, h', tk, _, rfl, fun p hp => .tail _ hp, (S.fresh hk (Heap.get?_none_of_le (Nat.le_refl _)) ho').freeze, .set (.head _) hc'⟩

theorem ints_at {P : Nat → Value → Prop} : ∀ {vs : List Value} {ns : List Int}, vs.length = ns.length → (∀ (j : Nat) (v : Value), vs[j]? = some v → ∃ i t, ns[j]? = some i ∧ v = .int i t) → IntsAre vs ns
  | [], [], _, _ => .nil
  | [], _ :: _, h, _ => by simp at h
  | _ :: _, [], h, _ => by simp at h
  | v :: vs, i :: ns, h, hp => by
    obtain ⟨i', t, e1, e2⟩ := hp 0 v rfl
    simp at e1
    subst e1; subst e2
    exact .cons _ _ (ints_at (P := P) (by simpa using h) fun j v e => hp (j + 1) v (by simpa using e))
theorem sorted_src {A : Around} {fe : Env} {h₀ : Heap} {L : Addr} {m : Str → Option Value} {mt fz : Led} {s : Shared} {E : Value → Shared → Prop} {T : String} {r d : Addr} {P : Nat → Value → Prop} {OK : Heap → Prop} {ns : List Int}
    (O : Ok g n A fe h₀ L) (S : Sta g h₀ L m mt k fz s.heap) (K : KdlSrc g.prog g.w T r d ns.length P OK) (hok : OK s.heap) (hP : ∀ j v, P j v → ∃ i t, ns[j]? = some i ∧ v = .int i t) (hlen : ns.length < 64)
    (h : ∀ ns' : List Int, ns'.Perm ns → ns'.Pairwise (· ≤ ·) → Q (.lst (ns'.map .int)) k) :
    wpAny (model g.prog g.w) A (call (.builtin "sorted") [.ref r]) (Res g h₀ L m mt fz s Q) E s := by
  obtain ⟨t, S⟩ := S
  refine kdu_sorted K O.hand S.fr S.nw hok (by rw [sizeLine_eq]; omega) fun D h' tk vs F' N' l1 hl hv => ?_
  have S' : Sta g h₀ L m ((D, listOf vs.toArray 0) :: mt) k fz h' := ⟨t, (S.more F' N' fun q hq => Nat.ne_of_lt (l1 q hq)).perm (List.Perm.swap _ _ _)⟩
  have hi : IntsAre vs ns := ints_at (P := P) hl fun j v e => hP j v (hv j v e)
  refine sort_tail (s := { s with heap := h', toks := tk }) S' hi (by rw [hl]; exact hlen) fun h₂ vs' ns' c' S₂ i2 p2 o2 => ?_
  have hl2 : vs'.length = ns'.length := IntsAre.length i2
  have hl3 := p2.length_eq
  exact ⟨_, k, h ns' p2 o2, h₂, tk, _, rfl, fun p hp => .tail _ hp, S₂.freeze, .lst (.head _) (by simp [hl2]) (by omega) (repL_ints i2).2⟩
theorem fn_sorted_set {vs : List Int} (h : Q (.lst (vs.map .int)) k) : Fn g n (.st (.builtin "sorted")) [.set vs] k Q := fn_1 fun A fe h₀ L m mt fz s E u O S R => by
  refine R.elim_set fun hm hc => ?_
  rename_i a _
  obtain ⟨es, ep, rfl, hs, hmap, hel⟩ := hc
  obtain ⟨_, _, _, hpw, hl7⟩ := chkWalk_at hs
  have hp := ordS_perm (w := g.w) (a := a) (ep := ep) (es := es)
  have hpm : ((ordS g.w a ep es).toList.map (·.1)).Perm vs := by rw [← hmap]; exact hp.map _
  have hl : ((ordS g.w a ep es).toList.map (·.1)).length = vs.length := hpm.length_eq
  have K := src_set (prog := g.prog) (w := g.w) (a := a) (es := es) (ep := ep) hs hmap rfl
  rw [← hl] at K
  refine sorted_src O S K (S.get hm) (fun j v ⟨x, hx, hv⟩ => ?_) (by rw [hl]; omega) fun ns' p o => ?_
  · rw [← Array.getElem?_toList] at hx
    obtain ⟨tk, ht⟩ := hel x (hp.mem_iff.mp (List.mem_of_getElem? hx))
    exact ⟨x.1, tk, by rw [List.getElem?_map, hx]; rfl, by rw [hv, ht]⟩
  · have : ns' = vs := (p.trans hpm).eq_of_pairwise (fun x y _ _ h1 h2 => Int.le_antisymm h1 h2) o (hpw.imp fun h => Int.le_of_lt h)
    rw [this]; exact h
theorem fn_sorted_dic {es : List (Int × MV)} (hl : es.length < 64) (h : ∀ ns' : List Int, ns'.Perm (es.map (·.1)) → ns'.Pairwise (· ≤ ·) → Q (.lst (ns'.map .int)) k) : Fn g n (.st (.builtin "sorted")) [.dic es] k Q := fn_1 fun A fe h₀ L m mt fz s E u O S R => by
  refine R.elim_dic fun hm hsm hd hk hb hr => ?_
  rename_i a o kvs
  obtain ⟨en, ep, e1, e2, e3, e4, e5⟩ := hd
  have hat : s.heap.DictAt (PySem.intKind g.prog g.w) a kvs ep := ⟨_, en, S.get hm, e1, e2, e3, e4, e5⟩
  have K := kdl_dict (prog := g.prog) (w := g.w) (knd := PySem.intKind g.prog g.w) (kvs := kvs) (ep := ep) hsm
  have hlen : kvs.length = (es.map (·.1)).length := by rw [← hk]; simp
  rw [hlen] at K
  refine sorted_src O S K hat (fun j v ⟨kk, x, hx, hv⟩ => ?_) (by simpa using hl) h
  have : ∃ t, v = .int kk t := by
    cases v <;> simp [PySem.intKind, Value.isInt] at hv
    exact ⟨_, by rw [hv]⟩
  obtain ⟨t, rfl⟩ := this
  exact ⟨kk, t, by rw [← hk]; simp [hx], rfl⟩

theorem repL_pairs {fz : Led} {ps : List (Int × MV)} : ∀ {vs : List Value}, RepL g fz vs (ps.map fun p => .tup [.int p.1, p.2]) →
    ∃ kps : List (Int × Value), kps.length = ps.length ∧ vs.length = ps.length ∧ RepD g fz kps ps ∧ ∀ (h : Heap), (∀ p ∈ fz, h.get? p.1 = some p.2) → ∀ (i : Nat) v, vs[i]? = some v → ∀ kk x, kps[i]? = some (kk, x) → PairAt h v kk x := by
  induction ps with
  | nil =>
    intro vs h
    refine h.elim_nil ?_
    exact ⟨[], rfl, rfl, .nil, fun _ _ i v a => by simp at a⟩
  | cons p ps ih =>
    intro vs h
    refine h.elim_cons fun v vs' r rr => ?_
    obtain ⟨kps, h1, h2, h3, h4⟩ := ih rr
    refine r.elim_tup fun hm hl hb hr => ?_
    rename_i a us nn
    obtain ⟨u1, u2, rfl⟩ := len2 hl
    obtain ⟨t, rfl⟩ : ∃ t, u1 = .int p.1 t := (hr 0 u1 _ rfl rfl).elim_int fun t => ⟨t, rfl⟩
    refine ⟨(p.1, u2) :: kps, by simp [h1], by simp [h2], .cons (hr 1 u2 _ rfl rfl) h3, fun hp hh i v e kk x e2 => ?_⟩
    cases i with
    | zero => simp at e e2; obtain ⟨rfl, rfl⟩ := e2; subst e; exact ⟨a, t, nn, rfl, hh _ hm⟩
    | succ i => exact h4 hp hh i v (by simpa using e) kk x (by simpa using e2)
theorem foldl_put {fz : Led} : ∀ {kps : List (Int × Value)} {ps : List (Int × MV)}, RepD g fz kps ps → ∀ {kvs : List (Int × Value)} {es : List (Int × MV)}, RepD g fz kvs es →
    RepD g fz (kps.foldl (fun a p => stored a p.1 p.2) kvs) (ps.foldl (fun a p => putM a p.1 p.2) es)
  | _, _, .nil, _, _, h => h
  | _, _, .cons r rr, _, _, h => foldl_put rr (h.put r)
theorem foldl_stored_len : ∀ (kps kvs : List (Int × Value)), (kps.foldl (fun a p => stored a p.1 p.2) kvs).length ≤ kvs.length + kps.length
  | [], kvs => by simp
  | p :: r, kvs => by
    have := foldl_stored_len r (stored kvs p.1 p.2)
    have h2 := stored_length_le kvs p.1 p.2
    simp only [List.foldl_cons, List.length_cons]; omega
theorem sys_low {A : Around} {fe : Env} {h₀ : Heap} {L : Addr} {m : Str → Option Value} {mt fz : Led} {h : Heap} (O : Ok g n A fe h₀ L) (S : Sta g h₀ L m mt k fz h) : (h.objs.size == sysModules) = false :=
  S.fr.notModules (modules_low O.top.nolimit)
theorem fn_dict_pairs {ps : List (Int × MV)} (hl : ps.length ≤ 1000) (h : Q (.dic (dictM ps)) k) : Fn g n (.st (.type "dict")) [.lst (ps.map fun p => .tup [.int p.1, p.2])] k Q := fn_1 fun A fe h₀ L m mt fz s E u O S R => by
  refine R.elim_lst fun hm hlen hb hr => ?_
  rename_i a vs nn
  obtain ⟨kps, h1, h2, h3, h4⟩ := repL_pairs ⟨hlen, hr⟩
  refine call_dict_pairs O.hand (S.get hm) (by rw [h2, h1]) (by omega) (fun i v e kk x e2 => h4 s.heap (fun p hp => S.get hp) i v e kk x e2) fun h' tk hk hd => ?_
  obtain ⟨o, ho, hdo⟩ := Heap.dictOf_iff.mp hd
  have hz := foldl_stored_len kps []
  have S' := (S.fresh hk (Heap.get?_none_of_le (Nat.le_refl _)) ho).freeze
  have R' := (foldl_put h3 (RepD.nil (g := g) (fz := fz)))
  exact ⟨_, k, h, h', tk, _, rfl, fun p hp => .tail _ hp, S', .dic (.head _) (sys_low O S) hdo R'.keys (by simp at hz; omega) fun i v m' a' b' => (R'.idx i v m' a' b').mono fun p hp => .tail _ hp⟩

theorem callee_builtin {i : String} : Callee g (.st (.builtin i)) := .inr ⟨_, rfl, .inr (.inr ⟨_, rfl⟩)⟩
theorem callee_type {t : String} : Callee g (.st (.type t)) := .inr ⟨_, rfl, .inr (.inl ⟨_, rfl⟩)⟩
theorem mth_get {es : List (Int × MV)} {Q : MV → List MV → Prop} (h : Q (.st (.builtin "dict.get")) [.dic es]) : Mth g n "get" (.dic es) k Q := by
  intro A fe h₀ L m mt fz s E u pl O S R
  refine R.elim_dic fun hm hsm hd hk hb hr => ?_
  exact kdg_method S.nwF hm hd ⟨s.toks, _, _, rfl, h, callee_builtin, .st _ rfl, .cons (.dic hm hsm hd hk hb hr) .nil⟩
theorem fn_get {es : List (Int × MV)} {i : Int} {d : MV} (h : Q ((es.lookup i).getD d) k) : Fn g n (.st (.builtin "dict.get")) [.dic es, .int i, d] k Q := by
  intro A fe h₀ L m mt fz s E fv vs O S R RL
  cases R
  obtain ⟨u, us, rfl, ru, RL⟩ := RepL.cons_inv RL
  obtain ⟨v, us, rfl, rv, RL⟩ := RepL.cons_inv RL
  obtain ⟨x, us, rfl, rx, RL⟩ := RepL.cons_inv RL
  rw [RepL.nil_inv RL]
  cases rv
  cases ru with
  | dic hm hsm hd hk hb hr =>
    rcases (RepD.of hk hr).at_ i with ⟨e1, e2⟩ | ⟨m', v', e1, e2, r⟩
    · rw [e1] at h
      exact kdg_get2 S.nwF hm hd hsm (intKind_is _ _ _ _) none e2 ⟨_, k, h, .here S rx⟩
    · rw [e1] at h
      exact kdg_get2 S.nwF hm hd hsm (intKind_is _ _ _ _) (some v') e2 ⟨_, k, h, .here S r⟩
end Mine
end
section
set_option autoImplicit false
set_option linter.unusedVariables false
set_option maxRecDepth 100000
namespace Mine
section
variable {g : GC} {n : Nat} {k : Int} {Q : MV → Int → Prop}
theorem op_add_tup {a b : List MV} (hl : a.length + b.length ≤ 1000) (h : Q (.tup (a ++ b)) k) : Op2 g n (binaryOp .Add) (.tup a) (.tup b) k Q := by
  intro A fe h₀ L m mt fz s E u v O S Ra Rb
  refine Ra.elim_tup fun hm hla hba hra => ?_
  rename_i ad vs nn
  cases Rb with
  | tup hm2 hlb hbb hrb =>
    rename_i bd ws nn2
    obtain ⟨t, S⟩ := S
    have S0 : Sta g h₀ L m mt k fz s.heap := ⟨t, S⟩
    refine add_tuples S.fr S.nw ⟨_, S0.get hm, rfl, _, rfl⟩ ⟨_, S0.get hm2, rfl, _, rfl⟩ (fun e => ?_) (fun _ e => ?_) (fun _ _ h' F' N' => ?_) (by rw [sizeLine_eq]; omega)
    · have : a = [] := by rw [e] at hla; exact List.length_eq_zero_iff.mp hla.symm
      subst this
      exact ⟨_, k, h, .here0 S0 (.tup hm2 hlb hbb hrb)⟩
    · have : b = [] := by rw [e] at hlb; exact List.length_eq_zero_iff.mp hlb.symm
      subst this
      rw [List.append_nil] at h
      exact ⟨_, k, h, .here0 S0 (.tup hm hla hba hra)⟩
    · have hlt := S.lt
      have S' : Sta g h₀ L m ((s.heap.objs.size, tupOf (vs ++ ws).toArray 0) :: mt) k fz h' := ⟨t, (S.more F' N' fun q hq => Nat.ne_of_lt (hlt q hq)).perm (List.Perm.swap _ _ _)⟩
      refine ⟨_, k, h, h', s.toks, _, rfl, fun p hp => .tail _ hp, S'.freeze, .tup (.head _) (by simp [hla, hlb]) (by simp; omega) fun i v m' a' b' => ?_⟩
      refine Rep.mono (fun p hp => .tail _ hp) ?_
      by_cases hi : i < vs.length
      · rw [List.getElem?_append_left hi] at a'
        rw [List.getElem?_append_left (by omega)] at b'
        exact hra i v m' a' b'
      · rw [List.getElem?_append_right (by omega)] at a'
        rw [List.getElem?_append_right (by omega), ← hla] at b'
        exact hrb _ v m' a' b'
theorem op_in_strs {a : Str} {ss : List Str} (h : Q (.bool (ss.any (· == a))) k) : Op2 g n (compareOp .In) (.str a) (.tup (ss.map .str)) k Q := by
  intro A fe h₀ L m mt fz s E u v O S Ra Rb
  refine Ra.elim_str fun _ => ?_
  refine Rb.elim_tup fun hm hl hb hr => ?_
  rename_i t ad vs nn
  refine in_tuple_strs ⟨_, S.get hm, rfl, _, rfl⟩ (ys := ss) ?_ ⟨_, k, h, .here0 S (.bool _)⟩
  have gen : ∀ (vs : List Value) (ss : List Str), RepL g fz vs (ss.map .str) → StrsAre vs ss := by
    intro vs ss
    induction ss generalizing vs with
    | nil => intro r; rw [RepL.nil_inv r]; exact .nil
    | cons x r ih =>
      intro R
      obtain ⟨v, vs', rfl, r1, r2⟩ := RepL.cons_inv R
      cases r1
      exact .cons _ _ (ih _ r2)
  exact gen vs ss ⟨hl, hr⟩
theorem op_ne_nil {ms : List MV} (h : Q (.bool (!ms.isEmpty)) k) : Op2 g n (compareOp .NotEq) (.lst ms) (.lst []) k Q := by
  intro A fe h₀ L m mt fz s E u v O S Ra Rb
  refine Ra.elim_lst fun hm hl hb hr => ?_
  rename_i a vs nn
  cases Rb with
  | lst hm2 hl2 hb2 hr2 =>
    rename_i b ws nn2
    have hw : ws = [] := List.length_eq_zero_iff.mp hl2
    subst hw
    have hu : A.units + 64 < cLine := by have := O.units; omega
    cases ms with
    | nil =>
      have hv : vs = [] := List.length_eq_zero_iff.mp hl
      subst hv
      exact ke_ne_ints (ns := []) (ms := []) ⟨_, S.get hm, rfl, _, rfl⟩ ⟨_, S.get hm2, rfl, _, rfl⟩ .nil .nil hu ⟨_, k, h, .here0 S (.bool _)⟩
    | cons x r =>
      refine cmp_ofNotEq (SeqAt.RcNeAt.lists_lengths ⟨_, S.get hm, rfl, _, rfl⟩ ⟨_, S.get hm2, rfl, _, rfl⟩ ?_ (by omega) _ _ _ _ ⟨_, k, h, .here0 S (.bool _)⟩)
      simp at hl ⊢
      intro e; rw [e] at hl; simp at hl
theorem op_ne_ints {ns ms : List Int} (h : Q (.bool (!decide (ns = ms))) k) : Op2 g n (compareOp .NotEq) (.lst (ns.map .int)) (.lst (ms.map .int)) k Q := by
  intro A fe h₀ L m mt fz s E u v O S Ra Rb
  refine Ra.elim_lst fun hm hl hb hr => ?_
  cases Rb with
  | lst hm2 hl2 hb2 hr2 =>
    have hu : A.units + 64 < cLine := by have := O.units; omega
    exact ke_ne_ints ⟨_, S.get hm, rfl, _, rfl⟩ ⟨_, S.get hm2, rfl, _, rfl⟩ (ints_repL ⟨hl, hr⟩) (ints_repL ⟨hl2, hr2⟩) hu ⟨_, k, h, .here0 S (.bool _)⟩
end
end Mine
end
section
set_option autoImplicit false
set_option linter.unusedVariables false
set_option maxRecDepth 100000
namespace Mine

theorem eqvAll_lists : ∀ ns ms : List (List Int), PyData.eqvAll (ns.map fun l => .list (l.map .int)) (ms.map fun l => .list (l.map .int)) = decide (ns = ms)
  | [], [] => by simp [PyData.eqvAll]
  | [], _ :: _ => by simp [PyData.eqvAll]
  | _ :: _, [] => by simp [PyData.eqvAll]
  | a :: r, b :: t => by
    simp only [List.map_cons, PyData.eqvAll, PyData.eqv, eqvAll_lists r t, ked_eqvAll]
    by_cases h : a = b <;> by_cases h' : r = t <;> simp [h, h']
theorem canLay_lists : ∀ ns : List (List Int), PyData.canLayAll0 (ns.map fun l => PyData.list (l.map .int)) = true
  | [] => rfl
  | _ :: r => by simp [PyData.canLayAll0, PyData.canLay0, ke_canLayAll0, canLay_lists r]
theorem depth_lists : ∀ ns : List (List Int), PyData.depthAll (ns.map fun l => PyData.list (l.map .int)) ≤ 1
  | [] => by simp [PyData.depthAll]
  | _ :: r => by
    have := depth_lists r
    simp only [List.map_cons, PyData.depthAll, PyData.depth, ke_depthAll]
    omega
theorem shaped_lists (ns : List (List Int)) : SeqAt.shaped (.list (ns.map fun l => .list (l.map .int))) = true := by
  have := depth_lists ns
  simp [SeqAt.shaped, PyData.canLay0, PyData.depth, canLay_lists]
  omega

section
variable {g : GC} {n : Nat} {k : Int} {Q : MV → Int → Prop}
theorem reads_ints {fz : Led} {h : Heap} (hh : ∀ p ∈ fz, h.get? p.1 = some p.2) {v : Value} {ns : List Int} (R : Rep g fz v (.lst (ns.map .int))) : ∃ as, Reads h v (.list (ns.map .int)) as := by
  refine R.elim_lst fun hm hl hb hr => ?_
  exact ⟨_, reads_newData ⟨_, hh _ hm, rfl, _, rfl⟩ (ke_carried (ints_repL ⟨hl, hr⟩))⟩
theorem readsAll_intss {fz : Led} {h : Heap} (hh : ∀ p ∈ fz, h.get? p.1 = some p.2) : ∀ {vs : List Value} {nss : List (List Int)}, RepL g fz vs (nss.map fun l => .lst (l.map .int)) → ∃ as, ReadsAll h vs (nss.map fun l => .list (l.map .int)) as
  | vs, [], R => by refine R.elim_nil ?_; exact ⟨_, .nil⟩
  | vs, l :: r, R => by
    obtain ⟨v, vs', rfl, r1, r2⟩ := RepL.cons_inv R
    obtain ⟨as, h1⟩ := reads_ints hh r1
    obtain ⟨bs, h2⟩ := readsAll_intss hh r2
    exact ⟨_, .cons h1 h2⟩
theorem reads_intss {fz : Led} {h : Heap} (hh : ∀ p ∈ fz, h.get? p.1 = some p.2) {v : Value} {nss : List (List Int)} (R : Rep g fz v (.lst (nss.map fun l => .lst (l.map .int)))) : ∃ as, Reads h v (.list (nss.map fun l => .list (l.map .int))) as := by
  refine R.elim_lst fun hm hl hb hr => ?_
  obtain ⟨as, h1⟩ := readsAll_intss hh ⟨hl, hr⟩
  exact ⟨_, reads_list_at (hh _ hm) rfl rfl (by simpa using h1)⟩
theorem op_ne_intss {ns ms : List (List Int)} (h : Q (.bool (!decide (ns = ms))) k) : Op2 g n (compareOp .NotEq) (.lst (ns.map fun l => .lst (l.map .int))) (.lst (ms.map fun l => .lst (l.map .int))) k Q := by
  intro A fe h₀ L m mt fz s E u v O S Ra Rb
  have hu : A.units + 64 < cLine := by have := O.units; omega
  obtain ⟨as, h1⟩ := reads_intss (h := s.heap) (fun p hp => S.get hp) Ra
  obtain ⟨bs, h2⟩ := reads_intss (h := s.heap) (fun p hp => S.get hp) Rb
  refine ne_dataH h1 h2 (shaped_lists _) (shaped_lists _) hu ⟨_, k, h, ?_⟩
  have : PyData.eqv (.list (ns.map fun l => .list (l.map .int))) (.list (ms.map fun l => .list (l.map .int))) = decide (ns = ms) := by
    simp only [PyData.eqv]; exact eqvAll_lists ns ms
  rw [this]
  exact .here0 S (.bool _)

theorem sub_place {value slice : Expr} (h : Q (.int k) k) (hs : ∀ a b t, subscripted slice false (.ref a) (.int b t) = operate [.ref a, .int b t] (getItem (.ref a) (.int b t)) := by intro _ _ _; with_unfolding_all rfl) : Op2 g n (subscriptTail value slice) .place (.int 0) k Q := by
  intro A fe h₀ L m mt fz s E u v O S Ra Rb
  refine Rb.elim_int fun _ => ?_
  refine Ra.elim_place ?_
  obtain ⟨t, S⟩ := S
  have hls : s.heap.IsList g.pl #[.int k t] := ⟨_, (S.nw (plE g k t) (.head _)).1, rfl, 0, rfl⟩
  exact tail_any hls.typeIs slot_list_getitem.lookup (wpAny_getItem_list hls (by decide) (by decide) (by rfl) ⟨_, k, h, .here0 ⟨t, S⟩ (.int _ _)⟩) (hs _ _ _)
end

section
variable {g : GC} {n : Nat} {sc : Scope} {σ : List (Str × MV)} {ω : List (Str × Own)} {k : Int} {N : Nx} {R : MV → Int → Prop}

theorem ex_setPlace {x : Str} {xp ip ap pos : Pos} {kk : Nat} {e : Expr} (h : Ev g n sc e σ k fun v k' => ∃ j, v = .int j ∧ N σ ω j) (hl : sc.names.lookup x = some .free) (hv : σ.lookup x = some .place)
    (hs : ∀ env : Env, env.scope = sc → swapsWith e (some ((Expr.Name x xp).Subscript (.Constant (.int 0) kk ip) ap)) pos.line env = pure false := by intro _ _; rfl) (hd : (x == ("__debug__" : Str)) = false := by decide) (hn : (x == ("__classdict__" : Str)) = false := by decide) :
    Ex g n sc (.Assign [(Expr.Name x xp).Subscript (.Constant (.int 0) kk ip) ap] e pos) σ ω k N R := by
  intro A h₀ L mt0 fz0 env s E O S
  have he : env.scope = sc := S.scope
  refine wpAny_Assign_Subscript (wp_se (stmt_ev (E := E) O S h) fun v mv k₁ h' tk' m cs ow fz zq S₁ hz V W C₁ R₁ => ?_) (hs env he)
  obtain ⟨j, hj, q⟩ := zq
  subst hj
  obtain ⟨t₀, rfl⟩ : ∃ t₀, v = .int j t₀ := R₁.elim_int fun _ => ⟨_, rfl⟩
  have V' : VarsF g env sc σ L m (ow ++ (cs ++ mt0)) fz := V.wide
  refine wp_res (ev_free (g := g) (n := n) (k := k₁) (pos := xp) (Q := fun v k' => v = .place ∧ k' = k₁) hl hv ⟨rfl, rfl⟩ hd hn A env h₀ L m _ fz env _ E O V'.vars (.inl rfl) S₁) fun v mv k₂ h₂ tk₂ fz₂ zq hs₂ S₂ R₂ => ?_
  obtain ⟨e1, e2⟩ := zq
  subst e1; subst e2
  cases R₂
  refine wpAny_Constant_int ?_
  obtain ⟨t, S₂⟩ := S₂
  have hdn : ∀ p ∈ (ow ++ (cs ++ mt0)) ++ fz₂, p.1 ≠ g.pl := (St.dNe (pre := []) S₂).2
  refine ksa_set (s := { s with heap := h₂, toks := tk₂ + 1 }) (D := g.pl) (n := 0) (vs := [.int k₂ t]) (ns := [k₂]) (k := 0) (x := j) (u := t₀) S₂.fr S₂.nw (.head hdn) (.cons _ _ .nil) (by decide) (by simp) (by decide) fun h₃ F₃ N₃ _ _ _ => ?_
  have S₃ : Sta g h₀ L m (ow ++ (cs ++ mt0)) j fz₂ h₃ := ⟨t₀, F₃, N₃, by have := S₂.nd; simpa using this⟩
  exact ⟨h₃, _, rfl, σ, ω, j, q, m, cs, ow, fz₂, S₃, fun p hp => hs₂ p (hz p hp), V.mono hs₂, W.mono hs₂, C₁⟩

noncomputable def tkVars (ns : List Int) : List (Str × MV) := [(Str.ofString "cells", .lst (ns.map .int)), (Str.ofString "place", .place)]
theorem fn_take {args : List MV} {ps : List Str} {Q : MV → Int → Prop} (hlen : ps.length = args.length)
    (hb : ∀ vs : List Value, vs.length = ps.length → ∀ (s : Shared) (clos : List (Str × Addr)) (doc pm : Value) (c' : Addr) (ctv : Value), BindsTo s (fnX (Str.ofString "take") g.tkQual g.tkParams g.tkBody g.tkScope clos .none .none doc pm none (.ref c') ctv) ⟨vs, []⟩ (ps.zip vs)) (hloc : ∀ x ∈ ps, g.tkScope.names.lookup x = some .local)
    (hcell : ∀ x ∈ g.tkScope.names, x.2 ≠ .cell) (hfree : ∀ x ∈ g.tkScope.names, x.2 = .free → x.1 = "cells" ∨ x.1 = "place") (hco : g.tkScope.isCoroutine = false) (hgen : g.tkScope.isGenerator = false) (hk : g.tkScope.kind = .function)
    (hfr : g.tkScope.names.lookup (Str.ofString "cells") = some .free ∧ g.tkScope.names.lookup (Str.ofString "place") = some .free)
    (h : ∀ ns : List Int, 1 ≤ ns.length → ns.length ≤ 63 → Exs g n g.tkScope g.tkBody ((ps.zip args).reverse ++ tkVars ns) [] k (fun _ _ k' => Q .none k') Q) : Fn g (n + 1) .take args k Q := by
  intro A fe h₀ L m mt fz s E fv vs O S R RL
  cases R with
  | take tf hT =>
  obtain ⟨clos, doc, pm, c', ctv, oc, cvs, tq, a1, a2, o1, o2, lc, nc, us, ns, t1, t2, t3, t4, t5, t6, t7, t8, t9, t10, t11, t12, t13, t14⟩ := hT
  obtain ⟨A₀, base, outer, B, hA⟩ := O.below
  have S0 := S
  obtain ⟨t, S⟩ := S
  have hroom : A.depth < recursionLimit := by have := O.room; omega
  have hvl : vs.length = ps.length := by rw [RL.1, hlen]
  have hcode : s.heap.CodeRec (.ref c') g.tkQual := ⟨c', oc, cvs, tq, rfl, S0.get t2, t3, t4⟩
  refine wpAny_call (callX_plain (cl := clos) (binds := ps.zip vs) B S.fr S.nw O.top.nolimit hA O.frame O.kind (S0.get t1) rfl hcode hroom (hb vs hvl s clos doc pm c' ctv) (fun y hy => hloc _ ((List.of_mem_zip hy).1)) (fun g' L' h₁ FG F' N' B' st _ => ?_) hcell hco hgen hk)
  have O' : Ok g n (A.deeper (envX g.tkQual g.tkScope L' tf (.ref c') clos)) (envX g.tkQual g.tkScope L' tf (.ref c') clos) g' L' := by
    refine ⟨⟨A, base, _, B', Around.frames_deeper B'.stack⟩, rfl, hk, O.kin.keeps st, O.top.keeps st, O.hand, ?_, ?_⟩
    · have := O.room; show A.depth + 1 + 2 * n + 2 < recursionLimit; omega
    · have := O.units; show A.units + 3 + 12 * n + 100 < cLine; omega
  have hus : us.length = ns.length := IntsAre.length t12
  have hlook : ∀ x v, ((ps.zip args).reverse ++ tkVars ns).lookup x = some v → g.tkScope.names.lookup x = some .local → ∃ u, ((ps.zip vs).reverse).lookup x = some u ∧ Rep g fz u v := fun x v e hl => by
    rw [List.lookup_append] at e
    cases q : (ps.zip args).reverse.lookup x with
    | some v' => rw [q] at e; cases e; exact zip_lookup RL x _ q
    | none =>
      rw [q] at e
      have := lookup_mem e
      simp only [tkVars, List.mem_cons, List.not_mem_nil, or_false, Prod.mk.injEq] at this
      rcases this with ⟨e1, _⟩ | ⟨e1, _⟩
      · rw [e1, hfr.1] at hl; cases hl
      · rw [e1, hfr.2] at hl; cases hl
  have S' : Sf g (envX g.tkQual g.tkScope L' tf (.ref c') clos) g.tkScope g' L' mt fz ((ps.zip args).reverse ++ tkVars ns) [] k h₁ := by
    refine ⟨_, [], [], fz, ⟨t, F', N', S.nd⟩, fun _ h => h, ⟨rfl, hk, rfl, rfl, rfl, fun x v e q => hlook x v e q, fun x q => ?_, fun x v e q => ?_⟩, rfl, ⟨fun x q => ?_, ?_⟩⟩
    · rcases q with q | q
      · exact absurd rfl (hcell _ (lookup_mem q))
      · rcases hfree _ (lookup_mem q) rfl with e | e
        · exact ⟨a1, by show clos.lookup x = _; rw [show x = _ from e]; exact t5⟩
        · exact ⟨a2, by show clos.lookup x = _; rw [show x = _ from e]; exact t6⟩
    · have hq : g.tkScope.names.lookup x = some .free := by
        rcases q with q | q
        · exact absurd rfl (hcell _ (lookup_mem q))
        · exact q
      have hnz : (ps.zip args).reverse.lookup x = none := by
        cases w : (ps.zip args).reverse.lookup x with
        | none => rfl
        | some v' =>
          have := hloc x ((List.of_mem_zip (List.mem_reverse.mp (lookup_mem w))).1)
          rw [hq] at this; cases this
      rw [List.lookup_append, hnz] at e
      rcases hfree _ (lookup_mem hq) rfl with e1 | e1
      · have e1 : x = _ := e1
        subst e1
        have : v = .lst (ns.map .int) := by cases e; rfl
        subst this
        exact ⟨a1, o1, .ref lc, t5, .inr t7, t8, .lst t11 (by simp [hus]) (by omega) (repL_ints t12).2⟩
      · have e1 : x = _ := e1
        subst e1
        have : v = .place := by
          rw [show ((tkVars ns : List (Str × MV)).lookup (Str.ofString "place")) = some .place from rfl] at e
          cases e; rfl
        subst this
        exact ⟨a2, o2, .ref g.pl, t6, .inr t9, t10, .place⟩
    · exact absurd rfl (hcell _ (lookup_mem q))
    · intro x y c q
      exact absurd rfl (hcell _ (lookup_mem q))
  refine wpAny_mono (h ns t13 t14 (A.deeper (envX g.tkQual g.tkScope L' tf (.ref c') clos)) g' L' mt fz (envX g.tkQual g.tkScope L' tf (.ref c') clos) { s with heap := h₁, toks := s.toks + (ps.zip vs).length } _ O' S') (fun fl s' ⟨h', tk, e, z⟩ => ?_) fun _ _ x => x
  subst e
  cases fl with
  | next =>
    obtain ⟨σ', ω', k', q, m', cs, ow, fz', S₂, hz, _⟩ := z
    exact leave_key (s := s) (tk := tk) (m := m) q ⟨m', ow ++ cs, fz', by rw [List.append_assoc]; exact S₂, hz, .none⟩
  | ret v =>
    obtain ⟨mv, k', q, r⟩ := z
    exact leave_key (s := s) (tk := tk) (m := m) q r
  | brk => exact z.elim
  | cont => exact z.elim
end
end Mine
end
section
set_option autoImplicit false
set_option linter.unusedVariables false
set_option maxRecDepth 100000
namespace Mine

noncomputable def ownMV : Own → MV
  | .lst l => .lst l
  | .dic l => .dic l
  | .set l => .set l
  | .inst _ c fs => .obj c fs
noncomputable def delW (x : Str) : List (Str × Own) → List (Str × Own)
  | [] => []
  | (y, o) :: r => if (y == x) = true then r else (y, o) :: delW x r
theorem OwnLed.rep {g : GC} {fz : Led} {a : Addr} {ow : Own} {seg : Led} (h : OwnLed g fz a ow seg) : Rep g (seg ++ fz) (.ref a) (ownMV ow) := by
  cases h with
  | lst r b => exact .lst (.head _) r.1 b fun i v m x y => (r.2 i v m x y).mono fun p hp => .tail _ hp
  | dic a b c d e => exact .dic (.head _) a b c d fun i v m x y => (e i v m x y).mono fun p hp => .tail _ hp
  | set c => exact .set (.head _) c
  | inst val a b c d e => exact .obj val (.head _) (.tail _ (.head _)) a b (Nat.le_trans d e) fun n m x => (c n m x).mono fun p hp => .tail _ (.tail _ hp)
theorem Owns.take {g : GC} {fz : Led} {m : Str → Option Value} {x : Str} {ow : Own} : ∀ {ω : List (Str × Own)} {l : Led}, Owns g fz m ω l → ω.lookup x = some ow →
    ∃ a pre seg post, l = pre ++ (seg ++ post) ∧ m x = some (.ref a) ∧ OwnLed g fz a ow seg ∧ Owns g fz m (delW x ω) (pre ++ post)
  | [], _, _, h => by cases h
  | (y, o) :: r, l, ⟨a, l₁, l₂, e, hm, ho, hr⟩, h => by
    rw [List.lookup_cons] at h
    cases hxy : x == y with
    | true =>
      rw [hxy] at h
      cases h
      have hy : x = y := eq_of_beq hxy
      subst hy
      refine ⟨a, [], l₁, l₂, e, hm, ho, ?_⟩
      show Owns g fz m (if (x == x) = true then r else _) _
      rw [if_pos (by simp)]
      exact hr
    | false =>
      rw [hxy] at h
      obtain ⟨a', pre, seg, post, e', hm', ho', k⟩ := Owns.take hr h
      refine ⟨a', l₁ ++ pre, seg, post, by rw [e, e', List.append_assoc], hm', ho', ?_⟩
      have hyx : (y == x) = false := by
        cases q : y == x with
        | false => rfl
        | true => rw [eq_of_beq q] at hxy; simp at hxy
      show Owns g fz m (if (y == x) = true then _ else (y, o) :: delW x r) _
      rw [hyx, if_neg (by decide)]
      exact ⟨a, l₁, pre ++ post, by rw [List.append_assoc], hm, ho, k⟩

section
variable {g : GC} {n : Nat} {sc : Scope} {σ : List (Str × MV)} {ω : List (Str × Own)} {k : Int} {N : Nx} {R : MV → Int → Prop}

theorem exs_freeze {x : Str} {ow : Own} {sts : List Stmt} (hω : ω.lookup x = some ow) (hl : sc.names.lookup x = some .local) (h : Exs g n sc sts ((x, ownMV ow) :: σ) (delW x ω) k N R) : Exs g n sc sts σ ω k N R := by
  intro A h₀ L mt0 fz0 env s E O S
  refine h A h₀ L mt0 fz0 env s E O ?_
  obtain ⟨m, cs, ow', fz, S, hz, V, W, C⟩ := S
  obtain ⟨a, pre, seg, post, rfl, hm, ho, hr⟩ := W.take hω
  obtain ⟨t, S⟩ := S
  have S' : Sta g h₀ L m ((pre ++ post) ++ (cs ++ mt0)) k (seg ++ fz) s.heap := by
    refine ⟨t, S.perm (List.Perm.cons _ ?_)⟩
    simp only [List.append_assoc]
    refine List.Perm.append_left _ ?_
    have key := (List.perm_append_comm (l₁ := seg) (l₂ := post ++ (cs ++ mt0))).append_right fz
    simpa only [List.append_assoc] using key
  have hs : ∀ p ∈ fz, p ∈ seg ++ fz := fun p hp => List.mem_append_right _ hp
  refine ⟨m, cs, pre ++ post, seg ++ fz, S', fun p hp => hs p (hz p hp), ⟨V.scope, V.kind, V.globals, V.builtins, V.loc, fun y v e q => ?_, V.cells, fun y v e q => ?_⟩, hr.mono hs, C⟩
  · rw [List.lookup_cons] at e
    cases hy : y == x with
    | true => rw [hy] at e; cases e; rw [eq_of_beq hy]; exact ⟨_, hm, ho.rep⟩
    | false => rw [hy] at e; obtain ⟨u, a1, a2⟩ := V.locs y v e q; exact ⟨u, a1, a2.mono hs⟩
  · rw [List.lookup_cons] at e
    cases hy : y == x with
    | true => rw [eq_of_beq hy, hl] at q; rcases q with q | q <;> cases q
    | false => rw [hy] at e; obtain ⟨c, o, u, a1, a2, a3, a4⟩ := V.vals y v e q; exact ⟨c, o, u, a1, a2.imp id (hs _), a3, a4.mono hs⟩

theorem store_own {A : Around} {h₀ : Heap} {L a : Addr} {mt0 fz0 cs ow fz seg : Led} {env : Env} {s : Shared} {E : Value → Shared → Prop} {m : Str → Option Value} {x : Str} {o : Own} {Q : Unit → Shared → Prop}
    (S : Sta g h₀ L m (seg ++ (ow ++ (cs ++ mt0))) k fz s.heap) (hz : ∀ p ∈ fz0, p ∈ fz) (V : VarsF g env sc σ L m cs fz) (W : Owns g fz m ω ow) (C : Cel env sc cs) (Ro : OwnLed g fz a o seg) (hl : sc.names.lookup x = some .local) (hω : ∀ p ∈ ω, p.1 ≠ x) (hσ : σ.lookup x = none)
    (h : ∀ h' tk, Sf g env sc h₀ L mt0 fz0 σ ((x, o) :: ω) k h' → Q () { s with heap := h', toks := tk }) : wpAny (model g.prog g.w) A (storeName env x (.ref a)) Q E s := by
  obtain ⟨t, S⟩ := S
  refine wpAny_storeName_local (m := m) (by show env.scope.names.lookup x = _; rw [V.scope]; exact hl) (by rw [V.loc]; exact S.fr.ns) (fun h' hn hs => ?_) (by rw [V.scope]; show (sc.kind == .class || (sc.kind == .module && _)) = false; rw [V.kind]; rfl)
  rw [V.loc] at hn hs
  have S' : Sta g h₀ L (fun z => if z = x then some (.ref a) else m z) ((seg ++ ow) ++ (cs ++ mt0)) k fz h' := ⟨t, by rw [List.append_assoc seg]; exact S.named hn hs⟩
  refine h h' _ ⟨_, cs, seg ++ ow, fz, S', hz, ⟨V.scope, V.kind, V.globals, V.builtins, V.loc, fun y u e q => ?_, V.cells, V.vals⟩, ⟨a, seg, ow, rfl, if_pos rfl, Ro, W.names fun p hp => if_neg (hω p hp)⟩, C⟩
  by_cases hy : y = x
  · subst hy; rw [hσ] at e; cases e
  · obtain ⟨u', a1, a2⟩ := V.locs y u e q
    exact ⟨u', by rw [if_neg hy]; exact a1, a2⟩

theorem ex_NewList {x : Str} {px lp pos : Pos} (h : N σ ((x, .lst []) :: ω) k) (hl : sc.names.lookup x = some .local) (hω : ∀ p ∈ ω, p.1 ≠ x) (hσ : σ.lookup x = none)
    (hs : ∀ env : Env, env.scope = sc → swapsWith (.List [] lp) (some (.Name x px)) pos.line env = pure false := by intro _ _; rfl) : Ex g n sc (.Assign [.Name x px] (.List [] lp) pos) σ ω k N R := by
  intro A h₀ L mt0 fz0 env s E O S
  have he : env.scope = sc := S.scope
  obtain ⟨m, cs, ow, fz, S, hz, V, W, C⟩ := S
  refine wpAny_Assign_Name (List_ (spliced_none ?_)) (hs env he)
  refine wpAny_newObj_type ?_ (by show (0 : Nat) ≤ _; exact Nat.zero_le _)
  have S' := S.allocM (listOf ([] : List Value).toArray 0)
  exact store_own (s := { s with heap := s.heap.push (listOf ([] : List Value).toArray 0) }) (seg := [(s.heap.objs.size, listOf ([] : List Value).toArray 0)]) S' hz V W C (.lst .nil (by decide)) hl hω hσ fun h' tk S'' => ⟨h', tk, rfl, _, _, k, h, S''⟩
theorem ex_NewSet {x : Str} {px fp cp pos : Pos} (h : N σ ((x, .set []) :: ω) k) (hl : sc.names.lookup x = some .local) (hg : sc.names.lookup (Str.ofString "set") = some .globalImplicit) (hgl : nsIn g.K mainGlobals (Str.ofString "set") = some none) (hω : ∀ p ∈ ω, p.1 ≠ x) (hσ : σ.lookup x = none)
    (hs : ∀ env : Env, env.scope = sc → swapsWith (.Call (.Name (Str.ofString "set") fp) [] [] cp) (some (.Name x px)) pos.line env = pure false := by intro _ _; rfl) : Ex g n sc (.Assign [.Name x px] (.Call (.Name (Str.ofString "set") fp) [] [] cp) pos) σ ω k N R := by
  intro A h₀ L mt0 fz0 env s E O S
  have he : env.scope = sc := S.scope
  refine wpAny_Assign_Name (wpAny_Call_NameR (wp_se (stmt_ev (E := E) (Q := fun v k' => v = .st (.type "set") ∧ k' = k) O S (ev_builtin hg hgl (by boot_by_name) (by decide) rfl ⟨rfl, rfl⟩)) fun fv mf k₁ h' tk' m cs ow fz zq S₁ hz V W C Rf => ?_)) (hs env he)
  obtain ⟨e1, e2⟩ := zq
  subst e1; subst e2
  cases Rf
  refine callWith_of (P := fun _ => True) (f := .type "set") (by rfl) (fun _ _ => ⟨.machine, .inr (.inl rfl), fun A Q E s k q => wpAny_pure q⟩) ?_
  refine evalArgs_nil3 ⟨trivial, ?_⟩
  refine call_set_none ?_
  have S' := S₁.allocM { cls := .type "set", dict := none, data := .set #[] 0 (.fresh 0 0 (!(g.w.params.followText "set-order"))) }
  exact store_own (s := { s with heap := h'.push { cls := .type "set", dict := none, data := .set #[] 0 (.fresh 0 0 (!(g.w.params.followText "set-order"))) }, toks := tk' }) (seg := [(h'.objs.size, _)]) S' hz V W C (.set (canSet_fresh g.w)) hl hω hσ fun h' tk S'' => ⟨h', tk, rfl, _, _, k₁, h, S''⟩
end
end Mine
end
section
set_option autoImplicit false
set_option linter.unusedVariables false
set_option maxRecDepth 100000
namespace Mine
section
variable {g : GC} {n : Nat} {sc : Scope} {σ : List (Str × MV)} {ω : List (Str × Own)} {k : Int} {N : Nx} {R : MV → Int → Prop}

theorem ex_NewDict {x : Str} {px lp pos : Pos} (h : N σ ((x, .dic []) :: ω) k) (hl : sc.names.lookup x = some .local) (hω : ∀ p ∈ ω, p.1 ≠ x) (hσ : σ.lookup x = none)
    (hs : ∀ env : Env, env.scope = sc → swapsWith (.Dict [] [] lp) (some (.Name x px)) pos.line env = pure false := by intro _ _; rfl) : Ex g n sc (.Assign [.Name x px] (.Dict [] [] lp) pos) σ ω k N R := by
  intro A h₀ L mt0 fz0 env s E O S
  have he : env.scope = sc := S.scope
  obtain ⟨m, cs, ow, fz, S, hz, V, W, C⟩ := S
  refine wpAny_Assign_Name (wpAny_Dict_empty ?_) (hs env he)
  have S' := S.allocM { cls := .type "dict", data := .dict #[] }
  obtain ⟨o, ho, hdo⟩ := Heap.dictOf_iff.mp (Heap.DictOf.new (knd := PySem.intKind g.prog g.w) s.heap)
  rw [Heap.get?_push_size _ rfl] at ho
  cases ho
  exact store_own (s := { s with heap := s.heap.push { cls := .type "dict", data := .dict #[] } }) (seg := [(s.heap.objs.size, { cls := .type "dict", data := .dict #[] })]) S' hz V W C (.dic (sys_low O S) hdo rfl (by decide) fun i v m a _ => by simp at a) hl hω hσ fun h' tk S'' => ⟨h', tk, rfl, _, _, k, h, S''⟩

theorem own_name {A : Around} {env : Env} {h₀ : Heap} {L : Addr} {m : Str → Option Value} {mt fz : Led} {s : Shared} {E : Value → Shared → Prop} {x : Str} {px : Pos} {a : Addr} {Q : Value → Shared → Prop} (hsc : env.scope = sc) (hk : sc.kind = .function) (hloc : env.locals = L) (hl : sc.names.lookup x = some .local)
    (S : Sta g h₀ L m mt k fz s.heap) (hm : m x = some (.ref a)) (h : Q (.ref a) s) (hd : (x == ("__debug__" : Str)) = false := by decide) : wpAny (model g.prog g.w) A (eval (.Name x px) env) Q E s :=
  wpAny_Name (wpAny_loadName_local (m := m) (by rw [hsc]; exact hk) (by show env.scope.names.lookup x = _; rw [hsc]; exact hl) (by rw [hloc]; exact S.ns) hm h) hd

theorem seg_perm {pre seg post cs mt0 : Led} : pre ++ (seg ++ post) ++ (cs ++ mt0) = pre ++ (seg ++ (post ++ (cs ++ mt0))) := by simp

theorem Sf.vars {env : Env} {L : Addr} {m : Str → Option Value} {mt0 cs ow fz : Led} (V : VarsF g env sc σ L m cs fz) : VarsF g env sc σ L m (ow ++ (cs ++ mt0)) fz :=
  V.wide

theorem ex_Append {x : Str} {xp ap cp pos : Pos} {e : Expr} {l : List MV} (hω : ω.lookup x = some (.lst l)) (hl : sc.names.lookup x = some .local) (hlen : l.length ≤ 900) (hp : plainArgs [e] = true)
    (h : Ev g n sc e σ k fun v k' => N σ (setW x (.lst (l ++ [v])) ω) k')
    (he : ∀ env, ∃ pl : Sem Bool, eval (.Call (.Attribute (.Name x xp) (Str.ofString "append") ap) [e] [] cp) env = (do let ov ← eval (.Name x xp) env; standAt ap.atName; let (f, first) ← holding [ov] (getMethod ov (Str.ofString "append") pl); callWith cp f first (backTo cp (starEach [e] env)) (backToKw cp (keywordEach [] env))) := by intro _; exact ⟨_, rfl⟩)
    (hi : ∀ env : Env, env.scope = sc → interactive env = false := by intro env he; simp only [interactive, he]; rfl) (hsw : ∀ env : Env, env.scope = sc → swapsWith (.Call (.Attribute (.Name x xp) (Str.ofString "append") ap) [e] [] cp) none pos.line env = pure false := by intro _ _; rfl) (hd : (x == ("__debug__" : Str)) = false := by decide) :
    Ex g n sc (.Expr (.Call (.Attribute (.Name x xp) (Str.ofString "append") ap) [e] [] cp) pos) σ ω k N R := by
  intro A h₀ L mt0 fz0 env s E O S
  obtain ⟨m, cs, ow, fz, S, hz, V, W, C⟩ := S
  obtain ⟨a, pre, seg, post, rfl, hm, ho, hback⟩ := W.split hω
  cases ho with
  | lst hr hb =>
    rename_i vs c
    have hls : s.heap.IsList a vs.toArray := ⟨_, S.getM (p := (a, listOf vs.toArray c)) (by simp), rfl, c, rfl⟩
    obtain ⟨pl, hev⟩ := he env
    refine wpAny_Expr (methodCall_KW (pl := pl) (own_name V.scope V.kind V.loc hl S hm (getMethod_builtin hls.typeIs PySem.F.plainAttrs_list PySem.F.slot_list_append PySem.F.type_list_append (fun b e => by injection e with e; subst e; exact ⟨_, S.getM (p := (a, listOf vs.toArray c)) (by simp), rfl⟩) ?_) hd) hev) (hi env V.scope) (hsw env V.scope)
    refine callWith_of (P := fun _ => True) (by rw [backTo_any hp]; rfl) (fun _ _ => ⟨.machine, .inr (.inl rfl), fun A Q E s k q => wpAny_pure q⟩) ?_
    refine wpAny_mono (evalArgs_evs (σ := σ) (mt := pre ++ ([(a, listOf vs.toArray c)] ++ post) ++ (cs ++ mt0)) O (.inl rfl) hp (Sf.vars V).vars S (Q := fun ms k' => ∃ v, ms = [v] ∧ N σ (setW x (.lst (l ++ [v])) ω) k') ?_) (fun ar s₁ ⟨hkw, ms, k₁, ⟨v, ems, q⟩, h', tk', fz', e, hs, S₁, R₁⟩ => ?_) fun _ _ x => x
    · refine Ev.mono h fun v k' q => ?_
      show ∃ v', [v] = [v'] ∧ N σ _ k'
      exact ⟨v, rfl, q⟩
    subst e; subst ems
    refine ⟨trivial, ?_⟩
    rw [hkw]
    obtain ⟨u, us, e1, ru, rr⟩ := RepL.cons_inv R₁
    rw [e1, RepL.nil_inv rr]
    have sp : ∀ q : Obj, pre ++ ([(a, q)] ++ post) ++ (cs ++ mt0) = pre ++ (a, q) :: (post ++ (cs ++ mt0)) := fun q => by simp
    rw [sp] at S₁
    refine wpAny_list_append_plain (s := { s with heap := h', toks := tk' }) (items := vs.toArray) ⟨c, S₁.getM (p := (a, listOf vs.toArray c)) (by simp)⟩ (fun h₅ hl₅ hs₅ => ?_) (by rw [List.size_toArray, sizeLine_eq]; omega)
    obtain ⟨n5, e5⟩ := hl₅
    have S₅ : Sta g h₀ L m (pre ++ (a, listOf (vs ++ [u]).toArray n5) :: (post ++ (cs ++ mt0))) k₁ fz' h₅ := Sta.turnM S₁ hs₅.extBut (by rw [e5]; simp)
    rw [← sp] at S₅
    have hlv := hr.1
    exact ⟨h₅, tk', rfl, σ, _, k₁, q, m, cs, pre ++ ([(a, listOf (vs ++ [u]).toArray n5)] ++ post), fz', S₅, fun p hp => hs p (hz p hp), V.mono hs, hback fz' _ _ hs (.lst ((hr.mono hs).snoc ru) (by simp; omega)), C⟩

theorem ex_Update {x : Str} {xp ap cp pos : Pos} {e : Expr} {l : List Int} (hω : ω.lookup x = some (.set l)) (hl : sc.names.lookup x = some .local) (hp : plainArgs [e] = true)
    (h : Ev g n sc e σ k fun v k' => ∃ ns : List Int, v = .lst (ns.map .int) ∧ (∀ i ∈ ns, i ∈ seven) ∧ N σ (setW x (.set (insAll ns l)) ω) k')
    (he : ∀ env, ∃ pl : Sem Bool, eval (.Call (.Attribute (.Name x xp) (Str.ofString "update") ap) [e] [] cp) env = (do let ov ← eval (.Name x xp) env; standAt ap.atName; let (f, first) ← holding [ov] (getMethod ov (Str.ofString "update") pl); callWith cp f first (backTo cp (starEach [e] env)) (backToKw cp (keywordEach [] env))) := by intro _; exact ⟨_, rfl⟩)
    (hi : ∀ env : Env, env.scope = sc → interactive env = false := by intro env he; simp only [interactive, he]; rfl) (hsw : ∀ env : Env, env.scope = sc → swapsWith (.Call (.Attribute (.Name x xp) (Str.ofString "update") ap) [e] [] cp) none pos.line env = pure false := by intro _ _; rfl) (hd : (x == ("__debug__" : Str)) = false := by decide) :
    Ex g n sc (.Expr (.Call (.Attribute (.Name x xp) (Str.ofString "update") ap) [e] [] cp) pos) σ ω k N R := by
  intro A h₀ L mt0 fz0 env s E O S
  obtain ⟨m, cs, ow, fz, S, hz, V, W, C⟩ := S
  obtain ⟨a, pre, seg, post, rfl, hm, ho, hback⟩ := W.split hω
  cases ho with
  | set hc =>
    rename_i o
    obtain ⟨pl, hev⟩ := he env
    refine wpAny_Expr (methodCall_KW (pl := pl) (own_name V.scope V.kind V.loc hl S hm (set_update_method (S.getM (p := (a, o)) (by simp)) hc ?_) hd) hev) (hi env V.scope) (hsw env V.scope)
    refine callWith_of (P := fun _ => True) (by rw [backTo_any hp]; rfl) (fun _ _ => ⟨.machine, .inr (.inl rfl), fun A Q E s k q => wpAny_pure q⟩) ?_
    refine wpAny_mono (evalArgs_evs (σ := σ) (mt := pre ++ ([(a, o)] ++ post) ++ (cs ++ mt0)) O (.inl rfl) hp (Sf.vars V).vars S (Q := fun ms k' => ∃ ns : List Int, ms = [.lst (ns.map .int)] ∧ (∀ i ∈ ns, i ∈ seven) ∧ N σ (setW x (.set (insAll ns l)) ω) k') ?_) (fun ar s₁ ⟨hkw, ms, k₁, ⟨ns, ems, h7, q⟩, h', tk', fz', e, hs, S₁, R₁⟩ => ?_) fun _ _ x => x
    · refine Ev.mono h fun v k' ⟨ns, e, b, q⟩ => ?_
      show ∃ ns' : List Int, [v] = [.lst (ns'.map .int)] ∧ (∀ i ∈ ns', i ∈ seven) ∧ N σ _ k'
      exact ⟨ns, by rw [e], b, q⟩
    subst e; subst ems
    refine ⟨trivial, ?_⟩
    rw [hkw]
    obtain ⟨u, us, e1, ru, rr⟩ := RepL.cons_inv R₁
    rw [e1, RepL.nil_inv rr]
    have sp : ∀ q : Obj, pre ++ ([(a, q)] ++ post) ++ (cs ++ mt0) = pre ++ (a, q) :: (post ++ (cs ++ mt0)) := fun q => by simp
    rw [sp] at S₁
    cases ru with
    | lst hm2 hl2 hb2 hr2 =>
      rename_i b us nn
      refine call_set_update (s := { s with heap := h', toks := tk' }) (items := us.toArray) O.hand (S₁.getM (p := (a, o)) (by simp)) hc ⟨_, S₁.get hm2, rfl, _, rfl⟩ (by simpa using ints_repL ⟨hl2, hr2⟩) h7 fun h₅ tk₅ o₅ hk₅ ho₅ hc₅ => ?_
      have S₅ : Sta g h₀ L m (pre ++ (a, o₅) :: (post ++ (cs ++ mt0))) k₁ fz' h₅ := Sta.turnM S₁ (fun b o hb e => hk₅ b o hb e) ho₅
      rw [← sp] at S₅
      exact ⟨h₅, tk₅, rfl, σ, _, k₁, q, m, cs, pre ++ ([(a, o₅)] ++ post), fz', S₅, fun p hp => hs p (hz p hp), V.mono hs, hback fz' _ _ hs (.set hc₅), C⟩

theorem ex_SetItem {x : Str} {xp ap pos : Pos} {e v : Expr} {l : List (Int × MV)} (hω : ω.lookup x = some (.dic l)) (hl : sc.names.lookup x = some .local) (hlen : l.length ≤ 900)
    (h : Ev g n sc v σ k fun mv k₁ => Ev g n sc e σ k₁ fun i k₂ => ∃ j, i = .int j ∧ N σ (setW x (.dic (putM l j mv)) ω) k₂)
    (hs : ∀ env : Env, env.scope = sc → swapsWith v (some ((Expr.Name x xp).Subscript e ap)) pos.line env = pure false := by intro _ _; rfl) (hd : (x == ("__debug__" : Str)) = false := by decide) :
    Ex g n sc (.Assign [(Expr.Name x xp).Subscript e ap] v pos) σ ω k N R := by
  intro A h₀ L mt0 fz0 env s E O S
  obtain ⟨m, cs, ow, fz, S, hz, V, W, C⟩ := S
  obtain ⟨a, pre, seg, post, rfl, hm, ho, hback⟩ := W.split hω
  cases ho with
  | dic hsm hdo hk hb hr =>
    rename_i o kvs
    refine wpAny_Assign_Subscript (wp_res (h A env h₀ L m _ fz env s E O (Sf.vars V).vars (.inl rfl) S) fun u mv k₁ h' tk' fz' h₁ hs' S₁ R₁ => ?_) (hs env V.scope)
    refine own_name (s := { s with heap := h', toks := tk' }) V.scope V.kind V.loc hl S₁ hm ?_ hd
    refine wp_res (h₁ A env h₀ L m _ fz' env _ E O ((Sf.vars V).mono hs').vars (.inl rfl) S₁) fun i mi k₂ h'' tk'' fz'' zq hs'' S₂ R₂ => ?_
    obtain ⟨j, hj, q⟩ := zq
    subst hj
    obtain ⟨t₂, rfl⟩ : ∃ t₂, i = .int j t₂ := R₂.elim_int fun _ => ⟨_, rfl⟩
    have sp : ∀ q : Obj, pre ++ ([(a, q)] ++ post) ++ (cs ++ mt0) = pre ++ (a, q) :: (post ++ (cs ++ mt0)) := fun q => by simp
    rw [sp] at S₂
    have hm2 := S₂.getM (p := (a, o)) (by simp)
    refine wpAny_setItem_pairs (s := { s with heap := h'', toks := tk'' }) (hsz := by rw [sizeLine_eq]; omega) (intKind_is _ _ _ _) (Heap.dictOf_iff.mpr ⟨o, hm2, hdo⟩) fun h₃ hmm hs₃ => ?_
    obtain ⟨o', ho', hd'⟩ := Heap.dictOf_iff.mp hmm
    have S₃ : Sta g h₀ L m (pre ++ (a, o') :: (post ++ (cs ++ mt0))) k₂ fz'' h₃ := Sta.turnM S₂ hs₃.extBut ho'
    rw [← sp] at S₃
    have hs2 : ∀ p ∈ fz, p ∈ fz'' := fun p hp => hs'' p (hs' p hp)
    have RD := ((RepD.of hk hr).mono hs2).put (k := j) (R₁.mono hs'')
    have hkl : kvs.length = l.length := (RepD.of hk hr).len
    exact ⟨h₃, _, rfl, σ, _, k₂, q, m, cs, pre ++ ([(a, o')] ++ post), fz'', S₃, fun p hp => hs2 p (hz p hp), V.mono hs2, hback fz'' _ _ hs2 (.dic hsm hd' RD.keys (Nat.le_trans (stored_length_le _ _ _) (by omega)) RD.idx), C⟩
end
end Mine
end
section
set_option autoImplicit false
set_option linter.unusedVariables false
set_option maxRecDepth 100000
namespace Mine
section
variable {g : GC} {n : Nat} {sc : Scope} {σ : List (Str × MV)} {ω : List (Str × Own)} {k : Int} {N : Nx} {R : MV → Int → Prop}

theorem ex_While {test : Expr} {body : List Stmt} {pos : Pos} (I : Nat → Nx) (c₀ : Nat) (h0 : I c₀ σ ω k)
    (turn : ∀ c σ ω k, I c σ ω k → Ts g n sc test σ k fun b k' => if b then Exs g n sc body σ ω k' (fun σ' ω' k'' => ∃ c', c' < c ∧ I c' σ' ω' k'') R else N σ ω k') :
    Ex g n sc (.While test body [] pos) σ ω k N R := by
  intro A h₀ L mt0 fz0 env s E O S
  refine wpAny_While (codeAny_whileLoop (fun c s' => ∃ σ' ω' k' hh tk, s' = { s with heap := hh, toks := tk } ∧ Sf g env sc h₀ L mt0 fz0 σ' ω' k' hh ∧ I c σ' ω' k') ?_ c₀ ⟨σ, ω, k, s.heap, s.toks, rfl, S, h0⟩)
  rintro c s' ⟨σ', ω', k', hh, tk, rfl, SF, hI⟩
  obtain ⟨m, cs, ow, fz, S, hz, V, W, C⟩ := SF
  refine wp_resB (turn c σ' ω' k' hI A env h₀ L m _ fz env _ _ O (Sf.vars V).vars (.inl rfl) S) fun b k₁ h' tk' fz' q hs S₁ => ?_
  have S2 : Sf g env sc h₀ L mt0 fz0 σ' ω' k₁ h' := ⟨m, cs, ow, fz', S₁, fun p hp => hs p (hz p hp), V.mono hs, W.mono hs, C⟩
  cases b with
  | true =>
    refine wpAny_mono (q A h₀ L mt0 fz0 env _ _ O S2) (fun fl s₂ ⟨h₂, tk₂, e, y⟩ => ?_) fun _ _ x => x
    subst e
    cases fl with
    | next => obtain ⟨σ₂, ω₂, k₂, ⟨c', hc, hI'⟩, S₃⟩ := y; exact ⟨c', hc, σ₂, ω₂, k₂, h₂, tk₂, rfl, S₃, hI'⟩
    | ret v => exact ⟨h₂, tk₂, rfl, y⟩
    | brk => exact y.elim
    | cont => exact y.elim
  | false => exact wpAny_execs_nil ⟨h', tk', rfl, σ', ω', k₁, q, S2⟩

theorem ex_ForNone {target iter : Expr} {pos : Pos} {body : List Stmt} (h : Ev g n sc iter σ k fun mv k₁ => Itm mv [] ∧ N σ ω k₁)
    (hs : ∀ (env : Env) x, foldedSetIterable iter env x = pure x := by intro _ _; rfl) : Ex g n sc (.For target iter body [] pos) σ ω k N R := by
  intro A h₀ L mt0 fz0 env s E O S
  refine wpAny_For (wp_se (stmt_ev O S h) fun v mv k₁ h' tk' m cs ow fz zq S₁ hz V W C₁ R₁ => ?_) (hs env)
  obtain ⟨hi, hN⟩ := zq
  refine iter_any (s := { s with heap := h', toks := tk' }) O.hand S₁ R₁ hi fun oI Sa hfree WK hst => ?_
  obtain ⟨⟨fp, P, Wl, hfp, hP⟩, alive⟩ := WK
  refine codeAny_forLoop_any (fun c s' => s' = { s with heap := h'.push oI, toks := tk' }) ?_ 0 rfl
  rintro c s' rfl
  have hI : h'.get? h'.objs.size = none := Heap.get?_none_of_le (Nat.le_refl _)
  refine Wl.done { s with heap := h'.push oI, toks := tk' } _ _ hst fun h₂ tk₂ hk₂ => ?_
  refine wpAny_execs_nil ⟨h₂, tk₂, rfl, σ, ω, k₁, hN, m, cs, ow, fz, S₁.keeps fun b o e => hk₂ b o (fun q => ?_) (Heap.get?_push_of_some _ e), hz, V, W, C₁⟩
  rw [List.mem_singleton.mp q, hI] at e; cases e

theorem ex_Assign3 {a b c : Str} {pa pb pc tp pos : Pos} {kk : Nat} {e : Expr} (h : Ev g n sc e σ k fun v k' => ∃ x y z, v = .tup [x, y, z] ∧ N ((c, z) :: (b, y) :: (a, x) :: σ) ω k') (ha : sc.names.lookup a = some .local) (hb : sc.names.lookup b = some .local) (hc : sc.names.lookup c = some .local)
    (hω : ∀ p ∈ ω, p.1 ≠ a ∧ p.1 ≠ b ∧ p.1 ≠ c)
    (hs : ∀ env : Env, env.scope = sc → swapsWithSole [Expr.Tuple [.Name a pa, .Name b pb, .Name c pc] kk tp] e pos.line env = pure false := by intro _ _; rfl)
    (hs2 : ∀ env : Env, env.scope = sc → swappedStores [Expr.Tuple [.Name a pa, .Name b pb, .Name c pc] kk tp] e env = pure none := by intro _ _; rfl) :
    Ex g n sc (.Assign [Expr.Tuple [.Name a pa, .Name b pb, .Name c pc] kk tp] e pos) σ ω k N R := by
  intro A h₀ L mt0 fz0 env s E O S
  have he : env.scope = sc := S.scope
  refine Assign_Tuple (wp_se (stmt_ev (E := E) O S h) fun v mv k₁ h' tk' m cs ow fz zq S₁ hz V W C₁ R₁ => ?_) (hs env he) (hs2 env he)
  obtain ⟨x, y, z, e1, q⟩ := zq
  subst e1
  refine R₁.elim_tup fun hm hl hbb hr => ?_
  rename_i t vs nn
  obtain ⟨u1, u2, u3, rfl⟩ := len3 hl
  refine wpAny_assign_Tuple (s := { s with heap := h', toks := tk' }) (items := #[u1, u2, u3]) O.hand ⟨_, S₁.get hm, rfl, _, rfl⟩ rfl rfl fun h₂ hx => ?_
  have S₂ : Sta g h₀ L m (ow ++ (cs ++ mt0)) k₁ fz h₂ := S₁.keeps fun b o e => hx b o (Nat.ne_of_lt (Heap.lt_size e)) e
  have r1 := hr 0 u1 _ rfl rfl
  have r2 := hr 1 u2 _ rfl rfl
  have r3 := hr 2 u3 _ rfl rfl
  show wpAny _ _ (assignInOrder [assign (.Name a pa) env, assign (.Name b pb) env, assign (.Name c pc) env] [u1, u2, u3]) _ _ _
  refine assignInOrder_cons (wpAny_assign_Name (store_local (s := { s with heap := h₂, toks := tk' }) S₂ (fun _ h => h) V W C₁ r1 ha (fun p hp => (hω p hp).1) fun h₃ tk₃ S₃ => ?_))
  obtain ⟨m₃, cs₃, ow₃, fz₃, S₃, hz₃, V₃, W₃, C₃⟩ := S₃
  refine assignInOrder_cons (wpAny_assign_Name (store_local (s := { s with heap := h₃, toks := tk₃ }) S₃ (fun _ h => h) V₃ W₃ C₃ (r2.mono hz₃) hb (fun p hp => (hω p hp).2.1) fun h₄ tk₄ S₄ => ?_))
  obtain ⟨m₄, cs₄, ow₄, fz₄, S₄, hz₄, V₄, W₄, C₄⟩ := S₄
  refine assignInOrder_cons (wpAny_assign_Name (store_local (s := { s with heap := h₄, toks := tk₄ }) S₄ (fun _ h => h) V₄ W₄ C₄ ((r3.mono hz₃).mono hz₄) hc (fun p hp => (hω p hp).2.2) fun h₅ tk₅ S₅ => ?_))
  refine assignInOrder_nil ?_
  obtain ⟨m₅, cs₅, ow₅, fz₅, S₅, hz₅, V₅, W₅, C₅⟩ := S₅
  exact ⟨h₅, tk₅, rfl, _, ω, k₁, q, m₅, cs₅, ow₅, fz₅, S₅, fun p hp => hz₅ p (hz₄ p (hz₃ p (hz p hp))), V₅, W₅, C₅⟩
end
section
variable {g : GC} {n : Nat} {sc : Scope} {σ : List (Str × MV)} {k : Int}
theorem ts_chain {l m₁ r : Expr} {o₁ o₂ : CmpOp} {pos : Pos} {Q : Bool → Int → Prop}
    (h : Ev g n sc l σ k fun a k₁ => Ev g n sc m₁ σ k₁ fun b k₂ => Op2 g n (compareOp o₁) a b k₂ fun c k₃ => Tr g n c k₃ fun t => if t then Ev g n sc r σ k₃ fun d k₄ => Op2 g n (compareOp o₂) b d k₄ fun c₂ k₅ => Tr g n c₂ k₅ fun t₂ => Q t₂ k₅ else Q false k₃)
    (hm : lastMarks [o₁, o₂] [m₁, r] = false := by with_unfolding_all rfl) : Ts g n sc (.Compare l [o₁, o₂] [m₁, r] pos) σ k Q := by
  intro A fe h₀ L m mt fz env s E O V hf S
  refine isTrue_chain (rs := []) (ops := []) (wp_res (h A fe h₀ L m mt fz env s E O V hf S) fun a ma k₁ h' tk' fz' h₁ hs S₁ R₁ => ?_) hm
  show wpAny _ _ (testChain pos a [o₁, o₂] [eval m₁ env, eval r env]) _ _ _
  refine test_link (wp_res (h₁ A fe h₀ L m mt fz' env _ E O (V.mono hs) hf S₁) fun b mb k₂ h'' tk'' fz'' h₂ hs' S₂ R₂ => ?_)
  refine wp_res (h₂ A fe h₀ L m mt fz'' _ E a b O S₂ (R₁.mono hs') R₂) fun c mc k₃ h₃' tk₃ fz₃ h₃ hs₃ S₃ R₃ => ?_
  refine wpAny_mono (h₃ A fe h₀ L m mt fz₃ _ E c O S₃ R₃) (fun t s₄ ⟨q, tk, e⟩ => ?_) fun _ _ x => x
  subst e
  have hz : ∀ p ∈ fz, p ∈ fz₃ := fun p hp => hs₃ p (hs' p (hs p hp))
  cases t with
  | false => exact ⟨k₃, q, h₃', tk, fz₃, rfl, hz, S₃, .none⟩
  | true =>
    refine test_last (wp_res (q A fe h₀ L m mt fz₃ env _ E O (V.mono hz) hf S₃) fun d md k₄ h₄' tk₄ fz₄ h₄ hs₄ S₄ R₄ => ?_)
    refine wp_res (h₄ A fe h₀ L m mt fz₄ _ E b d O S₄ ((R₂.mono hs₃).mono hs₄) R₄) fun c₂ mc₂ k₅ h₅' tk₅ fz₅ h₅ hs₅ S₅ R₅ => ?_
    refine wpAny_mono (h₅ A fe h₀ L m mt fz₅ _ E c₂ O S₅ R₅) (fun t₂ s₇ ⟨q₂, tk₇, e⟩ => ⟨k₅, q₂, ?_⟩) fun _ _ x => x
    subst e
    exact ⟨h₅', tk₇, fz₅, rfl, fun p hp => hs₅ p (hs₄ p (hz p hp)), S₅, .none⟩
end
end Mine
end
section
set_option autoImplicit false
set_option linter.unusedVariables false
set_option maxRecDepth 100000
namespace Mine
section
variable {g : GC} {n : Nat} {sc : Scope} {σ σ' : List (Str × MV)} {ω : List (Str × Own)} {k : Int}
theorem evs_cons {e : Expr} {r : List Expr} {Q : List MV → Int → Prop} (h : Ev g n sc e σ k fun v k₁ => Evs g n sc r σ k₁ fun vs k₂ => Q (v :: vs) k₂) : Evs g n sc (e :: r) σ k Q := h
theorem evs_nil {Q : List MV → Int → Prop} (h : Q [] k) : Evs g n sc [] σ k Q := h

noncomputable def Sub (σ' σ : List (Str × MV)) : Prop := ∀ x v, σ'.lookup x = some v → σ.lookup x = some v
theorem Sub.nil : Sub [] σ := fun x v h => by cases h
theorem Sub.cons {x : Str} {v : MV} (h : σ.lookup x = some v) (hr : Sub σ' σ) : Sub ((x, v) :: σ') σ := fun y u e => by
  rw [List.lookup_cons] at e
  cases hy : y == x with
  | true => rw [hy] at e; cases e; rw [eq_of_beq hy]; exact h
  | false => rw [hy] at e; exact hr y u e
theorem Sub.refl : Sub σ σ := fun _ _ h => h
theorem Sub.over {x : Str} {v : MV} (h : Sub σ' σ) : Sub ((x, v) :: σ') ((x, v) :: σ) := fun y u e => by
  rw [List.lookup_cons] at e ⊢
  cases hy : y == x with
  | true => rw [hy] at e; exact e
  | false => rw [hy] at e; exact h y u e
theorem VarsF.sub {env : Env} {L : Addr} {m : Str → Option Value} {mt fz : Led} (hs : Sub σ' σ) (V : VarsF g env sc σ L m mt fz) : VarsF g env sc σ' L m mt fz :=
  ⟨V.scope, V.kind, V.globals, V.builtins, V.loc, fun x v e q => V.locs x v (hs x v e) q, V.cells, fun x v e q => V.vals x v (hs x v e) q⟩
theorem Vars.sub {env : Env} {h₀ : Heap} {L : Addr} {m : Str → Option Value} {mt fz : Led} (hs : Sub σ' σ) (V : Vars g env sc σ h₀ L m mt fz) : Vars g env sc σ' h₀ L m mt fz :=
  ⟨V.scope, V.kind, V.globals, V.builtins, let ⟨mN, a, b⟩ := V.locs; ⟨mN, a, fun x v e q => b x v (hs x v e) q⟩, V.cells, fun x v e q => V.vals x v (hs x v e) q⟩
theorem ev_sub {e : Expr} {Q : MV → Int → Prop} (hs : Sub σ' σ) (h : Ev g n sc e σ' k Q) : Ev g n sc e σ k Q :=
  fun A fe h₀ L m mt fz env s E O V hf S => h A fe h₀ L m mt fz env s E O (V.sub hs) hf S
theorem ts_sub {e : Expr} {Q : Bool → Int → Prop} (hs : Sub σ' σ) (h : Ts g n sc e σ' k Q) : Ts g n sc e σ k Q :=
  fun A fe h₀ L m mt fz env s E O V hf S => h A fe h₀ L m mt fz env s E O (V.sub hs) hf S
theorem exs_sub {sts : List Stmt} {N : Nx} {R : MV → Int → Prop} (hs : Sub σ' σ) (h : Exs g n sc sts σ' ω k N R) : Exs g n sc sts σ ω k N R :=
  fun A h₀ L mt0 fz0 env s E O S => h A h₀ L mt0 fz0 env s E O (let ⟨m, cs, ow, fz, S, hz, V, W, C⟩ := S; ⟨m, cs, ow, fz, S, hz, V.sub hs, W, C⟩)
theorem ex_sub {st : Stmt} {N : Nx} {R : MV → Int → Prop} (hs : Sub σ' σ) (h : Ex g n sc st σ' ω k N R) : Ex g n sc st σ ω k N R :=
  fun A h₀ L mt0 fz0 env s E O S => h A h₀ L mt0 fz0 env s E O (let ⟨m, cs, ow, fz, S, hz, V, W, C⟩ := S; ⟨m, cs, ow, fz, S, hz, V.sub hs, W, C⟩)

theorem fn_le {n' : Nat} {f : MV} {args : List MV} {Q : MV → Int → Prop} (hn : n ≤ n') (h : Fn g n f args k Q) : Fn g n' f args k Q :=
  fun A fe h₀ L m mt fz s E fv vs O S R RL => h A fe h₀ L m mt fz s E fv vs (O.le hn) S R RL
theorem sub_Ktup {value slice : Expr} {a : Addr} {o : Obj} {items : Array Value} {c : Nat} {i : Int} {v : Value} {mv : MV} {Q : MV → Int → Prop} (ho : g.K.lookup a = some o) (hc : o.cls = .type "tuple") (hd : o.data = .seq items c) (h0 : 0 ≤ i) (hi : items[i.toNat]? = some v) (hsz : items.size ≤ 1000) (hr : ∀ fz, Rep g fz v mv) (h : Q mv k)
    (hs : ∀ a b t, subscripted slice false (.ref a) (.int b t) = operate [.ref a, .int b t] (getItem (.ref a) (.int b t)) := by intro _ _ _; with_unfolding_all rfl) : Op2 g n (subscriptTail value slice) (.st (.ref a)) (.int i) k Q := by
  intro A fe h₀ L m mt fz s E u v' O S Ra Rb
  refine Rb.elim_int fun _ => ?_
  refine Ra.elim_st fun _ => ?_
  have hlt : i.toNat < items.size := by
    rcases Nat.lt_or_ge i.toNat items.size with h | h
    · exact h
    · rw [Array.getElem?_eq_none h] at hi; cases hi
  have hK := (O.kin.keeps S.keep) _ _ ho
  refine item_tupleT (j := i.toNat) (l := items.toList) ⟨_, hK, hc, c, by rw [hd]⟩ (by omega) (by omega) ?_ (by simpa using hi) ⟨_, k, h, .here0 S (hr fz)⟩ (hs _ _ _)
  have h1 : i < items.toList.length := by simp; omega
  have h2 : ¬ i < 0 := by omega
  simp at h1
  simp [seqIndex?, h0, h1, h2]
end
end Mine
end
section
set_option autoImplicit false
set_option linter.unusedVariables false
namespace Mine
theorem putM_keys (es : List (Int × MV)) (k : Int) (m : MV) : (putM es k m).map (·.1) = if k ∈ es.map (·.1) then es.map (·.1) else es.map (·.1) ++ [k] := by
  unfold putM
  have e : es.any (fun p => decide (p.1 = k)) = decide (k ∈ es.map (·.1)) := by
    rw [Bool.eq_iff_iff]; simp
  rw [e]
  by_cases h : k ∈ es.map (·.1)
  · rw [if_pos (by simpa using h), if_pos h, List.map_map]
    congr 1
    funext p
    simp only [Function.comp]
    split <;> rfl
  · rw [if_neg (by simpa using h), if_neg h]; simp
theorem foldPut_keys : ∀ (ps : List (Int × MV)) (es : List (Int × MV)), (es.map (·.1)).Nodup → ((ps.foldl (fun a p => putM a p.1 p.2) es).map (·.1)).Nodup ∧ (∀ y, y ∈ (ps.foldl (fun a p => putM a p.1 p.2) es).map (·.1) ↔ y ∈ es.map (·.1) ∨ y ∈ ps.map (·.1)) ∧
    (ps.foldl (fun a p => putM a p.1 p.2) es).length ≤ es.length + ps.length
  | [], es, h => ⟨h, by simp, by simp⟩
  | p :: r, es, h => by
    have hk := putM_keys es p.1 p.2
    have hn : ((putM es p.1 p.2).map (·.1)).Nodup := by
      rw [hk]
      split
      · exact h
      · rename_i q
        rw [List.nodup_append]
        refine ⟨h, by simp, fun a ha b hb => ?_⟩
        rw [List.mem_singleton] at hb
        subst hb
        exact fun e => q (e ▸ ha)
    obtain ⟨a, b, c⟩ := foldPut_keys r (putM es p.1 p.2) hn
    refine ⟨a, fun y => ?_, ?_⟩
    · show y ∈ (r.foldl (fun a p => putM a p.1 p.2) (putM es p.1 p.2)).map (·.1) ↔ _
      rw [b y, hk]
      split
      · rename_i q
        simp only [List.map_cons, List.mem_cons]
        constructor
        · rintro (h | h)
          · exact .inl h
          · exact .inr (.inr h)
        · rintro (h | h | h)
          · exact .inl h
          · rw [h]; exact .inl q
          · exact .inr h
      · simp only [List.mem_append, List.map_cons, List.mem_cons, List.not_mem_nil, false_or, or_assoc]
    · have hl : (putM es p.1 p.2).length ≤ es.length + 1 := by
        unfold putM; split <;> simp
      show (r.foldl (fun a p => putM a p.1 p.2) (putM es p.1 p.2)).length ≤ _
      simp only [List.length_cons]
      omega
theorem dictM_keys (ps : List (Int × MV)) : ((dictM ps).map (·.1)).Nodup ∧ (∀ y, y ∈ (dictM ps).map (·.1) ↔ y ∈ ps.map (·.1)) ∧ (dictM ps).length ≤ ps.length := by
  obtain ⟨a, b, c⟩ := foldPut_keys ps [] (by simp)
  refine ⟨a, fun y => by rw [dictM, b y]; simp, by unfold dictM; simpa using c⟩
theorem lookup_keys {es : List (Int × MV)} {y : Int} : (es.lookup y).isSome = true ↔ y ∈ es.map (·.1) := by
  induction es with
  | nil => simp
  | cons p r ih =>
    obtain ⟨a, b⟩ := p
    rw [List.lookup_cons]
    by_cases h : y = a
    · subst h; simp
    · have : (y == a) = false := by simpa using h
      rw [this]; simp only [ih, List.map_cons, List.mem_cons, h, false_or]
theorem lookup_none {es : List (Int × MV)} {y : Int} (h : y ∉ es.map (·.1)) : es.lookup y = none := by
  cases e : es.lookup y with
  | none => rfl
  | some m => exact absurd (lookup_keys.mp (by rw [e]; rfl)) h
theorem putM_all {P : Int → MV → Prop} {es : List (Int × MV)} {k : Int} {m : MV} (h : ∀ p ∈ es, P p.1 p.2) (hm : P k m) : ∀ p ∈ putM es k m, P p.1 p.2 := by
  unfold putM
  split
  · intro p hp
    obtain ⟨q, hq, rfl⟩ := List.mem_map.mp hp
    split
    · rename_i e; rw [e]; exact hm
    · exact h q hq
  · intro p hp
    rcases List.mem_append.mp hp with hp | hp
    · exact h p hp
    · rw [List.mem_singleton.mp hp]; exact hm
theorem dictM_all {P : Int → MV → Prop} {ps : List (Int × MV)} (h : ∀ p ∈ ps, P p.1 p.2) : ∀ p ∈ dictM ps, P p.1 p.2 := by
  have gen : ∀ (ps es : List (Int × MV)), (∀ p ∈ ps, P p.1 p.2) → (∀ p ∈ es, P p.1 p.2) → ∀ p ∈ ps.foldl (fun a p => putM a p.1 p.2) es, P p.1 p.2 := by
    intro ps
    induction ps with
    | nil => intro es _ h; exact h
    | cons q r ih => intro es h1 h2; exact ih _ (fun p hp => h1 p (.tail _ hp)) (putM_all h2 (h1 q (.head _)))
  exact gen ps [] h (fun p hp => nomatch hp)
theorem mem_of_lookup {es : List (Int × MV)} {y : Int} {m : MV} (h : es.lookup y = some m) : (y, m) ∈ es := by
  induction es with
  | nil => cases h
  | cons p r ih =>
    obtain ⟨a, b⟩ := p
    rw [List.lookup_cons] at h
    by_cases e : y = a
    · subst e; simp at h; subst h; exact .head _
    · have : (y == a) = false := by simpa using e
      rw [this] at h; exact .tail _ (ih h)
theorem strict_of {ns ks : List Int} (hp : ns.Perm ks) (ho : ns.Pairwise (· ≤ ·)) (hn : ks.Nodup) : ns.Pairwise (· < ·) := by
  have hn' : ns.Nodup := hp.nodup_iff.mpr hn
  have := ho.and hn'
  exact this.imp fun ⟨a, b⟩ => by omega
theorem strict_ext {a b : List Int} (ha : a.Pairwise (· < ·)) (hb : b.Pairwise (· < ·)) (h : ∀ y, y ∈ a ↔ y ∈ b) : a = b := by
  have na : a.Nodup := ha.imp fun h => by omega
  have nb : b.Nodup := hb.imp fun h => by omega
  have p : a.Perm b := (List.perm_ext_iff_of_nodup na nb).mpr h
  exact p.eq_of_pairwise (fun x y _ _ h1 h2 => by omega) ha hb
theorem insAll_mem {ns : List Int} {y : Int} : y ∈ insAll ns [] ↔ y ∈ ns := by rw [mem_insAll]; simp
theorem insAll_strict {ns : List Int} (h : ∀ i ∈ ns, i ∈ seven) : (insAll ns []).Pairwise (· < ·) := (chkWalk_at (insAll_sub (subs_nil _) h)).2.2.2.1
theorem strict_len {l : List Int} (hs : l.Pairwise (· < ·)) (h7 : ∀ i ∈ l, i ∈ seven) : l.length ≤ 7 := by
  have e : l = insAll l [] := strict_ext hs (insAll_strict h7) fun y => insAll_mem.symm
  rw [e]; exact (chkWalk_at (insAll_sub (subs_nil _) h7)).2.2.2.2
end Mine
end
section
set_option autoImplicit false
set_option linter.unusedVariables false
set_option maxRecDepth 100000
namespace Mine
section
variable {g : GC} {n : Nat} {sc : Scope} {σ : List (Str × MV)} {k : Int} {Q : MV → Int → Prop}
theorem Vars.moreM {env : Env} {h₀ : Heap} {L : Addr} {m : Str → Option Value} {mt mt' fz : Led} (V : Vars g env sc σ h₀ L m mt fz) (hs : ∀ p ∈ mt, p ∈ mt') : Vars g env sc σ h₀ L m mt' fz :=
  ⟨V.scope, V.kind, V.globals, V.builtins, let ⟨mN, a, b⟩ := V.locs; ⟨mN, a.imp id fun ⟨oC, h1, h2⟩ => ⟨oC, hs _ h1, h2⟩, b⟩, V.cells,
    fun x v e q => (V.vals x v e q).imp hs (fun _ h => h)⟩
theorem ev_Dict0 {pos : Pos} (h : Q (.dic []) k) : Ev g n sc (.Dict [] [] pos) σ k Q := by
  intro A fe h₀ L m mt fz env s E O V hf S
  refine wpAny_Dict_empty ?_
  obtain ⟨o, ho, hdo⟩ := Heap.dictOf_iff.mp (Heap.DictOf.new (knd := PySem.intKind g.prog g.w) s.heap)
  rw [Heap.get?_push_size _ rfl] at ho
  cases ho
  exact ⟨_, k, h, _, s.toks, _, rfl, fun p hp => .tail _ hp, S.alloc { cls := .type "dict", data := .dict #[] }, .dic (kvs := []) (.head _) (sys_low O S) hdo rfl (by decide) fun i v m a _ => by simp at a⟩
theorem ev_Dict1 {i : Int} {kk : Nat} {ip pos : Pos} {v : Expr} (h : Ev g n sc v σ k fun mv k' => Q (.dic [(i, mv)]) k') : Ev g n sc (.Dict [some (.Constant (.int i) kk ip)] [v] pos) σ k Q := by
  intro A fe h₀ L m mt fz env s E O V hf S
  refine wpAny_Dict_pairs (knd := PySem.intKind g.prog g.w) (pairs := [(eval (.Constant (.int i) kk ip) env, do let x ← eval v env; standAt pos; pure x)]) (by rfl) (by simp) (by simp) ?_
  refine evalPairs_cons (wpAny_Constant_int ?_)
  have S' := S.allocM { cls := .type "dict", data := .dict #[] }
  refine wpAny_bind ?_
  refine wp_res (h A fe h₀ L m ((s.heap.objs.size, { cls := .type "dict", data := .dict #[] }) :: mt) fz env { s with heap := s.heap.push { cls := .type "dict", data := .dict #[] }, toks := s.toks + 1 } _ O (V.moreM fun p hp => .tail _ hp) hf S') fun u mv k' h' tk' fz' q hs S₁ R₁ => ?_
  refine wpAny_bind (wpAny_standAt (wpAny_pure ?_))
  refine evalPairs_nil ?_
  refine ⟨[(i, u)], ⟨intKind_is _ _ _ _, rfl, trivial⟩, ?_, fun h₂ hd hs₂ => ?_⟩
  · obtain ⟨o, ho, hdo⟩ := Heap.dictOf_iff.mp (Heap.DictOf.new (knd := PySem.intKind g.prog g.w) s.heap)
    rw [Heap.get?_push_size _ rfl] at ho
    cases ho
    exact Heap.dictOf_iff.mpr ⟨_, S₁.getM (p := (s.heap.objs.size, { cls := .type "dict", data := .dict #[] })) (.head _), hdo⟩
  · obtain ⟨o, ho, hdo⟩ := Heap.dictOf_iff.mp hd
    have S₂ : Sta g h₀ L m ((s.heap.objs.size, o) :: mt) k' fz' h₂ := Sta.turnM (pre := []) S₁ hs₂.extBut ho
    exact ⟨_, k', q, h₂, _, _, rfl, fun p hp => .tail _ (hs p hp), S₂.freeze, .dic (kvs := [(i, u)]) (.head _) (sys_low O S) hdo rfl (by simp) fun j v' m' a b => by
      cases j with
      | zero => simp at a b; subst a; subst b; exact R₁.mono fun p hp => .tail _ hp
      | succ j => simp at a⟩
end
end Mine
end
section
set_option autoImplicit false
set_option linter.unusedVariables false
set_option maxRecDepth 100000
namespace Mine
noncomputable def scalar : MV → Bool
  | .none | .bool _ | .int _ | .str _ => true
  | _ => false
theorem Rep.scalar {g : GC} {fz fz' : Led} {v : Value} {m : MV} (h : Rep g fz v m) (hs : scalar m = true) : Rep g fz' v m := by
  cases h <;> first | (constructor; done) | (exact absurd hs (by simp [Mine.scalar]))
theorem perm5 {α : Type} (a b p t f : List α) : ((a ++ b ++ p) ++ (t ++ f)).Perm ((a ++ (t ++ b)) ++ (f ++ p)) := by
  classical
  rw [List.perm_iff_count]; intro x; simp only [List.count_append]; omega
theorem perm4 {α : Type} (a c t b f : List α) : ((a ++ (c ++ (t ++ b))) ++ f).Perm ((a ++ (c ++ b)) ++ (t ++ f)) := by
  classical
  rw [List.perm_iff_count]; intro x; simp only [List.count_append]; omega
theorem perm3 {α : Type} (a b p q : List α) (x : α) : ((a ++ b) ++ (p ++ x :: q)).Perm ((a ++ b ++ (p ++ q)) ++ [x]) := by
  classical
  rw [List.perm_iff_count]; intro y; simp only [List.count_append, List.count_cons, List.count_nil]; omega
theorem putL_same_len (x : Str) (hsh : Int) (key v : Value) : ∀ es : List DictEntry, es.any (·.key.isStr x) = true → (putL x hsh key v es).length = es.length
  | [], h => by simp at h
  | e :: r, h => by
    unfold putL
    cases q : e.key.isStr x with
    | true => simp
    | false =>
      have := putL_same_len x hsh key v r (by simpa [q] using h)
      simp [this]
theorem getL_any {x : Str} {es : List DictEntry} {v : Value} (h : getL x es = some (some v)) : es.any (·.key.isStr x) = true := by
  unfold getL at h
  cases q : es.find? (fun e => e.key.isStr x) with
  | none => rw [q] at h; dsimp only at h; split at h <;> cases h
  | some e =>
    have h1 := List.find?_some q
    have h2 := List.mem_of_find?_eq_some q
    exact List.any_eq_true.mpr ⟨e, h2, h1⟩

structure MaskOk (Ci Cb : Addr) (fI : Int → Int → Int → List (Str × MV)) (fB : MV → List (Str × MV)) (mask row : Str) : Prop where
  other : ∀ y c b b' name, name ≠ mask → (fI y c b).lookup name = (fI y c b').lookup name
  atM : ∀ y c b, (fI y c b).lookup mask = some (.int b)
  sc : ∀ y c b name m, (fI y c b).lookup name = some m → scalar m = true
  noRow : ∀ y c b, (fI y c b).lookup row = none
  rowB : ∀ m, (fB m).lookup row = some m
  otherB : ∀ m m' name, name ≠ row → (fB m).lookup name = (fB m').lookup name
  scB : ∀ m name m', name ≠ row → (fB m).lookup name = some m' → scalar m' = true

inductive InfoIn (fz tu : Led) (Ci : Addr) (fI : Int → Int → Int → List (Str × MV)) (g : GC) (v : Value) (y c b : Int) : Prop
  | mk (x d : Addr) (es : List DictEntry) (n : Nat) (val : Str → Value) (h1 : v = .ref x) (h2 : (x, instObj Ci d) ∈ fz) (h3 : (d, dictOf es n) ∈ tu) (h4 : es.length ≤ 100) (h5 : ∀ name, (fI y c b).lookup name = none → getL name es = some none)
    (h6 : ∀ name m, (fI y c b).lookup name = some m → getL name es = some (some (val name))) (h7 : ∀ name m, (fI y c b).lookup name = some m → Rep g [] (val name) m)
theorem InfoIn.rep {fz tu : Led} {Ci : Addr} {fI : Int → Int → Int → List (Str × MV)} {g : GC} {v : Value} {y c b : Int} (h : InfoIn fz tu Ci fI g v y c b) : Rep g (tu ++ fz) v (.obj Ci (fI y c b)) := by
  obtain ⟨x, d, es, n, val, rfl, h2, h3, h4, h5, h6, h7⟩ := h
  exact .obj val (List.mem_append_right _ h2) (List.mem_append_left _ h3) h5 h6 h4 fun name m e => (h7 name m e).mono fun p hp => by cases hp

section
variable {g : GC} {n : Nat} {sc : Scope} {σ : List (Str × MV)} {k : Int} {N : Nx} {R : MV → Int → Prop} {Ci Cb : Addr} {fI : Int → Int → Int → List (Str × MV)} {fB : MV → List (Str × MV)} {mask row : Str}

theorem InfoIn.turn (M : MaskOk Ci Cb fI fB mask row) {fz pre post : Led} {d : Addr} {es : List DictEntry} {nn n' : Nat} {hsh : Int} {t tv : Tok} {v : Value} {y c b : Int} (huniq : ∀ o, (d, o) ∈ pre ++ (d, dictOf es nn) :: post → o = dictOf es nn) (hm : es.any (·.key.isStr mask) = true)
    (h : InfoIn fz (pre ++ (d, dictOf es nn) :: post) Ci fI g v y c b) : ∃ b', InfoIn fz (pre ++ (d, dictOf (putL mask hsh (.str mask t) (.int 1 tv) es) n') :: post) Ci fI g v y c b' := by
  obtain ⟨x, d', es', nn', val, h1, h2, h3, h4, h5, h6, h7⟩ := h
  by_cases hd : d' = d
  · subst hd
    have e := huniq _ h3
    have e' : es' = es := by
      have := congrArg Obj.data e
      injection this with q _
      simpa using q
    subst e'
    refine ⟨1, x, d', _, _, fun name => if name = mask then .int 1 tv else val name, h1, h2, List.mem_append_right _ (.head _), ?_, fun name hn => ?_, fun name m hn => ?_, fun name m hn => ?_⟩
    · rw [putL_same_len _ _ _ _ _ hm]; exact h4
    · have hne : name ≠ mask := by rintro rfl; rw [M.atM] at hn; cases hn
      rw [getL_put_ne hne]
      exact h5 name (by rw [M.other y c b 1 name hne]; exact hn)
    · by_cases hne : name = mask
      · subst hne; rw [if_pos rfl]; exact getL_put_same _ _ _ _ _
      · (try dsimp only)
        rw [if_neg hne, getL_put_ne hne]
        exact h6 name m (by rw [M.other y c b 1 name hne]; exact hn)
    · by_cases hne : name = mask
      · subst hne; rw [M.atM] at hn; cases hn; rw [if_pos rfl]; exact .int _ _
      · (try dsimp only)
        rw [if_neg hne]
        exact h7 name m (by rw [M.other y c b 1 name hne]; exact hn)
  · refine ⟨b, x, d', es', nn', val, h1, h2, ?_, h4, h5, h6, h7⟩
    simp only [List.mem_append, List.mem_cons, Prod.mk.injEq] at h3 ⊢
    rcases h3 with q | q | q
    · exact .inl q
    · exact absurd q.1 hd
    · exact .inr (.inr q)
end
end Mine
end
section
set_option autoImplicit false
set_option linter.unusedVariables false
set_option maxRecDepth 100000
namespace Mine
theorem choose_list {β : Type} : ∀ (vs : List Value) (P : Nat → Value → β → Prop), (∀ i v, vs[i]? = some v → ∃ m, P i v m) → ∃ ms : List β, ms.length = vs.length ∧ ∀ i v m, vs[i]? = some v → ms[i]? = some m → P i v m
  | [], P, h => ⟨[], rfl, fun i v m a _ => by simp at a⟩
  | v :: r, P, h => by
    obtain ⟨m, hm⟩ := h 0 v rfl
    obtain ⟨ms, h1, h2⟩ := choose_list r (fun i => P (i + 1)) fun i u e => h (i + 1) u (by simpa using e)
    refine ⟨m :: ms, by simp [h1], fun i u m' a b => ?_⟩
    cases i with
    | zero => simp at a b; subst a; subst b; exact hm
    | succ i => exact h2 i u m' (by simpa using a) (by simpa using b)
section
variable {g : GC} {n : Nat} {sc : Scope} {σ : List (Str × MV)} {k : Int} {N : Nx} {R : MV → Int → Prop} {Ci Cb : Addr} {fI : Int → Int → Int → List (Str × MV)} {fB : MV → List (Str × MV)} {mask row : Str}

noncomputable def MInv (g : GC) (Ci : Addr) (fI : Int → Int → Int → List (Str × MV)) (ys : List Int) (vs : List Value) (fz tu : Led) : Prop :=
  vs.length = ys.length ∧ ∀ (i : Nat) (v : Value), vs[i]? = some v → ∃ y c b : Int, ys[i]? = some y ∧ InfoIn fz tu Ci fI g v y c b

inductive ML (g : GC) (env : Env) (sc : Scope) (h₀ : Heap) (L : Addr) (mt0 FZ : Led) (s : Shared) (k : Int) (Ci : Addr) (fI : Int → Int → Int → List (Str × MV)) (ys : List Int) (vs2 : List Value) (σ₀ : List (Str × MV)) (fl : Flow) (s' : Shared) : Prop
  | mk (e1 : fl = .next) (h' : Heap) (tk : Nat) (TU' : Led) (σ' : List (Str × MV)) (e2 : s' = { s with heap := h', toks := tk }) (SF : Sf g env sc h₀ L (TU' ++ mt0) FZ σ' [] k h') (hS : Sub σ₀ σ') (I : MInv g Ci fI ys vs2 FZ TU')
inductive MLI (g : GC) (env : Env) (sc : Scope) (h₀ : Heap) (L : Addr) (mt0 FZ fz : Led) (s : Shared) (k : Int) (Ci : Addr) (fI : Int → Int → Int → List (Str × MV)) (ys : List Int) (vs2 : List Value) (σ₀ : List (Str × MV)) (I : Addr) (len : Nat) (Sa : Nat → Heap → Prop) (c : Nat) (s' : Shared) : Prop
  | mk (i : Nat) (σ' : List (Str × MV)) (TU' : Led) (hh : Heap) (tk : Nat) (oI' : Obj) (e1 : c = len - i) (hle : i ≤ len) (e2 : s' = { s with heap := hh, toks := tk }) (SF : Sf g env sc h₀ L ((I, oI') :: (TU' ++ mt0)) fz σ' [] k hh) (hSa : Sa i hh) (hS : Sub σ₀ σ') (hI : MInv g Ci fI ys vs2 FZ TU')
theorem mask_loop (M : MaskOk Ci Cb fI fB mask row) (hP : PutOk g.K Ci mask) {bufN infoN : Str} {iter : Expr} {px2 fpos sp apos cpos pos2 : Pos} {kk : Nat} {ys : List Int} {vs2 : List Value}
    (hli : sc.names.lookup infoN = some .local) (hne : infoN ≠ bufN) (hσi : σ.lookup infoN = none)
    (h2 : ∀ ms : List MV, Ev g n sc iter [(bufN, .obj Cb (fB (.lst ms)))] k fun mv k' => mv = .lst ms ∧ k' = k)
    (hs2 : ∀ (env : Env) x, foldedSetIterable iter env x = pure x)
    (hs3 : ∀ env : Env, env.scope = sc → swapsWith (.Constant (.int 1) kk cpos) (some (.Attribute (.Name infoN sp) mask apos)) pos2.line env = pure false) (hd : (infoN == ("__debug__" : Str)) = false)
    {A : Around} {h₀ : Heap} {L : Addr} {mt0 FZ TU : Led} {env : Env} {s : Shared} {E : Value → Shared → Prop} (O : Ok g n A env h₀ L) (SF : Sf g env sc h₀ L (TU ++ mt0) FZ ((bufN, .obj Cb (fB (.lst (vs2.map .st)))) :: σ) [] k s.heap) (I0 : MInv g Ci fI ys vs2 FZ TU) :
    wpAny (model g.prog g.w) A (exec (.For (.Name infoN px2) iter [.Assign [.Attribute (.Name infoN sp) mask apos] (.Constant (.int 1) kk cpos) pos2] [] fpos) env)
      (ML g env sc h₀ L mt0 FZ s k Ci fI ys vs2 ((bufN, .obj Cb (fB (.lst (vs2.map .st)))) :: σ)) E s := by
  have he : env.scope = sc := SF.scope
  have hsub : Sub [(bufN, .obj Cb (fB (.lst (vs2.map .st))))] ((bufN, .obj Cb (fB (.lst (vs2.map .st)))) :: σ) := .cons (by simp) .nil
  refine wpAny_For (wp_se (stmt_ev (E := E) O SF (ev_sub hsub (h2 _))) fun v mv k₁ h' tk' m cs ow fz zq S₁ hz V W C₁ R₁ => ?_) (hs2 env)
  obtain ⟨e1, e2⟩ := zq
  subst e1; subst e2
  refine iter_any (s := { s with heap := h', toks := tk' }) O.hand S₁ R₁ (.lst _) fun oI Sa hfree WK hst => ?_
  obtain ⟨⟨fp, P, Wl, hfp, hP'⟩, alive⟩ := WK
  have Sf0 : Sf g env sc h₀ L (TU ++ mt0) fz ((bufN, .obj Cb (fB (.lst (vs2.map .st)))) :: σ) [] k₁ h' := ⟨m, cs, ow, fz, S₁, fun _ h => h, V, W, C₁⟩
  have Sf1 := Sf0.withI hfree
  have hlen : (vs2.map MV.st).length = vs2.length := by simp
  refine codeAny_forLoop (MLI g env sc h₀ L mt0 FZ fz s k₁ Ci fI ys vs2 ((bufN, .obj Cb (fB (.lst (vs2.map .st)))) :: σ) h'.objs.size (vs2.map MV.st).length Sa)
    ?_ (vs2.map MV.st).length ⟨0, _, TU, _, _, oI, rfl, Nat.zero_le _, rfl, Sf1, hst, .refl, I0⟩
  rintro c s' ⟨i, σ', TU', hh, tk, oI', rfl, hle, rfl, SF, hSa, hSub, hInv⟩
  by_cases hlt : i < (vs2.map MV.st).length
  · refine Wl.item i _ _ _ hlt hSa fun u h₂ tk₂ hPu hSa' hk₂ => ?_
    obtain ⟨mi, hmi, Ru⟩ := hP' i u hPu hlt
    obtain ⟨oJ, hoJ, _⟩ := alive _ _ hSa'
    have SF2 : Sf g env sc h₀ L ((h'.objs.size, oJ) :: (TU' ++ mt0)) fz σ' [] k₁ h₂ := SF.turnI (fun b o hb e => hk₂ b o (fun q => hb (List.mem_singleton.mp q)) e) hoJ
    obtain ⟨m₂, cs₂, ow₂, fz₂, S₂, hz₂, V₂, W₂, C₂⟩ := SF2
    obtain ⟨w, hw, rfl⟩ : ∃ w, vs2[i]? = some w ∧ mi = .st w := by
      rw [List.getElem?_map] at hmi
      cases q : vs2[i]? with
      | none => rw [q] at hmi; cases hmi
      | some w => rw [q] at hmi; cases hmi; exact ⟨w, rfl, rfl⟩
    have huw : u = w := Ru.elim_st fun _ => rfl
    subst huw
    refine wpAny_assign_Name (store_local S₂ hz₂ V₂ W₂ C₂ (Ru.mono hz₂) hli (fun p hp => by cases hp) fun h₃ tk₃ SF3 => ?_)
    refine wpAny_execs_cons (plainObj_wpAny_Assign_Attribute (wp_se (stmt_ev O SF3 (ev_int (Q := fun v k' => v = .int 1 ∧ k' = k₁) ⟨rfl, rfl⟩)) fun v mv k₂ h₄ tk₄ m₃ cs₃ ow₃ fz₃ zq S₃ hz₃ V₃ W₃ C₃ R₃ => ?_) (hs3 env he))
    obtain ⟨e1, e2⟩ := zq
    subst e1; subst e2
    have W₃' : ow₃ = [] := W₃
    subst W₃'
    obtain ⟨u', hmu, Ru'⟩ := V₃.locs infoN (.st u) (by simp) hli
    have huu : u' = u := Ru'.elim_st fun _ => rfl
    subst huu
    obtain ⟨y, cc, b, hy, hInf⟩ := hInv.2 i _ hw
    obtain ⟨x, d, es, nn, val, rfl, i2, i3, i4, i5, i6, i7⟩ := hInf
    have huniq : ∀ o, (d, o) ∈ TU' → o = dictOf es nn := fun o ho => by
      have a1 := S₃.getM (p := (d, o)) (by simp [ho])
      have a2 := S₃.getM (p := (d, dictOf es nn)) (by simp [i3])
      exact Option.some.inj (a1.symm.trans a2)
    obtain ⟨pre, post, rfl⟩ := List.append_of_mem i3
    obtain ⟨t, S₃⟩ := S₃
    refine wpAny_Name (wpAny_loadName_local (m := m₃) (by rw [he]; exact V₃.kind) (by show env.scope.names.lookup infoN = _; rw [he]; exact hli) (by rw [V₃.loc]; exact S₃.fr.ns) hmu ?_) hd
    have sp1 : ∀ q : Obj, plE g k₂ t :: ([] ++ (cs₃ ++ (h'.objs.size, oJ) :: ((pre ++ (d, q) :: post) ++ mt0)) ++ fz₃) = (plE g k₂ t :: (cs₃ ++ (h'.objs.size, oJ) :: pre)) ++ (d, q) :: (post ++ mt0 ++ fz₃) := fun q => by simp
    have S₄ := S₃
    rw [sp1] at S₄
    obtain ⟨d1, d2⟩ := S₄.dNe
    obtain ⟨p1, p2, p3, p4⟩ := hP
    have hgm := i6 mask _ (M.atM y cc b)
    have hany := getL_any hgm
    have hget : (getL mask es).isSome = true := by rw [hgm]; rfl
    have hx : (x, instObj Ci d) ∈ fz₃ := hz₃ _ (hz _ i2)
    have hI : PySem.W.InstAt h₄ x (instObj Ci d) Ci (some (dictOf es nn)) := InstAt.of_news S₄.nw (by simp [hx]) (by simp)
    have R₃' := R₃
    refine R₃'.elim_int fun tv => ?_
    refine set_dict S₄.fr O.kin S₄.nw hI rfl p1 p2 p3 p4 hget rfl (upd_of d1 d2) (by rw [putL_same_len _ _ _ _ _ hany]; omega) fun h₅ F₅ N₅ => ?_
    have S₅ : St h₀ L m₃ (plE g k₂ t :: ([] ++ (cs₃ ++ (h'.objs.size, oJ) :: ((pre ++ (d, dictOf (putL mask (PyData.keyHash g.w.params mask) (.str mask (tk₄ + 1)) (.int 1 tv) es) (putN mask es nn)) :: post) ++ mt0)) ++ fz₃)) h₅ := by
      rw [sp1]
      refine ⟨F₅, N₅, ?_⟩
      have := S₄.nd
      simpa using this
    have SF5 : Sf g env sc h₀ L ((h'.objs.size, oJ) :: ((pre ++ (d, dictOf (putL mask (PyData.keyHash g.w.params mask) (.str mask (tk₄ + 1)) (.int 1 tv) es) (putN mask es nn)) :: post) ++ mt0)) fz ((infoN, .st (.ref x)) :: σ') [] k₂ h₅ :=
      ⟨m₃, cs₃, [], fz₃, ⟨t, S₅⟩, hz₃, V₃, rfl, C₃⟩
    refine wpAny_execs_nil ?_
    refine ⟨(vs2.map MV.st).length - (i + 1), by omega, i + 1, _, _, h₅, _, oJ, rfl, hlt, rfl, SF5, Wl.frame _ _ _ hSa' (kept hfp hoJ SF5.getI (fun p hp => S₂.get (hz₂ _ hp)) fun p hp => SF5.getZ hp), ?_, hInv.1, fun j v hv => ?_⟩
    · intro z vz hz'
      rw [List.lookup_cons]
      cases q : z == infoN with
      | true =>
        rw [eq_of_beq q, List.lookup_cons] at hz'
        have : (infoN == bufN) = false := by simpa using hne
        rw [this] at hz'
        rw [hσi] at hz'; cases hz'
      | false => exact hSub z vz hz'
    · obtain ⟨y', c', b', hy', hI'⟩ := hInv.2 j v hv
      obtain ⟨b'', hI''⟩ := InfoIn.turn (hsh := PyData.keyHash g.w.params mask) (t := tk₄ + 1) (tv := tv) (n' := putN mask es nn) M huniq hany hI'
      exact ⟨y', c', b'', hy', hI''⟩
  · have hie : i = (vs2.map MV.st).length := by omega
    subst hie
    refine Wl.done _ _ _ hSa fun h₂ tk₂ hk₂ => ?_
    refine wpAny_execs_nil ?_
    exact ⟨rfl, h₂, tk₂, TU', σ', rfl, (SF.dropI fun b o hb e => hk₂ b o (fun q => hb (List.mem_singleton.mp q)) e).up hz, hSub, hInv⟩

theorem mask_done (M : MaskOk Ci Cb fI fB mask row) {bufN : Str} {ys : List Int} {vs2 : List Value} (hlb : sc.names.lookup bufN = some .local)
    {h₀ : Heap} {L : Addr} {mt0 fz0 FZ TU : Led} {env : Env} {h : Heap} {σ' : List (Str × MV)} (hfz : ∀ p ∈ fz0, p ∈ FZ) (SF : Sf g env sc h₀ L (TU ++ mt0) FZ σ' [] k h) (hS : Sub ((bufN, .obj Cb (fB (.lst (vs2.map .st)))) :: σ) σ') (hI : MInv g Ci fI ys vs2 FZ TU) :
    ∃ infos : List MV, infos.length = ys.length ∧ (∀ (i : Nat) (m : MV), infos[i]? = some m → ∃ y c b, ys[i]? = some y ∧ m = .obj Ci (fI y c b)) ∧ Sf g env sc h₀ L mt0 fz0 ((bufN, .obj Cb (fB (.lst infos))) :: σ) [] k h := by
  obtain ⟨hl, hI⟩ := hI
  obtain ⟨m, cs, ow, fz, ⟨t, S⟩, hz, V, W, C⟩ := SF
  have W' : ow = [] := W
  subst W'
  obtain ⟨infos, j1, j2⟩ := choose_list vs2 (fun i v (m : MV) => ∃ y c b, ys[i]? = some y ∧ m = .obj Ci (fI y c b) ∧ InfoIn FZ TU Ci fI g v y c b) fun i v hv => by
    obtain ⟨y, c, b, a1, a2⟩ := hI i v hv
    exact ⟨_, y, c, b, a1, rfl, a2⟩
  refine ⟨infos, j1.trans hl, fun i mm hm => ?_, m, cs, [], TU ++ fz, ⟨t, S.perm (List.Perm.cons _ ?_)⟩, fun p hp => List.mem_append_right _ (hz _ (hfz _ hp)), ⟨V.scope, V.kind, V.globals, V.builtins, V.loc, fun y v e q => ?_, V.cells, fun y v e q => ?_⟩, rfl, C⟩
  · have hlt : i < vs2.length := by
      rw [← j1]
      rcases Nat.lt_or_ge i infos.length with q | q
      · exact q
      · rw [List.getElem?_eq_none q] at hm; cases hm
    obtain ⟨y, c, b, a1, a2, _⟩ := j2 i _ mm (List.getElem?_eq_getElem hlt) hm
    exact ⟨y, c, b, a1, a2⟩
  · exact perm4 _ _ _ _ _
  · rw [List.lookup_cons] at e
    cases hy : y == bufN with
    | true =>
      rw [hy] at e; cases e
      rw [eq_of_beq hy]
      obtain ⟨u, hu, Ru⟩ := V.locs bufN (.obj Cb (fB (.lst (vs2.map .st)))) (hS _ _ (by simp)) hlb
      refine ⟨u, hu, ?_⟩
      refine Ru.elim_obj fun val m1 m2 hn hg hle hr => ?_
      have Rrow := hr row _ (M.rowB _)
      have hgrow := hg row _ (M.rowB _)
      refine .obj val (List.mem_append_right _ m1) (List.mem_append_right _ m2) (fun name hn' => ?_) (fun name mm hn' => ?_) hle (fun name mm hn' => ?_)
      · have hne : name ≠ row := by rintro rfl; rw [M.rowB] at hn'; cases hn'
        exact hn name (by rw [M.otherB _ (.lst infos) name hne]; exact hn')
      · by_cases hne : name = row
        · rw [hne]; exact hgrow
        · exact hg name mm (by rw [M.otherB _ (.lst infos) name hne]; exact hn')
      · by_cases hne : name = row
        · subst hne
          rw [M.rowB] at hn'; cases hn'
          generalize val name = vr at Rrow
          refine Rrow.elim_lst fun hm hl' hb' hr' => ?_
          rename_i vs' n'
          refine .lst (List.mem_append_right _ hm) (by rw [hl', j1]; simp) hb' fun i v m' a b => ?_
          have hlt : i < vs2.length := by
            rw [← j1]
            rcases Nat.lt_or_ge i infos.length with q | q
            · exact q
            · rw [List.getElem?_eq_none q] at b; cases b
          have hv2 := List.getElem?_eq_getElem hlt
          have := hr' i v (.st vs2[i]) a (by rw [List.getElem?_map, hv2]; rfl)
          have hvv : v = vs2[i] := this.elim_st fun _ => rfl
          rw [hvv]
          obtain ⟨y', c', b', a1, rfl, a3⟩ := j2 i _ m' hv2 b
          exact a3.rep.mono fun p hp => by
            rcases List.mem_append.mp hp with q | q
            · exact List.mem_append_left _ q
            · exact List.mem_append_right _ (hz _ q)
        · have hn2 := hn'
          rw [M.otherB _ (.lst (vs2.map .st)) name hne] at hn2
          exact (hr name mm hn2).scalar (M.scB _ _ _ hne hn2)
    | false =>
      rw [hy] at e
      obtain ⟨u, a1, a2⟩ := V.locs y v (hS y v (by rw [List.lookup_cons, hy]; exact e)) q
      exact ⟨u, a1, a2.mono fun p hp => List.mem_append_right _ hp⟩
  · rw [List.lookup_cons] at e
    cases hy : y == bufN with
    | true => rw [eq_of_beq hy, hlb] at q; rcases q with q | q <;> cases q
    | false =>
      rw [hy] at e
      obtain ⟨c, o, u, a1, a2, a3, a4⟩ := V.vals y v (hS y v (by rw [List.lookup_cons, hy]; exact e)) q
      exact ⟨c, o, u, a1, a2.imp id (List.mem_append_right _), a3, a4.mono fun p hp => List.mem_append_right _ hp⟩
end
end Mine
end
section
set_option autoImplicit false
set_option linter.unusedVariables false
set_option maxRecDepth 100000
namespace Mine
section
variable {g : GC} {n : Nat} {sc : Scope} {σ : List (Str × MV)} {k : Int} {N : Nx} {R : MV → Int → Prop} {Ci Cb : Addr} {fI : Int → Int → Int → List (Str × MV)} {fB : MV → List (Str × MV)} {mask row : Str}

theorem Rep.ints {g : GC} {fz fz' : Led} {vs : List Value} {ys : List Int} (h : ∀ (i : Nat) (v : Value) (m : MV), vs[i]? = some v → (ys.map MV.int)[i]? = some m → Rep g fz v m) : ∀ (i : Nat) (v : Value) (m : MV), vs[i]? = some v → (ys.map MV.int)[i]? = some m → Rep g fz' v m := by
  intro i v m a b
  refine (h i v m a b).scalar ?_
  rw [List.getElem?_map] at b
  cases q : ys[i]? with
  | none => rw [q] at b; cases b
  | some y => rw [q] at b; cases b; rfl

theorem exs_mask (M : MaskOk Ci Cb fI fB mask row) (hP : PutOk g.K Ci mask) {bufN infoN rowN : Str} {e iter : Expr} {rest : List Stmt} {px pos px2 fpos sp apos cpos pos2 : Pos} {kk : Nat} {ys : List Int}
    (hlb : sc.names.lookup bufN = some .local) (hli : sc.names.lookup infoN = some .local) (hcr : sc.names.lookup rowN = some .cell) (hne : infoN ≠ bufN)
    (hσ : σ.lookup rowN = some (.lst (ys.map MV.int))) (hσi : σ.lookup infoN = none)
    (h1 : Ev g n sc e [(rowN, .lst (ys.map MV.int))] k fun mv k' => k' = k ∧ ∃ ps : List (Int × Int), ps.map (·.1) = ys ∧ mv = .obj Cb (fB (.lst (ps.map fun p => .obj Ci (fI p.1 p.2 0)))))
    (h2 : ∀ ms : List MV, Ev g n sc iter [(bufN, .obj Cb (fB (.lst ms)))] k fun mv k' => mv = .lst ms ∧ k' = k)
    (h3 : ∀ infos : List MV, infos.length = ys.length → (∀ (i : Nat) (m : MV), infos[i]? = some m → ∃ y c b, ys[i]? = some y ∧ m = .obj Ci (fI y c b)) → Exs g n sc rest ((bufN, .obj Cb (fB (.lst infos))) :: σ) [] k N R)
    (hs1 : ∀ env : Env, env.scope = sc → swapsWith e (some (.Name bufN px)) pos.line env = pure false := by intro _ _; rfl)
    (hs2 : ∀ (env : Env) x, foldedSetIterable iter env x = pure x := by intro _ _; rfl)
    (hs3 : ∀ env : Env, env.scope = sc → swapsWith (.Constant (.int 1) kk cpos) (some (.Attribute (.Name infoN sp) mask apos)) pos2.line env = pure false := by intro _ _; rfl) (hd : (infoN == ("__debug__" : Str)) = false := by decide) :
    Exs g n sc (.Assign [.Name bufN px] e pos :: .For (.Name infoN px2) iter [.Assign [.Attribute (.Name infoN sp) mask apos] (.Constant (.int 1) kk cpos) pos2] [] fpos :: rest) σ [] k N R := by
  classical
  intro A h₀ L mt0 fz0 env s E O S
  have he : env.scope = sc := S.scope
  obtain ⟨m, cs, ow, fz, S, hz, V, W, C⟩ := S
  have W' : ow = [] := W
  subst W'
  obtain ⟨c, o, u, c1, c2, c3, Ru⟩ := V.vals rowN _ hσ (.inl hcr)
  cases Ru with
  | lst hm hl hb hr =>
  rename_i a vs nn
  obtain ⟨pre, post, rfl⟩ := List.append_of_mem hm
  have S1 : Sta g h₀ L m (cs ++ mt0 ++ (pre ++ post)) k [(a, listOf vs.toArray nn)] s.heap := by
    obtain ⟨t, S⟩ := S
    exact ⟨t, S.perm (List.Perm.cons _ (perm3 _ _ _ _ _))⟩
  have V1 : Vars g env sc [(rowN, .lst (ys.map MV.int))] h₀ L m (cs ++ mt0 ++ (pre ++ post)) [(a, listOf vs.toArray nn)] := by
    refine ⟨V.scope, V.kind, V.globals, V.builtins, ⟨m, .inl ⟨V.loc, rfl⟩, fun x v e q => ?_⟩, V.cells, fun x v e q => ?_⟩
    · rw [List.lookup_cons] at e
      cases hy : x == rowN with
      | true => rw [eq_of_beq hy, hcr] at q; cases q
      | false => rw [hy] at e; cases e
    · rw [List.lookup_cons] at e
      cases hy : x == rowN with
      | true =>
        rw [hy] at e; cases e
        refine ⟨c, o, .ref a, by rw [eq_of_beq hy]; exact c1, .inl ?_, c3, .lst (.head _) hl hb (Rep.ints hr)⟩
        have hne : (c, o) ≠ (a, listOf vs.toArray nn) := fun w => by
          have := (Prod.mk.inj w).2
          rw [this] at c3; cases c3
        simp only [List.mem_append, List.mem_cons] at c2 ⊢
        rcases c2 with w | w | w | w
        · exact .inl (.inl w)
        · exact .inr (.inl w)
        · exact absurd w hne
        · exact .inr (.inr w)
      | false => rw [hy] at e; cases e
  refine wpAny_execs_cons (wpAny_Assign_Name (wp_res (h1 A env h₀ L m _ _ env s E O V1 (.inl rfl) S1) fun v mv k₁ h' tk' fz' zq hs S2 R2 => ?_) (hs1 env he))
  obtain ⟨e1, ps, hps, e2⟩ := zq
  subst e1; subst e2
  have uniq : ∀ {b : Addr} {o₁ o₂ : Obj}, (b, o₁) ∈ fz' → (b, o₂) ∈ fz' → o₁ = o₂ := fun h1 h2 => Option.some.inj ((S2.get h1).symm.trans (S2.get h2))
  cases R2 with
  | @obj xb _ db esb nb _ val m1 m2 hn hg hle hR =>
  have Rrow := hR row _ (M.rowB _)
  have hgrow := hg row _ (M.rowB _)
  obtain ⟨vr, hvr⟩ : ∃ vr, val row = vr := ⟨_, rfl⟩
  rw [hvr] at Rrow
  revert hvr
  refine Rrow.elim_lst fun hm2 hl2 hb2 hr2 hvr => ?_
  rename_i lr vs2 n2
  have hinfo : ∀ (i : Nat) (v : Value), vs2[i]? = some v → ∃ p : Int × Int, ps[i]? = some p ∧ InfoIn fz' fz' Ci fI g v p.1 p.2 0 := by
    intro i v hv
    have hlt : i < ps.length := by
      have : i < vs2.length := by
        rcases Nat.lt_or_ge i vs2.length with q | q
        · exact q
        · rw [List.getElem?_eq_none q] at hv; cases hv
      rw [hl2] at this; simpa using this
    refine ⟨ps[i], List.getElem?_eq_getElem hlt, ?_⟩
    have := hr2 i v (.obj Ci (fI ps[i].1 ps[i].2 0)) hv (by rw [List.getElem?_map, List.getElem?_eq_getElem hlt]; rfl)
    exact this.elim_obj fun val' q1 q2 q3 q4 q5 q6 => ⟨_, _, _, _, val', rfl, q1, q2, q5, q3, q4, fun name m e => (q6 name m e).scalar (M.sc _ _ _ _ _ e)⟩
  let D : Addr → Prop := fun d => ∃ (x : Addr) (i : Nat), vs2[i]? = some (.ref x) ∧ (x, instObj Ci d) ∈ fz'
  have hD : ∀ d o, D d → (d, o) ∈ fz' → ∃ es n, o = dictOf es n ∧ getL row es = some none := by
    rintro d o ⟨x, i, hx, hxm⟩ hdo
    obtain ⟨p, hp, x', d', es, n, val', e1, q1, q2, q3, q4, q5, q6⟩ := hinfo i _ hx
    cases e1
    have := uniq hxm q1
    injection this with _ w _ _
    injection w with w
    subst w
    exact ⟨es, n, uniq hdo q2, q4 row (M.noRow _ _ _)⟩
  let TU : Led := fz'.filter fun p => decide (D p.1)
  let FN : Led := fz'.filter fun p => !decide (D p.1)
  have hperm : (TU ++ FN).Perm fz' := List.filter_append_perm _ _
  have inTU : ∀ p, p ∈ fz' → D p.1 → p ∈ TU := fun p hp hd => List.mem_filter.mpr ⟨hp, by simpa using hd⟩
  have inFN : ∀ p, p ∈ fz' → ¬ D p.1 → p ∈ FN := fun p hp hd => List.mem_filter.mpr ⟨hp, by simpa using hd⟩
  have noD : ∀ b o, (b, o) ∈ fz' → (∀ es n, o = dictOf es n → getL row es ≠ some none) → ¬ D b := fun b o hb hno hd => by
    obtain ⟨es, n, e, w⟩ := hD b o hd hb
    exact hno es n e w
  have fLo : (a, listOf vs.toArray nn) ∈ FN := inFN _ (hs _ (.head _)) (noD _ _ (hs _ (.head _)) fun es n e => by have := congrArg Obj.data e; cases this)
  have fX : (xb, instObj Cb db) ∈ FN := inFN _ m1 (noD _ _ m1 fun es n e => by have := congrArg Obj.data e; cases this)
  have fD : (db, dictOf esb nb) ∈ FN := inFN _ m2 (noD _ _ m2 fun es n e w => by
    have e' : esb = es := by
      have := congrArg Obj.data e
      injection this with q _
      simpa using q
    subst e'
    rw [hgrow] at w; cases w)
  have fR : (lr, listOf vs2.toArray n2) ∈ FN := inFN _ hm2 (noD _ _ hm2 fun es n e => by have := congrArg Obj.data e; cases this)
  have hsubZ : ∀ p ∈ pre ++ (a, listOf vs.toArray nn) :: post, p ∈ FN ++ (pre ++ post) := fun p hp => by
    simp only [List.mem_append, List.mem_cons] at hp ⊢
    rcases hp with w | w | w
    · exact .inr (.inl w)
    · subst w; exact .inl fLo
    · exact .inr (.inr w)
  have S3 : Sta g h₀ L m ([] ++ (cs ++ (TU ++ mt0))) k₁ (FN ++ (pre ++ post)) h' := by
    obtain ⟨t, S2⟩ := S2
    exact ⟨t, S2.perm (List.Perm.cons _ ((List.Perm.append_left _ hperm.symm).trans (perm5 _ _ _ _ _)))⟩
  have Rb : Rep g (FN ++ (pre ++ post)) (.ref xb) (.obj Cb (fB (.lst (vs2.map .st)))) := by
    refine .obj val (List.mem_append_left _ fX) (List.mem_append_left _ fD) (fun name hn' => ?_) (fun name mm hn' => ?_) hle (fun name mm hn' => ?_)
    · have hne : name ≠ row := by rintro rfl; rw [M.rowB] at hn'; cases hn'
      exact hn name (by rw [M.otherB _ (.lst (vs2.map .st)) name hne]; exact hn')
    · by_cases hne : name = row
      · rw [hne]; exact hgrow
      · exact hg name mm (by rw [M.otherB _ (.lst (vs2.map .st)) name hne]; exact hn')
    · by_cases hne : name = row
      · subst hne
        rw [M.rowB] at hn'; cases hn'
        rw [hvr]
        refine .lst (List.mem_append_left _ fR) (by simp) hb2 fun i v m' a b => ?_
        rw [List.getElem?_map, a] at b
        cases b
        obtain ⟨p, hp, x', d', es, n, val', e1, _⟩ := hinfo i _ a
        subst e1
        exact .st _ rfl
      · have hn2 := hn'
        rw [M.otherB _ (.lst (ps.map fun p => .obj Ci (fI p.1 p.2 0))) name hne] at hn2
        exact (hR name mm hn2).scalar (M.scB _ _ _ hne hn2)
  have I0 : MInv g Ci fI ys vs2 (FN ++ (pre ++ post)) TU := by
    refine ⟨by rw [hl2, ← hps]; simp, fun i v hv => ?_⟩
    obtain ⟨p, hp, x', d', es, n, val', e1, q1, q2, q3, q4, q5, q6⟩ := hinfo i v hv
    subst e1
    refine ⟨p.1, p.2, 0, by rw [← hps, List.getElem?_map, hp]; rfl, x', d', es, n, val', rfl, List.mem_append_left _ (inFN _ q1 (noD _ _ q1 fun es n e => by have := congrArg Obj.data e; cases this)), inTU _ q2 ⟨x', i, hv, q1⟩, q3, q4, q5, q6⟩
  refine store_local (ω := []) (s := { s with heap := h', toks := tk' }) S3 (fun _ h => h) (V.mono hsubZ) rfl C Rb hlb (fun p hp => by cases hp) fun h₂ tk₂ SF => ?_
  refine wpAny_execs_cons (wpAny_mono (mask_loop M hP hli hne hσi h2 hs2 hs3 hd (s := { s with heap := h₂, toks := tk₂ }) O SF I0) (fun fl s₂ ⟨e1, h₃, tk₃, TU', σ', e2, SF3, hSub, I3⟩ => ?_) fun _ _ x => x)
  subst e1; subst e2
  obtain ⟨infos, j1, j2, SF4⟩ := mask_done M hlb (fz0 := fz0) (fun p hp => hsubZ p (hz p hp)) SF3 hSub I3
  exact wpAny_mono (h3 infos j1 j2 A h₀ L mt0 fz0 env _ E O SF4) (fun fl s₂ y => Fin2.mono (fun _ _ _ x => x) (fun _ _ x => x) y) fun _ _ x => x
end
end Mine
end
section
set_option autoImplicit false
set_option linter.unusedVariables false
set_option maxRecDepth 100000
namespace Mine
structure GX where
  w : World
  p : Program
  loose : List Str
  mean : ExcName → Option Value
  mg : Str → Option Value
  mb : Str → Option Value
  pl : Addr
  tkQual : Str
  tkParams : Arguments
  tkBody : List Stmt
  tkScope : Scope
noncomputable abbrev GX.g (x : GX) : GC := { prog := PySem.Challenge.rw_nu0204_01.row.prog, w := x.w, K := hd.heap_39 x.w.params, p := x.p, loose := x.loose, mean := x.mean, mg := x.mg, mb := x.mb, pl := x.pl, tkQual := x.tkQual, tkParams := x.tkParams, tkBody := x.tkBody, tkScope := x.tkScope }
theorem om_nil {x : Str} : ∀ p ∈ ([] : List (Str × Own)), p.1 ≠ x := fun p hp => nomatch hp
theorem om_cons {x y : Str} {o : Own} {r : List (Str × Own)} (h : y ≠ x) (hr : ∀ p ∈ r, p.1 ≠ x) : ∀ p ∈ (y, o) :: r, p.1 ≠ x := fun p hp => by
  rcases List.mem_cons.mp hp with rfl | hp
  · exact h
  · exact hr p hp
theorem callee_take {g : GC} : Callee g .take := .inl rfl
theorem callee_own {g : GC} {v : Value} (h : keepIn g.K v = true) : Callee g (.st v) := .inr ⟨_, rfl, .inl h⟩
noncomputable abbrev il (l : List Int) : List MV := l.map .int
theorem il_get {l : List Int} {i : Nat} (h : i < l.length) : (il l)[((i : Nat) : Int).toNat]? = some (.int (l.getD i 0)) := by simp [il, h]
theorem il_len {l : List Int} {b : Nat} (h : l.length ≤ b) : (il l).length ≤ b := by simpa [il] using h
theorem sorted_getD {l : List Int} (hs : l.Pairwise (· < ·)) {i j : Nat} (h : i < j) (hj : j < l.length) : l.getD i 0 < l.getD j 0 := by
  have hi : i < l.length := Nat.lt_trans h hj
  have e1 : l.getD i 0 = l[i] := by simp [hi]
  have e2 : l.getD j 0 = l[j] := by simp [hj]
  rw [e1, e2]
  exact List.pairwise_iff_getElem.mp hs i j hi hj h
theorem mem_getD {l : List Int} {y : Int} : y ∈ l ↔ ∃ i, i < l.length ∧ l.getD i 0 = y := by
  constructor
  · intro h
    obtain ⟨i, hi, e⟩ := List.getElem_of_mem h
    exact ⟨i, hi, by simp [hi, e]⟩
  · rintro ⟨i, hi, e⟩
    rw [← e]; simp [hi]
theorem ite_B {b : Bool} {P R : Prop} (hb : b = true) (h : P) : if b = true then P else R := by rw [if_pos hb]; exact h
theorem ite_NB {b : Bool} {P R : Prop} (hb : b = false) (h : R) : if b = true then P else R := by rw [hb, if_neg (by decide)]; exact h
noncomputable def compOk (scc sc : Scope) : Bool := scc.names.all fun p => p.2 != .cell && (p.2 != .local || scc.names.lookup p.1 == some .local) && (p.2 != .free || sc.names.lookup p.1 == some .cell || sc.names.lookup p.1 == some .free)
noncomputable def SubF (scc : Scope) (σ σf : List (Str × MV)) : Prop := ∀ x v, σf.lookup x = some v → scc.names.lookup x = some .free ∧ σ.lookup x = some v
theorem SubF.nil {scc : Scope} {σ : List (Str × MV)} : SubF scc σ [] := fun x v h => by cases h
theorem SubF.cons {scc : Scope} {σ σf : List (Str × MV)} {x : Str} {v : MV} (h1 : scc.names.lookup x = some .free) (h2 : σ.lookup x = some v) (hr : SubF scc σ σf) : SubF scc σ ((x, v) :: σf) := fun y u e => by
  rw [List.lookup_cons] at e
  cases hy : y == x with
  | true => rw [hy] at e; cases e; rw [eq_of_beq hy]; exact ⟨h1, h2⟩
  | false => rw [hy] at e; exact hr y u e
theorem CompSc.of {scc sc : Scope} {σ σf : List (Str × MV)} (hk : scc.kind = .function) (h : compOk scc sc = true) (hs : SubF scc σ σf) : CompSc scc sc σ σf := by
  have H := List.all_eq_true.mp h
  refine ⟨hk, fun y hy e => ?_, fun y hy e => ?_, fun y hy => ?_, hs⟩
  · have := H y hy
    simp only [e, Bool.and_eq_true] at this
    exact absurd this.1.1 (by decide)
  · have := H y hy
    simp only [e, Bool.and_eq_true, Bool.or_eq_true] at this
    rcases this.1.2 with q | q
    · exact absurd q (by decide)
    · exact eq_of_beq q
  · have := H _ hy
    simp only [Bool.and_eq_true, Bool.or_eq_true] at this
    rcases this.2 with (q | q) | q
    · exact absurd q (by decide)
    · exact .inl (eq_of_beq q)
    · exact .inr (eq_of_beq q)
theorem emit_nil {g : GC} {n : Nat} {sc : Scope} {elt : Expr} {σ : List (Str × MV)} {k : Int} {Q : MV → Int → Prop} {W : Int → Prop} (h : Ev g n sc elt σ k Q) : Emit g n sc [] elt σ k Q W := h
theorem emit_one {g : GC} {n : Nat} {sc : Scope} {c elt : Expr} {σ : List (Str × MV)} {k : Int} {Q : MV → Int → Prop} {W : Int → Prop} (h : Ts g n sc c σ k fun b k' => if b then Ev g n sc elt σ k' Q else W k') : Emit g n sc [c] elt σ k Q W := h
theorem ite_T {P R : Prop} (h : P) : if true = true then P else R := by rw [if_pos rfl]; exact h
theorem ite_F {P R : Prop} (h : R) : if false = true then P else R := by rw [if_neg (by decide)]; exact h
theorem ite_b {b : Bool} {P R : Prop} (h1 : b = true → P) (h2 : b = false → R) : if b = true then P else R := by
  cases b
  · rw [if_neg (by decide)]; exact h2 rfl
  · rw [if_pos rfl]; exact h1 rfl
theorem ite_d {p : Prop} [Decidable p] {P R : Prop} (h1 : p → P) (h2 : ¬ p → R) : if decide p = true then P else R := by
  by_cases h : p
  · rw [if_pos (by simpa using h)]; exact h1 h
  · rw [if_neg (by simpa using h)]; exact h2 h
theorem half_nat (a b : Nat) : ((a : Int) + (b : Int)).fdiv 2 = (((a + b) / 2 : Nat) : Int) := by
  rw [Int.fdiv_eq_ediv_of_nonneg _ (by decide)]
  omega
end Mine
end
section
set_option autoImplicit false
set_option linter.unusedVariables false
set_option maxRecDepth 100000
set_option maxHeartbeats 4000000
namespace Mine
theorem fillEvC1 : PySem.Challenge.rw_nu0204_01.Holds → hd.heap_39 = hd.heap_39 := by
  k_fill
  exact fun _ => rfl
local macro_rules | `(tactic| walk_at "m_is") => `(tactic| (dsimp only [GX.g]; k_is))
local macro_rules | `(tactic| walk_at "m_put") => `(tactic| (refine ⟨?_, ?_, ?_, ?_⟩ <;> walk_at "m_is"))
local macro_rules | `(tactic| walk_at "m_fld") => `(tactic| exact ⟨by walk_at "m_is", by walk_at "m_is", _, by walk_at "m_is", by walk_at "m_is"⟩)
local macro_rules | `(tactic| walk_at "m_om") => `(tactic| first | exact om_nil | exact om_cons (by decide) om_nil | exact om_cons (by decide) (om_cons (by decide) om_nil))
local macro_rules | `(tactic| walk_at "m_lk") => `(tactic| first | rfl | assumption)
local macro_rules | `(tactic| walk_at "m_name") => `(tactic| first | refine ev_local (by rfl) (by rfl) ?_ | refine ev_cell (by rfl) (by rfl) ?_ | refine ev_free (by rfl) (by rfl) ?_ | refine ev_global (by rfl) (by walk_at "m_is") (by first | exact fun _ => .int _ _ | exact fun _ => .st _ rfl) ?_ | refine ev_builtin (by rfl) (by walk_at "m_is") (by boot_by_name) (by decide) rfl ?_)
local macro_rules | `(tactic| walk_at "m_expr") => `(tactic| first | ((with_reducible show Ev _ _ _ (Expr.Name _ _) _ _ _); walk_at "m_name") | with_reducible first | refine ev_Attr ?_ | refine ev_Method ?_ | refine ev_Call ?_ | refine ev_int ?_ | refine ev_Compare ?_ | refine ev_Sub ?_ | refine ev_BinOp ?_ | refine ev_str ?_ | refine ev_Tuple ?_ | refine ev_List ?_ | refine ev_IfExp ?_ | refine ev_none ?_ | refine ev_bool ?_ | refine ev_UnaryOp ?_)
local macro_rules | `(tactic| walk_at "m_stmt") => `(tactic| first | with_reducible refine ex_Return ?_ | with_reducible refine ex_If ?_ | ((with_reducible show Ex _ _ _ (Stmt.Assign _ _ _) _ _ _ _ _); first | refine ex_Assign ?_ (by rfl) (by walk_at "m_om") | refine ex_AssignC ?_ (by rfl)))
local macro_rules | `(tactic| walk_at "m_test") => `(tactic| first | (with_reducible first | refine ts_cmp ?_ | refine ts_chain ?_ | refine ts_not ?_ | refine ts_andN ?_ | refine ts_and ?_ | refine ts_orN ?_ | refine ts_or ?_) | refine ts_val ?_)
local macro_rules | `(tactic| walk_at "m_op2") => `(tactic| with_reducible first | refine op_add ?_ | refine op_and ?_ | refine op_eq ?_ | refine op_eqs ?_ | refine op_ne ?_ | refine op_lt ?_ | refine op_le ?_ | refine op_gt ?_ | refine op_ge ?_)
local macro_rules | `(tactic| walk_at "m_fn") => `(tactic| first | ((with_reducible show Fn _ _ (MV.st (Value.builtin "dict.get")) _ _ _); refine fn_get ?_) | with_reducible first | refine fn_len_lst ?_ | refine fn_len_tup ?_ | refine fn_range ?_ | refine fn_tuple_lst ?_ | refine fn_sorted_set ?_)
local macro_rules | `(tactic| walk_at "m_ev") => `(tactic| first
  | ((with_reducible show Ev _ _ _ _ _ _ _); walk_at "m_expr")
  | (with_reducible first | refine evs_nil ?_ | refine evs_cons ?_ | refine exs_nil ?_ | refine exs_cons ?_)
  | ((with_reducible show Ex _ _ _ _ _ _ _ _ _); walk_at "m_stmt")
  | ((with_reducible show Ts _ _ _ _ _ _ _); walk_at "m_test")
  | walk_at "m_op2"
  | ((with_reducible show Op1 _ _ _ (MV.obj _ _) _ _); refine op_field (by walk_at "m_fld") (by walk_at "m_lk") ?_)
  | ((with_reducible show Mth _ _ _ (MV.obj _ _) _ _); refine mth_own (by walk_at "m_is") (by walk_at "m_is") (by walk_at "m_is") (by walk_at "m_is") (by rfl) ?_)
  | (with_reducible first | refine op_neg ?_ | refine mth_get ?_ | refine emit_nil ?_ | refine emit_one ?_ | refine tr_bool ?_ | refine ⟨callee_builtin, ?_⟩ | refine ⟨callee_type, ?_⟩ | refine ⟨callee_take, ?_⟩)
  | ((with_reducible show Fn _ _ _ _ _ _); walk_at "m_fn")
  | ((with_reducible show Callee _ (MV.st (Value.ref _)) ∧ _); refine ⟨callee_own (by walk_at "m_is"), ?_⟩))
local macro_rules | `(tactic| walk_at "m_ite") => `(tactic| first | with_reducible refine ite_T ?_ | with_reducible refine ite_F ?_ | ((with_reducible show ite (_ = true) _ _); first | refine ite_B (by decide) ?_ | refine ite_NB (by decide) ?_))
local macro_rules | `(tactic| walk_at "m_evs") => `(tactic| repeat (first | walk_at "m_ev" | walk_at "m_ite"))
local macro_rules | `(tactic| walk_at "m_val") => `(tactic| walk_at "m_expr")
local macro_rules | `(tactic| walk_at "m_init") => `(tactic| repeat (refine exs_cons (ex_SetAttr (by rfl) (by rfl) (by walk_at "m_put") (Nat.le_of_ble_eq_true rfl) ?_); walk_at "m_val"))
variable {x : GX} {n : Nat} {k : Int} {Q : MV → Int → Prop}
noncomputable abbrev fs_Coverage (v_glyphs : MV) : List (Str × MV) := [(Str.ofString "glyphs", v_glyphs)]
theorem fn_Coverage {v_glyphs : MV} (h : Q (.obj 59 (fs_Coverage v_glyphs)) k) : Fn x.g (n + 1) (.st (.ref 59)) [v_glyphs] k Q := by
  refine fn_class (self := Str.ofString "self") (ps := [Str.ofString "glyphs"]) (σ₀ := [(Str.ofString "glyphs", v_glyphs)]) (by walk_at "m_is") (by walk_at "m_is") (by walk_at "m_is") (by walk_at "m_is") (by walk_at "m_is") ?b (by decide) (by decide) (by decide) (by decide) rfl rfl rfl ?_
  case b =>
    intro fz vs R
    refine R.elim_cons fun u0 vs r0 R => ?_
    refine R.elim_nil ?_
    exact ⟨[u0], [v_glyphs], fun x s hK => BindsTo.of_eq rfl, .cons r0 .nil, rfl⟩
  intro a
  walk_at "m_init"
  exact exs_nil ⟨_, rfl, h⟩
noncomputable abbrev fs_Rule (v_back v_inside v_ahead v_actions : MV) : List (Str × MV) := [(Str.ofString "actions", v_actions), (Str.ofString "ahead", v_ahead), (Str.ofString "inside", v_inside), (Str.ofString "back", v_back)]
theorem fn_Rule {v_back v_inside v_ahead v_actions : MV} (h : Q (.obj 101 (fs_Rule v_back v_inside v_ahead v_actions)) k) : Fn x.g (n + 1) (.st (.ref 101)) [v_back, v_inside, v_ahead, v_actions] k Q := by
  refine fn_class (self := Str.ofString "self") (ps := [Str.ofString "back", Str.ofString "inside", Str.ofString "ahead", Str.ofString "actions"]) (σ₀ := [(Str.ofString "actions", v_actions), (Str.ofString "ahead", v_ahead), (Str.ofString "inside", v_inside), (Str.ofString "back", v_back)]) (by walk_at "m_is") (by walk_at "m_is") (by walk_at "m_is") (by walk_at "m_is") (by walk_at "m_is") ?b (by decide) (by decide) (by decide) (by decide) rfl rfl rfl ?_
  case b =>
    intro fz vs R
    refine R.elim_cons fun u0 vs r0 R => ?_
    refine R.elim_cons fun u1 vs r1 R => ?_
    refine R.elim_cons fun u2 vs r2 R => ?_
    refine R.elim_cons fun u3 vs r3 R => ?_
    refine R.elim_nil ?_
    exact ⟨[u0, u1, u2, u3], [v_back, v_inside, v_ahead, v_actions], fun x s hK => BindsTo.of_eq rfl, .cons r0 (.cons r1 (.cons r2 (.cons r3 .nil))), rfl⟩
  intro a
  walk_at "m_init"
  exact exs_nil ⟨_, rfl, h⟩
noncomputable abbrev fs_Contexts (v_form v_is_chained v_sets v_coverage v_classes : MV) : List (Str × MV) := [(Str.ofString "classes", v_classes), (Str.ofString "coverage", v_coverage), (Str.ofString "sets", v_sets), (Str.ofString "is_chained", v_is_chained), (Str.ofString "form", v_form)]
theorem fn_Contexts {v_form v_is_chained v_sets v_coverage v_classes : MV} (h : Q (.obj 142 (fs_Contexts v_form v_is_chained v_sets v_coverage v_classes)) k) : Fn x.g (n + 1) (.st (.ref 142)) [v_form, v_is_chained, v_sets, v_coverage, v_classes] k Q := by
  refine fn_class (self := Str.ofString "self") (ps := [Str.ofString "form", Str.ofString "is_chained", Str.ofString "sets", Str.ofString "coverage", Str.ofString "classes"]) (σ₀ := [(Str.ofString "classes", v_classes), (Str.ofString "coverage", v_coverage), (Str.ofString "sets", v_sets), (Str.ofString "is_chained", v_is_chained), (Str.ofString "form", v_form)]) (by walk_at "m_is") (by walk_at "m_is") (by walk_at "m_is") (by walk_at "m_is") (by walk_at "m_is") ?b (by decide) (by decide) (by decide) (by decide) rfl rfl rfl ?_
  case b =>
    intro fz vs R
    refine R.elim_cons fun u0 vs r0 R => ?_
    refine R.elim_cons fun u1 vs r1 R => ?_
    refine R.elim_cons fun u2 vs r2 R => ?_
    refine R.elim_cons fun u3 vs r3 R => ?_
    refine R.elim_cons fun u4 vs r4 R => ?_
    refine R.elim_nil ?_
    exact ⟨[u0, u1, u2, u3, u4], [v_form, v_is_chained, v_sets, v_coverage, v_classes], fun x s hK => binds_K hK rfl (by walk_at "m_is") rfl rfl rfl, .cons r0 (.cons r1 (.cons r2 (.cons r3 (.cons r4 .nil)))), rfl⟩
  intro a
  walk_at "m_init"
  exact exs_nil ⟨_, rfl, h⟩
theorem fn_ContextsD {v_form v_is_chained v_sets : MV} (h : Q (.obj 142 (fs_Contexts v_form v_is_chained v_sets .none .none)) k) : Fn x.g (n + 1) (.st (.ref 142)) [v_form, v_is_chained, v_sets] k Q := by
  refine fn_class (self := Str.ofString "self") (ps := [Str.ofString "form", Str.ofString "is_chained", Str.ofString "sets", Str.ofString "coverage", Str.ofString "classes"]) (σ₀ := [(Str.ofString "classes", .none), (Str.ofString "coverage", .none), (Str.ofString "sets", v_sets), (Str.ofString "is_chained", v_is_chained), (Str.ofString "form", v_form)]) (by walk_at "m_is") (by walk_at "m_is") (by walk_at "m_is") (by walk_at "m_is") (by walk_at "m_is") ?b (by decide) (by decide) (by decide) (by decide) rfl rfl rfl ?_
  case b =>
    intro fz vs R
    refine R.elim_cons fun u0 vs r0 R => ?_
    refine R.elim_cons fun u1 vs r1 R => ?_
    refine R.elim_cons fun u2 vs r2 R => ?_
    refine R.elim_nil ?_
    exact ⟨[u0, u1, u2, Value.none, Value.none], [v_form, v_is_chained, v_sets, .none, .none], fun x s hK => binds_K hK rfl (by walk_at "m_is") rfl rfl rfl, .cons r0 (.cons r1 (.cons r2 (.cons .none (.cons .none .nil)))), rfl⟩
  intro a
  walk_at "m_init"
  exact exs_nil ⟨_, rfl, h⟩
noncomputable abbrev fs_Buffer (v_infos : MV) : List (Str × MV) := [(Str.ofString "last_lig", .int 0), (Str.ofString "is_backward", (.bool false)), (Str.ofString "row", v_infos)]
theorem fn_BufferD {v_infos : MV} (h : Q (.obj 243 (fs_Buffer v_infos)) k) : Fn x.g (n + 1) (.st (.ref 243)) [v_infos] k Q := by
  refine fn_class (self := Str.ofString "self") (ps := [Str.ofString "infos", Str.ofString "is_backward"]) (σ₀ := [(Str.ofString "is_backward", (.bool false)), (Str.ofString "infos", v_infos)]) (by walk_at "m_is") (by walk_at "m_is") (by walk_at "m_is") (by walk_at "m_is") (by walk_at "m_is") ?b (by decide) (by decide) (by decide) (by decide) rfl rfl rfl ?_
  case b =>
    intro fz vs R
    refine R.elim_cons fun u0 vs r0 R => ?_
    refine R.elim_nil ?_
    exact ⟨[u0, Value.bool false], [v_infos, (.bool false)], fun x s hK => binds_K hK rfl (by walk_at "m_is") rfl rfl rfl, .cons r0 (.cons (.bool _) .nil), rfl⟩
  intro a
  walk_at "m_init"
  exact exs_nil ⟨_, rfl, h⟩
noncomputable abbrev fs_Lookup (v_kind v_flag v_mark_set v_tables : MV) : List (Str × MV) := [(Str.ofString "tables", v_tables), (Str.ofString "mark_set", v_mark_set), (Str.ofString "flag", v_flag), (Str.ofString "kind", v_kind)]
theorem fn_Lookup {v_kind v_flag v_mark_set v_tables : MV} (h : Q (.obj 305 (fs_Lookup v_kind v_flag v_mark_set v_tables)) k) : Fn x.g (n + 1) (.st (.ref 305)) [v_kind, v_flag, v_mark_set, v_tables] k Q := by
  refine fn_class (self := Str.ofString "self") (ps := [Str.ofString "kind", Str.ofString "flag", Str.ofString "mark_set", Str.ofString "tables"]) (σ₀ := [(Str.ofString "tables", v_tables), (Str.ofString "mark_set", v_mark_set), (Str.ofString "flag", v_flag), (Str.ofString "kind", v_kind)]) (by walk_at "m_is") (by walk_at "m_is") (by walk_at "m_is") (by walk_at "m_is") (by walk_at "m_is") ?b (by decide) (by decide) (by decide) (by decide) rfl rfl rfl ?_
  case b =>
    intro fz vs R
    refine R.elim_cons fun u0 vs r0 R => ?_
    refine R.elim_cons fun u1 vs r1 R => ?_
    refine R.elim_cons fun u2 vs r2 R => ?_
    refine R.elim_cons fun u3 vs r3 R => ?_
    refine R.elim_nil ?_
    exact ⟨[u0, u1, u2, u3], [v_kind, v_flag, v_mark_set, v_tables], fun x s hK => BindsTo.of_eq rfl, .cons r0 (.cons r1 (.cons r2 (.cons r3 .nil))), rfl⟩
  intro a
  walk_at "m_init"
  exact exs_nil ⟨_, rfl, h⟩
noncomputable abbrev fs_Scene (v_buffer v_gdef v_lookups v_lookup v_mask : MV) : List (Str × MV) := [(Str.ofString "depth", (.int 0)), (Str.ofString "mask", v_mask), (Str.ofString "lookup", v_lookup), (Str.ofString "lookups", v_lookups), (Str.ofString "gdef", v_gdef), (Str.ofString "buffer", v_buffer)]
theorem fn_SceneD {v_buffer v_gdef v_lookups v_lookup v_mask : MV} (h : Q (.obj 327 (fs_Scene v_buffer v_gdef v_lookups v_lookup v_mask)) k) : Fn x.g (n + 1) (.st (.ref 327)) [v_buffer, v_gdef, v_lookups, v_lookup, v_mask] k Q := by
  refine fn_class (self := Str.ofString "self") (ps := [Str.ofString "buffer", Str.ofString "gdef", Str.ofString "lookups", Str.ofString "lookup", Str.ofString "mask", Str.ofString "depth"]) (σ₀ := [(Str.ofString "depth", (.int 0)), (Str.ofString "mask", v_mask), (Str.ofString "lookup", v_lookup), (Str.ofString "lookups", v_lookups), (Str.ofString "gdef", v_gdef), (Str.ofString "buffer", v_buffer)]) (by walk_at "m_is") (by walk_at "m_is") (by walk_at "m_is") (by walk_at "m_is") (by walk_at "m_is") ?b (by decide) (by decide) (by decide) (by decide) rfl rfl rfl ?_
  case b =>
    intro fz vs R
    refine R.elim_cons fun u0 vs r0 R => ?_
    refine R.elim_cons fun u1 vs r1 R => ?_
    refine R.elim_cons fun u2 vs r2 R => ?_
    refine R.elim_cons fun u3 vs r3 R => ?_
    refine R.elim_cons fun u4 vs r4 R => ?_
    refine R.elim_nil ?_
    exact ⟨[u0, u1, u2, u3, u4, Value.int 0 _], [v_buffer, v_gdef, v_lookups, v_lookup, v_mask, (.int 0)], fun x s hK => binds_K hK rfl (by walk_at "m_is") rfl rfl rfl, .cons r0 (.cons r1 (.cons r2 (.cons r3 (.cons r4 (.cons (.int _ _) .nil))))), rfl⟩
  intro a
  walk_at "m_init"
  exact exs_nil ⟨_, rfl, h⟩
noncomputable abbrev fs_Ligature (v_sets : MV) : List (Str × MV) := [(Str.ofString "sets", v_sets)]
theorem fn_Ligature {v_sets : MV} (h : Q (.obj 475 (fs_Ligature v_sets)) k) : Fn x.g (n + 1) (.st (.ref 475)) [v_sets] k Q := by
  refine fn_class (self := Str.ofString "self") (ps := [Str.ofString "sets"]) (σ₀ := [(Str.ofString "sets", v_sets)]) (by walk_at "m_is") (by walk_at "m_is") (by walk_at "m_is") (by walk_at "m_is") (by walk_at "m_is") ?b (by decide) (by decide) (by decide) (by decide) rfl rfl rfl ?_
  case b =>
    intro fz vs R
    refine R.elim_cons fun u0 vs r0 R => ?_
    refine R.elim_nil ?_
    exact ⟨[u0], [v_sets], fun x s hK => BindsTo.of_eq rfl, .cons r0 .nil, rfl⟩
  intro a
  walk_at "m_init"
  exact exs_nil ⟨_, rfl, h⟩
noncomputable abbrev fs_Reverse (v_mapping v_back v_ahead : MV) : List (Str × MV) := [(Str.ofString "ahead", v_ahead), (Str.ofString "back", v_back), (Str.ofString "mapping", v_mapping)]
theorem fn_Reverse {v_mapping v_back v_ahead : MV} (h : Q (.obj 619 (fs_Reverse v_mapping v_back v_ahead)) k) : Fn x.g (n + 1) (.st (.ref 619)) [v_mapping, v_back, v_ahead] k Q := by
  refine fn_class (self := Str.ofString "self") (ps := [Str.ofString "mapping", Str.ofString "back", Str.ofString "ahead"]) (σ₀ := [(Str.ofString "ahead", v_ahead), (Str.ofString "back", v_back), (Str.ofString "mapping", v_mapping)]) (by walk_at "m_is") (by walk_at "m_is") (by walk_at "m_is") (by walk_at "m_is") (by walk_at "m_is") ?b (by decide) (by decide) (by decide) (by decide) rfl rfl rfl ?_
  case b =>
    intro fz vs R
    refine R.elim_cons fun u0 vs r0 R => ?_
    refine R.elim_cons fun u1 vs r1 R => ?_
    refine R.elim_cons fun u2 vs r2 R => ?_
    refine R.elim_nil ?_
    exact ⟨[u0, u1, u2], [v_mapping, v_back, v_ahead], fun x s hK => BindsTo.of_eq rfl, .cons r0 (.cons r1 (.cons r2 .nil)), rfl⟩
  intro a
  walk_at "m_init"
  exact exs_nil ⟨_, rfl, h⟩
noncomputable abbrev fs_Single (v_mapping : MV) : List (Str × MV) := [(Str.ofString "mapping", v_mapping)]
theorem fn_Single {v_mapping : MV} (h : Q (.obj 652 (fs_Single v_mapping)) k) : Fn x.g (n + 1) (.st (.ref 652)) [v_mapping] k Q := by
  refine fn_class (self := Str.ofString "self") (ps := [Str.ofString "mapping"]) (σ₀ := [(Str.ofString "mapping", v_mapping)]) (by walk_at "m_is") (by walk_at "m_is") (by walk_at "m_is") (by walk_at "m_is") (by walk_at "m_is") ?b (by decide) (by decide) (by decide) (by decide) rfl rfl rfl ?_
  case b =>
    intro fz vs R
    refine R.elim_cons fun u0 vs r0 R => ?_
    refine R.elim_nil ?_
    exact ⟨[u0], [v_mapping], fun x s hK => BindsTo.of_eq rfl, .cons r0 .nil, rfl⟩
  intro a
  walk_at "m_init"
  exact exs_nil ⟨_, rfl, h⟩
noncomputable abbrev fs_Multiple (v_mapping : MV) : List (Str × MV) := [(Str.ofString "mapping", v_mapping)]
theorem fn_Multiple {v_mapping : MV} (h : Q (.obj 678 (fs_Multiple v_mapping)) k) : Fn x.g (n + 1) (.st (.ref 678)) [v_mapping] k Q := by
  refine fn_class (self := Str.ofString "self") (ps := [Str.ofString "mapping"]) (σ₀ := [(Str.ofString "mapping", v_mapping)]) (by walk_at "m_is") (by walk_at "m_is") (by walk_at "m_is") (by walk_at "m_is") (by walk_at "m_is") ?b (by decide) (by decide) (by decide) (by decide) rfl rfl rfl ?_
  case b =>
    intro fz vs R
    refine R.elim_cons fun u0 vs r0 R => ?_
    refine R.elim_nil ?_
    exact ⟨[u0], [v_mapping], fun x s hK => BindsTo.of_eq rfl, .cons r0 .nil, rfl⟩
  intro a
  walk_at "m_init"
  exact exs_nil ⟨_, rfl, h⟩
noncomputable abbrev fs_Alternate (v_mapping : MV) : List (Str × MV) := [(Str.ofString "mapping", v_mapping)]
theorem fn_Alternate {v_mapping : MV} (h : Q (.obj 704 (fs_Alternate v_mapping)) k) : Fn x.g (n + 1) (.st (.ref 704)) [v_mapping] k Q := by
  refine fn_class (self := Str.ofString "self") (ps := [Str.ofString "mapping"]) (σ₀ := [(Str.ofString "mapping", v_mapping)]) (by walk_at "m_is") (by walk_at "m_is") (by walk_at "m_is") (by walk_at "m_is") (by walk_at "m_is") ?b (by decide) (by decide) (by decide) (by decide) rfl rfl rfl ?_
  case b =>
    intro fz vs R
    refine R.elim_cons fun u0 vs r0 R => ?_
    refine R.elim_nil ?_
    exact ⟨[u0], [v_mapping], fun x s hK => BindsTo.of_eq rfl, .cons r0 .nil, rfl⟩
  intro a
  walk_at "m_init"
  exact exs_nil ⟨_, rfl, h⟩
noncomputable abbrev fs_ClassDef (v_classes : MV) : List (Str × MV) := [(Str.ofString "classes", v_classes)]
theorem fn_ClassDef {v_classes : MV} (h : Q (.obj 812 (fs_ClassDef v_classes)) k) : Fn x.g (n + 1) (.st (.ref 812)) [v_classes] k Q := by
  refine fn_class (self := Str.ofString "self") (ps := [Str.ofString "classes"]) (σ₀ := [(Str.ofString "classes", v_classes)]) (by walk_at "m_is") (by walk_at "m_is") (by walk_at "m_is") (by walk_at "m_is") (by walk_at "m_is") ?b (by decide) (by decide) (by decide) (by decide) rfl rfl rfl ?_
  case b =>
    intro fz vs R
    refine R.elim_cons fun u0 vs r0 R => ?_
    refine R.elim_nil ?_
    exact ⟨[u0], [v_classes], fun x s hK => BindsTo.of_eq rfl, .cons r0 .nil, rfl⟩
  intro a
  walk_at "m_init"
  exact exs_nil ⟨_, rfl, h⟩
noncomputable abbrev fs_Info (v_code v_glyph v_cluster : MV) : List (Str × MV) := [(Str.ofString "bond", .str (Str.ofString "")), (Str.ofString "parent", .int 0), (Str.ofString "y_offset", .int 0), (Str.ofString "x_offset", .int 0), (Str.ofString "y_advance", .int 0), (Str.ofString "x_advance", .int 0), (Str.ofString "kind", .str (Str.ofString "")), (Str.ofString "lig_count", .int 0), (Str.ofString "lig_part", .int 0), (Str.ofString "lig_id", .int 0), (Str.ofString "is_unsafe", .bool false), (Str.ofString "mask", .int 0), (Str.ofString "cluster", v_cluster), (Str.ofString "glyph", v_glyph), (Str.ofString "code", v_code)]
theorem fn_Info {v_code v_glyph v_cluster : MV} (h : Q (.obj 199 (fs_Info v_code v_glyph v_cluster)) k) : Fn x.g (n + 1) (.st (.ref 199)) [v_code, v_glyph, v_cluster] k Q := by
  refine fn_class (self := Str.ofString "self") (ps := [Str.ofString "code", Str.ofString "glyph", Str.ofString "cluster"]) (σ₀ := [(Str.ofString "cluster", v_cluster), (Str.ofString "glyph", v_glyph), (Str.ofString "code", v_code)]) (by walk_at "m_is") (by walk_at "m_is") (by walk_at "m_is") (by walk_at "m_is") (by walk_at "m_is") ?b (by decide) (by decide) (by decide) (by decide) rfl rfl rfl ?_
  case b =>
    intro fz vs R
    refine R.elim_cons fun u0 vs r0 R => ?_
    refine R.elim_cons fun u1 vs r1 R => ?_
    refine R.elim_cons fun u2 vs r2 R => ?_
    refine R.elim_nil ?_
    exact ⟨[u0, u1, u2], [v_code, v_glyph, v_cluster], fun x s hK => BindsTo.of_eq rfl, .cons r0 (.cons r1 (.cons r2 .nil)), rfl⟩
  intro a
  walk_at "m_init"
  exact exs_nil ⟨_, rfl, h⟩
noncomputable abbrev sIdx (l : List Int) (y : Int) (lo hi : Nat) : List (Str × MV) := [(Str.ofString "high", .int hi), (Str.ofString "low", .int lo), (Str.ofString "self", .obj 59 (fs_Coverage (.tup (il l)))), (Str.ofString "glyph", .int y)]


theorem fn_index {l : List Int} {y : Int} (hs : l.Pairwise (· < ·)) (hl : l.length ≤ 900) (h : ∀ r : Int, (0 ≤ r ↔ y ∈ l) → Q (.int r) k) :
    Fn x.g (n + 1) (.st (.ref 42)) [.obj 59 (fs_Coverage (.tup (il l))), .int y] k Q := by
  refine fn_plain (ps := [Str.ofString "self", Str.ofString "glyph"]) (by walk_at "m_is") (by walk_at "m_is") rfl ?_ (by decide) (by decide) (by decide) rfl rfl rfl ?_
  · intro vs hv s hK
    exact vs2 hv fun _ _ => BindsTo.of_eq rfl
  walk_at "m_ev"
  walk_at "m_ev"
  walk_at "m_ev"
  walk_at "m_evs"
  refine ex_While (fun c σ ω k' => ∃ lo hi : Nat, Sub (sIdx l y lo hi) σ ∧ ω = [] ∧ k' = k ∧ c = hi - lo ∧ lo ≤ hi ∧ hi ≤ l.length ∧ (∀ i, i < lo → l.getD i 0 < y) ∧ (∀ i, hi ≤ i → i < l.length → y ≤ l.getD i 0)) l.length
    ⟨0, l.length, .cons (by simp) (.cons (by rfl) (.cons (by rfl) (.cons (by rfl) .nil))), rfl, rfl, rfl, Nat.zero_le _, Nat.le_refl _, fun i h => absurd h (Nat.not_lt_zero _), fun i h1 h2 => absurd h2 (Nat.not_lt.mpr h1)⟩ ?_
  rintro c σ ω k' ⟨lo, hi, hsub, rfl, rfl, rfl, hle, hlen, h1, h2⟩
  refine ts_sub hsub ?_
  walk_at "m_evs"
  refine ite_d (fun hlt => ?_) (fun hlt => ?_)
  · refine exs_sub hsub ?_
    have hlt : lo < hi := by omega
    walk_at "m_evs"
    refine op_fdiv (by decide) (by first | exact PyProof.noPylong_of_log2 (by decide +kernel) | exact PyProof.noPylong_small (by omega)) ?_
    rw [half_nat]
    generalize hm : (lo + hi) / 2 = mi
    have hmi : lo ≤ mi ∧ mi < hi := by omega
    walk_at "m_evs"
    refine sub_tup (by omega) (il_get (by omega)) ?_ (il_len (by omega))
    walk_at "m_evs"
    refine ite_d (fun hv => ?_) (fun hv => ?_)
    · walk_at "m_evs"
      refine ⟨hi - (mi + 1), by omega, mi + 1, hi, .cons (by rfl) (.cons (by rfl) (.cons (by rfl) (.cons (by rfl) .nil))), rfl, rfl, rfl, by omega, hlen, fun i hi' => ?_, h2⟩
      rcases Nat.lt_or_ge i mi with h3 | h3
      · exact Int.lt_trans (sorted_getD hs h3 (by omega)) hv
      · rw [show i = mi by omega]; exact hv
    · walk_at "m_evs"
      refine ⟨mi - lo, by omega, lo, mi, .cons (by rfl) (.cons (by rfl) (.cons (by rfl) (.cons (by rfl) .nil))), rfl, rfl, rfl, by omega, by omega, h1, fun i h3 h4 => ?_⟩
      rcases Nat.lt_or_ge mi i with h5 | h5
      · exact Int.le_trans (Int.not_lt.mp hv) (Int.le_of_lt (sorted_getD hs h5 h4))
      · rw [show i = mi by omega]; exact Int.not_lt.mp hv
  · refine exs_sub hsub ?_
    have hlh : lo = hi := by omega
    subst hlh
    walk_at "m_evs"
    refine ite_d (fun h3 => ?_) (fun h3 => ?_)
    · have h3 : lo < l.length := by simpa using h3
      walk_at "m_evs"
      refine sub_tup (by omega) (il_get h3) ?_ (il_len (by omega))
      walk_at "m_evs"
      refine ite_b (fun h4 => ?_) (fun h4 => ?_)
      · walk_at "m_evs"
        refine h _ ⟨fun _ => mem_getD.mpr ⟨lo, h3, by simpa using h4⟩, fun _ => by omega⟩
      · walk_at "m_evs"
        refine h _ ⟨fun q => absurd q (by decide), fun q => ?_⟩
        obtain ⟨i, hi, e⟩ := mem_getD.mp q
        have h4 : l.getD lo 0 ≠ y := by simpa using h4
        have a1 := h1 i
        have a2 := h2 i
        rcases Nat.lt_trichotomy i lo with a | a | a
        · have := a1 a; omega
        · rw [a] at e; exact absurd e h4
        · have b1 := sorted_getD hs a hi
          have b2 := h2 lo (Nat.le_refl _) h3
          omega
    · have h3 : ¬ lo < l.length := by simpa using h3
      walk_at "m_evs"
      refine h _ ⟨fun q => absurd q (by decide), fun q => ?_⟩
      obtain ⟨i, hi, e⟩ := mem_getD.mp q
      have a1 := h1 i (by omega)
      omega
noncomputable abbrev covM (l : List Int) : MV := .obj 59 (fs_Coverage (.tup (il l)))
theorem fn_has {l : List Int} {y : Int} (hs : l.Pairwise (· < ·)) (hl : l.length ≤ 900) (h : Q (.bool (decide (y ∈ l))) k) :
    Fn x.g (n + 2) (.st (.ref 49)) [covM l, .int y] k Q := by
  refine fn_plain (ps := [Str.ofString "self", Str.ofString "glyph"]) (by walk_at "m_is") (by walk_at "m_is") rfl ?_ (by decide) (by decide) (by decide) rfl rfl rfl ?_
  · intro vs hv s hK
    exact vs2 hv fun _ _ => BindsTo.of_eq rfl
  walk_at "m_evs"
  refine fn_index hs hl fun r hr => ?_
  walk_at "m_evs"
  have : decide ((0 : Int) ≤ r) = decide (y ∈ l) := by simp [hr]
  rw [this]; exact h
noncomputable abbrev clsM (es : List (Int × MV)) : MV := .obj 812 (fs_ClassDef (.dic es))
theorem fn_class_of {es : List (Int × MV)} {y : Int} (h : Q ((es.lookup y).getD (.int 0)) k) :
    Fn x.g (n + 1) (.st (.ref 790)) [clsM es, .int y] k Q := by
  refine fn_plain (ps := [Str.ofString "self", Str.ofString "glyph"]) (by walk_at "m_is") (by walk_at "m_is") rfl ?_ (by decide) (by decide) (by decide) rfl rfl rfl ?_
  · intro vs hv s hK
    exact vs2 hv fun _ _ => BindsTo.of_eq rfl
  walk_at "m_evs"
  exact h
theorem take_snoc {α : Type} {l : List α} {i : Nat} {v : α} (h : l[i]? = some v) : l.take (i + 1) = l.take i ++ [v] := by
  rw [List.take_add_one, h]; rfl
theorem fn_coverage_of {ns : List Int} (hn : ns.length ≤ 60) (h : ∀ l : List Int, l.Pairwise (· < ·) → (∀ y, y ∈ l ↔ y ∈ ns) → l.length ≤ ns.length → Q (covM l) k) :
    Fn x.g (n + 2) (.st (.ref 70)) [.lst (il ns)] k Q := by
  refine fn_plain (ps := [Str.ofString "glyphs"]) (by walk_at "m_is") (by walk_at "m_is") rfl ?_ (by decide) (by decide) (by decide) rfl rfl rfl ?_
  · intro vs hv s hK
    exact vs1 hv fun _ => BindsTo.of_eq rfl
  refine exs_cons (ex_NewDict ?_ (by rfl) om_nil (by rfl))
  refine exs_cons (ex_For (by rfl) ?_)
  walk_at "m_evs"
  refine ⟨il ns, fun i σ ω k' => Sub [(Str.ofString "glyphs", .lst (il ns))] σ ∧ ω = [(Str.ofString "found", .dic (dictM ((ns.take i).map fun y => (y, MV.bool true))))] ∧ k' = k, .lst _, ⟨.cons (by rfl) .nil, by simp [dictM], rfl⟩, ?_, ?_⟩
  · rintro i mi σ ω k' hi ⟨hs, rfl, rfl⟩
    refine ⟨om_cons (by decide) om_nil, ?_⟩
    obtain ⟨y, hy, rfl⟩ : ∃ y, ns[i]? = some y ∧ mi = .int y := by
      rw [List.getElem?_map] at hi
      cases q : ns[i]? with
      | none => rw [q] at hi; cases hi
      | some y => rw [q] at hi; cases hi; exact ⟨y, rfl, rfl⟩
    refine exs_sub hs.over ?_
    have hl := (dictM_keys ((ns.take i).map fun y => (y, MV.bool true))).2.2
    refine exs_cons (ex_SetItem (by rfl) (by rfl) (by simp only [List.length_map, List.length_take] at hl; omega) ?_)
    walk_at "m_evs"
    refine ⟨y, rfl, ?_⟩
    walk_at "m_evs"
    refine ⟨.cons (by rfl) .nil, ?_, rfl⟩
    rw [take_snoc hy, List.map_append]
    simp only [dictM, List.foldl_append]
    rfl
  · rintro σ ω k' ⟨hs, rfl, rfl⟩
    rw [show (il ns).length = ns.length by simp, List.take_length]
    refine exs_freeze (x := Str.ofString "found") (by rfl) (by rfl) ?_
    obtain ⟨k1, k2, k3⟩ := dictM_keys (ns.map fun y => (y, MV.bool true))
    walk_at "m_evs"
    refine fn_sorted_dic (by simp at k3; omega) fun ns' p o => ?_
    walk_at "m_evs"
    refine fn_Coverage ?_
    have hlen := p.length_eq
    refine h ns' (strict_of p o k1) (fun y => ?_) ?_
    · rw [p.mem_iff, k2]; simp
    · simp at hlen k3; omega
theorem fn_tests_of {ms : List MV} {w : Str} {cd : MV} (hl : ms.length ≤ 500) (h : ∀ v, Q v k) :
    Fn x.g (n + 1) (.st (.ref 156)) [.tup ms, .str w, cd] k Q := by
  refine fn_cells (ps := [Str.ofString "row", Str.ofString "word", Str.ofString "classdef"]) (by walk_at "m_is") (by walk_at "m_is") rfl ?_ (by decide) (by decide +kernel) (by decide) rfl rfl rfl ?_
  · intro vs hv s hK
    exact vs3 hv fun _ _ _ => BindsTo.of_eq rfl
  walk_at "m_evs"
  refine ite_b (fun hw => ?_) (fun hw => ?_)
  · walk_at "m_evs"
    refine ev_ListComp (σf := [(Str.ofString "classdef", cd)]) (.of rfl (by decide) (.cons (by rfl) (by rfl) .nil)) ?_ (.inl rfl)
    walk_at "m_evs"
    refine ⟨ms, fun i acc k' => k' = k, .tup _, by omega, rfl, ?_, ?_⟩
    · rintro i mi acc k' hi rfl
      refine ⟨_, .name _ mi (by rfl), ?_⟩
      walk_at "m_evs"
      rfl
    · rintro acc k' rfl
      exact h _
  · walk_at "m_evs"
    refine ev_ListComp (σf := [(Str.ofString "word", .str w)]) (.of rfl (by decide) (.cons (by rfl) (by rfl) .nil)) ?_ (.inl rfl)
    walk_at "m_evs"
    refine ⟨ms, fun i acc k' => k' = k, .tup _, by omega, rfl, ?_, ?_⟩
    · rintro i mi acc k' hi rfl
      refine ⟨_, .name _ mi (by rfl), ?_⟩
      walk_at "m_evs"
      rfl
    · rintro acc k' rfl
      exact h _
noncomputable def IsRule (m : MV) : Prop := ∃ b i a act, m = .obj 101 (fs_Rule (.tup b) (.tup i) (.tup a) act) ∧ b.length ≤ 100 ∧ i.length ≤ 100 ∧ a.length ≤ 100
theorem fn_rule_tests {f : Int} {ic : Bool} {sets cov cl r : MV} (hf : f = 1 ∨ f = 2 ∨ f = 3) (hcl : f = 2 → ∃ c0 c1 c2, cl = .tup [c0, c1, c2]) (hr : IsRule r) (h : ∀ v, Q v k) :
    Fn x.g (n + 2) (.st (.ref 163)) [.obj 142 (fs_Contexts (.int f) (.bool ic) sets cov cl), r] k Q := by
  obtain ⟨b, i, a, act, rfl, hb, hi, ha⟩ := hr
  refine fn_plain (ps := [Str.ofString "table", Str.ofString "rule"]) (by walk_at "m_is") (by walk_at "m_is") rfl ?_ (by decide) (by decide) (by decide) rfl rfl rfl ?_
  · intro vs hv s hK
    exact vs2 hv fun _ _ => BindsTo.of_eq rfl
  walk_at "m_evs"
  have hw : ∃ w : Str, ([MV.str (Str.ofString ""), .str (Str.ofString "glyph"), .str (Str.ofString "class"), .str (Str.ofString "cover")])[f.toNat]? = some (.str w) := by
    rcases hf with rfl | rfl | rfl <;> exact ⟨_, rfl⟩
  obtain ⟨w, hw⟩ := hw
  refine sub_lst (by omega) hw ?_ (by decide)
  walk_at "m_evs"
  refine ex_Assign3 ?_ (by rfl) (by rfl) (by rfl) (fun p hp => nomatch hp)
  walk_at "m_evs"
  refine ite_b (fun h2 => ?_) (fun h2 => ?_)
  · obtain ⟨c0, c1, c2, rfl⟩ := hcl (by simpa using h2)
    walk_at "m_evs"
    refine ⟨_, _, _, rfl, ?_⟩
    walk_at "m_evs"
    refine fn_tests_of (by omega) fun v1 => ?_
    walk_at "m_evs"
    refine fn_tests_of (by omega) fun v2 => ?_
    walk_at "m_evs"
    refine fn_tests_of (by omega) fun v3 => ?_
    walk_at "m_evs"
    exact h _
  · walk_at "m_evs"
    refine ⟨_, _, _, rfl, ?_⟩
    walk_at "m_evs"
    refine fn_tests_of (by omega) fun v1 => ?_
    walk_at "m_evs"
    refine fn_tests_of (by omega) fun v2 => ?_
    walk_at "m_evs"
    refine fn_tests_of (by omega) fun v3 => ?_
    walk_at "m_evs"
    exact h _
theorem fn_rules {f : Int} {ic : Bool} {rs : List MV} {cov cl : MV} (hl : rs.length ≤ 100) (h : Q (.lst rs) k) :
    Fn x.g (n + 1) (.st (.ref 139)) [.obj 142 (fs_Contexts (.int f) (.bool ic) (.dic [(0, .lst rs)]) cov cl)] k Q := by
  refine fn_plain (ps := [Str.ofString "self"]) (by walk_at "m_is") (by walk_at "m_is") rfl ?_ (by decide) (by decide) (by decide) rfl rfl rfl ?_
  · intro vs hv s hK
    exact vs1 hv fun _ => BindsTo.of_eq rfl
  refine exs_cons (ex_NewList ?_ (by rfl) om_nil (by rfl))
  refine exs_cons (ex_For (by rfl) ?_)
  walk_at "m_evs"
  refine fn_sorted_dic (by simp) fun ns' p o => ?_
  have hns : ns' = [0] := List.perm_singleton.mp p
  subst hns
  refine ⟨_, fun i σ ω k' => Sub [(Str.ofString "self", .obj 142 (fs_Contexts (.int f) (.bool ic) (.dic [(0, .lst rs)]) cov cl))] σ ∧ ω = [(Str.ofString "found", .lst (if i = 0 then [] else rs))] ∧ k' = k, .lst _, ⟨.cons (by rfl) .nil, rfl, rfl⟩, ?_, ?_⟩
  · rintro i mi σ ω k' hi ⟨hs, rfl, rfl⟩
    have hi0 : i = 0 ∧ mi = .int 0 := by
      cases i with
      | zero => simp at hi; exact ⟨rfl, hi.symm⟩
      | succ i => simp at hi
    obtain ⟨rfl, rfl⟩ := hi0
    refine ⟨om_cons (by decide) om_nil, ?_⟩
    refine exs_sub hs.over ?_
    refine exs_cons (ex_For (by rfl) ?_)
    walk_at "m_evs"
    refine sub_dic (by rfl) ?_
    refine ⟨rs, fun i σ ω k'' => Sub [(Str.ofString "self", .obj 142 (fs_Contexts (.int f) (.bool ic) (.dic [(0, .lst rs)]) cov cl))] σ ∧ ω = [(Str.ofString "found", .lst (rs.take i))] ∧ k'' = k', .lst _, ⟨.cons (by rfl) .nil, by simp, rfl⟩, ?_, ?_⟩
    · rintro i mi σ ω k'' hi ⟨hs, rfl, rfl⟩
      refine ⟨om_cons (by decide) om_nil, ?_⟩
      refine exs_sub hs.over ?_
      refine exs_cons (ex_Append (by rfl) (by rfl) (by simp only [List.length_take]; omega) rfl ?_)
      walk_at "m_evs"
      refine ⟨.cons (by rfl) .nil, ?_, rfl⟩
      rw [take_snoc hi]; rfl
    · rintro σ ω k'' ⟨hs, rfl, rfl⟩
      walk_at "m_evs"
      exact ⟨hs, by simp, rfl⟩
  · rintro σ ω k' ⟨hs, rfl, rfl⟩
    refine exs_freeze (x := Str.ofString "found") (by rfl) (by rfl) ?_
    walk_at "m_evs"
    exact h
noncomputable def rulesOf (m : Option MV) : List MV := match m with
  | some (.lst rs) => rs
  | _ => []
noncomputable def AllRules (rs : List MV) : Prop := rs.length ≤ 20 ∧ ∀ r ∈ rs, IsRule r
theorem fn_rules_at1 {ic : Bool} {sets : List (Int × MV)} {cov cl : MV} {y : Int} (hr : ∀ p ∈ sets, ∃ rs, p.2 = .lst rs ∧ AllRules rs) (h : ∀ l : List MV, l.length = (rulesOf (sets.lookup y)).length → Q (.lst l) k) :
    Fn x.g (n + 3) (.st (.ref 168)) [.obj 142 (fs_Contexts (.int 1) (.bool ic) (.dic sets) cov cl), .int y] k Q := by
  refine fn_cells (ps := [Str.ofString "table", Str.ofString "glyph"]) (by walk_at "m_is") (by walk_at "m_is") rfl ?_ (by decide) (by decide +kernel) (by decide) rfl rfl rfl ?_
  · intro vs hv s hK
    exact vs2 hv fun _ _ => BindsTo.of_eq rfl
  obtain ⟨rs, hl, h1, h2⟩ : ∃ rs, (sets.lookup y).getD (.lst []) = .lst rs ∧ rs.length = (rulesOf (sets.lookup y)).length ∧ AllRules rs := by
    cases e : sets.lookup y with
    | none => exact ⟨[], rfl, rfl, by simp [AllRules]⟩
    | some m =>
      obtain ⟨rs, e2, h2⟩ := hr _ (mem_of_lookup e)
      dsimp only at e2
      subst e2
      exact ⟨rs, rfl, rfl, h2⟩
  walk_at "m_evs"
  rw [hl]
  refine ev_ListComp (σf := [(Str.ofString "table", .obj 142 (fs_Contexts (.int 1) (.bool ic) (.dic sets) cov cl))]) (.of rfl (by decide) (.cons (by rfl) (by rfl) .nil)) ?_ (.inl rfl)
  walk_at "m_evs"
  refine ⟨rs, fun i acc k' => k' = k ∧ acc.length = i, .lst _, by have := h2.1; omega, ⟨rfl, rfl⟩, ?_, ?_⟩
  · rintro i mi acc k' hi ⟨rfl, hacc⟩
    refine ⟨_, .name _ mi (by rfl), ?_⟩
    walk_at "m_evs"
    refine fn_rule_tests (.inl rfl) (fun e => absurd e (by decide)) (h2.2 _ (List.mem_of_getElem? hi)) fun v => ?_
    exact ⟨rfl, by simp [hacc]⟩
  · rintro acc k' ⟨rfl, hacc⟩
    exact h _ (by omega)
noncomputable def classOf (es : List (Int × MV)) (y : Int) : Int := match es.lookup y with
  | some (.int c) => c
  | _ => 0
theorem classOf_eq {es : List (Int × MV)} {y : Int} (h : ∀ p ∈ es, ∃ c, p.2 = .int c) : (es.lookup y).getD (.int 0) = .int (classOf es y) := by
  unfold classOf
  cases e : es.lookup y with
  | none => rfl
  | some m =>
    obtain ⟨c, hc⟩ := h _ (mem_of_lookup e)
    dsimp only at hc
    subst hc; rfl
theorem fn_rules_at2 {ic : Bool} {sets es : List (Int × MV)} {cov : List Int} {c0 c2 : MV} {y : Int} (hs : cov.Pairwise (· < ·)) (hl : cov.length ≤ 900) (hes : ∀ p ∈ es, ∃ c, p.2 = .int c) (hr : ∀ p ∈ sets, ∃ rs, p.2 = .lst rs ∧ AllRules rs)
    (h : ∀ l : List MV, l.length = (if y ∈ cov then (rulesOf (sets.lookup (classOf es y))).length else 0) → Q (.lst l) k) :
    Fn x.g (n + 3) (.st (.ref 168)) [.obj 142 (fs_Contexts (.int 2) (.bool ic) (.dic sets) (covM cov) (.tup [c0, clsM es, c2])), .int y] k Q := by
  refine fn_cells (ps := [Str.ofString "table", Str.ofString "glyph"]) (by walk_at "m_is") (by walk_at "m_is") rfl ?_ (by decide) (by decide +kernel) (by decide) rfl rfl rfl ?_
  · intro vs hv s hK
    exact vs2 hv fun _ _ => BindsTo.of_eq rfl
  obtain ⟨rs, hl2, h1, h2⟩ : ∃ rs, (sets.lookup (classOf es y)).getD (.lst []) = .lst rs ∧ rs.length = (rulesOf (sets.lookup (classOf es y))).length ∧ AllRules rs := by
    cases e : sets.lookup (classOf es y) with
    | none => exact ⟨[], rfl, rfl, by simp [AllRules]⟩
    | some m =>
      obtain ⟨rs, e2, h2⟩ := hr _ (mem_of_lookup e)
      dsimp only at e2
      subst e2
      exact ⟨rs, rfl, rfl, h2⟩
  have last : ∀ (rs : List MV), AllRules rs → rs.length = (if y ∈ cov then (rulesOf (sets.lookup (classOf es y))).length else 0) → ∀ l : List MV, l.length = rs.length → Q (.lst l) k := fun rs _ e l e2 => h l (e2.trans e)
  walk_at "m_evs"
  refine fn_has hs hl ?_
  walk_at "m_evs"
  refine ite_d (fun hm => ?_) (fun hm => ?_)
  · rw [if_pos hm] at h
    walk_at "m_evs"
    refine sub_tup (by decide) (by rfl) ?_ (by simp)
    walk_at "m_evs"
    refine fn_class_of ?_
    rw [classOf_eq hes]
    walk_at "m_evs"
    rw [hl2]
    refine ev_ListComp (σf := [(Str.ofString "table", .obj 142 (fs_Contexts (.int 2) (.bool ic) (.dic sets) (covM cov) (.tup [c0, clsM es, c2])))]) (.of rfl (by decide) (.cons (by rfl) (by rfl) .nil)) ?_ (.inl rfl)
    walk_at "m_evs"
    refine ⟨rs, fun i acc k' => k' = k ∧ acc.length = i, .lst _, by have := h2.1; omega, ⟨rfl, rfl⟩, ?_, ?_⟩
    · rintro i mi acc k' hi ⟨rfl, hacc⟩
      refine ⟨_, .name _ mi (by rfl), ?_⟩
      walk_at "m_evs"
      refine fn_rule_tests (.inr (.inl rfl)) (fun _ => ⟨_, _, _, rfl⟩) (h2.2 _ (List.mem_of_getElem? hi)) fun v => ?_
      exact ⟨rfl, by simp [hacc]⟩
    · rintro acc k' ⟨rfl, hacc⟩
      exact h _ (by omega)
  · rw [if_neg hm] at h
    walk_at "m_evs"
    refine ev_ListComp (σf := [(Str.ofString "table", .obj 142 (fs_Contexts (.int 2) (.bool ic) (.dic sets) (covM cov) (.tup [c0, clsM es, c2])))]) (.of rfl (by decide) (.cons (by rfl) (by rfl) .nil)) ?_ (.inl rfl)
    walk_at "m_evs"
    refine ⟨[], fun i acc k' => k' = k ∧ acc = [], .lst _, by simp, ⟨rfl, rfl⟩, ?_, ?_⟩
    · rintro i mi acc k' hi ⟨rfl, hacc⟩
      simp at hi
    · rintro acc k' ⟨rfl, rfl⟩
      exact h _ rfl
noncomputable abbrev ruleC (l : List Int) (rest : List MV) : MV := .obj 101 (fs_Rule (.tup []) (.tup (covM l :: rest)) (.tup []) (.tup []))
noncomputable abbrev ctx3 (l : List Int) (rest : List MV) : MV := .obj 142 (fs_Contexts (.int 3) (.bool false) (.dic [(0, .lst [ruleC l rest])]) .none .none)
theorem ruleC_is {l : List Int} {rest : List MV} (hr : rest.length ≤ 50) : IsRule (ruleC l rest) := ⟨[], covM l :: rest, [], .tup [], rfl, by simp, by simp; omega, by simp⟩
theorem fn_rules_at3 {l : List Int} {rest : List MV} {y : Int} (hs : l.Pairwise (· < ·)) (hl : l.length ≤ 900) (hr : rest.length ≤ 50) (h : ∀ l' : List MV, l'.length = (if y ∈ l then 1 else 0) → Q (.lst l') k) :
    Fn x.g (n + 4) (.st (.ref 168)) [ctx3 l rest, .int y] k Q := by
  refine fn_cells (ps := [Str.ofString "table", Str.ofString "glyph"]) (by walk_at "m_is") (by walk_at "m_is") rfl ?_ (by decide) (by decide +kernel) (by decide) rfl rfl rfl ?_
  · intro vs hv s hK
    exact vs2 hv fun _ _ => BindsTo.of_eq rfl
  walk_at "m_evs"
  refine ex_AssignComp (σf := [(Str.ofString "glyph", .int y)]) (.of rfl (by decide) (.cons (by rfl) (by rfl) .nil)) ?_ (.inr ⟨_, rfl⟩) (by rfl) om_nil (by intro env he; simp only [swapsWith, Env.blockKind, Env.kindOf, he]; rfl)
  walk_at "m_evs"
  refine fn_rules (by simp) ?_
  refine ⟨[ruleC l rest], fun i acc k' => k' = k ∧ acc = (if i = 0 then [] else if y ∈ l then [ruleC l rest] else []), .lst _, by simp, ⟨rfl, rfl⟩, ?_, ?_⟩
  · rintro i mi acc k' hi ⟨rfl, hacc⟩
    have hi0 : i = 0 ∧ mi = ruleC l rest := by
      cases i with
      | zero => simp at hi; exact ⟨rfl, hi.symm⟩
      | succ i => simp at hi
    obtain ⟨rfl, rfl⟩ := hi0
    subst hacc
    refine ⟨_, .name _ _ (by rfl), ?_⟩
    walk_at "m_evs"
    refine sub_tup (by decide) (by rfl) ?_ (by simp; omega)
    walk_at "m_evs"
    refine fn_has hs hl ?_
    walk_at "m_evs"
    refine ite_d (fun hm => ?_) (fun hm => ?_)
    · walk_at "m_evs"
      exact ⟨rfl, by simp [hm]⟩
    · exact ⟨rfl, by simp [hm]⟩
  · rintro acc k' ⟨rfl, hacc⟩
    walk_at "m_evs"
    refine ev_ListComp (σf := [(Str.ofString "table", ctx3 l rest)]) (.of rfl (by decide) (.cons (by rfl) (by rfl) .nil)) ?_ (.inl rfl)
    walk_at "m_evs"
    refine ⟨acc, fun i acc' k'' => k'' = k' ∧ acc'.length = i, .lst _, by rw [hacc]; simp; split <;> simp, ⟨rfl, rfl⟩, ?_, ?_⟩
    · rintro i mi acc' k'' hi ⟨rfl, hacc'⟩
      refine ⟨_, .name _ mi (by rfl), ?_⟩
      walk_at "m_evs"
      have hmi : IsRule mi := by
        have := List.mem_of_getElem? hi
        rw [hacc] at this
        simp at this
        rw [this.2]; exact ruleC_is hr
      refine fn_rule_tests (.inr (.inr rfl)) (fun e => absurd e (by decide)) hmi fun v => ?_
      exact ⟨rfl, by simp [hacc']⟩
    · rintro acc' k'' ⟨rfl, hacc'⟩
      refine h _ ?_
      rw [hacc', hacc]
      simp
      split <;> rfl
theorem fn_starts3 {l : List Int} {rest : List MV} (hl : l.length ≤ 60) (hr : rest.length ≤ 50) (h : Q (.lst (il l)) k) : Fn x.g (n + 5) (.st (.ref 741)) [ctx3 l rest] k Q := by
  refine fn_cells (ps := [Str.ofString "table"]) (by walk_at "m_is") (by walk_at "m_is") rfl ?_ (by decide) (by decide +kernel) (by decide) rfl rfl rfl ?_
  · intro vs hv s hK
    exact vs1 hv fun _ => BindsTo.of_eq rfl
  walk_at "m_evs"
  refine ev_ListComp2 (σf := []) (.of rfl (by decide) .nil) ?_
  walk_at "m_evs"
  refine fn_rules (by simp) ?_
  refine ⟨[ruleC l rest], fun i acc k' => k' = k ∧ acc = (if i = 0 then [] else il l), .lst _, ⟨rfl, rfl⟩, ?_, ?_, ?_⟩
  · rintro i acc k' ⟨rfl, rfl⟩
    split <;> simp; omega
  · rintro i mi acc k' hi ⟨rfl, rfl⟩
    have hi0 : i = 0 ∧ mi = ruleC l rest := by
      cases i with
      | zero => simp at hi; exact ⟨rfl, hi.symm⟩
      | succ i => simp at hi
    obtain ⟨rfl, rfl⟩ := hi0
    refine ⟨_, .name _ _ (by rfl), ?_⟩
    walk_at "m_evs"
    refine sub_tup (by decide) (by rfl) ?_ (by simp; omega)
    walk_at "m_evs"
    refine ⟨il l, fun j acc k'' => k'' = k' ∧ acc = il (l.take j), .tup _, ⟨rfl, by simp⟩, ?_, ?_, ?_⟩
    · rintro j acc k'' ⟨rfl, rfl⟩
      simp; omega
    · rintro j mj acc k'' hj ⟨rfl, rfl⟩
      obtain ⟨y, hy, rfl⟩ : ∃ y, l[j]? = some y ∧ mj = .int y := by
        rw [List.getElem?_map] at hj
        cases q : l[j]? with
        | none => rw [q] at hj; cases hj
        | some y => rw [q] at hj; cases hj; exact ⟨y, rfl, rfl⟩
      refine ⟨_, .name _ _ (by rfl), ?_, ?_⟩
      · intro z u e
        rw [List.lookup_cons] at e ⊢
        cases hz : z == Str.ofString "rule" with
        | false => rw [hz] at e; cases e
        | true => rw [eq_of_beq hz]; rfl
      · walk_at "m_evs"
        exact ⟨rfl, by rw [take_snoc hy]; simp [il]⟩
    · rintro acc k'' ⟨rfl, rfl⟩
      exact ⟨rfl, by simp [il]⟩
  · rintro acc k' ⟨rfl, rfl⟩
    exact h
theorem fn_starts1 {ic : Bool} {sets : List (Int × MV)} {cov cl : MV} (hr : ∀ p ∈ sets, ∃ rs, p.2 = .lst rs ∧ AllRules rs) (hl : sets.length ≤ 50)
    (h : ∀ ns : List Int, ns.length ≤ 60 → (∀ y, y ∈ ns ↔ y ∈ sets.map (·.1) ∧ (rulesOf (sets.lookup y)) ≠ []) → Q (.lst (il ns)) k) :
    Fn x.g (n + 5) (.st (.ref 741)) [.obj 142 (fs_Contexts (.int 1) (.bool ic) (.dic sets) cov cl)] k Q := by
  refine fn_cells (ps := [Str.ofString "table"]) (by walk_at "m_is") (by walk_at "m_is") rfl ?_ (by decide) (by decide +kernel) (by decide) rfl rfl rfl ?_
  · intro vs hv s hK
    exact vs1 hv fun _ => BindsTo.of_eq rfl
  walk_at "m_evs"
  refine fn_sorted_dic (by omega) fun gs p o => ?_
  have hgl : gs.length ≤ 50 := by have := p.length_eq; simp at this; omega
  walk_at "m_evs"
  refine ev_ListComp (σf := [(Str.ofString "table", .obj 142 (fs_Contexts (.int 1) (.bool ic) (.dic sets) cov cl))]) (.of rfl (by decide) (.cons (by rfl) (by rfl) .nil)) ?_ (.inr ⟨_, rfl⟩)
  walk_at "m_evs"
  refine ⟨il gs, fun i acc k' => k' = k ∧ acc = il ((gs.take i).filter fun y => !(rulesOf (sets.lookup y)).isEmpty), .lst _, by simp; omega, ⟨rfl, by simp⟩, ?_, ?_⟩
  · rintro i mi acc k' hi ⟨rfl, rfl⟩
    obtain ⟨y, hy, rfl⟩ : ∃ y, gs[i]? = some y ∧ mi = .int y := by
      rw [List.getElem?_map] at hi
      cases q : gs[i]? with
      | none => rw [q] at hi; cases hi
      | some y => rw [q] at hi; cases hi; exact ⟨y, rfl, rfl⟩
    refine ⟨_, .name _ _ (by rfl), ?_⟩
    walk_at "m_evs"
    refine fn_rules_at1 hr fun l' hl' => ?_
    walk_at "m_evs"
    refine op_ne_nil ?_
    walk_at "m_evs"
    have e : l'.isEmpty = (rulesOf (sets.lookup y)).isEmpty := by
      rw [Bool.eq_iff_iff, List.isEmpty_iff, List.isEmpty_iff, ← List.length_eq_zero_iff, ← List.length_eq_zero_iff, hl']
    rw [e]
    refine ite_b (fun hm => ?_) (fun hm => ?_)
    · walk_at "m_evs"
      exact ⟨rfl, by rw [take_snoc hy, List.filter_append]; simp [hm]⟩
    · exact ⟨rfl, by rw [take_snoc hy, List.filter_append]; simp [hm]⟩
  · rintro acc k' ⟨rfl, rfl⟩
    refine h _ ?_ fun y => ?_
    · exact Nat.le_trans (List.length_filter_le _ _) (by simp; omega)
    · rw [List.mem_filter, show (il gs).length = gs.length by simp, List.take_length, p.mem_iff]; simp
theorem fn_starts2 {sets es : List (Int × MV)} {cov : List Int} {c0 c2 : MV} (hs : cov.Pairwise (· < ·)) (hl : cov.length ≤ 50) (hes : ∀ p ∈ es, ∃ c, p.2 = .int c) (hr : ∀ p ∈ sets, ∃ rs, p.2 = .lst rs ∧ AllRules rs)
    (h : ∀ ns : List Int, ns.length ≤ 60 → (∀ y, y ∈ ns ↔ y ∈ cov ∧ (rulesOf (sets.lookup (classOf es y))) ≠ []) → Q (.lst (il ns)) k) :
    Fn x.g (n + 5) (.st (.ref 741)) [.obj 142 (fs_Contexts (.int 2) (.bool false) (.dic sets) (covM cov) (.tup [c0, clsM es, c2]))] k Q := by
  refine fn_cells (ps := [Str.ofString "table"]) (by walk_at "m_is") (by walk_at "m_is") rfl ?_ (by decide) (by decide +kernel) (by decide) rfl rfl rfl ?_
  · intro vs hv s hK
    exact vs1 hv fun _ => BindsTo.of_eq rfl
  walk_at "m_evs"
  refine ev_ListComp (σf := [(Str.ofString "table", .obj 142 (fs_Contexts (.int 2) (.bool false) (.dic sets) (covM cov) (.tup [c0, clsM es, c2])))]) (.of rfl (by decide) (.cons (by rfl) (by rfl) .nil)) ?_ (.inr ⟨_, rfl⟩)
  walk_at "m_evs"
  refine ⟨il cov, fun i acc k' => k' = k ∧ acc = il ((cov.take i).filter fun y => !(rulesOf (sets.lookup (classOf es y))).isEmpty), .tup _, by simp; omega, ⟨rfl, by simp⟩, ?_, ?_⟩
  · rintro i mi acc k' hi ⟨rfl, rfl⟩
    obtain ⟨y, hy, rfl⟩ : ∃ y, cov[i]? = some y ∧ mi = .int y := by
      rw [List.getElem?_map] at hi
      cases q : cov[i]? with
      | none => rw [q] at hi; cases hi
      | some y => rw [q] at hi; cases hi; exact ⟨y, rfl, rfl⟩
    have hmem : y ∈ cov := List.mem_of_getElem? hy
    refine ⟨_, .name _ _ (by rfl), ?_⟩
    walk_at "m_evs"
    refine fn_rules_at2 hs (by omega) hes hr fun l' hl' => ?_
    rw [if_pos hmem] at hl'
    walk_at "m_evs"
    refine op_ne_nil ?_
    walk_at "m_evs"
    have e : l'.isEmpty = (rulesOf (sets.lookup (classOf es y))).isEmpty := by
      rw [Bool.eq_iff_iff, List.isEmpty_iff, List.isEmpty_iff, ← List.length_eq_zero_iff, ← List.length_eq_zero_iff, hl']
    rw [e]
    refine ite_b (fun hm => ?_) (fun hm => ?_)
    · walk_at "m_evs"
      exact ⟨rfl, by rw [take_snoc hy, List.filter_append]; simp [hm]⟩
    · exact ⟨rfl, by rw [take_snoc hy, List.filter_append]; simp [hm]⟩
  · rintro acc k' ⟨rfl, rfl⟩
    refine h _ ?_ fun y => ?_
    · exact Nat.le_trans (List.length_filter_le _ _) (by simp; omega)
    · rw [List.mem_filter, show (il cov).length = cov.length by simp, List.take_length]; simp
noncomputable def StartsOk (x : GX) (kind : Str) (t : MV) (firsts : List Int) : Prop := ∀ (n : Nat) (k : Int) (Q : MV → Int → Prop), (∀ ns : List Int, ns.length ≤ 60 → (∀ y, y ∈ ns ↔ y ∈ firsts) → Q (.lst (il ns)) k) → Fn x.g (n + 6) (.st (.ref 748)) [.str kind, t] k Q
theorem starts_dict {kind : Str} {C : Addr} {f : Str} {fs : List (Str × MV)} {es : List (Int × MV)} {firsts : List Int} (hl : es.length ≤ 50) (hk : ∀ y, y ∈ es.map (·.1) ↔ y ∈ firsts) {ns : List Int} (p : ns.Perm (es.map (·.1))) : ns.length ≤ 60 ∧ ∀ y, y ∈ ns ↔ y ∈ firsts :=
  ⟨by have := p.length_eq; simp at this; omega, fun y => by rw [p.mem_iff, hk]⟩
theorem starts_single {C : Addr} (hC : FieldOk x.g.K C (Str.ofString "mapping")) {kind : Str} {fs : List (Str × MV)} {es : List (Int × MV)} {firsts : List Int} (hkd : kind = Str.ofString "single" ∨ kind = Str.ofString "multiple" ∨ kind = Str.ofString "alternate" ∨ kind = Str.ofString "reverse")
    (hf : fs.lookup (Str.ofString "mapping") = some (.dic es)) (hl : es.length ≤ 50) (hk : ∀ y, y ∈ es.map (·.1) ↔ y ∈ firsts) : StartsOk x kind (.obj C fs) firsts := by
  intro n k Q h
  refine fn_plain (ps := [Str.ofString "kind", Str.ofString "table"]) (by walk_at "m_is") (by walk_at "m_is") rfl ?_ (by decide) (by decide) (by decide) rfl rfl rfl ?_
  · intro vs hv s hK
    exact vs2 hv fun _ _ => BindsTo.of_eq rfl
  have h1 : (kind == Str.ofString "ligature") = false := by rcases hkd with rfl | rfl | rfl | rfl <;> decide
  have h2 : (kind == Str.ofString "context") = false := by rcases hkd with rfl | rfl | rfl | rfl <;> decide
  have h3 : (kind == Str.ofString "chain") = false := by rcases hkd with rfl | rfl | rfl | rfl <;> decide
  walk_at "m_evs"
  rw [h1]
  walk_at "m_evs"
  rw [h2]
  walk_at "m_evs"
  rw [h3]
  walk_at "m_evs"
  refine op_field hC hf ?_
  walk_at "m_evs"
  refine fn_sorted_dic (by omega) fun ns p o => ?_
  have := starts_dict (kind := kind) (C := C) (f := kind) (fs := fs) hl hk p
  exact h ns this.1 this.2
theorem starts_lig {fs : List (Str × MV)} {es : List (Int × MV)} {firsts : List Int} (hl : es.length ≤ 50) (hk : ∀ y, y ∈ es.map (·.1) ↔ y ∈ firsts) : StartsOk x (Str.ofString "ligature") (.obj 475 (fs_Ligature (.dic es))) firsts := by
  intro n k Q h
  refine fn_plain (ps := [Str.ofString "kind", Str.ofString "table"]) (by walk_at "m_is") (by walk_at "m_is") rfl ?_ (by decide) (by decide) (by decide) rfl rfl rfl ?_
  · intro vs hv s hK
    exact vs2 hv fun _ _ => BindsTo.of_eq rfl
  walk_at "m_evs"
  refine fn_sorted_dic (by omega) fun ns p o => ?_
  have := starts_dict (kind := Str.ofString "") (C := 0) (f := Str.ofString "") (fs := fs) hl hk p
  exact h ns this.1 this.2
theorem starts_ctx {t : MV} {firsts : List Int} (hc : ∀ (n : Nat) (k : Int) (Q : MV → Int → Prop), (∀ ns : List Int, ns.length ≤ 60 → (∀ y, y ∈ ns ↔ y ∈ firsts) → Q (.lst (il ns)) k) → Fn x.g (n + 5) (.st (.ref 741)) [t] k Q) : StartsOk x (Str.ofString "context") t firsts := by
  intro n k Q h
  refine fn_plain (ps := [Str.ofString "kind", Str.ofString "table"]) (by walk_at "m_is") (by walk_at "m_is") rfl ?_ (by decide) (by decide) (by decide) rfl rfl rfl ?_
  · intro vs hv s hK
    exact vs2 hv fun _ _ => BindsTo.of_eq rfl
  walk_at "m_evs"
  exact hc n k Q h
noncomputable abbrev lookM (kind : Str) (ts : List MV) : MV := .obj 305 (fs_Lookup (.str kind) (.int 0) (.int 0) (.lst ts))
theorem fn_starters {kind : Str} {ps : List (MV × List Int)} (hl : ps.length ≤ 10) (hs : ∀ p ∈ ps, StartsOk x kind p.1 p.2) (h7 : ∀ p ∈ ps, ∀ y ∈ p.2, y ∈ seven)
    (h : ∀ ns : List Int, ns.Pairwise (· < ·) → (∀ y, y ∈ ns ↔ ∃ p ∈ ps, y ∈ p.2) → Q (.lst (il ns)) k) : Fn x.g (n + 7) (.st (.ref 755)) [lookM kind (ps.map (·.1))] k Q := by
  refine fn_plain (ps := [Str.ofString "lookup"]) (by walk_at "m_is") (by walk_at "m_is") rfl ?_ (by decide) (by decide) (by decide) rfl rfl rfl ?_
  · intro vs hv s hK
    exact vs1 hv fun _ => BindsTo.of_eq rfl
  refine exs_cons (ex_NewSet ?_ (by rfl) (by rfl) (by walk_at "m_is") om_nil (by rfl))
  refine exs_cons (ex_For (by rfl) ?_)
  walk_at "m_evs"
  refine ⟨ps.map (·.1), fun i σ ω k' => Sub [(Str.ofString "lookup", lookM kind (ps.map (·.1)))] σ ∧ k' = k ∧ ∃ vs, ω = [(Str.ofString "found", .set vs)] ∧ vs ∈ subs seven ∧ ∀ y, y ∈ vs ↔ ∃ p ∈ ps.take i, y ∈ p.2, .lst _, ⟨.cons (by rfl) .nil, rfl, [], rfl, subs_nil _, by simp⟩, ?_, ?_⟩
  · rintro i mi σ ω k' hi ⟨hsb, rfl, vs, rfl, hv, hm⟩
    obtain ⟨p, hp, rfl⟩ : ∃ p, ps[i]? = some p ∧ mi = p.1 := by
      rw [List.getElem?_map] at hi
      cases q : ps[i]? with
      | none => rw [q] at hi; cases hi
      | some p => rw [q] at hi; cases hi; exact ⟨p, rfl, rfl⟩
    have hpm := List.mem_of_getElem? hp
    refine ⟨om_cons (by decide) om_nil, ?_⟩
    refine exs_sub hsb.over ?_
    refine exs_cons (ex_Update (by rfl) (by rfl) rfl ?_)
    walk_at "m_evs"
    refine hs p hpm _ _ _ fun ns hnl hns => ?_
    have hn7 : ∀ y ∈ ns, y ∈ seven := fun y hy => h7 p hpm y ((hns y).mp hy)
    refine ⟨ns, rfl, hn7, ?_⟩
    walk_at "m_evs"
    refine ⟨.cons (by rfl) .nil, rfl, _, rfl, insAll_sub hv hn7, fun y => ?_⟩
    rw [mem_insAll, hns, hm, take_snoc hp]
    constructor
    · rintro (q | ⟨p', q1, q2⟩)
      · exact ⟨p, by simp, q⟩
      · exact ⟨p', by simp [q1], q2⟩
    · rintro ⟨p', q1, q2⟩
      rcases List.mem_append.mp q1 with q1 | q1
      · exact .inr ⟨p', q1, q2⟩
      · rw [List.mem_singleton.mp q1] at q2; exact .inl q2
  · rintro σ ω k' ⟨hsb, rfl, vs, rfl, hv, hm⟩
    refine exs_freeze (x := Str.ofString "found") (by rfl) (by rfl) ?_
    walk_at "m_evs"
    refine fn_sorted_set (vs := vs) ?_
    refine h vs (chkWalk_at hv).2.2.2.1 fun y => ?_
    rw [hm, show (ps.map (·.1)).length = ps.length by simp, List.take_length]
noncomputable abbrev fs_InfoK (glyph cluster mask : MV) : List (Str × MV) := [(Str.ofString "bond", .str (Str.ofString "")), (Str.ofString "parent", .int 0), (Str.ofString "y_offset", .int 0), (Str.ofString "x_offset", .int 0), (Str.ofString "y_advance", .int 0), (Str.ofString "x_advance", .int 0), (Str.ofString "kind", .str (Str.ofString "")), (Str.ofString "lig_count", .int 0), (Str.ofString "lig_part", .int 0), (Str.ofString "lig_id", .int 0), (Str.ofString "is_unsafe", .bool false), (Str.ofString "mask", mask), (Str.ofString "cluster", cluster), (Str.ofString "glyph", glyph), (Str.ofString "code", .int 0)]
noncomputable abbrev infoM (y : Int) (cl : MV) (b : Int) : MV := .obj 199 (fs_InfoK (.int y) cl (.int b))
noncomputable abbrev bufM (infos : List MV) : MV := .obj 243 (fs_Buffer (.lst infos))
noncomputable abbrev sceneM (infos : List MV) (gd lks lk : MV) : MV := .obj 327 (fs_Scene (bufM infos) gd lks lk (.int 1))
noncomputable def InfosOk (infos : List MV) (ys : List Int) : Prop := infos.length = ys.length ∧ ∀ (i : Nat) (m : MV), infos[i]? = some m → ∃ y cl b, ys[i]? = some y ∧ m = infoM y cl b
noncomputable def ApplyOk (x : GX) (kind : Str) (t : MV) (firsts : List Int) : Prop := ∀ (n : Nat) (k : Int) (Q : MV → Int → Prop) (infos : List MV) (gd lks lk : MV) (j : Nat) (y b : Int) (cl : MV), infos[j]? = some (infoM y cl b) → infos.length ≤ 900 → y ∉ firsts → Q (.int (-1)) k →
  Fn x.g (n + 8) (.st (.ref 762)) [sceneM infos gd lks lk, .str kind, t, .int j] k Q
theorem op_notin_dic' {es : List (Int × MV)} {y : Int} (hn : y ∉ es.map (·.1)) (h : Q (.bool true) k) : Op2 x.g n (compareOp .NotIn) (.int y) (.dic es) k Q := by
  refine op_notin_dic ?_
  rw [lookup_none hn]; exact h
theorem apply_single_ok {es : List (Int × MV)} {firsts : List Int} (hk : ∀ y, y ∈ es.map (·.1) ↔ y ∈ firsts) : ApplyOk x (Str.ofString "single") (.obj 652 (fs_Single (.dic es))) firsts := by
  intro n k Q infos gd lks lk j y b cl hj hlen hy h
  refine fn_plain (ps := [Str.ofString "scene", Str.ofString "kind", Str.ofString "table", Str.ofString "at"]) (by walk_at "m_is") (by walk_at "m_is") rfl ?_ (by decide) (by decide) (by decide) rfl rfl rfl ?_
  · intro vs hv s hK
    exact vs4 hv fun _ _ _ _ => BindsTo.of_eq rfl
  walk_at "m_evs"
  refine fn_plain (ps := [Str.ofString "scene", Str.ofString "table", Str.ofString "at"]) (by walk_at "m_is") (by walk_at "m_is") rfl ?_ (by decide) (by decide) (by decide) rfl rfl rfl ?_
  · intro vs hv s hK
    exact vs3 hv fun _ _ _ => BindsTo.of_eq rfl
  walk_at "m_evs"
  refine sub_lst (by omega) (by simpa using hj) ?_ (by omega)
  walk_at "m_evs"
  refine op_notin_dic' (fun q => hy ((hk y).mp q)) ?_
  walk_at "m_evs"
  exact h
theorem apply_multiple_ok {es : List (Int × MV)} {firsts : List Int} (hk : ∀ y, y ∈ es.map (·.1) ↔ y ∈ firsts) : ApplyOk x (Str.ofString "multiple") (.obj 678 (fs_Multiple (.dic es))) firsts := by
  intro n k Q infos gd lks lk j y b cl hj hlen hy h
  refine fn_plain (ps := [Str.ofString "scene", Str.ofString "kind", Str.ofString "table", Str.ofString "at"]) (by walk_at "m_is") (by walk_at "m_is") rfl ?_ (by decide) (by decide) (by decide) rfl rfl rfl ?_
  · intro vs hv s hK
    exact vs4 hv fun _ _ _ _ => BindsTo.of_eq rfl
  walk_at "m_evs"
  refine fn_plain (ps := [Str.ofString "scene", Str.ofString "table", Str.ofString "at"]) (by walk_at "m_is") (by walk_at "m_is") rfl ?_ (by decide) (by decide) (by decide) rfl rfl rfl ?_
  · intro vs hv s hK
    exact vs3 hv fun _ _ _ => BindsTo.of_eq rfl
  walk_at "m_evs"
  refine sub_lst (by omega) (by simpa using hj) ?_ (by omega)
  walk_at "m_evs"
  refine op_notin_dic' (fun q => hy ((hk y).mp q)) ?_
  walk_at "m_evs"
  exact h
theorem fn_choice_of {a : Int} (h : ∀ c : Int, Q (.int c) k) : Fn x.g (n + 1) (.st (.ref 729)) [.int a, .int 1] k Q := by
  refine fn_plain (ps := [Str.ofString "mask", Str.ofString "bits"]) (by walk_at "m_is") (by walk_at "m_is") rfl ?_ (by decide) (by decide) (by decide) rfl rfl rfl ?_
  · intro vs hv s hK
    exact vs2 hv fun _ _ => BindsTo.of_eq rfl
  walk_at "m_evs"
  refine ex_While (fun c σ ω k' => Sub [(Str.ofString "choice", .int (Builtin.bitAnd a 1)), (Str.ofString "bits", .int 1)] σ ∧ ω = [] ∧ k' = k) 0 ⟨.cons (by rfl) (.cons (by rfl) .nil), rfl, rfl⟩ ?_
  rintro c σ ω k' ⟨hs, rfl, rfl⟩
  refine ts_sub hs ?_
  walk_at "m_evs"
  refine op_mod (by decide) ?_
  walk_at "m_evs"
  refine ev_sub hs ?_
  walk_at "m_evs"
  exact h _
theorem apply_alternate_ok {es : List (Int × MV)} {firsts : List Int} (hk : ∀ y, y ∈ es.map (·.1) ↔ y ∈ firsts) : ApplyOk x (Str.ofString "alternate") (.obj 704 (fs_Alternate (.dic es))) firsts := by
  intro n k Q infos gd lks lk j y b cl hj hlen hy h
  refine fn_plain (ps := [Str.ofString "scene", Str.ofString "kind", Str.ofString "table", Str.ofString "at"]) (by walk_at "m_is") (by walk_at "m_is") rfl ?_ (by decide) (by decide) (by decide) rfl rfl rfl ?_
  · intro vs hv s hK
    exact vs4 hv fun _ _ _ _ => BindsTo.of_eq rfl
  walk_at "m_evs"
  refine fn_plain (ps := [Str.ofString "scene", Str.ofString "table", Str.ofString "at"]) (by walk_at "m_is") (by walk_at "m_is") rfl ?_ (by decide) (by decide) (by decide) rfl rfl rfl ?_
  · intro vs hv s hK
    exact vs3 hv fun _ _ _ => BindsTo.of_eq rfl
  walk_at "m_evs"
  refine sub_lst (by omega) (by simpa using hj) ?_ (by omega)
  walk_at "m_evs"
  rw [lookup_none (fun q => hy ((hk y).mp q))]
  walk_at "m_evs"
  refine fn_choice_of fun c => ?_
  walk_at "m_evs"
  refine ite_d (fun h1 => ?_) (fun h1 => ?_)
  · walk_at "m_evs"
    have : decide (c ≤ (([] : List MV).length : Int)) = false := by simp; omega
    simp only [Option.getD_none]
    walk_at "m_evs"
    rw [this]
    walk_at "m_evs"
    exact h
  · walk_at "m_evs"
    exact h
theorem apply_ligature_ok {es : List (Int × MV)} {firsts : List Int} (hk : ∀ y, y ∈ es.map (·.1) ↔ y ∈ firsts) : ApplyOk x (Str.ofString "ligature") (.obj 475 (fs_Ligature (.dic es))) firsts := by
  intro n k Q infos gd lks lk j y b cl hj hlen hy h
  refine fn_plain (ps := [Str.ofString "scene", Str.ofString "kind", Str.ofString "table", Str.ofString "at"]) (by walk_at "m_is") (by walk_at "m_is") rfl ?_ (by decide) (by decide) (by decide) rfl rfl rfl ?_
  · intro vs hv s hK
    exact vs4 hv fun _ _ _ _ => BindsTo.of_eq rfl
  walk_at "m_evs"
  refine fn_plain (ps := [Str.ofString "scene", Str.ofString "table", Str.ofString "at"]) (by walk_at "m_is") (by walk_at "m_is") rfl ?_ (by decide) (by decide) (by decide) rfl rfl rfl ?_
  · intro vs hv s hK
    exact vs3 hv fun _ _ _ => BindsTo.of_eq rfl
  walk_at "m_evs"
  refine sub_lst (by omega) (by simpa using hj) ?_ (by omega)
  walk_at "m_evs"
  refine ex_ForNone ?_
  walk_at "m_evs"
  rw [lookup_none (fun q => hy ((hk y).mp q))]
  refine ⟨.lst _, ?_⟩
  walk_at "m_evs"
  exact h
theorem apply_reverse_ok {es : List (Int × MV)} {bk ah : MV} {firsts : List Int} (hk : ∀ y, y ∈ es.map (·.1) ↔ y ∈ firsts) : ApplyOk x (Str.ofString "reverse") (.obj 619 (fs_Reverse (.dic es) bk ah)) firsts := by
  intro n k Q infos gd lks lk j y b cl hj hlen hy h
  refine fn_plain (ps := [Str.ofString "scene", Str.ofString "kind", Str.ofString "table", Str.ofString "at"]) (by walk_at "m_is") (by walk_at "m_is") rfl ?_ (by decide) (by decide) (by decide) rfl rfl rfl ?_
  · intro vs hv s hK
    exact vs4 hv fun _ _ _ _ => BindsTo.of_eq rfl
  walk_at "m_evs"
  refine fn_plain (ps := [Str.ofString "scene", Str.ofString "table", Str.ofString "at"]) (by walk_at "m_is") (by walk_at "m_is") rfl ?_ (by decide) (by decide) (by decide) rfl rfl rfl ?_
  · intro vs hv s hK
    exact vs3 hv fun _ _ _ => BindsTo.of_eq rfl
  walk_at "m_evs"
  refine sub_lst (by omega) (by simpa using hj) ?_ (by omega)
  walk_at "m_evs"
  refine op_notin_dic' (fun q => hy ((hk y).mp q)) ?_
  walk_at "m_evs"
  exact h
theorem apply_context_ok {t : MV} {firsts : List Int} (hr : ∀ (n : Nat) (k : Int) (Q : MV → Int → Prop) (y : Int), y ∉ firsts → Q (.lst []) k → Fn x.g (n + 4) (.st (.ref 168)) [t, .int y] k Q) : ApplyOk x (Str.ofString "context") t firsts := by
  intro n k Q infos gd lks lk j y b cl hj hlen hy h
  refine fn_plain (ps := [Str.ofString "scene", Str.ofString "kind", Str.ofString "table", Str.ofString "at"]) (by walk_at "m_is") (by walk_at "m_is") rfl ?_ (by decide) (by decide) (by decide) rfl rfl rfl ?_
  · intro vs hv s hK
    exact vs4 hv fun _ _ _ _ => BindsTo.of_eq rfl
  walk_at "m_evs"
  refine fn_plain (ps := [Str.ofString "scene", Str.ofString "table", Str.ofString "at", Str.ofString "apply_at"]) (by walk_at "m_is") (by walk_at "m_is") rfl ?_ (by decide) (by decide) (by decide) rfl rfl rfl ?_
  · intro vs hv s hK
    exact vs4 hv fun _ _ _ _ => BindsTo.of_eq rfl
  refine exs_cons (ex_ForNone ?_)
  walk_at "m_evs"
  refine sub_lst (by omega) (by simpa using hj) ?_ (by omega)
  walk_at "m_evs"
  refine hr _ _ _ y hy ⟨.lst _, ?_⟩
  walk_at "m_evs"
  exact h
theorem fn_substitute_at {kind : Str} {ps : List (MV × List Int)} {infos : List MV} {gd lks : MV} {j : Nat} {y b : Int} {cl : MV} (hl : ps.length ≤ 10) (ha : ∀ p ∈ ps, ApplyOk x kind p.1 p.2) (hj : infos[j]? = some (infoM y cl b)) (hlen : infos.length ≤ 900) (hy : ∀ p ∈ ps, y ∉ p.2) (h : Q (.int (-1)) k) :
    Fn x.g (n + 9) (.st (.ref 769)) [sceneM infos gd lks (lookM kind (ps.map (·.1))), .int j] k Q := by
  refine fn_plain (ps := [Str.ofString "scene", Str.ofString "at"]) (by walk_at "m_is") (by walk_at "m_is") rfl ?_ (by decide) (by decide) (by decide) rfl rfl rfl ?_
  · intro vs hv s hK
    exact vs2 hv fun _ _ => BindsTo.of_eq rfl
  refine exs_cons (ex_For (by rfl) ?_)
  walk_at "m_evs"
  refine ⟨ps.map (·.1), fun i σ ω k' => Sub [(Str.ofString "scene", sceneM infos gd lks (lookM kind (ps.map (·.1)))), (Str.ofString "at", .int j)] σ ∧ ω = [] ∧ k' = k, .lst _, ⟨.cons (by rfl) (.cons (by rfl) .nil), rfl, rfl⟩, ?_, ?_⟩
  · rintro i mi σ ω k' hi ⟨hs, rfl, rfl⟩
    obtain ⟨p, hp, rfl⟩ : ∃ p, ps[i]? = some p ∧ mi = p.1 := by
      rw [List.getElem?_map] at hi
      cases q : ps[i]? with
      | none => rw [q] at hi; cases hi
      | some p => rw [q] at hi; cases hi; exact ⟨p, rfl, rfl⟩
    have hpm := List.mem_of_getElem? hp
    refine ⟨om_nil, ?_⟩
    refine exs_sub hs.over ?_
    walk_at "m_evs"
    refine ha p hpm _ _ _ infos gd lks _ j y b cl hj hlen (hy p hpm) ?_
    walk_at "m_evs"
    exact ⟨.cons (by rfl) (.cons (by rfl) .nil), rfl, rfl⟩
  · rintro σ ω k' ⟨hs, rfl, rfl⟩
    walk_at "m_evs"
    exact h
theorem fn_glyphs {infos : List MV} {ys : List Int} (hi : InfosOk infos ys) (hl : ys.length ≤ 900) (h : Q (.lst (il ys)) k) : Fn x.g (n + 1) (.st (.ref 223)) [bufM infos] k Q := by
  refine fn_plain (ps := [Str.ofString "self"]) (by walk_at "m_is") (by walk_at "m_is") rfl ?_ (by decide) (by decide) (by decide) rfl rfl rfl ?_
  · intro vs hv s hK
    exact vs1 hv fun _ => BindsTo.of_eq rfl
  walk_at "m_evs"
  refine ev_ListComp (σf := []) (.of rfl (by decide) .nil) ?_ (.inl rfl)
  walk_at "m_evs"
  obtain ⟨h1, h2⟩ := hi
  refine ⟨infos, fun i acc k' => k' = k ∧ acc = il (ys.take i), .lst _, by omega, ⟨rfl, by simp⟩, ?_, ?_⟩
  · rintro i mi acc k' hi ⟨rfl, rfl⟩
    obtain ⟨y, cl, b, hy, rfl⟩ := h2 i mi hi
    refine ⟨_, .name _ _ (by rfl), ?_⟩
    walk_at "m_evs"
    exact ⟨rfl, by rw [take_snoc hy]; simp [il]⟩
  · rintro acc k' ⟨rfl, rfl⟩
    rw [h1, List.take_length]
    exact h
theorem fn_GdefD {a b c : MV} (h : ∀ v, Q v k) : Fn x.g (n + 1) (.st (.ref 860)) [a, b, c] k Q := by
  refine fn_class (self := Str.ofString "self") (ps := [Str.ofString "classes", Str.ofString "attach", Str.ofString "sets", Str.ofString "points", Str.ofString "carets"]) (σ₀ := [(Str.ofString "carets", .none), (Str.ofString "points", .none), (Str.ofString "sets", c), (Str.ofString "attach", b), (Str.ofString "classes", a)]) (by walk_at "m_is") (by walk_at "m_is") (by walk_at "m_is") (by walk_at "m_is") (by walk_at "m_is") ?b (by decide) (by decide) (by decide) (by decide) rfl rfl rfl ?_
  case b =>
    intro fz vs R
    refine R.elim_cons fun u0 vs r0 R => ?_
    refine R.elim_cons fun u1 vs r1 R => ?_
    refine R.elim_cons fun u2 vs r2 R => ?_
    refine R.elim_nil ?_
    exact ⟨[u0, u1, u2, Value.none, Value.none], [a, b, c, .none, .none], fun x s hK => binds_K hK rfl (by walk_at "m_is") rfl rfl rfl, .cons r0 (.cons r1 (.cons r2 (.cons .none (.cons .none .nil)))), rfl⟩
  intro s
  walk_at "m_init"
  walk_at "m_evs"
  refine op_isNone_none ?_
  walk_at "m_evs"
  refine ev_Dict0 ?_
  refine exs_cons (ex_SetAttr (by rfl) (by rfl) (by walk_at "m_put") (Nat.le_of_ble_eq_true rfl) ?_)
  walk_at "m_evs"
  refine op_isNone_none ?_
  walk_at "m_evs"
  refine ev_Dict0 ?_
  exact exs_nil ⟨_, rfl, h _⟩
theorem fn_no_gdef (h : ∀ v, Q v k) : Fn x.g (n + 2) (.st (.ref 871)) [] k Q := by
  refine fn_plain (ps := []) (by walk_at "m_is") (by walk_at "m_is") rfl ?_ (by decide) (by decide) (by decide) rfl rfl rfl ?_
  · intro vs hv s hK
    exact vs0 hv (BindsTo.of_eq rfl)
  walk_at "m_evs"
  refine ev_Dict0 ?_
  walk_at "m_evs"
  refine fn_ClassDef ?_
  walk_at "m_evs"
  refine ev_Dict0 ?_
  walk_at "m_evs"
  refine fn_ClassDef ?_
  walk_at "m_evs"
  refine fn_GdefD h
noncomputable def tkParts (o : Option Obj) : Option (Arguments × List Stmt × Scope) := match o with
  | some ⟨_, _, .func fd, _⟩ => (match fd.body with
    | .stmts b => b.findSome? fun s => match s with
      | .FunctionDef _ ps body _ _ _ sc _ _ _ => some (ps, body, sc)
      | _ => none
    | _ => none)
  | _ => none
noncomputable def TkOk (x : GX) : Prop := tkParts (List.lookup 879 (hd.heap_39 x.w.params)) = some (x.tkParams, x.tkBody, x.tkScope)
theorem pow_log {c : Int} (l : Nat) (hl : l ≤ 295) : Builtin.divisionGoesByPylong c ((720720 : Int) ^ l) = false := by
  have h1 : (720720 : Nat) ^ l < 2 ^ (20 * l + 1) := by
    have h2 : (720720 : Nat) ^ l ≤ (2 ^ 20) ^ l := Nat.pow_le_pow_left (by decide) l
    rw [← Nat.pow_mul] at h2
    exact Nat.lt_of_le_of_lt h2 (Nat.pow_lt_pow_right (by decide) (by omega))
  have h3 : ((720720 : Int) ^ l).natAbs = 720720 ^ l := by
    rw [Int.natAbs_pow]; rfl
  have h4 : ((720720 : Int) ^ l).natAbs.log2 < 20 * l + 1 := by
    rw [h3]
    exact (Nat.log2_lt (Nat.ne_of_gt (Nat.pow_pos (by decide)))).mpr h1
  exact PyProof.noPylong_of_log2 (by omega)
theorem bits_small {a : Int} (h0 : 0 ≤ a) (h : a ≤ 100000) : Builtin.Int.intBits a ≤ 64 := by
  unfold Builtin.Int.intBits
  split
  · decide
  · rename_i hne
    have hn : a.natAbs ≠ 0 := by simpa using hne
    have : a.natAbs.log2 < 17 := (Nat.log2_lt hn).mpr (by omega)
    omega
theorem tk_eq {w : World} {oc : Value} {od : Option Addr} {osl : Array (Option Value)} {nm qual : Str} {params : Arguments} {body : List Stmt} {sc : Scope} {dV kV doc pm cdv ct : Value} {an : Option Addr} {R : Option (Arguments × List Stmt × Scope)} (h : (hd.heap_39 w.params).lookup 879 = some ⟨oc, od, .func (fnOf nm qual params body sc dV kV doc pm an cdv ct), osl⟩) (hT : tkParts ((hd.heap_39 w.params).lookup 879) = R) : tkParts (some ⟨oc, od, .func (fnOf nm qual params body sc dV kV doc pm an cdv ct), osl⟩) = R := h ▸ hT
theorem fn_tk (hT : TkOk x) {lim : Int} (h0 : 0 < lim) (hk0 : 0 ≤ k) (hk : k ≤ 290) (h : ∀ v, 0 ≤ v → v < lim → Q (.int v) (k + 1)) : Fn x.g (n + 1) .take [.int lim] k Q := by
  obtain ⟨w, p, loose, mean, mg, mb, pl, tkQual, tkParams, tkBody, tkScope⟩ := x
  unfold TkOk at hT
  dsimp only at hT
  have hT := tk_eq (w := w) (by k_is) hT
  simp only [Mine.tkParts, fnOf, List.findSome?] at hT
  injection hT with hT
  injection hT with h1 hT
  injection hT with h2 h3
  subst h1; subst h2; subst h3
  refine fn_take (ps := [Str.ofString "limit"]) rfl ?_ (by dsimp only; decide) (by dsimp only; decide) (by dsimp only; decide) rfl rfl rfl ⟨by rfl, by rfl⟩ ?_
  · intro vs hv s clos doc pm c' ctv
    exact vs1 hv fun _ => BindsTo.of_eq rfl
  intro ns hn1 hn2
  walk_at "m_evs"
  refine sub_place ?_
  walk_at "m_evs"
  refine ex_setPlace ?_ (by rfl) (by rfl)
  walk_at "m_evs"
  refine ⟨_, rfl, ?_⟩
  walk_at "m_evs"
  have hL : (ns.map MV.int).length = ns.length := List.length_map ..
  obtain ⟨L, hLL⟩ : ∃ L, (((ns.map MV.int).length : Nat) : Int) = L := ⟨_, rfl⟩
  rw [hLL]
  have hL1 : 1 ≤ L := by omega
  have hL2 : L ≤ 63 := by omega
  refine op_fdiv (by omega) (PyProof.noPylong_small (by omega)) ?_
  have hl0 : 0 ≤ k.fdiv L := by
    rw [Int.fdiv_eq_ediv_of_nonneg _ (by omega)]; exact Int.ediv_nonneg hk0 (by omega)
  have hl1 : k.fdiv L ≤ k := by
    rw [Int.fdiv_eq_ediv_of_nonneg _ (by omega)]; exact Int.ediv_le_self _ hk0
  generalize k.fdiv L = lv at hl0 hl1
  walk_at "m_evs"
  rw [hLL]
  refine op_mod (by omega) ?_
  have hm0 : 0 ≤ k.fmod L := by
    rw [Int.fmod_eq_emod_of_nonneg _ (by omega)]; exact Int.emod_nonneg _ (by omega)
  have hm1 : k.fmod L < L := by
    rw [Int.fmod_eq_emod_of_nonneg _ (by omega)]; exact Int.emod_lt_of_pos _ (by omega)
  generalize k.fmod L = ix at hm0 hm1
  have hi : ix.toNat < ns.length := by omega
  refine sub_lst (mi := .int ns[ix.toNat]) hm0 (by simp [hi]) ?_ (by omega)
  generalize ns[ix.toNat] = c
  walk_at "m_evs"
  refine op_pow hl0 ?_ ?_
  · have : Builtin.Int.intBits 720720 = 20 := by decide +kernel
    rw [this]; omega
  refine op_fdiv ?_ (pow_log _ (by omega)) ?_
  · exact Int.pow_ne_zero (by decide)
  generalize c.fdiv (720720 ^ lv.toNat) = d
  walk_at "m_evs"
  refine op_mul (IntMulOk.of_left (bits_small (by decide) (by decide))) ?_
  walk_at "m_evs"
  refine op_mul (IntMulOk.of_left (bits_small hl0 (by omega))) ?_
  walk_at "m_evs"
  refine op_mod (by omega) ?_
  refine h _ ?_ ?_
  · rw [Int.fmod_eq_emod_of_nonneg _ (by omega)]; exact Int.emod_nonneg _ (by omega)
  · rw [Int.fmod_eq_emod_of_nonneg _ (by omega)]; exact Int.emod_lt_of_pos _ (by omega)
theorem rng_at {a b : Int} {i : Nat} {mi : MV} (h : ((List.range (b - a).toNat).map fun i => MV.int (a + (i : Nat)))[i]? = some mi) : mi = .int (a + i) ∧ (i : Int) < b - a := by
  have hlt : i < (b - a).toNat := by
    rcases Nat.lt_or_ge i (b - a).toNat with q | q
    · exact q
    · rw [List.getElem?_eq_none (by simpa using q)] at h; cases h
  rw [List.getElem?_map, List.getElem?_range hlt] at h
  cases h
  exact ⟨rfl, by omega⟩
theorem rng_len {a b : Int} : ((List.range (b - a).toNat).map fun i => MV.int (a + (i : Nat))).length = (b - a).toNat := by simp
theorem fn_lgl (hT : TkOk x) {f : Int} (hf : f = 0 ∨ f = 1) (hk0 : 0 ≤ k) (hk : k ≤ 280) (h : ∀ (ns : List Int) (k' : Int), (∀ y ∈ ns, 1 ≤ y ∧ y ≤ 6) → f ≤ ns.length → ns.length ≤ 3 → k ≤ k' → k' ≤ k + 4 → Q (.lst (il ns)) k') :
    Fn x.g (n + 2) (.st (.ref 884)) [.take, .int f] k Q := by
  refine fn_cells (ps := [Str.ofString "take", Str.ofString "fewest"]) (by walk_at "m_is") (by walk_at "m_is") rfl ?_ (by decide) (by decide +kernel) (by decide) rfl rfl rfl ?_
  · intro vs hv s hK
    exact vs2 hv fun _ _ => BindsTo.of_eq rfl
  walk_at "m_evs"
  refine ev_ListComp (σf := [(Str.ofString "take", .take)]) (.of rfl (by decide) (.cons (by rfl) (by rfl) .nil)) ?_ (.inl rfl)
  walk_at "m_evs"
  refine fn_tk hT (by decide) hk0 (by omega) fun v v0 v3 => ?_
  walk_at "m_evs"
  refine ⟨_, fun i acc k' => k' = k + 1 + i ∧ ∃ ns : List Int, acc = il ns ∧ ns.length = i ∧ ∀ y ∈ ns, 1 ≤ y ∧ y ≤ 6, .rng _ _ (by omega) (by omega) (by omega) (by omega), by rw [rng_len]; omega, ⟨by simp, [], rfl, rfl, by simp⟩, ?_, ?_⟩
  · rintro i mi acc k' hi ⟨rfl, ns, rfl, hl, hy⟩
    obtain ⟨rfl, hib⟩ := rng_at hi
    refine ⟨_, .name _ _ (by rfl), ?_⟩
    walk_at "m_evs"
    refine fn_tk hT (by decide) (by omega) (by omega) fun u u0 u6 => ?_
    walk_at "m_evs"
    exact ⟨by push_cast; omega, ns ++ [1 + u], by simp, by simp [hl], fun y hy' => by
      rcases List.mem_append.mp hy' with q | q
      · exact hy y q
      · rw [List.mem_singleton] at q; omega⟩
  · rintro acc k' ⟨rfl, ns, rfl, hl, hy⟩
    rw [rng_len] at hl ⊢
    exact h ns _ hy (by omega) (by omega) (by omega) (by omega)
theorem fn_lrule (hT : TkOk x) {y top : Int} (ht : 0 < top) (hk0 : 0 ≤ k) (hk : k ≤ 280) (h : ∀ (r : MV) (k' : Int), IsRule r → k ≤ k' → k' ≤ k + 4 → Q r k') :
    Fn x.g (n + 2) (.st (.ref 889)) [.take, .int y, .int top] k Q := by
  refine fn_cells (ps := [Str.ofString "take", Str.ofString "first", Str.ofString "top"]) (by walk_at "m_is") (by walk_at "m_is") rfl ?_ (by decide) (by decide +kernel) (by decide) rfl rfl rfl ?_
  · intro vs hv s hK
    exact vs3 hv fun _ _ _ => BindsTo.of_eq rfl
  walk_at "m_evs"
  refine ev_ListComp (σf := [(Str.ofString "take", .take), (Str.ofString "top", .int top)]) (.of rfl (by decide) (.cons (by rfl) (by rfl) (.cons (by rfl) (by rfl) .nil))) ?_ (.inl rfl)
  walk_at "m_evs"
  refine fn_tk hT (by decide) hk0 (by omega) fun v v0 v3 => ?_
  walk_at "m_evs"
  refine ⟨_, fun i acc k' => k' = k + 1 + i ∧ acc.length = i, .rng _ _ (by omega) (by omega) (by omega) (by omega), by rw [rng_len]; omega, ⟨by simp, rfl⟩, ?_, ?_⟩
  · rintro i mi acc k' hi ⟨rfl, hl⟩
    obtain ⟨rfl, hib⟩ := rng_at hi
    refine ⟨_, .name _ _ (by rfl), ?_⟩
    walk_at "m_evs"
    refine fn_tk hT ht (by omega) (by omega) fun u u0 u6 => ?_
    exact ⟨by push_cast; omega, by simp [hl]⟩
  · rintro acc k' ⟨rfl, hl⟩
    rw [rng_len] at hl ⊢
    have hl1 : acc.length ≤ 1 := by omega
    generalize hk1 : k + 1 + (((v - 0).toNat : Nat) : Int) = k1
    walk_at "m_evs"
    refine op_add_tup (by simp; omega) ?_
    walk_at "m_evs"
    refine fn_tk hT (by decide) (by omega) (by omega) fun u u0 u6 => ?_
    walk_at "m_evs"
    refine ite_b (fun hb => ?_) (fun hb => ?_)
    · walk_at "m_evs"
      refine fn_tk hT (by decide) (by omega) (by omega) fun u u0 u6 => ?_
      walk_at "m_evs"
      refine fn_Rule ?_
      exact h _ _ ⟨_, _, _, _, rfl, by simp, by simp; omega, by simp⟩ (by omega) (by omega)
    · walk_at "m_evs"
      refine fn_Rule ?_
      exact h _ _ ⟨_, _, _, _, rfl, by simp, by simp; omega, by simp⟩ (by omega) (by omega)
theorem il_at {l : List Int} {i : Nat} {mi : MV} (hi : (il l)[i]? = some mi) : ∃ y, l[i]? = some y ∧ mi = .int y := by
  rw [List.getElem?_map] at hi
  cases q : l[i]? with
  | none => rw [q] at hi; cases hi
  | some y => rw [q] at hi; cases hi; exact ⟨y, rfl, rfl⟩
theorem at_lt {α : Type} {l : List α} {i : Nat} {v : α} (h : l[i]? = some v) : i < l.length := by
  rcases Nat.lt_or_ge i l.length with q | q
  · exact q
  · rw [List.getElem?_eq_none q] at h; cases h
theorem in_seven {y : Int} (h0 : 0 ≤ y) (h6 : y ≤ 6) : y ∈ seven := by
  have : y = 0 ∨ y = 1 ∨ y = 2 ∨ y = 3 ∨ y = 4 ∨ y = 5 ∨ y = 6 := by omega
  rcases this with rfl | rfl | rfl | rfl | rfl | rfl | rfl <;> decide
structure TableOk (x : GX) (kind : Str) (t : MV) (firsts : List Int) : Prop where
  st : StartsOk x kind t firsts
  ap : ApplyOk x kind t firsts
  sv : ∀ y ∈ firsts, y ∈ seven
noncomputable abbrev pairs (ps : List (Int × MV)) : List MV := ps.map fun p => .tup [.int p.1, p.2]
theorem rulesOf_keys {es : List (Int × MV)} {y : Int} (h : rulesOf (es.lookup y) ≠ []) : y ∈ es.map (·.1) := by
  by_cases q : y ∈ es.map (·.1)
  · exact q
  · rw [lookup_none q] at h; exact absurd rfl h
theorem keys_at {es : List (Int × MV)} {i : Nat} {mi : MV} (hi : (es.map fun p => MV.int p.1)[i]? = some mi) : ∃ y, (es.map (·.1))[i]? = some y ∧ mi = .int y := by
  rw [List.getElem?_map] at hi
  cases q : es[i]? with
  | none => rw [q] at hi; cases hi
  | some p => rw [q] at hi; cases hi; exact ⟨p.1, by rw [List.getElem?_map, q]; rfl, rfl⟩
theorem table_ctx1 {es : List (Int × MV)} {firsts : List Int} (hr : ∀ p ∈ es, ∃ rs, p.2 = .lst rs ∧ AllRules rs) (hl : es.length ≤ 50) (h7 : ∀ y ∈ firsts, y ∈ seven)
    (hf : ∀ y, y ∈ firsts ↔ y ∈ es.map (·.1) ∧ rulesOf (es.lookup y) ≠ []) : TableOk x (Str.ofString "context") (.obj 142 (fs_Contexts (.int 1) (.bool false) (.dic es) .none .none)) firsts where
  st := starts_ctx fun n k Q h => fn_starts1 hr hl fun ns h1 h2 => h ns h1 fun y => by rw [h2, hf]
  ap := apply_context_ok fun n k Q y hy h => fn_le (n := n + 3) (by omega) (fn_rules_at1 hr fun l hl => by
    have : rulesOf (es.lookup y) = [] := Classical.byContradiction fun q => hy ((hf y).mpr ⟨rulesOf_keys q, q⟩)
    rw [this] at hl
    rw [List.length_eq_zero_iff.mp hl]; exact h)
  sv := h7
theorem fn_lctx1 (hT : TkOk x) (hk0 : 0 ≤ k) (hk : k ≤ 250) (h : ∀ (t : MV) (firsts : List Int) (k' : Int), TableOk x (Str.ofString "context") t firsts → firsts.length ≤ 50 → k ≤ k' → k' ≤ k + 25 → Q (.tup [t, .lst (il firsts)]) k') :
    Fn x.g (n + 4) (.st (.ref 894)) [.take, .str (Str.ofString "glyphs")] k Q := by
  refine fn_cells (ps := [Str.ofString "take", Str.ofString "word"]) (by walk_at "m_is") (by walk_at "m_is") rfl ?_ (by decide) (by decide +kernel) (by decide) rfl rfl rfl ?_
  · intro vs hv s hK
    exact vs2 hv fun _ _ => BindsTo.of_eq rfl
  walk_at "m_evs"
  refine fn_lgl hT (.inr rfl) hk0 (by omega) fun ns k1 hy hl1 hl2 hk1 hk2 => ?_
  walk_at "m_evs"
  refine ev_ListComp (σf := [(Str.ofString "take", .take)]) (.of rfl (by decide) (.cons (by rfl) (by rfl) .nil)) ?_ (.inl rfl)
  walk_at "m_evs"
  refine ⟨_, fun i acc k' => k1 ≤ k' ∧ k' ≤ k1 + 5 * i ∧ ∃ ps : List (Int × MV), acc = pairs ps ∧ ps.map (·.1) = ns.take i ∧ ∀ p ∈ ps, ∃ rs, p.2 = .lst rs ∧ AllRules rs, .lst _, by simp; omega, ⟨by omega, by omega, [], rfl, rfl, by simp⟩, ?_, ?_⟩
  · rintro i mi acc k' hi ⟨hq1, hq2, ps, rfl, hp1, hp2⟩
    obtain ⟨y, hyi, rfl⟩ := il_at hi
    have hi3 := at_lt hyi
    refine ⟨_, .name _ _ (by rfl), ?_⟩
    walk_at "m_evs"
    refine fn_tk hT (by decide) (by omega) (by omega) fun u u0 u6 => ?_
    walk_at "m_evs"
    refine ite_d (fun hu => ?_) (fun hu => ?_)
    · walk_at "m_evs"
      refine fn_lrule hT (by decide) (by omega) (by omega) fun r k2 hr hr1 hr2 => ?_
      walk_at "m_evs"
      refine ⟨by omega, by push_cast; omega, ps ++ [(y, .lst [r])], by simp, by rw [take_snoc hyi, List.map_append, hp1]; rfl, fun p hp => ?_⟩
      rcases List.mem_append.mp hp with q | q
      · exact hp2 p q
      · rw [List.mem_singleton] at q; subst q; exact ⟨_, rfl, by simp, by simpa using hr⟩
    · walk_at "m_evs"
      refine ⟨by omega, by push_cast; omega, ps ++ [(y, .lst [])], by simp, by rw [take_snoc hyi, List.map_append, hp1]; rfl, fun p hp => ?_⟩
      rcases List.mem_append.mp hp with q | q
      · exact hp2 p q
      · rw [List.mem_singleton] at q; subst q; exact ⟨_, rfl, by simp, by simp⟩
  · rintro acc k' ⟨hq1, hq2, ps, rfl, hp1, hp2⟩
    rw [show (il ns).length = ns.length by simp] at hp1 hq2
    rw [List.take_length] at hp1
    have hpl : ps.length ≤ 3 := by have := congrArg List.length hp1; simp at this; omega
    refine fn_dict_pairs (by omega) ?_
    have hd := dictM_keys ps
    have hall : ∀ p ∈ dictM ps, ∃ rs, p.2 = .lst rs ∧ AllRules rs := dictM_all (P := fun _ m => ∃ rs, m = .lst rs ∧ AllRules rs) hp2
    rw [hp1] at hd
    generalize dictM ps = es at hd hall
    walk_at "m_evs"
    refine fn_ContextsD ?_
    walk_at "m_evs"
    refine ev_ListComp (σf := [(Str.ofString "sets", .dic es)]) (.of rfl (by decide) (.cons (by rfl) (by rfl) .nil)) ?_ (.inr ⟨_, rfl⟩)
    walk_at "m_evs"
    refine ⟨_, fun i acc k'' => k'' = k' ∧ acc = il (((es.map (·.1)).take i).filter fun y => !(rulesOf (es.lookup y)).isEmpty), .dic _, by simp; omega, ⟨rfl, by simp⟩, ?_, ?_⟩
    · rintro i mi acc k'' hi ⟨rfl, rfl⟩
      obtain ⟨y, hyi, rfl⟩ := keys_at hi
      obtain ⟨m, hm⟩ := Option.isSome_iff_exists.mp (lookup_keys.mpr (List.mem_of_getElem? hyi))
      obtain ⟨rs, hrs, hra⟩ := hall _ (mem_of_lookup hm)
      dsimp only at hrs
      subst hrs
      refine ⟨_, .name _ _ (by rfl), ?_⟩
      walk_at "m_evs"
      refine sub_dic hm ?_
      walk_at "m_evs"
      refine op_ne_nil ?_
      walk_at "m_evs"
      refine ite_b (fun hb => ?_) (fun hb => ?_)
      · walk_at "m_evs"
        exact ⟨rfl, by rw [take_snoc hyi, List.filter_append]; simp [hm, rulesOf, hb]⟩
      · exact ⟨rfl, by rw [take_snoc hyi, List.filter_append]; simp [hm, rulesOf, hb]⟩
    · rintro acc k'' ⟨rfl, rfl⟩
      rw [show (es.map fun p => MV.int p.1).length = (es.map (·.1)).length by simp, List.take_length]
      have hns : ∀ y, y ∈ (es.map (·.1)).filter (fun y => !(rulesOf (es.lookup y)).isEmpty) ↔ y ∈ es.map (·.1) ∧ rulesOf (es.lookup y) ≠ [] := fun y => by
        rw [List.mem_filter]; simp
      walk_at "m_evs"
      refine h _ _ _ (table_ctx1 hall (by omega) (fun y hy' => ?_) hns) ?_ (by omega) (by omega)
      · have := hy y ((hd.2.1 y).mp ((hns y).mp hy').1)
        exact in_seven (by omega) (by omega)
      · exact Nat.le_trans (List.length_filter_le _ _) (by simp; omega)
theorem nodup_sub_len : ∀ {l ns : List Int}, l.Nodup → (∀ y ∈ l, y ∈ ns) → l.length ≤ ns.length
  | [], _, _, _ => by simp
  | a :: r, ns, hn, hm => by
    have ha : a ∈ ns := hm a (.head _)
    have ⟨h1, h2⟩ := List.nodup_cons.mp hn
    have := nodup_sub_len (l := r) (ns := ns.erase a) h2 fun y hy => (List.mem_erase_of_ne (fun e : y = a => h1 (e ▸ hy))).mpr (hm y (.tail _ hy))
    rw [List.length_erase_of_mem ha] at this
    have := List.length_pos_of_mem ha
    simp only [List.length_cons]
    omega
theorem strict_sub_len {l ns : List Int} {b : Nat} (hs : l.Pairwise (· < ·)) (hm : ∀ y ∈ l, y ∈ ns) (hb : ns.length ≤ b) : l.length ≤ b := by
  have hn : l.Nodup := hs.imp (fun h => by omega)
  exact Nat.le_trans (nodup_sub_len hn hm) hb
theorem table_ctx2 {es sets : List (Int × MV)} {l us firsts : List Int} {c0 c2 : MV} (hs : l.Pairwise (· < ·)) (hl : l.length ≤ 50) (hes : ∀ p ∈ es, ∃ c, p.2 = .int c) (hr : ∀ p ∈ sets, ∃ rs, p.2 = .lst rs ∧ AllRules rs ∧ rs ≠ []) (hk : ∀ c, c ∈ sets.map (·.1) ↔ c ∈ us) (h7 : ∀ y ∈ firsts, y ∈ seven)
    (hf : ∀ y, y ∈ firsts ↔ y ∈ l ∧ classOf es y ∈ us) : TableOk x (Str.ofString "context") (.obj 142 (fs_Contexts (.int 2) (.bool false) (.dic sets) (covM l) (.tup [c0, clsM es, c2]))) firsts := by
  have hr' : ∀ p ∈ sets, ∃ rs, p.2 = .lst rs ∧ AllRules rs := fun p hp => let ⟨rs, a, b, _⟩ := hr p hp; ⟨rs, a, b⟩
  have hq : ∀ c, rulesOf (sets.lookup c) ≠ [] ↔ c ∈ us := fun c => by
    rw [← hk]
    refine ⟨rulesOf_keys, fun hc => ?_⟩
    obtain ⟨m, hm⟩ := Option.isSome_iff_exists.mp (lookup_keys.mpr hc)
    obtain ⟨rs, e, _, ne⟩ := hr _ (mem_of_lookup hm)
    dsimp only at e
    subst e
    rw [hm]; exact ne
  exact {
    st := starts_ctx fun n k Q h => fn_starts2 hs hl hes hr' fun ns h1 h2 => h ns h1 fun y => by rw [h2, hf, hq]
    ap := apply_context_ok fun n k Q y hy h => fn_le (n := n + 3) (by omega) (fn_rules_at2 hs (by omega) hes hr' fun l' hl' => by
      have : l'.length = 0 := by
        rw [hl']
        split
        · rename_i hm
          have : rulesOf (sets.lookup (classOf es y)) = [] := Classical.byContradiction fun q => hy ((hf y).mpr ⟨hm, (hq _).mp q⟩)
          rw [this]; rfl
        · rfl
      rw [List.length_eq_zero_iff.mp this]; exact h)
    sv := h7 }
theorem fn_lctx2 (hT : TkOk x) (hk0 : 0 ≤ k) (hk : k ≤ 250) (h : ∀ (t : MV) (firsts : List Int) (k' : Int), TableOk x (Str.ofString "context") t firsts → firsts.length ≤ 50 → k ≤ k' → k' ≤ k + 25 → Q (.tup [t, .lst (il firsts)]) k') :
    Fn x.g (n + 4) (.st (.ref 894)) [.take, .str (Str.ofString "classes")] k Q := by
  refine fn_cells (ps := [Str.ofString "take", Str.ofString "word"]) (by walk_at "m_is") (by walk_at "m_is") rfl ?_ (by decide) (by decide +kernel) (by decide) rfl rfl rfl ?_
  · intro vs hv s hK
    exact vs2 hv fun _ _ => BindsTo.of_eq rfl
  walk_at "m_evs"
  refine ev_ListComp (σf := [(Str.ofString "take", .take)]) (.of rfl (by decide) (.cons (by rfl) (by rfl) .nil)) ?_ (.inl rfl)
  walk_at "m_evs"
  refine fn_lgl hT (.inl rfl) hk0 (by omega) fun ns k1 hy hl1 hl2 hk1 hk2 => ?_
  refine ⟨_, fun i acc k' => k' = k1 + i ∧ ∃ ps : List (Int × MV), acc = pairs ps ∧ ps.length = i ∧ ∀ p ∈ ps, ∃ c, p.2 = .int c, .lst _, by simp; omega, ⟨by simp, [], rfl, rfl, by simp⟩, ?_, ?_⟩
  · rintro i mi acc k' hi ⟨rfl, ps, rfl, hp1, hp2⟩
    obtain ⟨y, hyi, rfl⟩ := il_at hi
    have hi3 := at_lt hyi
    refine ⟨_, .name _ _ (by rfl), ?_⟩
    walk_at "m_evs"
    refine fn_tk hT (by decide) (by omega) (by omega) fun u u0 u6 => ?_
    walk_at "m_evs"
    refine ⟨by push_cast; omega, ps ++ [(y, .int (1 + u))], by simp, by simp [hp1], fun p hp => ?_⟩
    rcases List.mem_append.mp hp with q | q
    · exact hp2 p q
    · rw [List.mem_singleton] at q; subst q; exact ⟨_, rfl⟩
  rintro acc k' ⟨rfl, ps, rfl, hp1, hp2⟩
  rw [show (il ns).length = ns.length by simp] at hp1 ⊢
  refine fn_dict_pairs (by omega) ?_
  have hes : ∀ p ∈ dictM ps, ∃ c, p.2 = .int c := dictM_all (P := fun _ m => ∃ c, m = .int c) hp2
  have hel := (dictM_keys ps).2.2
  generalize dictM ps = es at hes hel
  generalize hk2' : k1 + ((ns.length : Nat) : Int) = k2
  walk_at "m_evs"
  refine fn_lgl hT (.inr rfl) (by omega) (by omega) fun ns2 k3 hy2 hl3 hl4 hk3 hk4 => ?_
  walk_at "m_evs"
  have h72 : ∀ i ∈ ns2, i ∈ seven := fun i hi => in_seven (by have := hy2 i hi; omega) (hy2 i hi).2
  refine fn_set_lst h72 ?_
  walk_at "m_evs"
  have hcs := insAll_strict h72
  have hcm : ∀ y, y ∈ insAll ns2 [] ↔ y ∈ ns2 := fun y => insAll_mem
  generalize insAll ns2 [] = cov at hcs hcm
  have hc7 : ∀ i ∈ cov, i ∈ seven := fun i hi => h72 i ((hcm i).mp hi)
  have hcl := strict_len hcs hc7
  walk_at "m_evs"
  refine ev_ListComp (σf := [(Str.ofString "take", .take)]) (.of rfl (by decide) (.cons (by rfl) (by rfl) .nil)) ?_ (.inl rfl)
  walk_at "m_evs"
  refine fn_tk hT (by decide) (by omega) (by omega) fun v v0 v2 => ?_
  walk_at "m_evs"
  refine ⟨_, fun i acc k' => k' = k3 + 1 + i ∧ ∃ ns : List Int, acc = il ns ∧ ns.length = i ∧ ∀ y ∈ ns, y ∈ seven, .rng _ _ (by omega) (by omega) (by omega) (by omega), by rw [rng_len]; omega, ⟨by simp, [], rfl, rfl, by simp⟩, ?_, ?_⟩
  · rintro i mi acc k' hi ⟨rfl, ns, rfl, hl, hy⟩
    obtain ⟨rfl, hib⟩ := rng_at hi
    refine ⟨_, .name _ _ (by rfl), ?_⟩
    walk_at "m_evs"
    refine fn_tk hT (by decide) (by omega) (by omega) fun u u0 u6 => ?_
    exact ⟨by push_cast; omega, ns ++ [u], by simp, by simp [hl], fun y hy' => by
      rcases List.mem_append.mp hy' with q | q
      · exact hy y q
      · rw [List.mem_singleton] at q; subst q; exact in_seven u0 (by omega)⟩
  rintro acc k' ⟨rfl, ns3, rfl, hl5, h73⟩
  rw [rng_len] at hl5 ⊢
  refine fn_set_lst h73 ?_
  walk_at "m_evs"
  have hus := insAll_strict h73
  have hum : ∀ y, y ∈ insAll ns3 [] ↔ y ∈ ns3 := fun y => insAll_mem
  have hul : (insAll ns3 []).length ≤ 2 := strict_sub_len hus (fun y hy => (hum y).mp hy) (by omega)
  generalize insAll ns3 [] = us at hus hum hul
  generalize hk4' : k3 + 1 + (((1 + v - 0).toNat : Nat) : Int) = k4
  walk_at "m_evs"
  refine ev_ListComp (σf := [(Str.ofString "take", .take)]) (.of rfl (by decide) (.cons (by rfl) (by rfl) .nil)) ?_ (.inl rfl)
  walk_at "m_evs"
  refine ⟨_, fun i acc k' => k4 ≤ k' ∧ k' ≤ k4 + 4 * i ∧ ∃ ps : List (Int × MV), acc = pairs ps ∧ ps.map (·.1) = us.take i ∧ ∀ p ∈ ps, ∃ rs, p.2 = .lst rs ∧ AllRules rs ∧ rs ≠ [], .lst _, by simp; omega, ⟨by omega, by omega, [], rfl, rfl, by simp⟩, ?_, ?_⟩
  · rintro i mi acc k' hi ⟨hq1, hq2, ps, rfl, hp1, hp2⟩
    obtain ⟨y, hyi, rfl⟩ := il_at hi
    have hi3 := at_lt hyi
    refine ⟨_, .name _ _ (by rfl), ?_⟩
    walk_at "m_evs"
    refine fn_lrule hT (by decide) (by omega) (by omega) fun r k2 hr hr1 hr2 => ?_
    walk_at "m_evs"
    refine ⟨by omega, by push_cast; omega, ps ++ [(y, .lst [r])], by simp, by rw [take_snoc hyi, List.map_append, hp1]; rfl, fun p hp => ?_⟩
    rcases List.mem_append.mp hp with q | q
    · exact hp2 p q
    · rw [List.mem_singleton] at q; subst q; exact ⟨_, rfl, ⟨by simp, by simpa using hr⟩, by simp⟩
  rintro acc k5 ⟨hq1, hq2, ps3, rfl, hp3, hp4⟩
  rw [show (il us).length = us.length by simp] at hp3 hq2
  rw [List.take_length] at hp3
  have hpl : ps3.length ≤ 2 := by have := congrArg List.length hp3; simp at this; omega
  refine fn_dict_pairs (by omega) ?_
  have hd := dictM_keys ps3
  have hall : ∀ p ∈ dictM ps3, ∃ rs, p.2 = .lst rs ∧ AllRules rs ∧ rs ≠ [] := dictM_all (P := fun _ m => ∃ rs, m = .lst rs ∧ AllRules rs ∧ rs ≠ []) hp4
  rw [hp3] at hd
  generalize dictM ps3 = sets at hd hall
  walk_at "m_evs"
  refine ev_Dict0 ?_
  walk_at "m_evs"
  refine fn_ClassDef ?_
  walk_at "m_evs"
  refine fn_ClassDef ?_
  walk_at "m_evs"
  refine ev_Dict0 ?_
  walk_at "m_evs"
  refine fn_ClassDef ?_
  walk_at "m_evs"
  refine fn_le (n := n + 2) (by omega) (fn_coverage_of (by omega) fun l hls hlm hll => ?_)
  walk_at "m_evs"
  refine fn_Contexts ?_
  walk_at "m_evs"
  refine ev_ListComp (σf := [(Str.ofString "classes", .dic es), (Str.ofString "used", .lst (il us))]) (.of rfl (by decide) (.cons (by rfl) (by rfl) (.cons (by rfl) (by rfl) .nil))) ?_ (.inr ⟨_, rfl⟩)
  walk_at "m_evs"
  refine ⟨_, fun i acc k'' => k'' = k5 ∧ acc = il ((cov.take i).filter fun y => us.any (· == classOf es y)), .lst _, by simp; omega, ⟨rfl, by simp⟩, ?_, ?_⟩
  · rintro i mi acc k'' hi ⟨rfl, rfl⟩
    obtain ⟨y, hyi, rfl⟩ := il_at hi
    refine ⟨_, .name _ _ (by rfl), ?_⟩
    walk_at "m_evs"
    rw [classOf_eq hes]
    refine op_in_ints ?_
    walk_at "m_evs"
    refine ite_b (fun hb => ?_) (fun hb => ?_)
    · walk_at "m_evs"
      exact ⟨rfl, by rw [take_snoc hyi, List.filter_append]; simp [hb]⟩
    · exact ⟨rfl, by rw [take_snoc hyi, List.filter_append]; simp [hb]⟩
  · rintro acc k'' ⟨rfl, rfl⟩
    rw [show (il cov).length = cov.length by simp, List.take_length]
    have hns : ∀ y, y ∈ cov.filter (fun y => us.any (· == classOf es y)) ↔ y ∈ l ∧ classOf es y ∈ us := fun y => by
      rw [List.mem_filter, hlm]; simp
    walk_at "m_evs"
    refine h _ _ _ (table_ctx2 hls (by omega) hes hall hd.2.1 (fun y hy' => ?_) hns) ?_ (by omega) (by omega)
    · exact hc7 y ((hlm y).mp ((hns y).mp hy').1)
    · exact Nat.le_trans (List.length_filter_le _ _) (by omega)
theorem table_ctx3 {l firsts : List Int} {rest : List MV} (hs : l.Pairwise (· < ·)) (hl : l.length ≤ 50) (hr : rest.length ≤ 40) (hm : ∀ y, y ∈ l ↔ y ∈ firsts) (h7 : ∀ y ∈ firsts, y ∈ seven) :
    TableOk x (Str.ofString "context") (ctx3 l rest) firsts where
  st := starts_ctx fun n k Q h => fn_starts3 (by omega) (by omega) (h l (by omega) hm)
  ap := apply_context_ok fun n k Q y hy h => fn_rules_at3 hs (by omega) (by omega) fun l' hl' => by
    rw [if_neg (fun q => hy ((hm y).mp q))] at hl'
    rw [List.length_eq_zero_iff.mp hl']; exact h
  sv := h7
theorem fn_lctx3 (hT : TkOk x) (hk0 : 0 ≤ k) (hk : k ≤ 250) (h : ∀ (t : MV) (firsts : List Int) (k' : Int), TableOk x (Str.ofString "context") t firsts → firsts.length ≤ 50 → k ≤ k' → k' ≤ k + 25 → Q (.tup [t, .lst (il firsts)]) k') :
    Fn x.g (n + 4) (.st (.ref 894)) [.take, .str (Str.ofString "covers")] k Q := by
  refine fn_cells (ps := [Str.ofString "take", Str.ofString "word"]) (by walk_at "m_is") (by walk_at "m_is") rfl ?_ (by decide) (by decide +kernel) (by decide) rfl rfl rfl ?_
  · intro vs hv s hK
    exact vs2 hv fun _ _ => BindsTo.of_eq rfl
  walk_at "m_evs"
  refine fn_lgl hT (.inl rfl) hk0 (by omega) fun ns k1 hy hl1 hl2 hk1 hk2 => ?_
  have h7 : ∀ i ∈ ns, i ∈ seven := fun i hi => in_seven (by have := hy i hi; omega) (hy i hi).2
  walk_at "m_evs"
  refine ev_ListComp (σf := [(Str.ofString "take", .take)]) (.of rfl (by decide) (.cons (by rfl) (by rfl) .nil)) ?_ (.inl rfl)
  walk_at "m_evs"
  refine fn_tk hT (by decide) (by omega) (by omega) fun v v0 v2 => ?_
  walk_at "m_evs"
  refine ⟨_, fun i acc k' => k1 + 1 ≤ k' ∧ k' ≤ k1 + 1 + 4 * i ∧ acc.length = i, .rng _ _ (by omega) (by omega) (by omega) (by omega), by rw [rng_len]; omega, ⟨by simp, by simp, rfl⟩, ?_, ?_⟩
  · rintro i mi acc k' hi ⟨hq1, hq2, hl⟩
    obtain ⟨rfl, hib⟩ := rng_at hi
    refine ⟨_, .name _ _ (by rfl), ?_⟩
    walk_at "m_evs"
    refine fn_lgl hT (.inr rfl) (by omega) (by omega) fun ns2 k3 hy2 hl3 hl4 hk3 hk4 => ?_
    walk_at "m_evs"
    refine fn_coverage_of (ns := ns2) (by omega) fun l hls hlm hll => ?_
    exact ⟨by omega, by push_cast; omega, by simp [hl]⟩
  rintro rest k2 ⟨hq1, hq2, hrl⟩
  rw [rng_len] at hrl hq2
  generalize hk3 : k2 = k3
  walk_at "m_evs"
  refine ev_Dict1 ?_
  walk_at "m_evs"
  refine fn_coverage_of (ns := ns) (by omega) fun l hls hlm hll => ?_
  walk_at "m_evs"
  refine op_add_tup (by simp; omega) ?_
  walk_at "m_evs"
  refine fn_Rule ?_
  walk_at "m_evs"
  refine fn_ContextsD ?_
  walk_at "m_evs"
  exact h (ctx3 l rest) ns _ (table_ctx3 hls (by omega) (by omega) hlm h7) (by omega) (by omega) (by omega)
theorem table_dict {kind : Str} {t : MV} {ns : List Int} (hs : StartsOk x kind t ns) (ha : ApplyOk x kind t ns) (hy : ∀ y ∈ ns, 1 ≤ y ∧ y ≤ 6) : TableOk x kind t ns where
  st := hs
  ap := ha
  sv := fun y h => in_seven (by have := hy y h; omega) (hy y h).2
theorem fn_lt_single (hT : TkOk x) (hk0 : 0 ≤ k) (hk : k ≤ 250) (h : ∀ (t : MV) (firsts : List Int) (k' : Int), TableOk x (Str.ofString "single") t firsts → firsts.length ≤ 50 → k ≤ k' → k' ≤ k + 25 → Q (.tup [t, .lst (il firsts)]) k') :
    Fn x.g (n + 5) (.st (.ref 899)) [.take, .str (Str.ofString "single")] k Q := by
  refine fn_cells (ps := [Str.ofString "take", Str.ofString "word"]) (by walk_at "m_is") (by walk_at "m_is") rfl ?_ (by decide) (by decide +kernel) (by decide) rfl rfl rfl ?_
  · intro vs hv s hK
    exact vs2 hv fun _ _ => BindsTo.of_eq rfl
  walk_at "m_evs"
  refine op_in_strs (ss := [Str.ofString "glyphs", Str.ofString "classes", Str.ofString "covers"]) ?_
  walk_at "m_evs"
  refine fn_le (n := n + 2) (by omega) (fn_lgl hT (.inl rfl) hk0 (by omega) fun ns k1 hy hl1 hl2 hk1 hk2 => ?_)
  walk_at "m_evs"
  refine ev_ListComp (σf := [(Str.ofString "take", .take)]) (.of rfl (by decide) (.cons (by rfl) (by rfl) .nil)) ?_ (.inl rfl)
  walk_at "m_evs"
  refine ⟨_, fun i acc k' => k' = k1 + i ∧ ∃ ps : List (Int × MV), acc = pairs ps ∧ ps.map (·.1) = ns.take i, .lst _, by simp; omega, ⟨by simp, [], rfl, rfl⟩, ?_, ?_⟩
  · rintro i mi acc k' hi ⟨rfl, ps, rfl, hp1⟩
    obtain ⟨y, hyi, rfl⟩ := il_at hi
    have hi3 := at_lt hyi
    refine ⟨_, .name _ _ (by rfl), ?_⟩
    walk_at "m_evs"
    refine fn_tk hT (by decide) (by omega) (by omega) fun u u0 u6 => ?_
    walk_at "m_evs"
    exact ⟨by push_cast; omega, ps ++ [(y, .int (1 + u))], by simp, by rw [take_snoc hyi, List.map_append, hp1]; rfl⟩
  rintro acc k' ⟨rfl, ps, rfl, hp1⟩
  have hil : (il ns).length = ns.length := by simp
  rw [hil, List.take_length] at hp1
  have hpl : ps.length = ns.length := by have := congrArg List.length hp1; simpa using this
  refine fn_dict_pairs (by omega) ?_
  have hd := dictM_keys ps
  rw [hp1] at hd
  generalize dictM ps = es at hd
  walk_at "m_evs"
  refine fn_Single ?_
  walk_at "m_evs"
  exact h _ ns _ (table_dict (starts_single (by walk_at "m_fld") (.inl rfl) (by rfl) (by omega) hd.2.1) (apply_single_ok hd.2.1) hy) (by omega) (by omega) (by omega)
theorem fn_lt_reverse (hT : TkOk x) (hk0 : 0 ≤ k) (hk : k ≤ 250) (h : ∀ (t : MV) (firsts : List Int) (k' : Int), TableOk x (Str.ofString "reverse") t firsts → firsts.length ≤ 50 → k ≤ k' → k' ≤ k + 25 → Q (.tup [t, .lst (il firsts)]) k') :
    Fn x.g (n + 5) (.st (.ref 899)) [.take, .str (Str.ofString "reverse")] k Q := by
  refine fn_cells (ps := [Str.ofString "take", Str.ofString "word"]) (by walk_at "m_is") (by walk_at "m_is") rfl ?_ (by decide) (by decide +kernel) (by decide) rfl rfl rfl ?_
  · intro vs hv s hK
    exact vs2 hv fun _ _ => BindsTo.of_eq rfl
  walk_at "m_evs"
  refine op_in_strs (ss := [Str.ofString "glyphs", Str.ofString "classes", Str.ofString "covers"]) ?_
  walk_at "m_evs"
  refine fn_le (n := n + 2) (by omega) (fn_lgl hT (.inl rfl) hk0 (by omega) fun ns k1 hy hl1 hl2 hk1 hk2 => ?_)
  walk_at "m_evs"
  refine ev_ListComp (σf := [(Str.ofString "take", .take)]) (.of rfl (by decide) (.cons (by rfl) (by rfl) .nil)) ?_ (.inl rfl)
  walk_at "m_evs"
  refine ⟨_, fun i acc k' => k' = k1 + i ∧ ∃ ps : List (Int × MV), acc = pairs ps ∧ ps.map (·.1) = ns.take i, .lst _, by simp; omega, ⟨by simp, [], rfl, rfl⟩, ?_, ?_⟩
  · rintro i mi acc k' hi ⟨rfl, ps, rfl, hp1⟩
    obtain ⟨y, hyi, rfl⟩ := il_at hi
    have hi3 := at_lt hyi
    refine ⟨_, .name _ _ (by rfl), ?_⟩
    walk_at "m_evs"
    refine fn_tk hT (by decide) (by omega) (by omega) fun u u0 u6 => ?_
    walk_at "m_evs"
    exact ⟨by push_cast; omega, ps ++ [(y, .int (1 + u))], by simp, by rw [take_snoc hyi, List.map_append, hp1]; rfl⟩
  rintro acc k' ⟨rfl, ps, rfl, hp1⟩
  have hil : (il ns).length = ns.length := by simp
  rw [hil, List.take_length] at hp1
  have hpl : ps.length = ns.length := by have := congrArg List.length hp1; simpa using this
  refine fn_dict_pairs (by omega) ?_
  have hd := dictM_keys ps
  rw [hp1] at hd
  generalize dictM ps = es at hd
  walk_at "m_evs"
  refine fn_Reverse ?_
  walk_at "m_evs"
  exact h _ ns _ (table_dict (starts_single (by walk_at "m_fld") (.inr (.inr (.inr rfl))) (by rfl) (by omega) hd.2.1) (apply_reverse_ok hd.2.1) hy) (by omega) (by omega) (by omega)
theorem fn_lt_ligature (hT : TkOk x) (hk0 : 0 ≤ k) (hk : k ≤ 250) (h : ∀ (t : MV) (firsts : List Int) (k' : Int), TableOk x (Str.ofString "ligature") t firsts → firsts.length ≤ 50 → k ≤ k' → k' ≤ k + 25 → Q (.tup [t, .lst (il firsts)]) k') :
    Fn x.g (n + 5) (.st (.ref 899)) [.take, .str (Str.ofString "ligature")] k Q := by
  refine fn_cells (ps := [Str.ofString "take", Str.ofString "word"]) (by walk_at "m_is") (by walk_at "m_is") rfl ?_ (by decide) (by decide +kernel) (by decide) rfl rfl rfl ?_
  · intro vs hv s hK
    exact vs2 hv fun _ _ => BindsTo.of_eq rfl
  walk_at "m_evs"
  refine op_in_strs (ss := [Str.ofString "glyphs", Str.ofString "classes", Str.ofString "covers"]) ?_
  walk_at "m_evs"
  refine fn_le (n := n + 2) (by omega) (fn_lgl hT (.inl rfl) hk0 (by omega) fun ns k1 hy hl1 hl2 hk1 hk2 => ?_)
  walk_at "m_evs"
  refine ev_ListComp (σf := [(Str.ofString "take", .take)]) (.of rfl (by decide) (.cons (by rfl) (by rfl) .nil)) ?_ (.inl rfl)
  walk_at "m_evs"
  refine ⟨_, fun i acc k' => k1 ≤ k' ∧ k' ≤ k1 + 4 * i ∧ ∃ ps : List (Int × MV), acc = pairs ps ∧ ps.map (·.1) = ns.take i, .lst _, by simp; omega, ⟨by simp, by simp, [], rfl, rfl⟩, ?_, ?_⟩
  · rintro i mi acc k' hi ⟨hq1, hq2, ps, rfl, hp1⟩
    obtain ⟨y, hyi, rfl⟩ := il_at hi
    have hi3 := at_lt hyi
    refine ⟨_, .name _ _ (by rfl), ?_⟩
    walk_at "m_evs"
    refine fn_le (n := n + 2) (by omega) (fn_lgl hT (.inl rfl) (by omega) (by omega) fun ns2 k3 hy2 hl3 hl4 hk3 hk4 => ?_)
    walk_at "m_evs"
    exact ⟨by omega, by push_cast; omega, ps ++ [(y, .tup (il ns2))], by simp, by rw [take_snoc hyi, List.map_append, hp1]; rfl⟩
  rintro acc k2 ⟨hq1, hq2, ps, rfl, hp1⟩
  rw [show (il ns).length = ns.length by simp] at hq2 hp1
  rw [List.take_length] at hp1
  have hpl : ps.length = ns.length := by have := congrArg List.length hp1; simpa using this
  refine fn_dict_pairs (by omega) ?_
  have hd := dictM_keys ps
  rw [hp1] at hd
  generalize dictM ps = es at hd
  walk_at "m_evs"
  refine ev_ListComp (σf := [(Str.ofString "rows", .dic es)]) (.of rfl (by decide) (.cons (by rfl) (by rfl) .nil)) ?_ (.inl rfl)
  walk_at "m_evs"
  refine ⟨_, fun i acc k' => k' = k2 ∧ ∃ ps : List (Int × MV), acc = pairs ps ∧ ps.map (·.1) = ns.take i, .lst _, by simp; omega, ⟨rfl, [], rfl, rfl⟩, ?_, ?_⟩
  · rintro i mi acc k' hi ⟨rfl, ps, rfl, hp1⟩
    obtain ⟨y, hyi, rfl⟩ := il_at hi
    obtain ⟨m, hm⟩ := Option.isSome_iff_exists.mp (lookup_keys.mpr ((hd.2.1 y).mpr (List.mem_of_getElem? hyi)))
    refine ⟨_, .name _ _ (by rfl), ?_⟩
    walk_at "m_evs"
    refine sub_dic hm ?_
    walk_at "m_evs"
    exact ⟨rfl, ps ++ [(y, _)], by simp; rfl, by rw [take_snoc hyi, List.map_append, hp1]; rfl⟩
  rintro acc k3 ⟨rfl, ps2, rfl, hp2⟩
  rw [show (il ns).length = ns.length by simp] at hp2
  rw [List.take_length] at hp2
  have hpl2 : ps2.length = ns.length := by have := congrArg List.length hp2; simpa using this
  refine fn_dict_pairs (by omega) ?_
  have hd2 := dictM_keys ps2
  rw [hp2] at hd2
  generalize dictM ps2 = es2 at hd2
  walk_at "m_evs"
  refine fn_Ligature ?_
  walk_at "m_evs"
  exact h _ ns _ (table_dict (starts_lig (fs := []) (by omega) hd2.2.1) (apply_ligature_ok hd2.2.1) hy) (by omega) (by omega) (by omega)
theorem fn_lt_multiple (hT : TkOk x) (hk0 : 0 ≤ k) (hk : k ≤ 250) (h : ∀ (t : MV) (firsts : List Int) (k' : Int), TableOk x (Str.ofString "multiple") t firsts → firsts.length ≤ 50 → k ≤ k' → k' ≤ k + 25 → Q (.tup [t, .lst (il firsts)]) k') :
    Fn x.g (n + 5) (.st (.ref 899)) [.take, .str (Str.ofString "multiple")] k Q := by
  refine fn_cells (ps := [Str.ofString "take", Str.ofString "word"]) (by walk_at "m_is") (by walk_at "m_is") rfl ?_ (by decide) (by decide +kernel) (by decide) rfl rfl rfl ?_
  · intro vs hv s hK
    exact vs2 hv fun _ _ => BindsTo.of_eq rfl
  walk_at "m_evs"
  refine op_in_strs (ss := [Str.ofString "glyphs", Str.ofString "classes", Str.ofString "covers"]) ?_
  walk_at "m_evs"
  refine fn_le (n := n + 2) (by omega) (fn_lgl hT (.inl rfl) hk0 (by omega) fun ns k1 hy hl1 hl2 hk1 hk2 => ?_)
  walk_at "m_evs"
  refine ev_ListComp (σf := [(Str.ofString "take", .take)]) (.of rfl (by decide) (.cons (by rfl) (by rfl) .nil)) ?_ (.inl rfl)
  walk_at "m_evs"
  refine ⟨_, fun i acc k' => k1 ≤ k' ∧ k' ≤ k1 + 4 * i ∧ ∃ ps : List (Int × MV), acc = pairs ps ∧ ps.map (·.1) = ns.take i, .lst _, by simp; omega, ⟨by simp, by simp, [], rfl, rfl⟩, ?_, ?_⟩
  · rintro i mi acc k' hi ⟨hq1, hq2, ps, rfl, hp1⟩
    obtain ⟨y, hyi, rfl⟩ := il_at hi
    have hi3 := at_lt hyi
    refine ⟨_, .name _ _ (by rfl), ?_⟩
    walk_at "m_evs"
    refine fn_le (n := n + 2) (by omega) (fn_lgl hT (.inl rfl) (by omega) (by omega) fun ns2 k3 hy2 hl3 hl4 hk3 hk4 => ?_)
    walk_at "m_evs"
    exact ⟨by omega, by push_cast; omega, ps ++ [(y, .tup (il ns2))], by simp, by rw [take_snoc hyi, List.map_append, hp1]; rfl⟩
  rintro acc k2 ⟨hq1, hq2, ps, rfl, hp1⟩
  rw [show (il ns).length = ns.length by simp] at hq2 hp1
  rw [List.take_length] at hp1
  have hpl : ps.length = ns.length := by have := congrArg List.length hp1; simpa using this
  refine fn_dict_pairs (by omega) ?_
  have hd := dictM_keys ps
  rw [hp1] at hd
  generalize dictM ps = es at hd
  walk_at "m_evs"
  refine fn_Multiple ?_
  walk_at "m_evs"
  exact h _ ns _ (table_dict (starts_single (by walk_at "m_fld") (.inr (.inl rfl)) (by rfl) (by omega) hd.2.1) (apply_multiple_ok hd.2.1) hy) (by omega) (by omega) (by omega)
theorem fn_lt_alternate (hT : TkOk x) (hk0 : 0 ≤ k) (hk : k ≤ 250) (h : ∀ (t : MV) (firsts : List Int) (k' : Int), TableOk x (Str.ofString "alternate") t firsts → firsts.length ≤ 50 → k ≤ k' → k' ≤ k + 25 → Q (.tup [t, .lst (il firsts)]) k') :
    Fn x.g (n + 5) (.st (.ref 899)) [.take, .str (Str.ofString "alternate")] k Q := by
  refine fn_cells (ps := [Str.ofString "take", Str.ofString "word"]) (by walk_at "m_is") (by walk_at "m_is") rfl ?_ (by decide) (by decide +kernel) (by decide) rfl rfl rfl ?_
  · intro vs hv s hK
    exact vs2 hv fun _ _ => BindsTo.of_eq rfl
  walk_at "m_evs"
  refine op_in_strs (ss := [Str.ofString "glyphs", Str.ofString "classes", Str.ofString "covers"]) ?_
  walk_at "m_evs"
  refine fn_le (n := n + 2) (by omega) (fn_lgl hT (.inl rfl) hk0 (by omega) fun ns k1 hy hl1 hl2 hk1 hk2 => ?_)
  walk_at "m_evs"
  refine ev_ListComp (σf := [(Str.ofString "take", .take)]) (.of rfl (by decide) (.cons (by rfl) (by rfl) .nil)) ?_ (.inl rfl)
  walk_at "m_evs"
  refine ⟨_, fun i acc k' => k1 ≤ k' ∧ k' ≤ k1 + 4 * i ∧ ∃ ps : List (Int × MV), acc = pairs ps ∧ ps.map (·.1) = ns.take i, .lst _, by simp; omega, ⟨by simp, by simp, [], rfl, rfl⟩, ?_, ?_⟩
  · rintro i mi acc k' hi ⟨hq1, hq2, ps, rfl, hp1⟩
    obtain ⟨y, hyi, rfl⟩ := il_at hi
    have hi3 := at_lt hyi
    refine ⟨_, .name _ _ (by rfl), ?_⟩
    walk_at "m_evs"
    refine fn_le (n := n + 2) (by omega) (fn_lgl hT (.inl rfl) (by omega) (by omega) fun ns2 k3 hy2 hl3 hl4 hk3 hk4 => ?_)
    walk_at "m_evs"
    exact ⟨by omega, by push_cast; omega, ps ++ [(y, .tup (il ns2))], by simp, by rw [take_snoc hyi, List.map_append, hp1]; rfl⟩
  rintro acc k2 ⟨hq1, hq2, ps, rfl, hp1⟩
  rw [show (il ns).length = ns.length by simp] at hq2 hp1
  rw [List.take_length] at hp1
  have hpl : ps.length = ns.length := by have := congrArg List.length hp1; simpa using this
  refine fn_dict_pairs (by omega) ?_
  have hd := dictM_keys ps
  rw [hp1] at hd
  generalize dictM ps = es at hd
  walk_at "m_evs"
  refine fn_Alternate ?_
  walk_at "m_evs"
  exact h _ ns _ (table_dict (starts_single (by walk_at "m_fld") (.inr (.inr (.inl rfl))) (by rfl) (by omega) hd.2.1) (apply_alternate_ok hd.2.1) hy) (by omega) (by omega) (by omega)
theorem fn_lt_glyphs (hT : TkOk x) (hk0 : 0 ≤ k) (hk : k ≤ 250) (h : ∀ (t : MV) (firsts : List Int) (k' : Int), TableOk x (Str.ofString "context") t firsts → firsts.length ≤ 50 → k ≤ k' → k' ≤ k + 25 → Q (.tup [t, .lst (il firsts)]) k') :
    Fn x.g (n + 5) (.st (.ref 899)) [.take, .str (Str.ofString "glyphs")] k Q := by
  refine fn_cells (ps := [Str.ofString "take", Str.ofString "word"]) (by walk_at "m_is") (by walk_at "m_is") rfl ?_ (by decide) (by decide +kernel) (by decide) rfl rfl rfl ?_
  · intro vs hv s hK
    exact vs2 hv fun _ _ => BindsTo.of_eq rfl
  walk_at "m_evs"
  refine op_in_strs (ss := [Str.ofString "glyphs", Str.ofString "classes", Str.ofString "covers"]) ?_
  walk_at "m_evs"
  exact fn_lctx1 hT hk0 hk h
theorem fn_lt_classes (hT : TkOk x) (hk0 : 0 ≤ k) (hk : k ≤ 250) (h : ∀ (t : MV) (firsts : List Int) (k' : Int), TableOk x (Str.ofString "context") t firsts → firsts.length ≤ 50 → k ≤ k' → k' ≤ k + 25 → Q (.tup [t, .lst (il firsts)]) k') :
    Fn x.g (n + 5) (.st (.ref 899)) [.take, .str (Str.ofString "classes")] k Q := by
  refine fn_cells (ps := [Str.ofString "take", Str.ofString "word"]) (by walk_at "m_is") (by walk_at "m_is") rfl ?_ (by decide) (by decide +kernel) (by decide) rfl rfl rfl ?_
  · intro vs hv s hK
    exact vs2 hv fun _ _ => BindsTo.of_eq rfl
  walk_at "m_evs"
  refine op_in_strs (ss := [Str.ofString "glyphs", Str.ofString "classes", Str.ofString "covers"]) ?_
  walk_at "m_evs"
  exact fn_lctx2 hT hk0 hk h
theorem fn_lt_covers (hT : TkOk x) (hk0 : 0 ≤ k) (hk : k ≤ 250) (h : ∀ (t : MV) (firsts : List Int) (k' : Int), TableOk x (Str.ofString "context") t firsts → firsts.length ≤ 50 → k ≤ k' → k' ≤ k + 25 → Q (.tup [t, .lst (il firsts)]) k') :
    Fn x.g (n + 5) (.st (.ref 899)) [.take, .str (Str.ofString "covers")] k Q := by
  refine fn_cells (ps := [Str.ofString "take", Str.ofString "word"]) (by walk_at "m_is") (by walk_at "m_is") rfl ?_ (by decide) (by decide +kernel) (by decide) rfl rfl rfl ?_
  · intro vs hv s hK
    exact vs2 hv fun _ _ => BindsTo.of_eq rfl
  walk_at "m_evs"
  refine op_in_strs (ss := [Str.ofString "glyphs", Str.ofString "classes", Str.ofString "covers"]) ?_
  walk_at "m_evs"
  exact fn_lctx3 hT hk0 hk h
noncomputable def lawKinds : List Str := [Str.ofString "single", Str.ofString "multiple", Str.ofString "alternate", Str.ofString "ligature", Str.ofString "glyphs", Str.ofString "classes", Str.ofString "covers", Str.ofString "reverse"]
noncomputable def isCtx (w : Str) : Bool := [Str.ofString "glyphs", Str.ofString "classes", Str.ofString "covers"].any (· == w)
noncomputable def kindW (w : Str) : Str := if isCtx w = true then Str.ofString "context" else w
theorem fn_ltable {w : Str} (hw : w ∈ lawKinds) (hT : TkOk x) (hk0 : 0 ≤ k) (hk : k ≤ 250) (h : ∀ (t : MV) (firsts : List Int) (k' : Int), TableOk x (kindW w) t firsts → firsts.length ≤ 50 → k ≤ k' → k' ≤ k + 25 → Q (.tup [t, .lst (il firsts)]) k') :
    Fn x.g (n + 5) (.st (.ref 899)) [.take, .str w] k Q := by
  simp only [lawKinds, List.mem_cons, List.not_mem_nil, or_false] at hw
  rcases hw with rfl | rfl | rfl | rfl | rfl | rfl | rfl | rfl
  · rw [show kindW (Str.ofString "single") = Str.ofString "single" by decide] at h; exact fn_lt_single hT hk0 hk h
  · rw [show kindW (Str.ofString "multiple") = Str.ofString "multiple" by decide] at h; exact fn_lt_multiple hT hk0 hk h
  · rw [show kindW (Str.ofString "alternate") = Str.ofString "alternate" by decide] at h; exact fn_lt_alternate hT hk0 hk h
  · rw [show kindW (Str.ofString "ligature") = Str.ofString "ligature" by decide] at h; exact fn_lt_ligature hT hk0 hk h
  · rw [show kindW (Str.ofString "glyphs") = Str.ofString "context" by decide] at h; exact fn_lt_glyphs hT hk0 hk h
  · rw [show kindW (Str.ofString "classes") = Str.ofString "context" by decide] at h; exact fn_lt_classes hT hk0 hk h
  · rw [show kindW (Str.ofString "covers") = Str.ofString "context" by decide] at h; exact fn_lt_covers hT hk0 hk h
  · rw [show kindW (Str.ofString "reverse") = Str.ofString "reverse" by decide] at h; exact fn_lt_reverse hT hk0 hk h
structure Lk where
  kind : Str
  ps : List (MV × List Int)
  due : List Int
structure LkOk (x : GX) (l : Lk) : Prop where
  len : l.ps.length ≤ 10
  tab : ∀ p ∈ l.ps, TableOk x l.kind p.1 p.2
  ord : l.due.Pairwise (· < ·)
  mem : ∀ y, y ∈ l.due ↔ ∃ p ∈ l.ps, y ∈ p.2
noncomputable abbrev Lk.mv (l : Lk) : MV := lookM l.kind (l.ps.map (·.1))
noncomputable def lwParts (o : Option Obj) : Option (List Stmt × Scope) := match o with
  | some ⟨_, _, .func fd, _⟩ => (match fd.body with
    | .stmts (_ :: b) => some (b, fd.scope)
    | _ => none)
  | _ => none
theorem lw_eq {w : World} {oc : Value} {od : Option Addr} {osl : Array (Option Value)} {nm qual : Str} {params : Arguments} {body : List Stmt} {sc : Scope} {dV kV doc pm cdv ct : Value} {an : Option Addr} {R : Option (List Stmt × Scope)} (h : (hd.heap_39 w.params).lookup 904 = some ⟨oc, od, .func (fnOf nm qual params body sc dV kV doc pm an cdv ct), osl⟩) (hT : lwParts ((hd.heap_39 w.params).lookup 904) = R) : lwParts (some ⟨oc, od, .func (fnOf nm qual params body sc dV kV doc pm an cdv ct), osl⟩) = R := h ▸ hT
theorem kinds_at {value slice : Expr} {i : Int} (h0 : 0 ≤ i) (h8 : i < 8) (h : ∀ w ∈ lawKinds, Q (.str w) k)
    (hs : ∀ a b t, subscripted slice false (.ref a) (.int b t) = operate [.ref a, .int b t] (getItem (.ref a) (.int b t)) := by intro _ _ _; with_unfolding_all rfl) : Op2 x.g n (subscriptTail value slice) (.st (.ref 872)) (.int i) k Q := by
  have : i = 0 ∨ i = 1 ∨ i = 2 ∨ i = 3 ∨ i = 4 ∨ i = 5 ∨ i = 6 ∨ i = 7 := by omega
  rcases this with rfl | rfl | rfl | rfl | rfl | rfl | rfl | rfl
  all_goals exact sub_Ktup (by walk_at "m_is") rfl rfl (by decide) (by rfl) (by decide) (fun fz => .str _ _) (h _ (by decide)) hs
theorem flat_len {ps : List (MV × List Int)} {b : Nat} (h : ∀ p ∈ ps, p.2.length ≤ b) : (ps.flatMap (·.2)).length ≤ b * ps.length := by
  induction ps with
  | nil => simp
  | cons p r ih =>
    have h1 := h p (.head _)
    have h2 := ih fun q hq => h q (.tail _ hq)
    simp only [List.flatMap_cons, List.length_append, List.length_cons, Nat.mul_add, Nat.mul_one]
    omega
theorem flat_take_len {ps : List (MV × List Int)} {b i : Nat} (h : ∀ p ∈ ps, p.2.length ≤ b) (hl : ps.length ≤ 2) : ((ps.take i).flatMap (·.2)).length ≤ b * 2 := by
  refine Nat.le_trans (flat_len fun p hp => h p (List.mem_of_mem_take hp)) (Nat.mul_le_mul_left _ ?_)
  rw [List.length_take]; omega
theorem law_mask : MaskOk 199 243 (fun y c b => fs_InfoK (.int y) (.int c) (.int b)) fs_Buffer (Str.ofString "mask") (Str.ofString "row") where
  other y c b b' name h := by
    have : (name == Str.ofString "mask") = false := by simpa using h
    simp only [List.lookup_cons, this]
  atM y c b := by rfl
  sc y c b name m h := by
    have := lookup_mem h
    simp only [List.mem_cons, Prod.mk.injEq, List.not_mem_nil, or_false] at this
    rcases this with ⟨_, rfl⟩ | ⟨_, rfl⟩ | ⟨_, rfl⟩ | ⟨_, rfl⟩ | ⟨_, rfl⟩ | ⟨_, rfl⟩ | ⟨_, rfl⟩ | ⟨_, rfl⟩ | ⟨_, rfl⟩ | ⟨_, rfl⟩ | ⟨_, rfl⟩ | ⟨_, rfl⟩ | ⟨_, rfl⟩ | ⟨_, rfl⟩ | ⟨_, rfl⟩ <;> rfl
  noRow y c b := by rfl
  rowB m := by rfl
  otherB m m' name h := by
    have : (name == Str.ofString "row") = false := by simpa using h
    simp only [List.lookup_cons, this]
  scB m name m' h e := by
    have := lookup_mem e
    simp only [List.mem_cons, Prod.mk.injEq, List.not_mem_nil, or_false] at this
    rcases this with ⟨_, rfl⟩ | ⟨_, rfl⟩ | ⟨hq, _⟩
    · rfl
    · rfl
    · exact absurd hq h
theorem law_exs {sts : List Stmt} {sc : Scope} (hT : TkOk x) (hL : lwParts ((hd.heap_39 x.w.params).lookup 904) = some (sts, sc)) :
    Exs x.g (n + 12) sc sts [(Str.ofString "take", .take)] [] 0 (fun _ _ _ => False) (fun v _ => v = .bool true) := by
  have hL := lw_eq (w := x.w) (by k_is) hL
  simp only [lwParts, fnOf] at hL
  injection hL with hL
  injection hL with h1 h2
  subst h1; subst h2
  clear hL
  refine exs_cons (ex_NewList ?_ (by rfl) om_nil (by rfl))
  refine exs_cons (ex_NewList ?_ (by rfl) (om_cons (by decide) om_nil) (by rfl))
  refine exs_cons (ex_For (by rfl) ?_)
  walk_at "m_evs"
  refine fn_tk hT (by decide) (by decide) (by decide) fun v v0 v3 => ?_
  walk_at "m_evs"
  refine ⟨_, fun i σ ω k' => Sub [(Str.ofString "take", .take)] σ ∧ 1 ≤ k' ∧ k' ≤ 1 + 52 * i ∧ ∃ ls : List Lk, ω = [(Str.ofString "dues", .lst (ls.map fun l => .lst (il l.due))), (Str.ofString "lookups", .lst (ls.map Lk.mv))] ∧ ls.length = i ∧ ∀ l ∈ ls, LkOk x l, .rng _ _ (by omega) (by omega) (by omega) (by omega), ⟨.cons (by rfl) .nil, by omega, by omega, [], rfl, rfl, by simp⟩, ?_, ?_⟩
  · rintro i mi σ ω k' hi ⟨hsb, hq1, hq2, ls, rfl, hll, hls⟩
    obtain ⟨rfl, hib⟩ := rng_at hi
    refine ⟨om_cons (by decide) (om_cons (by decide) om_nil), ?_⟩
    refine exs_sub hsb.over ?_
    walk_at "m_evs"
    refine fn_tk hT (by decide) (by omega) (by omega) fun u u0 u8 => ?_
    refine kinds_at u0 u8 fun w hw => ?_
    walk_at "m_evs"
    refine ex_AssignComp (σf := [(Str.ofString "take", .take), (Str.ofString "word", .str w)]) (.of rfl (by decide) (.cons (by rfl) (by rfl) (.cons (by rfl) (by rfl) .nil))) ?_ (.inl rfl) (by rfl) (om_cons (by decide) (om_cons (by decide) om_nil)) (by intro env he; simp only [swapsWith, Env.blockKind, Env.kindOf, he]; rfl)
    walk_at "m_evs"
    refine fn_tk hT (by decide) (by omega) (by omega) fun u1 u10 u12 => ?_
    walk_at "m_evs"
    refine ⟨_, fun j acc k'' => k' + 2 ≤ k'' ∧ k'' ≤ k' + 2 + 25 * j ∧ ∃ ps : List (MV × List Int), acc = ps.map (fun p => .tup [p.1, .lst (il p.2)]) ∧ ps.length = j ∧ ∀ p ∈ ps, TableOk x (kindW w) p.1 p.2 ∧ p.2.length ≤ 50, .rng _ _ (by omega) (by omega) (by omega) (by omega), by rw [rng_len]; omega, ⟨by omega, by omega, [], rfl, rfl, by simp⟩, ?_, ?_⟩
    · rintro j mj acc k'' hj ⟨hr1, hr2, ps, rfl, hpl, hps⟩
      obtain ⟨rfl, hjb⟩ := rng_at hj
      refine ⟨_, .name _ _ (by rfl), ?_⟩
      walk_at "m_evs"
      refine fn_le (n := n + 5) (by omega) (fn_ltable hw hT (by omega) (by omega) fun t firsts k2 ht hf hk1 hk2 => ?_)
      refine ⟨by omega, by push_cast; omega, ps ++ [(t, firsts)], by simp, by simp [hpl], fun p hp => ?_⟩
      rcases List.mem_append.mp hp with q | q
      · exact hps p q
      · rw [List.mem_singleton] at q; subst q; exact ⟨ht, hf⟩
    rintro acc k2 ⟨hr1, hr2, ps, rfl, hpl, hps⟩
    rw [rng_len] at hpl hr2
    refine exs_cons (ex_Assign (Ev.mono (Q := fun v k' => v = .str (kindW w) ∧ k' = k2) ?_ fun v k3 hv => ?_) (by rfl) (om_cons (by decide) (om_cons (by decide) om_nil)))
    · walk_at "m_evs"
      refine op_in_strs (ss := [Str.ofString "glyphs", Str.ofString "classes", Str.ofString "covers"]) ?_
      walk_at "m_evs"
      refine ite_b (fun hb => ?_) (fun hb => ?_)
      · walk_at "m_evs"
        exact ⟨by rw [kindW, isCtx, hb]; rfl, rfl⟩
      · walk_at "m_evs"
        exact ⟨by rw [kindW, isCtx, hb]; rfl, rfl⟩
    obtain ⟨rfl, rfl⟩ := hv
    have hpl2 : ps.length ≤ 2 := by omega
    refine exs_cons (ex_Append (by rfl) (by rfl) (by simp; omega) (by rfl) ?_)
    walk_at "m_evs"
    refine ev_ListComp (σf := []) (.of rfl (by decide) .nil) ?_ (.inl rfl)
    walk_at "m_evs"
    refine ⟨_, fun i acc k' => k' = k3 ∧ acc = (ps.take i).map (·.1), .lst _, by simp; omega, ⟨rfl, rfl⟩, ?_, ?_⟩
    · rintro j mj acc k4 hj ⟨rfl, rfl⟩
      obtain ⟨p, hp, rfl⟩ : ∃ p, ps[j]? = some p ∧ mj = .tup [p.1, .lst (il p.2)] := by
        rw [List.getElem?_map] at hj
        cases q : ps[j]? with
        | none => rw [q] at hj; cases hj
        | some p => rw [q] at hj; cases hj; exact ⟨p, rfl, rfl⟩
      refine ⟨_, .pair _ _ _ _ _ _ (by rfl) (by rfl), ?_⟩
      walk_at "m_evs"
      exact ⟨rfl, by rw [take_snoc hp]; simp⟩
    rintro acc k4 ⟨rfl, rfl⟩
    rw [show (ps.map fun p => MV.tup [p.1, .lst (il p.2)]).length = ps.length by simp, List.take_length]
    walk_at "m_evs"
    refine fn_Lookup ?_
    refine exs_cons (ex_Append (by rfl) (by rfl) (by simp; omega) (by rfl) ?_)
    walk_at "m_evs"
    refine ev_ListComp2 (σf := []) (.of rfl (by decide) .nil) ?_
    walk_at "m_evs"
    refine ⟨_, fun i acc k' => k' = k4 ∧ acc = il ((ps.take i).flatMap (·.2)), .lst _, ⟨rfl, rfl⟩, ?_, ?_, ?_⟩
    · rintro i acc k' ⟨rfl, rfl⟩
      have := flat_take_len (i := i) (fun p hp => (hps p hp).2) hpl2
      simp only [List.length_map]; omega
    · rintro j mj acc k5 hj ⟨rfl, rfl⟩
      obtain ⟨p, hp, rfl⟩ : ∃ p, ps[j]? = some p ∧ mj = .tup [p.1, .lst (il p.2)] := by
        rw [List.getElem?_map] at hj
        cases q : ps[j]? with
        | none => rw [q] at hj; cases hj
        | some p => rw [q] at hj; cases hj; exact ⟨p, rfl, rfl⟩
      have hpb := (hps p (List.mem_of_getElem? hp)).2
      have hfl := flat_take_len (i := j) (fun p hp => (hps p hp).2) hpl2
      refine ⟨_, .pair _ _ _ _ _ _ (by rfl) (by rfl), ?_⟩
      walk_at "m_evs"
      refine ⟨_, fun j' acc k'' => k'' = k5 ∧ acc = il ((ps.take j).flatMap (·.2) ++ p.2.take j'), .lst _, ⟨rfl, by simp⟩, ?_, ?_, ?_⟩
      · rintro j' acc k'' ⟨rfl, rfl⟩
        simp only [List.length_map, List.length_append, List.length_take]; omega
      · rintro j' mj' acc k'' hj' ⟨rfl, rfl⟩
        obtain ⟨y, hy, rfl⟩ := il_at hj'
        refine ⟨_, .name _ _ (by rfl), ?_, ?_⟩
        · intro z u e
          rw [List.lookup_cons] at e ⊢
          cases hz : z == Str.ofString "glyph" with
          | false => rfl
          | true => rw [eq_of_beq hz] at e; exact nomatch (show (none : Option MV) = some u from e)
        · walk_at "m_evs"
          exact ⟨rfl, by rw [take_snoc hy]; simp [il]⟩
      · rintro acc k'' ⟨rfl, rfl⟩
        exact ⟨rfl, by rw [take_snoc hp]; simp [il]⟩
    rintro acc k5 ⟨rfl, rfl⟩
    rw [show (ps.map fun p => MV.tup [p.1, .lst (il p.2)]).length = ps.length by simp, List.take_length]
    have h7 : ∀ y ∈ ps.flatMap (·.2), y ∈ seven := fun y hy => by
      obtain ⟨p, hp, hpy⟩ := List.mem_flatMap.mp hy
      exact (hps p hp).1.sv y hpy
    refine fn_set_lst h7 ?_
    walk_at "m_evs"
    refine ⟨.cons (by rfl) .nil, by omega, by push_cast; omega, ls ++ [⟨kindW w, ps, insAll (ps.flatMap (·.2)) []⟩], ?_, by simp [hll], fun l hl => ?_⟩
    · simp
      rfl
    · rcases List.mem_append.mp hl with q | q
      · exact hls l q
      · rw [List.mem_singleton] at q; subst q
        exact ⟨by dsimp only; omega, fun p hp => (hps p hp).1, insAll_strict h7, fun y => by rw [insAll_mem, List.mem_flatMap]⟩
  rintro σ ω k1 ⟨hsb, hq1, hq2, ls, rfl, hll, hls⟩
  rw [rng_len] at hll hq2
  have hl3 : ls.length ≤ 3 := by omega
  refine exs_sub hsb ?_
  refine exs_freeze (x := Str.ofString "dues") (by rfl) (by rfl) ?_
  refine exs_freeze (x := Str.ofString "lookups") (by rfl) (by rfl) ?_
  show Exs _ _ _ _ [(Str.ofString "lookups", .lst (ls.map Lk.mv)), (Str.ofString "dues", .lst (ls.map fun l => .lst (il l.due))), (Str.ofString "take", .take)] [] _ _ _
  walk_at "m_evs"
  refine ev_ListComp (σf := []) (.of rfl (by decide) .nil) ?_ (.inl rfl)
  walk_at "m_evs"
  refine ⟨_, fun i acc k' => k' = k1 ∧ acc = (ls.take i).map fun l => .lst (il l.due), .lst _, by simp; omega, ⟨rfl, rfl⟩, ?_, ?_⟩
  · rintro j mj acc k4 hj ⟨rfl, rfl⟩
    obtain ⟨l, hl, rfl⟩ : ∃ l, ls[j]? = some l ∧ mj = l.mv := by
      rw [List.getElem?_map] at hj
      cases q : ls[j]? with
      | none => rw [q] at hj; cases hj
      | some p => rw [q] at hj; cases hj; exact ⟨p, rfl, rfl⟩
    have hok := hls l (List.mem_of_getElem? hl)
    refine ⟨_, .name _ _ (by rfl), ?_⟩
    walk_at "m_evs"
    refine fn_le (n := n + 7) (by omega) (fn_starters hok.len (fun p hp => (hok.tab p hp).st) (fun p hp => (hok.tab p hp).sv) fun ns h1 h2 => ?_)
    have : ns = l.due := strict_ext h1 hok.ord fun y => by rw [h2, hok.mem]
    exact ⟨rfl, by rw [take_snoc hl, this]; simp⟩
  rintro acc k2 ⟨rfl, rfl⟩
  rw [show (ls.map Lk.mv).length = ls.length by simp, List.take_length]
  walk_at "m_evs"
  rw [show (ls.map fun l => MV.lst (il l.due)) = (ls.map Lk.due).map (fun l => .lst (l.map .int)) by simp [il]]
  refine op_ne_intss ?_
  rw [decide_eq_true rfl]
  walk_at "m_evs"
  refine ex_AssignC ?_ (by rfl) (by intro env he; simp only [swapsWith, Env.blockKind, Env.kindOf, he]; rfl)
  refine ev_ListComp (σf := [(Str.ofString "take", .take)]) (.of rfl (by decide) (.cons (by rfl) (by rfl) .nil)) ?_ (.inl rfl)
  walk_at "m_evs"
  refine fn_tk hT (by decide) (by omega) (by omega) fun u0 u00 u05 => ?_
  walk_at "m_evs"
  refine ⟨_, fun i acc k' => k' = k2 + 1 + i ∧ ∃ ns : List Int, acc = il ns ∧ ns.length = i, .rng _ _ (by omega) (by omega) (by omega) (by omega), by rw [rng_len]; omega, ⟨by simp, [], rfl, rfl⟩, ?_, ?_⟩
  · rintro i mi acc k' hi ⟨rfl, ns, rfl, hl⟩
    obtain ⟨rfl, hib⟩ := rng_at hi
    refine ⟨_, .name _ _ (by rfl), ?_⟩
    walk_at "m_evs"
    refine fn_tk hT (by decide) (by omega) (by omega) fun u u0 u6 => ?_
    walk_at "m_evs"
    exact ⟨by push_cast; omega, ns ++ [1 + u], by simp, by simp [hl]⟩
  rintro acc k3 ⟨hk3, ys, rfl, hyl⟩
  rw [rng_len] at hyl
  have hy5 : ys.length ≤ 5 := by omega
  clear hk3
  refine exs_cons (ex_For (by rfl) ?_)
  walk_at "m_evs"
  have hdl : ∀ {j : Nat} {l : Lk}, ls[j]? = some l → ((ls.map Lk.due).map fun l => MV.lst (l.map MV.int))[j]? = some (.lst (il l.due)) := fun h => by simp [h]
  have hlk : ∀ {j : Nat} {l : Lk}, ls[j]? = some l → (ls.map Lk.mv)[j]? = some l.mv := fun h => by simp [h]
  have hdn : ((ls.map Lk.due).map fun l => MV.lst (l.map MV.int)).length = ls.length := by simp
  have hln : (ls.map Lk.mv).length = ls.length := by simp
  generalize hD : ((ls.map Lk.due).map fun l => MV.lst (l.map MV.int)) = dv at hdl hdn
  generalize hK : ls.map Lk.mv = lv at hlk hln
  refine ⟨_, fun i σ ω k' => Sub [(Str.ofString "row", .lst (il ys)), (Str.ofString "lookups", .lst lv), (Str.ofString "dues", .lst dv)] σ ∧ ω = [] ∧ k' = k3, .rng _ _ (by omega) (by omega) (by omega) (by omega), ⟨.cons (by rfl) (.cons (by rfl) (.cons (by rfl) .nil)), rfl, rfl⟩, ?_, ?_⟩
  · rintro i mi σ ω k' hi ⟨hsb, rfl, rfl⟩
    obtain ⟨rfl, hib⟩ := rng_at hi
    have hi3 : i < ls.length := by omega
    have hl := List.getElem?_eq_getElem hi3
    generalize ls[i] = l at hl
    have hok := hls l (List.mem_of_getElem? hl)
    refine ⟨om_nil, ?_⟩
    refine exs_sub hsb.over ?_
    refine exs_cons (ex_For (by rfl) ?_)
    walk_at "m_evs"
    refine ⟨_, fun i' σ ω k'' => Sub [(Str.ofString "number", .int (0 + i)), (Str.ofString "row", .lst (il ys)), (Str.ofString "lookups", .lst lv), (Str.ofString "dues", .lst dv)] σ ∧ ω = [] ∧ k'' = k', .rng _ _ (by omega) (by omega) (by simp <;> omega) (by simp <;> omega), ⟨.refl, rfl, rfl⟩, ?_, ?_⟩
    · rintro j mj σ ω k'' hj ⟨hsb, rfl, rfl⟩
      obtain ⟨rfl, hjb⟩ := rng_at hj
      have hj5 : j < ys.length := by simpa using hjb
      have hy := List.getElem?_eq_getElem hj5
      generalize ys[j] = y at hy
      refine ⟨om_nil, ?_⟩
      refine exs_sub hsb.over ?_
      walk_at "m_evs"
      refine sub_lst (mi := .int y) (by omega) (by simp [hy]) ?_ (by simp; omega)
      walk_at "m_evs"
      refine sub_lst (mi := .lst (il l.due)) (by omega) (by simpa using hdl hl) ?_ (by omega)
      walk_at "m_evs"
      refine op_notin_ints ?_
      walk_at "m_evs"
      have hnot : (!l.due.any fun x => x == y) = true → ∀ p ∈ l.ps, y ∉ p.2 := fun hb p hp hyp => by
        have : y ∈ l.due := (hok.mem y).mpr ⟨p, hp, hyp⟩
        rw [Bool.not_eq_true', List.any_eq_false] at hb
        exact hb y this (by simp)
      refine ite_b (fun hb => ?_) (fun hb => ?_)
      · refine exs_mask (rowN := Str.ofString "row") (ys := ys) law_mask (by walk_at "m_put") (by rfl) (by rfl) (by rfl) (by decide) (by rfl) (by rfl) ?_ (fun ms => ?_) fun infos hil hin => ?_
        · walk_at "m_evs"
          refine ev_ListComp (σf := [(Str.ofString "row", .lst (il ys))]) (.of rfl (by decide) (.cons (by rfl) (by rfl) .nil)) ?_ (.inl rfl)
          walk_at "m_evs"
          refine ⟨_, fun i acc k' => k' = k'' ∧ ∃ ps : List (Int × Int), ps.map (·.1) = ys.take i ∧ acc = ps.map fun p => .obj 199 (fs_InfoK (.int p.1) (.int p.2) (.int 0)), .rng _ _ (by omega) (by omega) (by simp <;> omega) (by simp <;> omega), by rw [rng_len]; simp <;> omega, ⟨rfl, [], rfl, rfl⟩, ?_, ?_⟩
          · rintro i' mi' acc k' hi' ⟨rfl, ps, hps, rfl⟩
            obtain ⟨rfl, hib'⟩ := rng_at hi'
            have hi5 : i' < ys.length := by simpa using hib'
            have hy' := List.getElem?_eq_getElem hi5
            generalize ys[i'] = y' at hy'
            refine ⟨_, .name _ _ (by rfl), ?_⟩
            walk_at "m_evs"
            refine sub_lst (mi := .int y') (by omega) (by simp [hy']) ?_ (by simp; omega)
            walk_at "m_evs"
            refine fn_Info ?_
            exact ⟨rfl, ps ++ [(y', 0 + (i' : Int))], by rw [List.map_append, hps, take_snoc hy']; rfl, by simp⟩
          · rintro acc k' ⟨rfl, ps, hps, rfl⟩
            rw [rng_len, show ((((il ys).length : Nat) : Int) - 0).toNat = ys.length by simp, List.take_length] at hps
            walk_at "m_evs"
            refine fn_BufferD ?_
            exact ⟨rfl, ps, hps, rfl⟩
        · walk_at "m_evs"
          exact ⟨rfl, rfl⟩
        · walk_at "m_evs"
          refine fn_le (n := n + 2) (by omega) (fn_no_gdef fun gd => ?_)
          walk_at "m_evs"
          refine sub_lst (mi := l.mv) (by omega) (by simpa using hlk hl) ?_ (by omega)
          walk_at "m_evs"
          refine fn_SceneD ?_
          walk_at "m_evs"
          obtain ⟨m0, hm0⟩ : ∃ m0, infos[j]? = some m0 := ⟨_, List.getElem?_eq_getElem (by omega)⟩
          obtain ⟨y0, c0, b0, hy0, rfl⟩ := hin j m0 hm0
          rw [hy] at hy0
          cases hy0
          rw [show (0 : Int) + (j : Int) = (j : Int) by omega]
          refine fn_le (n := n + 9) (by omega) (fn_substitute_at hok.len (fun p hp => (hok.tab p hp).ap) hm0 (by omega) (hnot hb) ?_)
          walk_at "m_evs"
          refine fn_le (n := n + 1) (by omega) (fn_glyphs (ys := ys) ⟨hil, fun i m h => let ⟨y, c, b, h1, h2⟩ := hin i m h; ⟨y, _, b, h1, h2⟩⟩ (by omega) ?_)
          walk_at "m_evs"
          refine op_ne_ints ?_
          rw [decide_eq_true rfl]
          walk_at "m_evs"
          exact ⟨.cons (by rfl) (.cons (by rfl) (.cons (by rfl) (.cons (by rfl) .nil))), rfl, rfl⟩
      · walk_at "m_evs"
        exact ⟨.cons (by rfl) (.cons (by rfl) (.cons (by rfl) (.cons (by rfl) .nil))), rfl, rfl⟩
    · rintro σ ω k'' ⟨hsb, rfl, rfl⟩
      walk_at "m_evs"
      exact ⟨.cons (hsb _ _ (by rfl)) (.cons (hsb _ _ (by rfl)) (.cons (hsb _ _ (by rfl)) .nil)), rfl, rfl⟩
  · rintro σ ω k' ⟨hsb, rfl, rfl⟩
    walk_at "m_evs"
    rfl
theorem out1 {l : Led} {q : Addr × Obj} (h : q ∈ l) : ∃ r, l.Perm (q :: r) ∧ ∀ z, z ∈ l → z.1 ≠ q.1 → z ∈ r := by
  obtain ⟨pre, post, rfl⟩ := List.append_of_mem h
  refine ⟨pre ++ post, List.perm_middle, fun z hz hne => ?_⟩
  simp only [List.mem_append, List.mem_cons] at hz ⊢
  rcases hz with w | w | w
  · exact .inl w
  · exact absurd (by rw [w]) hne
  · exact .inr w
theorem lw_of {w : World} {oc : Value} {od : Option Addr} {osl : Array (Option Value)} {nm qual : Str} {params : Arguments} {s1 : Stmt} {sts : List Stmt} {sc : Scope} {dV kV doc pm cdv ct : Value} {an : Option Addr} (h : (hd.heap_39 w.params).lookup 904 = some ⟨oc, od, .func (fnOf nm qual params (s1 :: sts) sc dV kV doc pm an cdv ct), osl⟩) : lwParts ((hd.heap_39 w.params).lookup 904) = some (sts, sc) := by
  rw [h]; rfl
theorem tk_of {w : World} {oc : Value} {od : Option Addr} {osl : Array (Option Value)} {nm qual : Str} {params : Arguments} {body : List Stmt} {sc : Scope} {dV kV doc pm cdv ct : Value} {an : Option Addr} {R : Option (Arguments × List Stmt × Scope)} (h : (hd.heap_39 w.params).lookup 879 = some ⟨oc, od, .func (fnOf nm qual params body sc dV kV doc pm an cdv ct), osl⟩) (hR : tkParts (some ⟨oc, od, .func (fnOf nm qual params body sc dV kV doc pm an cdv ct), osl⟩) = R) : tkParts ((hd.heap_39 w.params).lookup 879) = R := by
  rw [h]; exact hR
noncomputable def scOk (sc : Scope) : Bool := sc.names.all fun p => (p.2 != .cell || p.1 == Str.ofString "take" || p.1 == Str.ofString "word" || p.1 == Str.ofString "row") && p.2 != .free
theorem scOk_cell {sc : Scope} (h : scOk sc = true) {x : Str} (hx : sc.names.lookup x = some .cell) : x = Str.ofString "take" ∨ x = Str.ofString "word" ∨ x = Str.ofString "row" := by
  have := List.all_eq_true.mp h _ (lookup_mem hx)
  simp only [Bool.and_eq_true, Bool.or_eq_true, beq_iff_eq] at this
  rcases this.1 with ((q | q) | q) | q
  · exact absurd q (by decide)
  · exact .inl q
  · exact .inr (.inl q)
  · exact .inr (.inr q)
theorem scOk_free {sc : Scope} (h : scOk sc = true) {x : Str} (hx : sc.names.lookup x = some .free) : False := by
  have := List.all_eq_true.mp h _ (lookup_mem hx)
  simp only [Bool.and_eq_true] at this
  exact absurd this.2 (by decide)
theorem law_join {w : World} {p : Program} {loose : List Str} {mean : ExcName → Option Value} {mg mb : Str → Option Value} {pl : Addr} {tkQual : Str} {tkParams : Arguments} {tkBody : List Stmt} {tkScope : Scope}
    {sts : List Stmt} {sc : Scope} {A : Around} {h₀ : Heap} {L : Addr} {m : Str → Option Value} {news : Led} {env : Env} {s : Shared} {Q : Flow → Shared → Prop} {E : Value → Shared → Prop}
    {tf c' a1 a2 lc ctk cwd crw tb : Addr} {clos : List (Str × Addr)} {doc pm ct' : Value} {oc o1 o2 otk owd orw : Obj} {vs ps : Array Value} {t t0 : Tok} {nc : Nat} {us : List Value} {ns : List Int} {v1 v2 : Option Value} {A₀ : Around} {base : Heap} {outer : List Env}
    (F : Fr h₀ L s.heap m) (N : News h₀ L s.heap news)
    (i4 : (tf, fnMade (Str.ofString "take") tkQual tkParams tkBody tkScope clos doc pm c' ct') ∈ news)
    (B : Below A₀ base outer h₀) (hA : A.frames = some (env :: outer)) (kin : (hd.heap_39 w.params).In h₀) (top : Top p loose mean mg mb h₀)
    (i5 : (c', oc) ∈ news) (i5' : oc.data = .fields vs) (i5'' : vs[1]? = some (.str tkQual t))
    (i6 : clos.lookup (Str.ofString "cells") = some a1) (i7 : clos.lookup (Str.ofString "place") = some a2) (i8 : (a1, o1) ∈ news) (i8' : o1.data = .cell (some (.ref lc))) (i9 : (a2, o2) ∈ news) (i9' : o2.data = .cell (some (.ref pl)))
    (i10 : (lc, listOf us.toArray nc) ∈ news) (i11 : IntsAre us ns) (i12 : 1 ≤ ns.length) (i13 : ns.length ≤ 63) (i14 : (pl, listOf #[.int 0 t0] 0) ∈ news)
    (e1 : env.scope = sc) (e2 : env.globals = mainGlobals) (e3 : env.builtins = builtinsNs) (e4 : env.locals = L) (e5 : env.frame = some L) (e6 : env.cells = [(Str.ofString "row", crw), (Str.ofString "word", cwd), (Str.ofString "take", ctk)])
    (i1 : (ctk, otk) ∈ news) (i1' : otk.data = .cell (some (.ref tf))) (i2 : (cwd, owd) ∈ news) (i2' : owd.data = .cell v1) (i3 : (crw, orw) ∈ news) (i3' : orw.data = .cell v2) (i15 : (tb, tabObj ps) ∈ news)
    (s1 : sc.kind = .function) (s2 : scOk sc = true) (s3 : sc.names.lookup (Str.ofString "take") = some .cell)
    (hh : A.handled = none) (hroom : A.depth + 26 < recursionLimit) (hun : A.units + 244 < cLine)
    (hT : tkParts ((hd.heap_39 w.params).lookup 879) = some (tkParams, tkBody, tkScope))
    (hL : lwParts ((hd.heap_39 w.params).lookup 904) = some (sts, sc))
    (nd : (news.map (·.1)).Nodup) (ne : ∀ a ∈ [tf, c', a1, a2, lc, tb], a ≠ pl ∧ a ≠ ctk ∧ a ≠ cwd ∧ a ≠ crw) (ne2 : ctk ≠ pl ∧ cwd ≠ pl ∧ crw ≠ pl ∧ cwd ≠ ctk ∧ crw ≠ ctk ∧ crw ≠ cwd)
    (hQ : ∀ h' tk m', Fr h₀ L h' m' → News h₀ L h' [(tb, tabObj ps)] → Q (.ret (.bool true)) { s with heap := h', toks := tk }) :
    wpAny (model PySem.Challenge.rw_nu0204_01.row.prog w) A (execs sts env) Q E s := by
  let x : GX := ⟨w, p, loose, mean, mg, mb, pl, tkQual, tkParams, tkBody, tkScope⟩
  obtain ⟨r1, p1, k1⟩ := out1 i14
  obtain ⟨n1, n2, n3, n4, n5, n6⟩ := ne2
  obtain ⟨r2, p2, k2⟩ := out1 (k1 _ i1 n1)
  obtain ⟨r3, p3, k3⟩ := out1 (k2 _ (k1 _ i2 n2) n4)
  obtain ⟨r4, p4, k4⟩ := out1 (k3 _ (k2 _ (k1 _ i3 n3) n5) n6)
  have hp : news.Perm ((pl, listOf #[.int 0 t0] 0) :: (ctk, otk) :: (cwd, owd) :: (crw, orw) :: r4) := p1.trans ((p2.trans ((p3.trans (p4.cons _)).cons _)).cons _)
  have S0 : St h₀ L m news s.heap := ⟨F, N, nd⟩
  have inR : ∀ a o, (a, o) ∈ news → a ∈ [tf, c', a1, a2, lc, tb] → (a, o) ∈ r4 := fun a o h1 h2 => by
    obtain ⟨q1, q2, q3, q4⟩ := ne a h2
    exact k4 _ (k3 _ (k2 _ (k1 _ h1 q1) q2) q3) q4
  have S1 : Sta x.g h₀ L m ([] ++ ([(ctk, otk), (cwd, owd), (crw, orw)] ++ [])) 0 r4 s.heap := ⟨t0, S0.perm hp⟩
  have Rt : Rep x.g r4 (.ref tf) .take := .take tf ⟨clos, doc, pm, c', ct', oc, vs, t, a1, a2, o1, o2, lc, nc, us, ns, inR _ _ i4 (by simp), inR _ _ i5 (by simp), i5', i5'', i6, i7, inR _ _ i8 (by simp), i8', inR _ _ i9 (by simp), i9', inR _ _ i10 (by simp), i11, i12, i13⟩
  have ctkl : env.cells.lookup (Str.ofString "take") = some ctk := by rw [e6]; rfl
  have cwdl : env.cells.lookup (Str.ofString "word") = some cwd := by rw [e6]; rfl
  have crwl : env.cells.lookup (Str.ofString "row") = some crw := by rw [e6]; rfl
  have V : VarsF x.g env sc [(Str.ofString "take", .take)] L m [(ctk, otk), (cwd, owd), (crw, orw)] r4 := by
    refine ⟨e1, s1, e2, e3, e4, fun y v e q => ?_, fun y q => ?_, fun y v e q => ?_⟩
    · rw [List.lookup_cons] at e
      cases hy : y == Str.ofString "take" with
      | true => rw [eq_of_beq hy, s3] at q; cases q
      | false => rw [hy] at e; cases e
    · rcases q with q | q
      · rcases scOk_cell s2 q with rfl | rfl | rfl
        · exact ⟨_, ctkl⟩
        · exact ⟨_, cwdl⟩
        · exact ⟨_, crwl⟩
      · exact (scOk_free s2 q).elim
    · rw [List.lookup_cons] at e
      cases hy : y == Str.ofString "take" with
      | true =>
        rw [hy] at e; cases e
        exact ⟨ctk, otk, _, by rw [eq_of_beq hy]; exact ctkl, .inl (.head _), i1', Rt⟩
      | false => rw [hy] at e; cases e
  have C : Cel env sc [(ctk, otk), (cwd, owd), (crw, orw)] := by
    refine ⟨fun y q => ?_, fun y z c q a b => ?_⟩
    · rcases scOk_cell s2 q with rfl | rfl | rfl
      · exact ⟨_, _, _, ctkl, .head _, i1'⟩
      · exact ⟨_, _, _, cwdl, .tail _ (.head _), i2'⟩
      · exact ⟨_, _, _, crwl, .tail _ (.tail _ (.head _)), i3'⟩
    · rw [e6, List.lookup_cons, List.lookup_cons, List.lookup_cons] at a
      rcases scOk_cell s2 q with rfl | rfl | rfl
      · rw [ctkl] at b; cases b
        cases h1 : y == Str.ofString "row" with
        | true => rw [h1] at a; cases a; exact absurd rfl n5
        | false =>
          cases h2 : y == Str.ofString "word" with
          | true => rw [h1, h2] at a; cases a; exact absurd rfl n4
          | false =>
            cases h3 : y == Str.ofString "take" with
            | true => exact eq_of_beq h3
            | false => rw [h1, h2, h3] at a; cases a
      · rw [cwdl] at b; cases b
        cases h1 : y == Str.ofString "row" with
        | true => rw [h1] at a; cases a; exact absurd rfl n6
        | false =>
          cases h2 : y == Str.ofString "word" with
          | true => exact eq_of_beq h2
          | false =>
            cases h3 : y == Str.ofString "take" with
            | true => rw [h1, h2, h3] at a; cases a; exact absurd rfl n4
            | false => rw [h1, h2, h3] at a; cases a
      · rw [crwl] at b; cases b
        cases h1 : y == Str.ofString "row" with
        | true => exact eq_of_beq h1
        | false =>
          cases h2 : y == Str.ofString "word" with
          | true => rw [h1, h2] at a; cases a; exact absurd rfl n6
          | false =>
            cases h3 : y == Str.ofString "take" with
            | true => rw [h1, h2, h3] at a; cases a; exact absurd rfl n5
            | false => rw [h1, h2, h3] at a; cases a
  have O : Ok x.g 12 A env h₀ L := ⟨⟨_, _, _, B, hA⟩, e5, by rw [e1]; exact s1, kin, top, hh, by omega, by omega⟩
  have SF : Sf x.g env sc h₀ L [] r4 [(Str.ofString "take", .take)] [] 0 s.heap := ⟨m, [(ctk, otk), (cwd, owd), (crw, orw)], [], r4, S1, fun _ h => h, V, rfl, C⟩
  refine wpAny_mono (law_exs (x := x) (n := 0) hT hL A h₀ L [] r4 env s E O SF) (fun fl s' ⟨h', tk, e, y⟩ => ?_) fun _ _ x => x
  subst e
  cases fl with
  | next => obtain ⟨_, _, _, q, _⟩ := y; exact q.elim
  | ret v =>
    obtain ⟨mv, k, rfl, m', cs, fz, S', hz, R'⟩ := y
    cases R'
    exact hQ h' tk m' S'.fr fun q hq => by
      rw [List.mem_singleton] at hq; subst hq
      exact S'.nwF _ (hz _ (inR _ _ i15 (by simp)))
  | brk => exact y.elim
  | cont => exact y.elim
noncomputable def Desc : List Nat → Prop
  | [] => True
  | [_] => True
  | a :: b :: r => b < a ∧ Desc (b :: r)
theorem Desc.lt : ∀ {a : Nat} {l : List Nat}, Desc (a :: l) → ∀ b ∈ l, b < a
  | _, [], _, b, hb => nomatch hb
  | a, c :: r, h, b, hb => by
    rcases List.mem_cons.mp hb with rfl | hb
    · exact h.1
    · exact Nat.lt_trans (Desc.lt h.2 b hb) h.1
theorem Desc.nodup : ∀ {l : List Nat}, Desc l → l.Nodup
  | [], _ => List.nodup_nil
  | [_], _ => by simp
  | a :: b :: r, h => List.nodup_cons.mpr ⟨fun hm => Nat.lt_irrefl _ (Desc.lt h a hm), Desc.nodup h.2⟩
theorem law_room {env : Env} : (callerA.deeper env).depth + 26 < recursionLimit := by
  show callerA.depth + 1 + 26 < recursionLimit; decide +kernel
theorem law_units {env : Env} : (callerA.deeper env).units + 244 < cLine := by
  show callerA.units + _ + 244 < cLine; decide +kernel
theorem len_pos {l : List Int} (h : decide (l = []) = false) : 1 ≤ l.length := by
  cases l with
  | nil => cases h
  | cons a r => simp
end Mine
end
section
set_option maxRecDepth 100000
set_option maxHeartbeats 8000000
namespace Mine
theorem well : PySem.Challenge.rw_nu0204_01.wellSaid = true := by
  rewrite [Fast.te9446332074065402090]
  unfold Fast.tw9446332074065402090
  repeat' (first | (with_reducible refine look_both ?_ ?_) | unfold Fast.tw17960256430627541270 | unfold Fast.tw2436336058641802641 | unfold Fast.tw9825065953147845992 | unfold Fast.tw12908688711261696721)
  all_goals decide +kernel
theorem wit : PySem.Challenge.rw_nu0204_01.row.toRowW.promised := by w_witness2
end Mine
namespace Mine
noncomputable def Stop (p : Prop) : Prop := p
theorem stop_of {p : Prop} (h : Stop p) : p := h
theorem go_on {p : Prop} (h : p) : Stop p := h
end Mine
local macro_rules | `(tactic| walk_at "execs cons Assign cons") => `(tactic| ((with_reducible show wpAny _ _ (execs (Stmt.Assign _ (Expr.List [] _) _ :: _) _) _ _ _); refine Mine.stop_of ?_))
theorem Mine.final : PySem.Challenge.rw_nu0204_01.Holds := by
  refine holds_law Mine.well fun said => ?_
  refine holds_open (q := Mine.vw) (loose := []) (Xt := Mine.XT) (XP := XL Mine.vw []) (Yf := Hook.obs (kmHook Mine.hd.heap_39 Mine.Kas (fun _ => by kernel_rfl) [874])) (Ya := Hook.val (kmHook Mine.hd.heap_39 Mine.Kas (fun _ => by kernel_rfl) [874])) (YP := Hook.says (kmHook Mine.hd.heap_39 Mine.Kas (fun _ => by kernel_rfl) [874])) (N := 12938) Mine.left (Hook.of _) (Hook.keeps _) (fun s e => xl_of s (Bool.and_eq_true_iff.mp e).1) XL.keeps (by rfl) (by rfl) (by rfl) (fun s e => recFacts_of (Bool.and_eq_true_iff.mp e).2) (by rfl) said (by decide +kernel) ⟨rfl, rfl, rfl, rfl, rfl, by decide +kernel⟩ Mine.wit ?hc
  k_go0
  all_goals (try k_fold)
  k_steps
  · refine Mine.go_on ?_
    refine' Mine.law_join ?jF ?jN ?j4 ?jB ?jA ?jk ?jt ?j5 ?j5' ?j5'' ?j6 ?j7 ?j8 ?j8' ?j9 ?j9' ?j10 ?j11 ?j12 ?j13 ?j14 ?je1 ?je2 ?je3 ?je4 ?je5 ?je6 ?j1 ?j1' ?j2 ?j2' ?j3 ?j3' ?j15 ?js1 ?js2 ?js3 ?jh ?jr ?ju ?jT ?jL ?jn ?jne ?jne2 ?jQ
    (case jF => k_asm)
    (case jN => k_asm)
    (case j4 => k_dflt (exact List.Mem.head _))
    (case jL => k_dflt (exact Mine.lw_of (by k_is)))
    (case jB => k_asm)
    (case jA => k_dflt (exact Around.frames_deeper (Below.stack (by assumption))))
    (case jk => k_asm)
    (case jt => k_asm)
    (case j5 => k_dflt k_mem)
    (case j5' => k_asm)
    (case j5'' => k_asm)
    (case j6 => k_dflt rfl)
    (case j7 => k_dflt rfl)
    (case j8 => k_dflt k_mem)
    (case j8' => k_asm)
    (case j9 => k_dflt k_mem)
    (case j9' => k_asm)
    (case j10 => k_dflt k_mem)
    (case j11 => l_ints)
    (case j12 => first | (with_reducible exact Nat.le_refl _) | k_dflt (exact Nat.le_refl 1) | k_dflt (exact Mine.len_pos (by assumption)))
    (case j13 => first | (simp; omega) | (simp; done))
    (case j14 => k_dflt k_mem)
    (case je1 => k_dflt rfl)
    (case je2 => k_dflt rfl)
    (case je3 => k_dflt rfl)
    (case je4 => k_dflt rfl)
    (case je5 => k_dflt rfl)
    (case je6 => k_dflt rfl)
    (case j1 => k_dflt k_mem)
    (case j1' => k_dflt assumption)
    (case j2 => k_dflt k_mem)
    (case j2' => k_dflt assumption)
    (case j3 => k_dflt k_mem)
    (case j3' => k_dflt assumption)
    (case j15 => k_dflt k_mem)
    (case js1 => k_dflt rfl)
    (case js2 => k_dflt (decide +kernel))
    (case js3 => k_dflt rfl)
    (case jh => k_dflt rfl)
    (case jr => k_dflt (exact Mine.law_room))
    (case ju => k_dflt (exact Mine.law_units))
    (case jT => k_dflt (exact Mine.tk_of (by k_is) (by rfl)))
    (case jn => k_dflt (refine Mine.Desc.nodup ?_; (simp only [List.map_cons, List.map_nil, Mine.Desc]); repeat' (first | exact True.intro | (refine And.intro (by omega) ?_))))
    (case jne => k_dflt (repeat' (first | exact List.forall_mem_nil _ | (refine List.forall_mem_cons.mpr ⟨⟨by k_ne, by k_ne, by k_ne, by k_ne⟩, ?_⟩))))
    (case jne2 => exact ⟨by k_ne, by k_ne, by k_ne, by k_ne, by k_ne, by k_ne⟩)
    intro h' tk m' F' N'
    k_steps
  · refine Mine.go_on ?_
    refine' Mine.law_join ?qF ?qN ?q4 ?qB ?qA ?qk ?qt ?q5 ?q5' ?q5'' ?q6 ?q7 ?q8 ?q8' ?q9 ?q9' ?q10 ?q11 ?q12 ?q13 ?q14 ?qe1 ?qe2 ?qe3 ?qe4 ?qe5 ?qe6 ?q1 ?q1' ?q2 ?q2' ?q3 ?q3' ?q15 ?qs1 ?qs2 ?qs3 ?qh ?qr ?qu ?qT ?qL ?qn ?qne ?qne2 ?qQ
    (case qF => k_asm)
    (case qN => k_asm)
    (case q4 => k_dflt (exact List.Mem.head _))
    (case qL => k_dflt (exact Mine.lw_of (by k_is)))
    (case qB => k_asm)
    (case qA => k_dflt (exact Around.frames_deeper (Below.stack (by assumption))))
    (case qk => k_asm)
    (case qt => k_asm)
    (case q5 => k_dflt k_mem)
    (case q5' => k_asm)
    (case q5'' => k_asm)
    (case q6 => k_dflt rfl)
    (case q7 => k_dflt rfl)
    (case q8 => k_dflt k_mem)
    (case q8' => k_asm)
    (case q9 => k_dflt k_mem)
    (case q9' => k_asm)
    (case q10 => k_dflt k_mem)
    (case q11 => l_ints)
    (case q12 => first | (with_reducible exact Nat.le_refl _) | k_dflt (exact Nat.le_refl 1) | k_dflt (exact Mine.len_pos (by assumption)))
    (case q13 => first | (simp; omega) | (simp; done))
    (case q14 => k_dflt k_mem)
    (case qe1 => k_dflt rfl)
    (case qe2 => k_dflt rfl)
    (case qe3 => k_dflt rfl)
    (case qe4 => k_dflt rfl)
    (case qe5 => k_dflt rfl)
    (case qe6 => k_dflt rfl)
    (case q1 => k_dflt k_mem)
    (case q1' => k_dflt assumption)
    (case q2 => k_dflt k_mem)
    (case q2' => k_dflt assumption)
    (case q3 => k_dflt k_mem)
    (case q3' => k_dflt assumption)
    (case q15 => k_dflt k_mem)
    (case qs1 => k_dflt rfl)
    (case qs2 => k_dflt (decide +kernel))
    (case qs3 => k_dflt rfl)
    (case qh => k_dflt rfl)
    (case qr => k_dflt (exact Mine.law_room))
    (case qu => k_dflt (exact Mine.law_units))
    (case qT => k_dflt (exact Mine.tk_of (by k_is) (by rfl)))
    (case qn => k_dflt (refine Mine.Desc.nodup ?_; (simp only [List.map_cons, List.map_nil, Mine.Desc]); repeat' (first | exact True.intro | (refine And.intro (by omega) ?_))))
    (case qne => k_dflt (repeat' (first | exact List.forall_mem_nil _ | (refine List.forall_mem_cons.mpr ⟨⟨by k_ne, by k_ne, by k_ne, by k_ne⟩, ?_⟩))))
    (case qne2 => exact ⟨by k_ne, by k_ne, by k_ne, by k_ne, by k_ne, by k_ne⟩)
    intro h' tk m' F' N'
    k_steps
end
theorem PySem.Challenge.cw_nu0204_01_holds : PySem.Challenge.rw_nu0204_01.Holds :=
  Mine.final
