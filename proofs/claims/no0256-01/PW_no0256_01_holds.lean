import PyProof.Rows.All
import Wide.All
import OpenK.AllK
import Wide.FinOn
import PySem.Challenge.RW_no0256_01
set_option Elab.async false
set_option maxRecDepth 100000
set_option linter.all false
section
set_option maxHeartbeats 8000000
open PySem PySem.W PySem.Calls PyProof.Rows
namespace Mine
noncomputable def stmtAt (i : Nat) : Option Stmt := PySem.Challenge.pw_no0256_01.main.body[i]?
noncomputable def stB (s : Option Stmt) : List Stmt := match s with
  | some (.FunctionDef _ _ b _ _ _ _ _ _ _) => b
  | _ => []
noncomputable def stS (s : Option Stmt) : Scope := match s with
  | some (.FunctionDef _ _ _ _ _ _ s _ _ _) => s
  | _ => default
noncomputable def fnP (s : Option Stmt) : Arguments := match s with
  | some (.FunctionDef _ a _ _ _ _ _ _ _ _) => a
  | _ => default
noncomputable def clB (s : Option Stmt) : List Stmt := match s with
  | some (.ClassDef _ _ _ b ..) => b
  | _ => []
noncomputable def fnBody (i : Nat) : List Stmt := stB (stmtAt i)
noncomputable def fnScope (i : Nat) : Scope := stS (stmtAt i)
noncomputable def mtBody (i j : Nat) : List Stmt := stB ((clB (stmtAt i))[j]?)
noncomputable def mtScope (i j : Nat) : Scope := stS ((clB (stmtAt i))[j]?)
noncomputable def sAt (i : Nat) : Option Stmt := stmtAt i
noncomputable def mAt (i j : Nat) : Option Stmt := (clB (stmtAt i))[j]?
namespace hd
noncomputable def vS (s : PySem.Str) (n : Nat) : Value := .str s n
noncomputable def vI (i : Nat) (n : Nat) : Value := .int (Int.ofNat i) n
noncomputable def vM (i : Nat) (n : Nat) : Value := .int (Int.negSucc i) n
noncomputable def v0 : Value := .int 0 0
noncomputable def N : Value := .none
noncomputable def vR (a : Nat) : Value := .ref a
noncomputable def en (P : Params) (s : PySem.Str) (n : Nat) (v : Value) : DictEntry := ⟨PyData.keyHash P s, .str s n, v⟩
noncomputable def tu (l : List Value) : Obj := { cls := .type "tuple", data := .seq l.toArray }
noncomputable def fs (l : List Value) : Obj := { cls := .none, data := .fields l.toArray }
noncomputable def di (l : List DictEntry) (n : Nat) : Obj := { cls := .type "dict", data := .dict l.toArray n }
noncomputable def fr (a b : Nat) (m : Value) : Obj := { cls := .type "frame", slots := #[some (vR a), some (vR 3), some (vR b), none, some m, none, some (vR 0)] }
noncomputable def co (x y : PySem.Str) (n l k f r : Nat) (b : Bool) (r2 : Nat) (u v z : Value) (m e : Nat) : Obj :=
  { cls := .type "code", data := .fields #[vS x n, vS y n.succ, vS "/claim/cut.py" n.succ.succ, vI l 0, vI k 0, v0, v0, vI f 0, vR r, .bool b, vI 181 0, vR r2, .none, u, v, z, vI m 0, vI l 0, vS "/claim/cut.py" e] }
noncomputable def fa (x y : PySem.Str) (s : Option Stmt) : Obj :=
  { cls := .none, data := .func { name := x, qualname := y, params := fnP s, body := .stmts (stB s), scope := stS s, globals := 0, closure := [], defaults := .none, kwdefaults := .none } }
noncomputable def fb (x y : PySem.Str) (s : Option Stmt) (m : Value) (c : Nat) : Obj :=
  { cls := .type "function", data := .func { name := x, qualname := y, params := fnP s, body := .stmts (stB s), scope := stS s, globals := 3, closure := [], defaults := .none, kwdefaults := .none, pyModule := m, code := vR c } }
noncomputable def nd := BT.node
noncomputable def nl := BT.nil
noncomputable def o_43 (_ : Params) : Obj := tu []
noncomputable def o_44 (_ : Params) : Obj := fs []
noncomputable def o_45 (_ : Params) : Obj := { cls := .type "code", data := .fields #[vS "<module>" 182, vS "<module>" 183, vS "/claim/cut.py" 184, vI 1 0, v0, v0, v0, v0, vR 11, .bool false, vI 181 0, vR 12, .none, .none, .none, .none, vI 185 0, vI 1 0, vS "/claim/cut.py" 186] }
noncomputable def o_46 (_ : Params) : Obj := fr 13 3 (vS "__main__" 164)
noncomputable def o_49 (P : Params) : Obj := { cls := .none, data := .dict #[en P "type.__subclasses__.Exception.0" 214 (vI 31 0), en P "type.__subclasses__.Exception.n" 215 (vI 1 0)] 2 }
noncomputable def o_52 (_ : Params) : Obj := tu [.type "Exception"]
noncomputable def o_53 (_ : Params) : Obj := { cls := .type "builtin_function_or_method", data := .fields #[.builtin "type.__prepare__", .type "type"] }
noncomputable def o_54 (P : Params) : Obj := di [en P "__module__" 196 (vS "f77.errors" 187), en P "__qualname__" 198 (vS "F77Error" 197), en P "__firstlineno__" 200 (vI 2 199), en P "__init__" 208 (vR 28), en P "__static_attributes__" 210 (vR 29)] 5
noncomputable def o_55 (_ : Params) : Obj := tu []
noncomputable def o_56 (_ : Params) : Obj := fs [vI 4 0, vI 4 0, vR 27]
noncomputable def o_57 (_ : Params) : Obj := { cls := .type "code", data := .fields #[vS "F77Error" 191, vS "F77Error" 192, vS "/claim/cut.py" 193, vI 2 0, v0, v0, v0, v0, vR 18, .bool false, vI 181 0, vR 19, .none, .none, .none, .none, vI 194 0, vI 2 0, vS "/claim/cut.py" 195] }
noncomputable def o_58 (_ : Params) : Obj := fr 20 17 (vS "f77.errors" 187)
noncomputable def o_59 (_ : Params) : Obj := tu []
noncomputable def o_60 (_ : Params) : Obj := fs []
noncomputable def o_61 (_ : Params) : Obj := tu [vS "self" 204, vS "text" 205]
noncomputable def o_62 (_ : Params) : Obj := tu []
noncomputable def o_63 (_ : Params) : Obj := fa "__init__" "F77Error.__init__" (mAt 1 0)
noncomputable def o_64 (_ : Params) : Obj := { cls := .type "code", data := .fields #[vS "__init__" 201, vS "F77Error.__init__" 202, vS "/claim/cut.py" 203, vI 4 0, vI 2 0, v0, v0, vI 3 0, vR 22, .bool true, vI 181 0, vR 23, .none, vR 24, vR 25, vR 26, vI 206 0, vI 4 0, vS "/claim/cut.py" 207] }
noncomputable def o_65 (_ : Params) : Obj := fb "__init__" "F77Error.__init__" (mAt 1 0) (vS "f77.errors" 187) 27
noncomputable def o_66 (_ : Params) : Obj := tu [vS "text" 209]
noncomputable def o_67 (P : Params) : Obj := di [en P "__module__" 196 (vS "f77.errors" 187), en P "__firstlineno__" 200 (vI 2 199), en P "__init__" 208 (vR 28), en P "__static_attributes__" 210 (vR 29), en P "__weakref__" 212 (vR 32), en P "__doc__" 213 .none] 3
noncomputable def o_69 (_ : Params) : Obj := { cls := .type "getset_descriptor", data := .fields #[vS "__weakref__" 211, vR 31, .builtin "ExceptionGroup.__weakref__", .none] }
noncomputable def o_70 (_ : Params) : Obj := { cls := .type "super", data := .fields #[vR 31, vR 31, vR 31] }
noncomputable def o_71 (_ : Params) : Obj := { cls := .type "builtin_function_or_method", data := .fields #[.builtin "object.__init_subclass__", vR 31] }
noncomputable def o_75 (_ : Params) : Obj := tu [vR 31]
noncomputable def o_76 (_ : Params) : Obj := { cls := .type "builtin_function_or_method", data := .fields #[.builtin "type.__prepare__", .type "type"] }
noncomputable def o_77 (P : Params) : Obj := di [en P "__module__" 225 (vS "f77.errors" 187), en P "__qualname__" 227 (vS "CheckFault" 226), en P "__firstlineno__" 229 (vI 7 228), en P "__static_attributes__" 230 (vR 42)] 4
noncomputable def o_78 (_ : Params) : Obj := tu []
noncomputable def o_79 (_ : Params) : Obj := fs []
noncomputable def o_80 (_ : Params) : Obj := { cls := .type "code", data := .fields #[vS "CheckFault" 220, vS "CheckFault" 221, vS "/claim/cut.py" 222, vI 7 0, v0, v0, v0, v0, vR 38, .bool false, vI 181 0, vR 39, .none, .none, .none, .none, vI 223 0, vI 7 0, vS "/claim/cut.py" 224] }
noncomputable def o_81 (_ : Params) : Obj := fr 40 37 (vS "f77.errors" 187)
noncomputable def o_82 (_ : Params) : Obj := tu []
noncomputable def o_83 (P : Params) : Obj := di [en P "__module__" 225 (vS "f77.errors" 187), en P "__firstlineno__" 229 (vI 7 228), en P "__static_attributes__" 230 (vR 42), en P "__doc__" 231 .none] 2
noncomputable def o_84 (_ : Params) : Obj := { cls := .type "type", data := .cls { name := "CheckFault", bases := [vR 31], mro := [vR 44, vR 31, .type "Exception", .type "BaseException", .type "object"], ns := 43, qualname := "CheckFault" }, slots := #[some (vR 35), none, some (vS "CheckFault" 218), some (vS "CheckFault" 226), some (.builtin "Exception.__new__"), some (.bool true)] }
noncomputable def o_85 (_ : Params) : Obj := { cls := .type "super", data := .fields #[vR 44, vR 44, vR 44] }
noncomputable def o_86 (_ : Params) : Obj := { cls := .type "builtin_function_or_method", data := .fields #[.builtin "object.__init_subclass__", vR 44] }
noncomputable def o_87 (P : Params) : Obj := di [en P "__name__" 165 (vS "f77.reals" 279), en P "__doc__" 166 .none, en P "__package__" 167 .none, en P "__loader__" 168 (.builtin "__main__.__loader__#opaque"), en P "__spec__" 169 .none, en P "__annotations__" 170 (vR 6), en P "__builtins__" 171 (vR 4), en P "__file__" 173 (vS "/claim/cut.py" 172), en P "__cached__" 174 .none, en P "F77Error" 217 (vR 31), en P "CheckFault" 233 (vR 44), en P "RunFault" 249 (vR 56), en P "INTEGER" 253 (vI 0 252), en P "REAL" 255 (vI 1 254), en P "DOUBLE" 257 (vI 2 256), en P "COMPLEX" 259 (vI 3 258), en P "LOGICAL" 261 (vI 4 260), en P "CHARACTER" 263 (vI 5 262), en P "is_numeric" 270 (vR 65), en P "higher_kind" 278 (vR 72), en P "NOUGHT" 283 (vR 73), en P "count_digits" 291 (vR 80)] 22
noncomputable def o_88 (_ : Params) : Obj := fs [vI 2 0, v0, vR 20, vI 7 0, v0, vR 40, vI 9 0, v0, vR 52, vI 18 0, v0, vR 64, vI 20 0, v0, vR 71, vI 28 0, v0, vR 79]
noncomputable def o_89 (_ : Params) : Obj := { cls := .type "type", data := .cls { name := "F77Error", bases := [.type "Exception"], mro := [vR 31, .type "Exception", .type "BaseException", .type "object"], ns := 30, qualname := "F77Error", subclasses := [vR 44, vR 56] }, slots := #[some (vR 15), none, some (vS "F77Error" 189), some (vS "F77Error" 197), some (.builtin "Exception.__new__"), some (.bool true)] }
noncomputable def o_90 (_ : Params) : Obj := tu [vR 31]
noncomputable def o_91 (_ : Params) : Obj := { cls := .type "builtin_function_or_method", data := .fields #[.builtin "type.__prepare__", .type "type"] }
noncomputable def o_92 (P : Params) : Obj := di [en P "__module__" 241 (vS "f77.errors" 187), en P "__qualname__" 243 (vS "RunFault" 242), en P "__firstlineno__" 245 (vI 9 244), en P "__static_attributes__" 246 (vR 54)] 4
noncomputable def o_93 (_ : Params) : Obj := tu []
noncomputable def o_94 (_ : Params) : Obj := fs []
noncomputable def o_95 (_ : Params) : Obj := { cls := .type "code", data := .fields #[vS "RunFault" 236, vS "RunFault" 237, vS "/claim/cut.py" 238, vI 9 0, v0, v0, v0, v0, vR 50, .bool false, vI 181 0, vR 51, .none, .none, .none, .none, vI 239 0, vI 9 0, vS "/claim/cut.py" 240] }
noncomputable def o_96 (_ : Params) : Obj := fr 52 49 (vS "f77.errors" 187)
noncomputable def o_97 (_ : Params) : Obj := tu []
noncomputable def o_98 (P : Params) : Obj := di [en P "__module__" 241 (vS "f77.errors" 187), en P "__firstlineno__" 245 (vI 9 244), en P "__static_attributes__" 246 (vR 54), en P "__doc__" 247 .none] 2
noncomputable def o_99 (_ : Params) : Obj := { cls := .type "type", data := .cls { name := "RunFault", bases := [vR 31], mro := [vR 56, vR 31, .type "Exception", .type "BaseException", .type "object"], ns := 55, qualname := "RunFault" }, slots := #[some (vR 47), none, some (vS "RunFault" 234), some (vS "RunFault" 242), some (.builtin "Exception.__new__"), some (.bool true)] }
noncomputable def o_100 (_ : Params) : Obj := { cls := .type "super", data := .fields #[vR 56, vR 56, vR 56] }
noncomputable def o_101 (_ : Params) : Obj := { cls := .type "builtin_function_or_method", data := .fields #[.builtin "object.__init_subclass__", vR 56] }
noncomputable def o_102 (_ : Params) : Obj := tu []
noncomputable def o_103 (_ : Params) : Obj := fs []
noncomputable def o_104 (_ : Params) : Obj := tu [vS "kind" 267]
noncomputable def o_105 (_ : Params) : Obj := tu []
noncomputable def o_106 (_ : Params) : Obj := fa "is_numeric" "is_numeric" (sAt 11)
noncomputable def o_107 (_ : Params) : Obj := { cls := .type "code", data := .fields #[vS "is_numeric" 264, vS "is_numeric" 265, vS "/claim/cut.py" 266, vI 18 0, vI 1 0, v0, v0, vI 3 0, vR 59, .bool true, vI 181 0, vR 60, .none, vR 61, vR 62, vR 63, vI 268 0, vI 18 0, vS "/claim/cut.py" 269] }
noncomputable def o_108 (_ : Params) : Obj := fb "is_numeric" "is_numeric" (sAt 11) (vS "f77.kinds" 250) 64
noncomputable def o_109 (_ : Params) : Obj := tu []
noncomputable def o_110 (_ : Params) : Obj := fs []
noncomputable def o_111 (_ : Params) : Obj := tu [vS "a" 274, vS "b" 275]
noncomputable def o_112 (_ : Params) : Obj := tu []
noncomputable def o_113 (_ : Params) : Obj := fa "higher_kind" "higher_kind" (sAt 12)
noncomputable def o_114 (_ : Params) : Obj := { cls := .type "code", data := .fields #[vS "higher_kind" 271, vS "higher_kind" 272, vS "/claim/cut.py" 273, vI 20 0, vI 2 0, v0, v0, vI 3 0, vR 66, .bool true, vI 181 0, vR 67, .none, vR 68, vR 69, vR 70, vI 276 0, vI 20 0, vS "/claim/cut.py" 277] }
noncomputable def o_115 (_ : Params) : Obj := fb "higher_kind" "higher_kind" (sAt 12) (vS "f77.kinds" 250) 71
noncomputable def o_116 (_ : Params) : Obj := tu [vI 0 281, vI 0 282]
noncomputable def o_117 (_ : Params) : Obj := tu []
noncomputable def o_118 (_ : Params) : Obj := fs []
noncomputable def o_119 (_ : Params) : Obj := tu [vS "n" 287, vS "count" 288]
noncomputable def o_120 (_ : Params) : Obj := tu []
noncomputable def o_121 (_ : Params) : Obj := fa "count_digits" "count_digits" (sAt 15)
noncomputable def o_122 (_ : Params) : Obj := { cls := .type "code", data := .fields #[vS "count_digits" 284, vS "count_digits" 285, vS "/claim/cut.py" 286, vI 28 0, vI 1 0, v0, v0, vI 3 0, vR 74, .bool true, vI 181 0, vR 75, .none, vR 76, vR 77, vR 78, vI 289 0, vI 28 0, vS "/claim/cut.py" 290] }
noncomputable def o_123 (_ : Params) : Obj := fb "count_digits" "count_digits" (sAt 15) (vS "f77.reals" 279) 79
noncomputable def o_124 (P : Params) : Obj := di [en P "__name__" 165 (vS "f77.resolve" 324), en P "__doc__" 166 .none, en P "__package__" 167 .none, en P "__loader__" 168 (.builtin "__main__.__loader__#opaque"), en P "__spec__" 169 .none, en P "__annotations__" 170 (vR 6), en P "__builtins__" 171 (vR 4), en P "__file__" 173 (vS "/claim/cut.py" 172), en P "__cached__" 174 .none, en P "F77Error" 217 (vR 31), en P "CheckFault" 233 (vR 44), en P "RunFault" 249 (vR 56), en P "INTEGER" 253 (vI 0 252), en P "REAL" 255 (vI 1 254), en P "DOUBLE" 257 (vI 2 256), en P "COMPLEX" 259 (vI 3 258), en P "LOGICAL" 261 (vI 4 260), en P "CHARACTER" 263 (vI 5 262), en P "is_numeric" 270 (vR 65), en P "higher_kind" 278 (vR 72), en P "NOUGHT" 283 (vR 73), en P "count_digits" 291 (vR 80), en P "strip_zeros" 299 (vR 87), en P "round_digits" 312 (vR 94), en P "round_real" 323 (vR 101), en P "SUMS" 338 (vR 102), en P "RELATIONS" 357 (vR 103), en P "JUNCTIONS" 370 (vR 104), en P "PROCEDURES" 375 (vR 105)] 29
noncomputable def o_125 (_ : Params) : Obj := fs [vI 2 0, v0, vR 20, vI 7 0, v0, vR 40, vI 9 0, v0, vR 52, vI 18 0, v0, vR 64, vI 20 0, v0, vR 71, vI 28 0, v0, vR 79, vI 38 0, v0, vR 86, vI 45 0, v0, vR 93, vI 55 0, v0, vR 100]
noncomputable def o_126 (_ : Params) : Obj := tu []
noncomputable def o_127 (_ : Params) : Obj := fs []
noncomputable def o_128 (_ : Params) : Obj := tu [vS "m" 295, vS "e" 296]
noncomputable def o_129 (_ : Params) : Obj := tu []
noncomputable def o_130 (_ : Params) : Obj := fa "strip_zeros" "strip_zeros" (sAt 16)
noncomputable def o_131 (_ : Params) : Obj := { cls := .type "code", data := .fields #[vS "strip_zeros" 292, vS "strip_zeros" 293, vS "/claim/cut.py" 294, vI 38 0, vI 2 0, v0, v0, vI 3 0, vR 81, .bool true, vI 181 0, vR 82, .none, vR 83, vR 84, vR 85, vI 297 0, vI 38 0, vS "/claim/cut.py" 298] }
noncomputable def o_132 (_ : Params) : Obj := fb "strip_zeros" "strip_zeros" (sAt 16) (vS "f77.reals" 279) 86
noncomputable def o_133 (_ : Params) : Obj := tu []
noncomputable def o_134 (_ : Params) : Obj := fs []
noncomputable def o_135 (_ : Params) : Obj := tu [vS "m" 303, vS "e" 304, vS "digits" 305, vS "drop" 306, vS "power" 307, vS "kept" 308, vS "rest" 309]
noncomputable def o_136 (_ : Params) : Obj := tu []
noncomputable def o_137 (_ : Params) : Obj := fa "round_digits" "round_digits" (sAt 17)
noncomputable def o_138 (_ : Params) : Obj := { cls := .type "code", data := .fields #[vS "round_digits" 300, vS "round_digits" 301, vS "/claim/cut.py" 302, vI 45 0, vI 3 0, v0, v0, vI 3 0, vR 88, .bool true, vI 181 0, vR 89, .none, vR 90, vR 91, vR 92, vI 310 0, vI 45 0, vS "/claim/cut.py" 311] }
noncomputable def o_139 (_ : Params) : Obj := fb "round_digits" "round_digits" (sAt 17) (vS "f77.reals" 279) 93
noncomputable def o_140 (_ : Params) : Obj := tu []
noncomputable def o_141 (_ : Params) : Obj := fs []
noncomputable def o_142 (_ : Params) : Obj := tu [vS "m" 316, vS "e" 317, vS "digits" 318, vS "top" 319, vS "lead" 320]
noncomputable def o_143 (_ : Params) : Obj := tu []
noncomputable def o_144 (_ : Params) : Obj := fa "round_real" "round_real" (sAt 18)
noncomputable def o_145 (_ : Params) : Obj := { cls := .type "code", data := .fields #[vS "round_real" 313, vS "round_real" 314, vS "/claim/cut.py" 315, vI 55 0, vI 4 0, v0, v0, vI 3 0, vR 95, .bool true, vI 181 0, vR 96, .none, vR 97, vR 98, vR 99, vI 321 0, vI 55 0, vS "/claim/cut.py" 322] }
noncomputable def o_146 (_ : Params) : Obj := fb "round_real" "round_real" (sAt 18) (vS "f77.reals" 279) 100
noncomputable def o_147 (P : Params) : Obj := di [en P "+" 326 (vS "add" 327), en P "-" 328 (vS "sub" 329), en P "*" 330 (vS "mul" 331), en P "/" 332 (vS "div" 333)] 4
noncomputable def o_148 (P : Params) : Obj := di [en P ".EQ." 339 (vS "eq" 340), en P ".NE." 341 (vS "ne" 342), en P ".LT." 343 (vS "lt" 344), en P ".LE." 345 (vS "le" 346), en P ".GT." 347 (vS "gt" 348), en P ".GE." 349 (vS "ge" 350)] 6
noncomputable def o_149 (P : Params) : Obj := di [en P ".AND." 358 (vS "and" 359), en P ".OR." 360 (vS "or" 361), en P ".EQV." 362 (vS "eqv" 363), en P ".NEQV." 364 (vS "neqv" 365)] 4
noncomputable def o_150 (_ : Params) : Obj := tu [vS "func" 371, vS "sub" 372, vS "proc" 373, vS "intr" 374]
noncomputable def o_155 (_ : Params) : Obj := tu []
noncomputable def o_156 (_ : Params) : Obj := { cls := .type "builtin_function_or_method", data := .fields #[.builtin "type.__prepare__", .type "type"] }
noncomputable def o_157 (P : Params) : Obj := di [en P "__module__" 383 (vS "f77.resolve" 324), en P "__qualname__" 385 (vS "Scope" 384), en P "__firstlineno__" 387 (vI 68 386), en P "__init__" 397 (vR 119), en P "__static_attributes__" 403 (vR 120)] 5
noncomputable def o_158 (_ : Params) : Obj := tu []
noncomputable def o_159 (_ : Params) : Obj := fs [vI 70 0, vI 4 0, vR 118]
noncomputable def o_160 (_ : Params) : Obj := { cls := .type "code", data := .fields #[vS "Scope" 378, vS "Scope" 379, vS "/claim/cut.py" 380, vI 68 0, v0, v0, v0, v0, vR 109, .bool false, vI 181 0, vR 110, .none, .none, .none, .none, vI 381 0, vI 68 0, vS "/claim/cut.py" 382] }
noncomputable def o_161 (_ : Params) : Obj := fr 111 108 (vS "f77.resolve" 324)
noncomputable def o_162 (_ : Params) : Obj := tu []
noncomputable def o_163 (_ : Params) : Obj := fs []
noncomputable def o_164 (_ : Params) : Obj := tu [vS "self" 391, vS "symbols" 392, vS "choose" 393, vS "limits" 394]
noncomputable def o_165 (_ : Params) : Obj := tu []
noncomputable def o_166 (_ : Params) : Obj := fa "__init__" "Scope.__init__" (mAt 24 0)
noncomputable def o_167 (_ : Params) : Obj := { cls := .type "code", data := .fields #[vS "__init__" 388, vS "Scope.__init__" 389, vS "/claim/cut.py" 390, vI 70 0, vI 4 0, v0, v0, vI 3 0, vR 113, .bool true, vI 181 0, vR 114, .none, vR 115, vR 116, vR 117, vI 395 0, vI 70 0, vS "/claim/cut.py" 396] }
noncomputable def o_168 (_ : Params) : Obj := fb "__init__" "Scope.__init__" (mAt 24 0) (vS "f77.resolve" 324) 118
noncomputable def o_169 (_ : Params) : Obj := tu [vS "choose" 398, vS "given" 399, vS "limits" 400, vS "open" 401, vS "symbols" 402]
noncomputable def o_170 (P : Params) : Obj := di [en P "__module__" 383 (vS "f77.resolve" 324), en P "__firstlineno__" 387 (vI 68 386), en P "__init__" 397 (vR 119), en P "__static_attributes__" 403 (vR 120), en P "__dict__" 405 (vR 123), en P "__weakref__" 407 (vR 124), en P "__doc__" 408 .none] 4
noncomputable def o_171 (_ : Params) : Obj := { cls := .type "type", data := .cls { name := "Scope", bases := [.type "object"], mro := [vR 122, .type "object"], ns := 121, qualname := "Scope" }, slots := #[none, none, some (vS "Scope" 376), some (vS "Scope" 384), some (.builtin "object.__new__"), some (.bool true)] }
noncomputable def o_172 (_ : Params) : Obj := { cls := .type "getset_descriptor", data := .fields #[vS "__dict__" 404, vR 122, .builtin "function.__dict__", .builtin "function.__dict__#set"] }
noncomputable def o_173 (_ : Params) : Obj := { cls := .type "getset_descriptor", data := .fields #[vS "__weakref__" 406, vR 122, .builtin "ExceptionGroup.__weakref__", .none] }
noncomputable def o_174 (_ : Params) : Obj := { cls := .type "super", data := .fields #[vR 122, vR 122, vR 122] }
noncomputable def o_175 (_ : Params) : Obj := { cls := .type "builtin_function_or_method", data := .fields #[.builtin "object.__init_subclass__", vR 122] }
noncomputable def o_176 (_ : Params) : Obj := tu []
noncomputable def o_177 (_ : Params) : Obj := fs []
noncomputable def o_178 (_ : Params) : Obj := tu [vS "scope" 414, vS "name" 415]
noncomputable def o_179 (_ : Params) : Obj := tu []
noncomputable def o_180 (_ : Params) : Obj := fa "symbol_of" "symbol_of" (sAt 25)
noncomputable def o_181 (_ : Params) : Obj := { cls := .type "code", data := .fields #[vS "symbol_of" 411, vS "symbol_of" 412, vS "/claim/cut.py" 413, vI 76 0, vI 2 0, v0, v0, vI 3 0, vR 127, .bool true, vI 181 0, vR 128, .none, vR 129, vR 130, vR 131, vI 416 0, vI 76 0, vS "/claim/cut.py" 417] }
noncomputable def o_182 (_ : Params) : Obj := fb "symbol_of" "symbol_of" (sAt 25) (vS "f77.resolve" 324) 132
noncomputable def o_183 (_ : Params) : Obj := tu []
noncomputable def o_184 (_ : Params) : Obj := fs []
noncomputable def o_185 (_ : Params) : Obj := tu [vS "m" 422, vS "e" 423, vS "digits" 424, vS "limits" 425]
noncomputable def o_186 (_ : Params) : Obj := tu []
noncomputable def o_187 (_ : Params) : Obj := fa "real_const" "real_const" (sAt 26)
noncomputable def o_188 (_ : Params) : Obj := { cls := .type "code", data := .fields #[vS "real_const" 419, vS "real_const" 420, vS "/claim/cut.py" 421, vI 80 0, vI 4 0, v0, v0, vI 3 0, vR 134, .bool true, vI 181 0, vR 135, .none, vR 136, vR 137, vR 138, vI 426 0, vI 80 0, vS "/claim/cut.py" 427] }
noncomputable def o_189 (_ : Params) : Obj := fb "real_const" "real_const" (sAt 26) (vS "f77.resolve" 324) 139
noncomputable def o_190 (_ : Params) : Obj := tu []
noncomputable def o_191 (_ : Params) : Obj := fs []
noncomputable def o_192 (_ : Params) : Obj := tu [vS "part" 432, vS "limits" 433]
noncomputable def o_193 (_ : Params) : Obj := tu []
noncomputable def o_194 (_ : Params) : Obj := fa "complex_part" "complex_part" (sAt 27)
noncomputable def o_195 (_ : Params) : Obj := { cls := .type "code", data := .fields #[vS "complex_part" 429, vS "complex_part" 430, vS "/claim/cut.py" 431, vI 82 0, vI 2 0, v0, v0, vI 3 0, vR 141, .bool true, vI 181 0, vR 142, .none, vR 143, vR 144, vR 145, vI 434 0, vI 82 0, vS "/claim/cut.py" 435] }
noncomputable def o_196 (_ : Params) : Obj := fb "complex_part" "complex_part" (sAt 27) (vS "f77.resolve" 324) 146
noncomputable def o_197 (_ : Params) : Obj := tu []
noncomputable def o_198 (_ : Params) : Obj := fs []
noncomputable def o_199 (_ : Params) : Obj := tu [vS "tree" 440, vS "limits" 441, vS "tag" 442]
noncomputable def o_200 (_ : Params) : Obj := tu []
noncomputable def o_201 (_ : Params) : Obj := fa "resolve_const" "resolve_const" (sAt 28)
noncomputable def o_202 (_ : Params) : Obj := { cls := .type "code", data := .fields #[vS "resolve_const" 437, vS "resolve_const" 438, vS "/claim/cut.py" 439, vI 86 0, vI 2 0, v0, v0, vI 3 0, vR 148, .bool true, vI 181 0, vR 149, .none, vR 150, vR 151, vR 152, vI 443 0, vI 86 0, vS "/claim/cut.py" 444] }
noncomputable def o_203 (_ : Params) : Obj := fb "resolve_const" "resolve_const" (sAt 28) (vS "f77.resolve" 324) 153
noncomputable def o_204 (_ : Params) : Obj := tu []
noncomputable def o_205 (_ : Params) : Obj := fs []
noncomputable def o_206 (_ : Params) : Obj := tu [vS "x" 449, vS "kind" 450]
noncomputable def o_207 (_ : Params) : Obj := tu []
noncomputable def o_208 (_ : Params) : Obj := fa "as_kind" "as_kind" (sAt 29)
noncomputable def o_209 (_ : Params) : Obj := { cls := .type "code", data := .fields #[vS "as_kind" 446, vS "as_kind" 447, vS "/claim/cut.py" 448, vI 103 0, vI 2 0, v0, v0, vI 3 0, vR 155, .bool true, vI 181 0, vR 156, .none, vR 157, vR 158, vR 159, vI 451 0, vI 103 0, vS "/claim/cut.py" 452] }
noncomputable def o_210 (_ : Params) : Obj := fb "as_kind" "as_kind" (sAt 29) (vS "f77.resolve" 324) 160
noncomputable def o_213 (_ : Params) : Obj := tu []
noncomputable def o_214 (_ : Params) : Obj := fs []
noncomputable def o_215 (_ : Params) : Obj := tu [vS "name" 457, vS "scope" 458, vS "symbol" 459]
noncomputable def o_216 (_ : Params) : Obj := tu []
noncomputable def o_217 (_ : Params) : Obj := fa "resolve_name" "resolve_name" (sAt 30)
noncomputable def o_218 (_ : Params) : Obj := { cls := .type "code", data := .fields #[vS "resolve_name" 454, vS "resolve_name" 455, vS "/claim/cut.py" 456, vI 109 0, vI 2 0, v0, v0, vI 3 0, vR 162, .bool true, vI 181 0, vR 163, .none, vR 164, vR 165, vR 166, vI 460 0, vI 109 0, vS "/claim/cut.py" 461] }
noncomputable def o_219 (_ : Params) : Obj := fb "resolve_name" "resolve_name" (sAt 30) (vS "f77.resolve" 324) 167
noncomputable def o_220 (_ : Params) : Obj := tu []
noncomputable def o_221 (_ : Params) : Obj := fs []
noncomputable def o_222 (_ : Params) : Obj := tu [vS "tree" 466, vS "scope" 467, vS "x" 468]
noncomputable def o_223 (_ : Params) : Obj := tu []
noncomputable def o_224 (_ : Params) : Obj := fa "resolve_whole" "resolve_whole" (sAt 31)
noncomputable def o_225 (_ : Params) : Obj := { cls := .type "code", data := .fields #[vS "resolve_whole" 463, vS "resolve_whole" 464, vS "/claim/cut.py" 465, vI 122 0, vI 2 0, v0, v0, vI 3 0, vR 169, .bool true, vI 181 0, vR 170, .none, vR 171, vR 172, vR 173, vI 469 0, vI 122 0, vS "/claim/cut.py" 470] }
noncomputable def o_226 (_ : Params) : Obj := fb "resolve_whole" "resolve_whole" (sAt 31) (vS "f77.resolve" 324) 174
noncomputable def o_227 (_ : Params) : Obj := tu []
noncomputable def o_228 (_ : Params) : Obj := fs []
noncomputable def o_229 (_ : Params) : Obj := tu [vS "tree" 475, vS "scope" 476, vS "x" 477]
noncomputable def o_230 (_ : Params) : Obj := tu []
noncomputable def o_231 (_ : Params) : Obj := fa "resolve_truth" "resolve_truth" (sAt 32)
noncomputable def o_232 (_ : Params) : Obj := { cls := .type "code", data := .fields #[vS "resolve_truth" 472, vS "resolve_truth" 473, vS "/claim/cut.py" 474, vI 129 0, vI 2 0, v0, v0, vI 3 0, vR 176, .bool true, vI 181 0, vR 177, .none, vR 178, vR 179, vR 180, vI 478 0, vI 129 0, vS "/claim/cut.py" 479] }
noncomputable def o_233 (_ : Params) : Obj := fb "resolve_truth" "resolve_truth" (sAt 32) (vS "f77.resolve" 324) 181
noncomputable def o_234 (_ : Params) : Obj := tu []
noncomputable def o_235 (_ : Params) : Obj := fs []
noncomputable def o_236 (_ : Params) : Obj := fa "resolve_ref" "resolve_ref" (sAt 33)
noncomputable def o_237 (_ : Params) : Obj := { cls := .type "code", data := .fields #[vS "resolve_ref" 481, vS "resolve_ref" 482, vS "/claim/cut.py" 483, vI 134 0, vI 3 0, v0, v0, vI 3 0, vR 183, .bool true, vI 181 0, vR 184, .none, .none, .none, vR 185, vI 484 0, vI 134 0, vS "/claim/cut.py" 485] }
noncomputable def o_238 (_ : Params) : Obj := fb "resolve_ref" "resolve_ref" (sAt 33) (vS "f77.resolve" 324) 186
noncomputable def o_239 (_ : Params) : Obj := tu []
noncomputable def o_240 (_ : Params) : Obj := fs []
noncomputable def o_241 (_ : Params) : Obj := tu [vS "symbol" 490, vS "args" 491, vS "scope" 492, vS "dummies" 493, vS "body" 494, vS "inner" 495, vS "place" 496, vS "kind" 497]
noncomputable def o_242 (_ : Params) : Obj := tu []
noncomputable def o_243 (_ : Params) : Obj := fa "put_in" "put_in" (sAt 34)
noncomputable def o_244 (_ : Params) : Obj := { cls := .type "code", data := .fields #[vS "put_in" 487, vS "put_in" 488, vS "/claim/cut.py" 489, vI 151 0, vI 3 0, v0, v0, vI 3 0, vR 188, .bool true, vI 181 0, vR 189, .none, vR 190, vR 191, vR 192, vI 498 0, vI 151 0, vS "/claim/cut.py" 499] }
noncomputable def o_245 (_ : Params) : Obj := fb "put_in" "put_in" (sAt 34) (vS "f77.resolve" 324) 193
noncomputable def o_246 (_ : Params) : Obj := tu []
noncomputable def o_247 (_ : Params) : Obj := fs []
noncomputable def o_248 (_ : Params) : Obj := tu [vS "args" 504, vS "scope" 505, vS "found" 506, vS "part" 507]
noncomputable def o_249 (_ : Params) : Obj := tu []
noncomputable def o_250 (_ : Params) : Obj := fa "resolve_args" "resolve_args" (sAt 35)
noncomputable def o_251 (_ : Params) : Obj := { cls := .type "code", data := .fields #[vS "resolve_args" 501, vS "resolve_args" 502, vS "/claim/cut.py" 503, vI 167 0, vI 2 0, v0, v0, vI 3 0, vR 195, .bool true, vI 181 0, vR 196, .none, vR 197, vR 198, vR 199, vI 508 0, vI 167 0, vS "/claim/cut.py" 509] }
noncomputable def o_252 (_ : Params) : Obj := fb "resolve_args" "resolve_args" (sAt 35) (vS "f77.resolve" 324) 200
noncomputable def o_253 (_ : Params) : Obj := tu []
noncomputable def o_254 (_ : Params) : Obj := fs []
noncomputable def o_255 (_ : Params) : Obj := tu [vS "tree" 514, vS "scope" 515, vS "base" 516]
noncomputable def o_256 (_ : Params) : Obj := tu []
noncomputable def o_257 (_ : Params) : Obj := fa "resolve_sub" "resolve_sub" (sAt 36)
noncomputable def o_258 (_ : Params) : Obj := { cls := .type "code", data := .fields #[vS "resolve_sub" 511, vS "resolve_sub" 512, vS "/claim/cut.py" 513, vI 175 0, vI 2 0, v0, v0, vI 3 0, vR 202, .bool true, vI 181 0, vR 203, .none, vR 204, vR 205, vR 206, vI 517 0, vI 175 0, vS "/claim/cut.py" 518] }
noncomputable def o_259 (_ : Params) : Obj := fb "resolve_sub" "resolve_sub" (sAt 36) (vS "f77.resolve" 324) 207
noncomputable def o_260 (_ : Params) : Obj := tu []
noncomputable def o_261 (_ : Params) : Obj := fs []
noncomputable def o_262 (_ : Params) : Obj := tu [vS "op" 523, vS "tree" 524, vS "scope" 525, vS "x" 526]
noncomputable def o_263 (_ : Params) : Obj := tu []
noncomputable def o_264 (_ : Params) : Obj := fa "resolve_unary" "resolve_unary" (sAt 37)
noncomputable def o_265 (_ : Params) : Obj := { cls := .type "code", data := .fields #[vS "resolve_unary" 520, vS "resolve_unary" 521, vS "/claim/cut.py" 522, vI 180 0, vI 3 0, v0, v0, vI 3 0, vR 209, .bool true, vI 181 0, vR 210, .none, vR 211, vR 212, vR 213, vI 527 0, vI 180 0, vS "/claim/cut.py" 528] }
noncomputable def o_266 (_ : Params) : Obj := fb "resolve_unary" "resolve_unary" (sAt 37) (vS "f77.resolve" 324) 214
noncomputable def o_267 (_ : Params) : Obj := tu []
noncomputable def o_268 (_ : Params) : Obj := fs []
noncomputable def o_269 (_ : Params) : Obj := tu [vS "x" 533, vS "y" 534, vS "kind" 535]
noncomputable def o_270 (_ : Params) : Obj := tu []
noncomputable def o_271 (_ : Params) : Obj := fa "resolve_power" "resolve_power" (sAt 38)
noncomputable def o_272 (_ : Params) : Obj := { cls := .type "code", data := .fields #[vS "resolve_power" 530, vS "resolve_power" 531, vS "/claim/cut.py" 532, vI 189 0, vI 2 0, v0, v0, vI 3 0, vR 216, .bool true, vI 181 0, vR 217, .none, vR 218, vR 219, vR 220, vI 536 0, vI 189 0, vS "/claim/cut.py" 537] }
noncomputable def o_273 (_ : Params) : Obj := fb "resolve_power" "resolve_power" (sAt 38) (vS "f77.resolve" 324) 221
noncomputable def o_274 (_ : Params) : Obj := tu []
noncomputable def o_275 (_ : Params) : Obj := fs []
noncomputable def o_276 (_ : Params) : Obj := tu [vS "op" 542, vS "x" 543, vS "y" 544, vS "kind" 545]
noncomputable def o_277 (_ : Params) : Obj := tu []
noncomputable def o_278 (_ : Params) : Obj := fa "resolve_relation" "resolve_relation" (sAt 39)
noncomputable def o_279 (_ : Params) : Obj := { cls := .type "code", data := .fields #[vS "resolve_relation" 539, vS "resolve_relation" 540, vS "/claim/cut.py" 541, vI 196 0, vI 3 0, v0, v0, vI 3 0, vR 223, .bool true, vI 181 0, vR 224, .none, vR 225, vR 226, vR 227, vI 546 0, vI 196 0, vS "/claim/cut.py" 547] }
noncomputable def o_280 (_ : Params) : Obj := fb "resolve_relation" "resolve_relation" (sAt 39) (vS "f77.resolve" 324) 228
noncomputable def o_281 (_ : Params) : Obj := tu []
noncomputable def o_282 (_ : Params) : Obj := fs []
noncomputable def o_283 (_ : Params) : Obj := tu [vS "op" 552, vS "left" 553, vS "right" 554, vS "scope" 555, vS "x" 556, vS "y" 557, vS "kind" 558]
noncomputable def o_284 (_ : Params) : Obj := tu []
noncomputable def o_285 (_ : Params) : Obj := fa "resolve_binary" "resolve_binary" (sAt 40)
noncomputable def o_286 (_ : Params) : Obj := { cls := .type "code", data := .fields #[vS "resolve_binary" 549, vS "resolve_binary" 550, vS "/claim/cut.py" 551, vI 205 0, vI 4 0, v0, v0, vI 3 0, vR 230, .bool true, vI 181 0, vR 231, .none, vR 232, vR 233, vR 234, vI 559 0, vI 205 0, vS "/claim/cut.py" 560] }
noncomputable def o_287 (_ : Params) : Obj := fb "resolve_binary" "resolve_binary" (sAt 40) (vS "f77.resolve" 324) 235
noncomputable def o_288 (_ : Params) : Obj := tu []
noncomputable def o_289 (_ : Params) : Obj := fs []
noncomputable def o_290 (_ : Params) : Obj := tu [vS "tree" 565, vS "scope" 566, vS "tag" 567, vS "x" 568]
noncomputable def o_291 (_ : Params) : Obj := tu []
noncomputable def o_292 (_ : Params) : Obj := fa "resolve_expr" "resolve_expr" (sAt 41)
noncomputable def o_293 (_ : Params) : Obj := { cls := .type "code", data := .fields #[vS "resolve_expr" 562, vS "resolve_expr" 563, vS "/claim/cut.py" 564, vI 224 0, vI 2 0, v0, v0, vI 3 0, vR 237, .bool true, vI 181 0, vR 238, .none, vR 239, vR 240, vR 241, vI 569 0, vI 224 0, vS "/claim/cut.py" 570] }
noncomputable def o_294 (_ : Params) : Obj := fb "resolve_expr" "resolve_expr" (sAt 41) (vS "f77.resolve" 324) 242
noncomputable def o_295 (P : Params) : Obj := di [en P "__name__" 165 (vS "f77.limits" 647), en P "__doc__" 166 .none, en P "__package__" 167 .none, en P "__loader__" 168 (.builtin "__main__.__loader__#opaque"), en P "__spec__" 169 .none, en P "__annotations__" 170 (vR 6), en P "__builtins__" 171 (vR 4), en P "__file__" 173 (vS "/claim/cut.py" 172), en P "__cached__" 174 .none, en P "F77Error" 217 (vR 31), en P "CheckFault" 233 (vR 44), en P "RunFault" 249 (vR 56), en P "INTEGER" 253 (vI 0 252), en P "REAL" 255 (vI 1 254), en P "DOUBLE" 257 (vI 2 256), en P "COMPLEX" 259 (vI 3 258), en P "LOGICAL" 261 (vI 4 260), en P "CHARACTER" 263 (vI 5 262), en P "is_numeric" 270 (vR 65), en P "higher_kind" 278 (vR 72), en P "NOUGHT" 283 (vR 73), en P "count_digits" 291 (vR 80), en P "strip_zeros" 299 (vR 87), en P "round_digits" 312 (vR 94), en P "round_real" 323 (vR 101), en P "SUMS" 338 (vR 102), en P "RELATIONS" 357 (vR 103), en P "JUNCTIONS" 370 (vR 104), en P "PROCEDURES" 375 (vR 105), en P "Scope" 410 (vR 122), en P "symbol_of" 418 (vR 133), en P "real_const" 428 (vR 140), en P "complex_part" 436 (vR 147), en P "resolve_const" 445 (vR 154), en P "as_kind" 453 (vR 161), en P "resolve_name" 462 (vR 168), en P "resolve_whole" 471 (vR 175), en P "resolve_truth" 480 (vR 182), en P "resolve_ref" 486 (vR 187), en P "put_in" 500 (vR 194), en P "resolve_args" 510 (vR 201), en P "resolve_sub" 519 (vR 208), en P "resolve_unary" 529 (vR 215), en P "resolve_power" 538 (vR 222), en P "resolve_relation" 548 (vR 229), en P "resolve_binary" 561 (vR 236), en P "resolve_expr" 571 (vR 243), en P "resolve_value" 580 (vR 250), en P "LETTERS" 584 (vS "ABCDEFGHIJKLMNOPQRSTUVWXYZ" 583), en P "Implicit" 635 (vR 281), en P "tell_letters" 646 (vR 292)] 51
noncomputable def o_296 (_ : Params) : Obj := fs [vI 2 0, v0, vR 20, vI 7 0, v0, vR 40, vI 9 0, v0, vR 52, vI 18 0, v0, vR 64, vI 20 0, v0, vR 71, vI 28 0, v0, vR 79, vI 38 0, v0, vR 86, vI 45 0, v0, vR 93, vI 55 0, v0, vR 100, vI 68 0, v0, vR 111, vI 76 0, v0, vR 132, vI 80 0, v0, vR 139, vI 82 0, v0, vR 146, vI 86 0, v0, vR 153, vI 103 0, v0, vR 160, vI 109 0, v0, vR 167, vI 122 0, v0, vR 174, vI 129 0, v0, vR 181, vI 134 0, v0, vR 186, vI 151 0, v0, vR 193, vI 167 0, v0, vR 200, vI 175 0, v0, vR 207, vI 180 0, v0, vR 214, vI 189 0, v0, vR 221, vI 196 0, v0, vR 228, vI 205 0, v0, vR 235, vI 224 0, v0, vR 242, vI 240 0, v0, vR 249, vI 247 0, v0, vR 256, vI 262 0, v0, vR 291]
noncomputable def o_297 (_ : Params) : Obj := tu []
noncomputable def o_298 (_ : Params) : Obj := fs []
noncomputable def o_299 (_ : Params) : Obj := tu [vS "tree" 575, vS "scope" 576, vS "x" 577]
noncomputable def o_300 (_ : Params) : Obj := tu []
noncomputable def o_301 (_ : Params) : Obj := fa "resolve_value" "resolve_value" (sAt 42)
noncomputable def o_302 (_ : Params) : Obj := { cls := .type "code", data := .fields #[vS "resolve_value" 572, vS "resolve_value" 573, vS "/claim/cut.py" 574, vI 240 0, vI 2 0, v0, v0, vI 3 0, vR 244, .bool true, vI 181 0, vR 245, .none, vR 246, vR 247, vR 248, vI 578 0, vI 240 0, vS "/claim/cut.py" 579] }
noncomputable def o_303 (_ : Params) : Obj := fb "resolve_value" "resolve_value" (sAt 42) (vS "f77.resolve" 324) 249
noncomputable def o_304 (_ : Params) : Obj := tu []
noncomputable def o_305 (_ : Params) : Obj := { cls := .type "builtin_function_or_method", data := .fields #[.builtin "type.__prepare__", .type "type"] }
noncomputable def o_306 (P : Params) : Obj := di [en P "__module__" 592 (vS "f77.implicit" 581), en P "__qualname__" 594 (vS "Implicit" 593), en P "__firstlineno__" 596 (vI 247 595), en P "__init__" 604 (vR 264), en P "add" 617 (vR 271), en P "of" 625 (vR 278), en P "__static_attributes__" 628 (vR 279)] 7
noncomputable def o_307 (_ : Params) : Obj := tu []
noncomputable def o_308 (_ : Params) : Obj := fs [vI 249 0, vI 4 0, vR 263, vI 255 0, vI 4 0, vR 270, vI 260 0, vI 4 0, vR 277]
noncomputable def o_309 (_ : Params) : Obj := { cls := .type "code", data := .fields #[vS "Implicit" 587, vS "Implicit" 588, vS "/claim/cut.py" 589, vI 247 0, v0, v0, v0, v0, vR 254, .bool false, vI 181 0, vR 255, .none, .none, .none, .none, vI 590 0, vI 247 0, vS "/claim/cut.py" 591] }
noncomputable def o_310 (_ : Params) : Obj := fr 256 253 (vS "f77.implicit" 581)
noncomputable def o_311 (_ : Params) : Obj := tu []
noncomputable def o_312 (_ : Params) : Obj := fs []
noncomputable def o_313 (_ : Params) : Obj := tu [vS "self" 600, vS "place" 601]
noncomputable def o_314 (_ : Params) : Obj := tu []
noncomputable def o_315 (_ : Params) : Obj := fa "__init__" "Implicit.__init__" (mAt 45 0)
noncomputable def o_316 (_ : Params) : Obj := { cls := .type "code", data := .fields #[vS "__init__" 597, vS "Implicit.__init__" 598, vS "/claim/cut.py" 599, vI 249 0, vI 1 0, v0, v0, vI 3 0, vR 258, .bool true, vI 181 0, vR 259, .none, vR 260, vR 261, vR 262, vI 602 0, vI 249 0, vS "/claim/cut.py" 603] }
noncomputable def o_317 (_ : Params) : Obj := fb "__init__" "Implicit.__init__" (mAt 45 0) (vS "f77.implicit" 581) 263
noncomputable def o_318 (_ : Params) : Obj := tu []
noncomputable def o_319 (_ : Params) : Obj := fs []
noncomputable def o_320 (_ : Params) : Obj := tu [vS "self" 608, vS "rules" 609, vS "kind" 610, vS "length" 611, vS "letters" 612, vS "first" 613, vS "last" 614]
noncomputable def o_321 (_ : Params) : Obj := tu []
noncomputable def o_322 (_ : Params) : Obj := fa "add" "Implicit.add" (mAt 45 1)
noncomputable def o_323 (_ : Params) : Obj := { cls := .type "code", data := .fields #[vS "add" 605, vS "Implicit.add" 606, vS "/claim/cut.py" 607, vI 255 0, vI 2 0, v0, v0, vI 3 0, vR 265, .bool true, vI 181 0, vR 266, .none, vR 267, vR 268, vR 269, vI 615 0, vI 255 0, vS "/claim/cut.py" 616] }
noncomputable def o_324 (_ : Params) : Obj := fb "add" "Implicit.add" (mAt 45 1) (vS "f77.implicit" 581) 270
noncomputable def o_325 (_ : Params) : Obj := tu []
noncomputable def o_326 (_ : Params) : Obj := fs []
noncomputable def o_327 (_ : Params) : Obj := tu [vS "self" 621, vS "name" 622]
noncomputable def o_328 (_ : Params) : Obj := tu []
noncomputable def o_329 (_ : Params) : Obj := fa "of" "Implicit.of" (mAt 45 2)
noncomputable def o_330 (_ : Params) : Obj := { cls := .type "code", data := .fields #[vS "of" 618, vS "Implicit.of" 619, vS "/claim/cut.py" 620, vI 260 0, vI 2 0, v0, v0, vI 3 0, vR 272, .bool true, vI 181 0, vR 273, .none, vR 274, vR 275, vR 276, vI 623 0, vI 260 0, vS "/claim/cut.py" 624] }
noncomputable def o_331 (_ : Params) : Obj := fb "of" "Implicit.of" (mAt 45 2) (vS "f77.implicit" 581) 277
noncomputable def o_332 (_ : Params) : Obj := tu [vS "rules" 626, vS "told" 627]
noncomputable def o_333 (P : Params) : Obj := di [en P "__module__" 592 (vS "f77.implicit" 581), en P "__firstlineno__" 596 (vI 247 595), en P "__init__" 604 (vR 264), en P "add" 617 (vR 271), en P "of" 625 (vR 278), en P "__static_attributes__" 628 (vR 279), en P "__dict__" 630 (vR 282), en P "__weakref__" 632 (vR 283), en P "__doc__" 633 .none] 4
noncomputable def o_334 (_ : Params) : Obj := { cls := .type "type", data := .cls { name := "Implicit", bases := [.type "object"], mro := [vR 281, .type "object"], ns := 280, qualname := "Implicit" }, slots := #[none, none, some (vS "Implicit" 585), some (vS "Implicit" 593), some (.builtin "object.__new__"), some (.bool true)] }
noncomputable def o_335 (_ : Params) : Obj := { cls := .type "getset_descriptor", data := .fields #[vS "__dict__" 629, vR 281, .builtin "function.__dict__", .builtin "function.__dict__#set"] }
noncomputable def o_336 (_ : Params) : Obj := { cls := .type "getset_descriptor", data := .fields #[vS "__weakref__" 631, vR 281, .builtin "ExceptionGroup.__weakref__", .none] }
noncomputable def o_337 (_ : Params) : Obj := { cls := .type "super", data := .fields #[vR 281, vR 281, vR 281] }
noncomputable def o_338 (_ : Params) : Obj := { cls := .type "builtin_function_or_method", data := .fields #[.builtin "object.__init_subclass__", vR 281] }
noncomputable def o_339 (_ : Params) : Obj := tu []
noncomputable def o_340 (_ : Params) : Obj := fs []
noncomputable def o_341 (_ : Params) : Obj := tu [vS "implicit" 639, vS "rule" 640, vS "low" 641, vS "high" 642, vS "place" 643]
noncomputable def o_342 (_ : Params) : Obj := tu []
noncomputable def o_343 (_ : Params) : Obj := fa "tell_letters" "tell_letters" (sAt 46)
noncomputable def o_344 (_ : Params) : Obj := { cls := .type "code", data := .fields #[vS "tell_letters" 636, vS "tell_letters" 637, vS "/claim/cut.py" 638, vI 262 0, vI 4 0, v0, v0, vI 3 0, vR 286, .bool true, vI 181 0, vR 287, .none, vR 288, vR 289, vR 290, vI 644 0, vI 262 0, vS "/claim/cut.py" 645] }
noncomputable def o_345 (_ : Params) : Obj := fb "tell_letters" "tell_letters" (sAt 46) (vS "f77.implicit" 581) 291
noncomputable def o_348 (_ : Params) : Obj := tu []
noncomputable def o_349 (_ : Params) : Obj := { cls := .type "builtin_function_or_method", data := .fields #[.builtin "type.__prepare__", .type "type"] }
noncomputable def o_350 (P : Params) : Obj := di [en P "__module__" 656 (vS "f77.limits" 647), en P "__qualname__" 658 (vS "Limits" 657), en P "__firstlineno__" 660 (vI 272 659), en P "__init__" 683 (vR 307), en P "__static_attributes__" 692 (vR 308)] 5
noncomputable def o_351 (_ : Params) : Obj := tu []
noncomputable def o_352 (_ : Params) : Obj := fs [vI 274 0, vI 4 0, vR 306]
noncomputable def o_353 (_ : Params) : Obj := { cls := .type "code", data := .fields #[vS "Limits" 651, vS "Limits" 652, vS "/claim/cut.py" 653, vI 272 0, v0, v0, v0, v0, vR 296, .bool false, vI 181 0, vR 297, .none, .none, .none, .none, vI 654 0, vI 272 0, vS "/claim/cut.py" 655] }
noncomputable def o_354 (_ : Params) : Obj := fr 298 295 (vS "f77.limits" 647)
noncomputable def o_355 (_ : Params) : Obj := tu [vI 32 661, vI 7 662, vI 15 663, vI 38 664, vI 1000000 665, vI 19 666, vI 72 667, vI 40 668]
noncomputable def o_356 (_ : Params) : Obj := tu []
noncomputable def o_357 (_ : Params) : Obj := fs []
noncomputable def o_358 (_ : Params) : Obj := tu [vS "self" 672, vS "width" 673, vS "real_digits" 674, vS "double_digits" 675, vS "top_exponent" 676, vS "steps" 677, vS "continuations" 678, vS "columns" 679, vS "depth" 680]
noncomputable def o_359 (_ : Params) : Obj := tu []
noncomputable def o_360 (_ : Params) : Obj := fa "__init__" "Limits.__init__" (mAt 48 0)
noncomputable def o_361 (_ : Params) : Obj := { cls := .type "code", data := .fields #[vS "__init__" 669, vS "Limits.__init__" 670, vS "/claim/cut.py" 671, vI 274 0, vI 9 0, v0, v0, vI 3 0, vR 301, .bool true, vI 181 0, vR 302, .none, vR 303, vR 304, vR 305, vI 681 0, vI 274 0, vS "/claim/cut.py" 682] }
noncomputable def o_362 (P : Params) : Obj := { cls := .type "function", data := .func { name := "__init__", qualname := "Limits.__init__", params := fnP (mAt 48 0), body := .stmts (stB (mAt 48 0)), scope := stS (mAt 48 0), globals := 3, closure := [], defaults := vR 300, kwdefaults := .none, pyModule := vS "f77.limits" 647, code := vR 306 } }
noncomputable def o_363 (_ : Params) : Obj := tu [vS "columns" 684, vS "continuations" 685, vS "depth" 686, vS "double_digits" 687, vS "real_digits" 688, vS "steps" 689, vS "top_exponent" 690, vS "width" 691]
noncomputable def o_364 (P : Params) : Obj := di [en P "__module__" 656 (vS "f77.limits" 647), en P "__firstlineno__" 660 (vI 272 659), en P "__init__" 683 (vR 307), en P "__static_attributes__" 692 (vR 308), en P "__dict__" 694 (vR 311), en P "__weakref__" 696 (vR 312), en P "__doc__" 697 .none] 4
noncomputable def o_365 (_ : Params) : Obj := { cls := .type "type", data := .cls { name := "Limits", bases := [.type "object"], mro := [vR 310, .type "object"], ns := 309, qualname := "Limits" }, slots := #[none, none, some (vS "Limits" 649), some (vS "Limits" 657), some (.builtin "object.__new__"), some (.bool true)] }
noncomputable def o_366 (_ : Params) : Obj := { cls := .type "getset_descriptor", data := .fields #[vS "__dict__" 693, vR 310, .builtin "function.__dict__", .builtin "function.__dict__#set"] }
noncomputable def o_367 (_ : Params) : Obj := { cls := .type "getset_descriptor", data := .fields #[vS "__weakref__" 695, vR 310, .builtin "ExceptionGroup.__weakref__", .none] }
noncomputable def o_368 (_ : Params) : Obj := { cls := .type "super", data := .fields #[vR 310, vR 310, vR 310] }
noncomputable def o_369 (_ : Params) : Obj := { cls := .type "builtin_function_or_method", data := .fields #[.builtin "object.__init_subclass__", vR 310] }
noncomputable def o_372 (_ : Params) : Obj := tu []
noncomputable def o_373 (_ : Params) : Obj := { cls := .type "builtin_function_or_method", data := .fields #[.builtin "type.__prepare__", .type "type"] }
noncomputable def o_374 (P : Params) : Obj := di [en P "__module__" 709 (vS "f77.trees" 700), en P "__qualname__" 711 (vS "Symbol" 710), en P "__firstlineno__" 713 (vI 284 712), en P "__init__" 721 (vR 328), en P "__static_attributes__" 731 (vR 329)] 5
noncomputable def o_375 (_ : Params) : Obj := tu []
noncomputable def o_376 (_ : Params) : Obj := fs [vI 286 0, vI 4 0, vR 327]
noncomputable def o_377 (_ : Params) : Obj := { cls := .type "code", data := .fields #[vS "Symbol" 704, vS "Symbol" 705, vS "/claim/cut.py" 706, vI 284 0, v0, v0, v0, v0, vR 318, .bool false, vI 181 0, vR 319, .none, .none, .none, .none, vI 707 0, vI 284 0, vS "/claim/cut.py" 708] }
noncomputable def o_378 (_ : Params) : Obj := fr 320 317 (vS "f77.trees" 700)
noncomputable def o_379 (_ : Params) : Obj := tu []
noncomputable def o_380 (_ : Params) : Obj := fs []
noncomputable def o_381 (_ : Params) : Obj := tu [vS "self" 717, vS "name" 718]
noncomputable def o_382 (_ : Params) : Obj := tu []
noncomputable def o_383 (_ : Params) : Obj := fa "__init__" "Symbol.__init__" (mAt 50 0)
noncomputable def o_384 (_ : Params) : Obj := { cls := .type "code", data := .fields #[vS "__init__" 714, vS "Symbol.__init__" 715, vS "/claim/cut.py" 716, vI 286 0, vI 2 0, v0, v0, vI 3 0, vR 322, .bool true, vI 181 0, vR 323, .none, vR 324, vR 325, vR 326, vI 719 0, vI 286 0, vS "/claim/cut.py" 720] }
noncomputable def o_385 (_ : Params) : Obj := fb "__init__" "Symbol.__init__" (mAt 50 0) (vS "f77.trees" 700) 327
noncomputable def o_386 (_ : Params) : Obj := tu [vS "common" 722, vS "dims" 723, vS "is_dummy" 724, vS "is_saved" 725, vS "kind" 726, vS "length" 727, vS "name" 728, vS "use" 729, vS "value" 730]
noncomputable def o_387 (P : Params) : Obj := di [en P "__module__" 709 (vS "f77.trees" 700), en P "__firstlineno__" 713 (vI 284 712), en P "__init__" 721 (vR 328), en P "__static_attributes__" 731 (vR 329), en P "__dict__" 733 (vR 332), en P "__weakref__" 735 (vR 333), en P "__doc__" 736 .none] 4
noncomputable def o_388 (_ : Params) : Obj := { cls := .type "type", data := .cls { name := "Symbol", bases := [.type "object"], mro := [vR 331, .type "object"], ns := 330, qualname := "Symbol" }, slots := #[none, none, some (vS "Symbol" 702), some (vS "Symbol" 710), some (.builtin "object.__new__"), some (.bool true)] }
noncomputable def o_389 (_ : Params) : Obj := { cls := .type "getset_descriptor", data := .fields #[vS "__dict__" 732, vR 331, .builtin "function.__dict__", .builtin "function.__dict__#set"] }
noncomputable def o_390 (_ : Params) : Obj := { cls := .type "getset_descriptor", data := .fields #[vS "__weakref__" 734, vR 331, .builtin "ExceptionGroup.__weakref__", .none] }
noncomputable def o_391 (_ : Params) : Obj := { cls := .type "super", data := .fields #[vR 331, vR 331, vR 331] }
noncomputable def o_392 (_ : Params) : Obj := { cls := .type "builtin_function_or_method", data := .fields #[.builtin "object.__init_subclass__", vR 331] }
noncomputable def o_393 (_ : Params) : Obj := tu []
noncomputable def o_394 (_ : Params) : Obj := fs []
noncomputable def o_395 (_ : Params) : Obj := tu []
noncomputable def o_396 (_ : Params) : Obj := tu []
noncomputable def o_397 (_ : Params) : Obj := fa "_law_rest" "_law_rest" (sAt 52)
noncomputable def o_398 (_ : Params) : Obj := { cls := .type "code", data := .fields #[vS "_law_rest" 741, vS "_law_rest" 742, vS "/claim/cut.py" 743, vI 297 0, v0, v0, v0, vI 3 0, vR 336, .bool true, vI 181 0, vR 337, .none, vR 338, vR 339, vR 340, vI 744 0, vI 297 0, vS "/claim/cut.py" 745] }
noncomputable def o_399 (_ : Params) : Obj := fb "_law_rest" "_law_rest" (sAt 52) (vS "law_no0256_01" 739) 341
noncomputable def o_400 (_ : Params) : Obj := tu [vS "X1" 747, vS "I1" 748, vS "B1" 749, vS "N1" 750, vS "D1" 751, vS "C1" 752, vS "V1" 753, vS "L1" 754, vS "T1" 755, vS "M1" 756, vS "U1" 757, vS "P1" 758, vS "F1" 759, vS "G1" 760]
noncomputable def o_401 (_ : Params) : Obj := tu []
noncomputable def o_402 (_ : Params) : Obj := fs []
noncomputable def o_403 (_ : Params) : Obj := tu []
noncomputable def o_404 (_ : Params) : Obj := tu []
noncomputable def o_405 (_ : Params) : Obj := fa "_law_told" "_law_told" (sAt 54)
noncomputable def o_406 (_ : Params) : Obj := { cls := .type "code", data := .fields #[vS "_law_told" 762, vS "_law_told" 763, vS "/claim/cut.py" 764, vI 300 0, v0, v0, v0, vI 3 0, vR 344, .bool true, vI 181 0, vR 345, .none, vR 346, vR 347, vR 348, vI 765 0, vI 300 0, vS "/claim/cut.py" 766] }
noncomputable def o_407 (_ : Params) : Obj := fb "_law_told" "_law_told" (sAt 54) (vS "law_no0256_01" 739) 349
noncomputable def o_408 (_ : Params) : Obj := tu []
noncomputable def o_409 (_ : Params) : Obj := fs []
noncomputable def o_410 (_ : Params) : Obj := tu []
noncomputable def o_411 (_ : Params) : Obj := tu []
noncomputable def o_412 (_ : Params) : Obj := fa "_law_dims" "_law_dims" (sAt 55)
noncomputable def o_413 (_ : Params) : Obj := { cls := .type "code", data := .fields #[vS "_law_dims" 768, vS "_law_dims" 769, vS "/claim/cut.py" 770, vI 302 0, v0, v0, v0, vI 3 0, vR 351, .bool true, vI 181 0, vR 352, .none, vR 353, vR 354, vR 355, vI 771 0, vI 302 0, vS "/claim/cut.py" 772] }
noncomputable def o_414 (_ : Params) : Obj := fb "_law_dims" "_law_dims" (sAt 55) (vS "law_no0256_01" 739) 356
noncomputable def o_415 (_ : Params) : Obj := tu []
noncomputable def o_416 (_ : Params) : Obj := fs []
noncomputable def o_417 (_ : Params) : Obj := tu []
noncomputable def o_418 (_ : Params) : Obj := tu []
noncomputable def o_419 (_ : Params) : Obj := fa "_law_join" "_law_join" (sAt 56)
noncomputable def o_420 (_ : Params) : Obj := { cls := .type "code", data := .fields #[vS "_law_join" 774, vS "_law_join" 775, vS "/claim/cut.py" 776, vI 304 0, v0, v0, v0, vI 3 0, vR 358, .bool true, vI 181 0, vR 359, .none, vR 360, vR 361, vR 362, vI 777 0, vI 304 0, vS "/claim/cut.py" 778] }
noncomputable def o_421 (_ : Params) : Obj := fb "_law_join" "_law_join" (sAt 56) (vS "law_no0256_01" 739) 363
noncomputable def o_424 (_ : Params) : Obj := tu [vS "int" 780, vI 3 781]
noncomputable def o_425 (_ : Params) : Obj := tu [vS "real" 782, vI 25 783, vM 0 785]
noncomputable def o_426 (_ : Params) : Obj := tu [vS "int" 786, vI 2147483647 787]
noncomputable def o_427 (_ : Params) : Obj := tu [vS "real" 788, vI 12345675 789, vI 2 790]
noncomputable def o_428 (_ : Params) : Obj := tu [vS "dble" 791, vI 100 792, vI 0 793]
noncomputable def o_429 (_ : Params) : Obj := tu [vS "log" 794, .bool true]
noncomputable def o_430 (_ : Params) : Obj := tu [vS "char" 795, vS "ab" 796]
noncomputable def o_431 (_ : Params) : Obj := tu [vS "int" 798, vM 0 800]
noncomputable def o_432 (_ : Params) : Obj := tu [vS "real" 801, vI 5 802, vM 0 804]
noncomputable def o_433 (_ : Params) : Obj := tu [vS "cplx" 797, vR 372, vR 373]
noncomputable def o_434 (_ : Params) : Obj := tu [vS "int" 805, vI 2147483648 806]
noncomputable def o_435 (_ : Params) : Obj := tu [vS "real" 807, vI 99999995 808, vI 0 809]
noncomputable def o_436 (_ : Params) : Obj := tu [vR 365, vR 366, vR 367, vR 368, vR 369, vR 370, vR 371, vR 374, vR 375, vR 376]
noncomputable def o_437 (_ : Params) : Obj := tu [vS "+" 811, vS "-" 812, vS "*" 813, vS "/" 814, vS "**" 815, vS "**" 816, vS ".EQ." 817, vS ".LT." 818, vS ".GE." 819, vS "//" 820, vS ".AND." 821, vS ".NEQV." 822]
noncomputable def o_438 (_ : Params) : Obj := tu [vS "add" 824, vS "sub" 825, vS "mul" 826, vS "div" 827, vS "" 828, vS "" 829, vS "eq" 830, vS "lt" 831, vS "ge" 832, vS "" 833, vS "and" 834, vS "neqv" 835]
noncomputable def o_439 (_ : Params) : Obj := tu []
noncomputable def o_440 (_ : Params) : Obj := fs []
noncomputable def o_441 (_ : Params) : Obj := tu [vS "pen" 840, vS "many" 841, vS "at" 842]
noncomputable def o_442 (_ : Params) : Obj := tu []
noncomputable def o_443 (_ : Params) : Obj := fa "_law_draw" "_law_draw" (sAt 60)
noncomputable def o_444 (_ : Params) : Obj := { cls := .type "code", data := .fields #[vS "_law_draw" 837, vS "_law_draw" 838, vS "/claim/cut.py" 839, vI 309 0, vI 2 0, v0, v0, vI 3 0, vR 380, .bool true, vI 181 0, vR 381, .none, vR 382, vR 383, vR 384, vI 843 0, vI 309 0, vS "/claim/cut.py" 844] }
noncomputable def o_445 (_ : Params) : Obj := fb "_law_draw" "_law_draw" (sAt 60) (vS "law_no0256_01" 739) 385
noncomputable def o_446 (_ : Params) : Obj := tu []
noncomputable def o_447 (_ : Params) : Obj := fs []
noncomputable def o_448 (_ : Params) : Obj := fa "_law_tree" "_law_tree" (sAt 61)
noncomputable def o_449 (_ : Params) : Obj := { cls := .type "code", data := .fields #[vS "_law_tree" 846, vS "_law_tree" 847, vS "/claim/cut.py" 848, vI 313 0, vI 2 0, v0, v0, vI 3 0, vR 387, .bool true, vI 181 0, vR 388, .none, .none, .none, vR 389, vI 849 0, vI 313 0, vS "/claim/cut.py" 850] }
noncomputable def o_450 (_ : Params) : Obj := fb "_law_tree" "_law_tree" (sAt 61) (vS "law_no0256_01" 739) 390
noncomputable def o_451 (_ : Params) : Obj := tu []
noncomputable def o_452 (_ : Params) : Obj := fs []
noncomputable def o_453 (_ : Params) : Obj := tu [vS "m" 855, vS "e" 856, vS "digits" 857, vS "over" 858, vS "whole" 859, vS "rest" 860]
noncomputable def o_454 (_ : Params) : Obj := tu []
noncomputable def o_455 (_ : Params) : Obj := fa "_law_rounded" "_law_rounded" (sAt 62)
noncomputable def o_456 (_ : Params) : Obj := { cls := .type "code", data := .fields #[vS "_law_rounded" 852, vS "_law_rounded" 853, vS "/claim/cut.py" 854, vI 330 0, vI 3 0, v0, v0, vI 3 0, vR 392, .bool true, vI 181 0, vR 393, .none, vR 394, vR 395, vR 396, vI 861 0, vI 330 0, vS "/claim/cut.py" 862] }
noncomputable def o_457 (_ : Params) : Obj := fb "_law_rounded" "_law_rounded" (sAt 62) (vS "law_no0256_01" 739) 397
noncomputable def o_458 (_ : Params) : Obj := tu []
noncomputable def o_459 (_ : Params) : Obj := fs []
noncomputable def o_460 (_ : Params) : Obj := fa "_law_const" "_law_const" (sAt 63)
noncomputable def o_461 (_ : Params) : Obj := { cls := .type "code", data := .fields #[vS "_law_const" 864, vS "_law_const" 865, vS "/claim/cut.py" 866, vI 342 0, vI 1 0, v0, v0, vI 3 0, vR 399, .bool true, vI 181 0, vR 400, .none, .none, .none, vR 401, vI 867 0, vI 342 0, vS "/claim/cut.py" 868] }
noncomputable def o_462 (_ : Params) : Obj := fb "_law_const" "_law_const" (sAt 63) (vS "law_no0256_01" 739) 402
noncomputable def o_463 (_ : Params) : Obj := tu []
noncomputable def o_464 (_ : Params) : Obj := fs []
noncomputable def o_465 (_ : Params) : Obj := tu [vS "x" 873, vS "kind" 874]
noncomputable def o_466 (_ : Params) : Obj := tu []
noncomputable def o_467 (_ : Params) : Obj := fa "_law_to" "_law_to" (sAt 64)
noncomputable def o_468 (_ : Params) : Obj := { cls := .type "code", data := .fields #[vS "_law_to" 870, vS "_law_to" 871, vS "/claim/cut.py" 872, vI 352 0, vI 2 0, v0, v0, vI 3 0, vR 404, .bool true, vI 181 0, vR 405, .none, vR 406, vR 407, vR 408, vI 875 0, vI 352 0, vS "/claim/cut.py" 876] }
noncomputable def o_469 (_ : Params) : Obj := fb "_law_to" "_law_to" (sAt 64) (vS "law_no0256_01" 739) 409
noncomputable def o_470 (_ : Params) : Obj := tu []
noncomputable def o_471 (_ : Params) : Obj := fs []
noncomputable def o_472 (_ : Params) : Obj := tu [vS "tree" 881, vS "kinds" 882, vS "x" 883]
noncomputable def o_473 (_ : Params) : Obj := tu []
noncomputable def o_474 (_ : Params) : Obj := fa "_law_value" "_law_value" (sAt 65)
noncomputable def o_475 (_ : Params) : Obj := { cls := .type "code", data := .fields #[vS "_law_value" 878, vS "_law_value" 879, vS "/claim/cut.py" 880, vI 356 0, vI 2 0, v0, v0, vI 3 0, vR 411, .bool true, vI 181 0, vR 412, .none, vR 413, vR 414, vR 415, vI 884 0, vI 356 0, vS "/claim/cut.py" 885] }
noncomputable def o_476 (_ : Params) : Obj := fb "_law_value" "_law_value" (sAt 65) (vS "law_no0256_01" 739) 416
noncomputable def o_477 (_ : Params) : Obj := tu []
noncomputable def o_478 (_ : Params) : Obj := fs []
noncomputable def o_479 (_ : Params) : Obj := tu [vS "name" 890, vS "kinds" 891]
noncomputable def o_480 (_ : Params) : Obj := tu []
noncomputable def o_481 (_ : Params) : Obj := fa "_law_named" "_law_named" (sAt 66)
noncomputable def o_482 (_ : Params) : Obj := { cls := .type "code", data := .fields #[vS "_law_named" 887, vS "_law_named" 888, vS "/claim/cut.py" 889, vI 359 0, vI 2 0, v0, v0, vI 3 0, vR 418, .bool true, vI 181 0, vR 419, .none, vR 420, vR 421, vR 422, vI 892 0, vI 359 0, vS "/claim/cut.py" 893] }
noncomputable def o_483 (_ : Params) : Obj := fb "_law_named" "_law_named" (sAt 66) (vS "law_no0256_01" 739) 423
noncomputable def o_484 (_ : Params) : Obj := tu []
noncomputable def o_485 (_ : Params) : Obj := fs []
noncomputable def o_486 (_ : Params) : Obj := fa "_law_applied" "_law_applied" (sAt 67)
noncomputable def o_487 (_ : Params) : Obj := { cls := .type "code", data := .fields #[vS "_law_applied" 895, vS "_law_applied" 896, vS "/claim/cut.py" 897, vI 365 0, vI 3 0, v0, v0, vI 3 0, vR 425, .bool true, vI 181 0, vR 426, .none, .none, .none, vR 427, vI 898 0, vI 365 0, vS "/claim/cut.py" 899] }
noncomputable def o_488 (_ : Params) : Obj := fb "_law_applied" "_law_applied" (sAt 67) (vS "law_no0256_01" 739) 428
noncomputable def o_489 (_ : Params) : Obj := tu []
noncomputable def o_490 (_ : Params) : Obj := fs []
noncomputable def o_491 (_ : Params) : Obj := fa "_law_cut" "_law_cut" (sAt 68)
noncomputable def o_492 (_ : Params) : Obj := { cls := .type "code", data := .fields #[vS "_law_cut" 901, vS "_law_cut" 902, vS "/claim/cut.py" 903, vI 378 0, vI 2 0, v0, v0, vI 3 0, vR 430, .bool true, vI 181 0, vR 431, .none, .none, .none, vR 432, vI 904 0, vI 378 0, vS "/claim/cut.py" 905] }
noncomputable def o_493 (_ : Params) : Obj := fb "_law_cut" "_law_cut" (sAt 68) (vS "law_no0256_01" 739) 433
noncomputable def o_494 (P : Params) : Obj := di [en P "__name__" 165 (vS "law_no0256_01" 739), en P "__doc__" 166 .none, en P "__package__" 167 .none, en P "__loader__" 168 (.builtin "__main__.__loader__#opaque"), en P "__spec__" 169 .none, en P "__annotations__" 170 (vR 6), en P "__builtins__" 171 (vR 4), en P "__file__" 173 (vS "/claim/cut.py" 172), en P "__cached__" 174 .none, en P "F77Error" 217 (vR 31), en P "CheckFault" 233 (vR 44), en P "RunFault" 249 (vR 56), en P "INTEGER" 253 (vI 0 252), en P "REAL" 255 (vI 1 254), en P "DOUBLE" 257 (vI 2 256), en P "COMPLEX" 259 (vI 3 258), en P "LOGICAL" 261 (vI 4 260), en P "CHARACTER" 263 (vI 5 262), en P "is_numeric" 270 (vR 65), en P "higher_kind" 278 (vR 72), en P "NOUGHT" 283 (vR 73), en P "count_digits" 291 (vR 80), en P "strip_zeros" 299 (vR 87), en P "round_digits" 312 (vR 94), en P "round_real" 323 (vR 101), en P "SUMS" 338 (vR 102), en P "RELATIONS" 357 (vR 103), en P "JUNCTIONS" 370 (vR 104), en P "PROCEDURES" 375 (vR 105), en P "Scope" 410 (vR 122), en P "symbol_of" 418 (vR 133), en P "real_const" 428 (vR 140), en P "complex_part" 436 (vR 147), en P "resolve_const" 445 (vR 154), en P "as_kind" 453 (vR 161), en P "resolve_name" 462 (vR 168), en P "resolve_whole" 471 (vR 175), en P "resolve_truth" 480 (vR 182), en P "resolve_ref" 486 (vR 187), en P "put_in" 500 (vR 194), en P "resolve_args" 510 (vR 201), en P "resolve_sub" 519 (vR 208), en P "resolve_unary" 529 (vR 215), en P "resolve_power" 538 (vR 222), en P "resolve_relation" 548 (vR 229), en P "resolve_binary" 561 (vR 236), en P "resolve_expr" 571 (vR 243), en P "resolve_value" 580 (vR 250), en P "LETTERS" 584 (vS "ABCDEFGHIJKLMNOPQRSTUVWXYZ" 583), en P "Implicit" 635 (vR 281), en P "tell_letters" 646 (vR 292), en P "Limits" 699 (vR 310), en P "Symbol" 738 (vR 331), en P "_law_rest" 746 (vR 342), en P "_law_names" 761 (vR 343), en P "_law_told" 767 (vR 350), en P "_law_dims" 773 (vR 357), en P "_law_join" 779 (vR 364), en P "_law_consts" 810 (vR 377), en P "_law_signs" 823 (vR 378), en P "_law_words" 836 (vR 379), en P "_law_draw" 845 (vR 386), en P "_law_tree" 851 (vR 391), en P "_law_rounded" 863 (vR 398), en P "_law_const" 869 (vR 403), en P "_law_to" 877 (vR 410), en P "_law_value" 886 (vR 417), en P "_law_named" 894 (vR 424), en P "_law_applied" 900 (vR 429), en P "_law_cut" 906 (vR 434), en P "_law_pair" 917 (vR 441), en P "_law_typed" 927 (vR 448), en P "_law_choose" 935 (vR 455), en P "_law_symbols" 945 (vR 462), en P "_law_rule" 954 (vR 469), en P "_law_letters" 960 (vR 474), en P "law" 966 (vR 479)] 77
noncomputable def o_495 (_ : Params) : Obj := fs [vI 2 0, v0, vR 20, vI 7 0, v0, vR 40, vI 9 0, v0, vR 52, vI 18 0, v0, vR 64, vI 20 0, v0, vR 71, vI 28 0, v0, vR 79, vI 38 0, v0, vR 86, vI 45 0, v0, vR 93, vI 55 0, v0, vR 100, vI 68 0, v0, vR 111, vI 76 0, v0, vR 132, vI 80 0, v0, vR 139, vI 82 0, v0, vR 146, vI 86 0, v0, vR 153, vI 103 0, v0, vR 160, vI 109 0, v0, vR 167, vI 122 0, v0, vR 174, vI 129 0, v0, vR 181, vI 134 0, v0, vR 186, vI 151 0, v0, vR 193, vI 167 0, v0, vR 200, vI 175 0, v0, vR 207, vI 180 0, v0, vR 214, vI 189 0, v0, vR 221, vI 196 0, v0, vR 228, vI 205 0, v0, vR 235, vI 224 0, v0, vR 242, vI 240 0, v0, vR 249, vI 247 0, v0, vR 256, vI 262 0, v0, vR 291, vI 272 0, v0, vR 298, vI 284 0, v0, vR 320, vI 297 0, v0, vR 341, vI 300 0, v0, vR 349, vI 302 0, v0, vR 356, vI 304 0, v0, vR 363, vI 309 0, v0, vR 385, vI 313 0, v0, vR 390, vI 330 0, v0, vR 397, vI 342 0, v0, vR 402, vI 352 0, v0, vR 409, vI 356 0, v0, vR 416, vI 359 0, v0, vR 423, vI 365 0, v0, vR 428, vI 378 0, v0, vR 433, vI 387 0, v0, vR 440, vI 405 0, v0, vR 447, vI 424 0, v0, vR 454, vI 426 0, v0, vR 461, vI 441 0, v0, vR 468, vI 445 0, v0, vR 473, vI 457 0, v0, vR 478]
noncomputable def o_496 (_ : Params) : Obj := tu []
noncomputable def o_497 (_ : Params) : Obj := fs []
noncomputable def o_498 (_ : Params) : Obj := tu [vS "sign" 910, vS "x" 911, vS "y" 912, vS "word" 913, vS "kind" 914]
noncomputable def o_499 (_ : Params) : Obj := tu []
noncomputable def o_500 (_ : Params) : Obj := fa "_law_pair" "_law_pair" (sAt 69)
noncomputable def o_501 (_ : Params) : Obj := { cls := .type "code", data := .fields #[vS "_law_pair" 907, vS "_law_pair" 908, vS "/claim/cut.py" 909, vI 387 0, vI 3 0, v0, v0, vI 3 0, vR 435, .bool true, vI 181 0, vR 436, .none, vR 437, vR 438, vR 439, vI 915 0, vI 387 0, vS "/claim/cut.py" 916] }
noncomputable def o_502 (_ : Params) : Obj := fb "_law_pair" "_law_pair" (sAt 69) (vS "law_no0256_01" 739) 440
noncomputable def o_503 (_ : Params) : Obj := tu []
noncomputable def o_504 (_ : Params) : Obj := fs []
noncomputable def o_505 (_ : Params) : Obj := tu [vS "tree" 921, vS "kinds" 922, vS "x" 923, vS "y" 924]
noncomputable def o_506 (_ : Params) : Obj := tu []
noncomputable def o_507 (_ : Params) : Obj := fa "_law_typed" "_law_typed" (sAt 70)
noncomputable def o_508 (_ : Params) : Obj := { cls := .type "code", data := .fields #[vS "_law_typed" 918, vS "_law_typed" 919, vS "/claim/cut.py" 920, vI 405 0, vI 2 0, v0, v0, vI 3 0, vR 442, .bool true, vI 181 0, vR 443, .none, vR 444, vR 445, vR 446, vI 925 0, vI 405 0, vS "/claim/cut.py" 926] }
noncomputable def o_509 (_ : Params) : Obj := fb "_law_typed" "_law_typed" (sAt 70) (vS "law_no0256_01" 739) 447
noncomputable def o_510 (_ : Params) : Obj := tu []
noncomputable def o_511 (_ : Params) : Obj := fs []
noncomputable def o_512 (_ : Params) : Obj := tu [vS "name" 931, vS "kinds" 932]
noncomputable def o_513 (_ : Params) : Obj := tu []
noncomputable def o_514 (_ : Params) : Obj := fa "_law_choose" "_law_choose" (sAt 71)
noncomputable def o_515 (_ : Params) : Obj := { cls := .type "code", data := .fields #[vS "_law_choose" 928, vS "_law_choose" 929, vS "/claim/cut.py" 930, vI 424 0, vI 2 0, v0, v0, vI 3 0, vR 449, .bool true, vI 181 0, vR 450, .none, vR 451, vR 452, vR 453, vI 933 0, vI 424 0, vS "/claim/cut.py" 934] }
noncomputable def o_516 (_ : Params) : Obj := fb "_law_choose" "_law_choose" (sAt 71) (vS "law_no0256_01" 739) 454
noncomputable def o_517 (_ : Params) : Obj := tu []
noncomputable def o_518 (_ : Params) : Obj := fs []
noncomputable def o_519 (_ : Params) : Obj := tu [vS "kinds" 939, vS "symbols" 940, vS "name" 941, vS "symbol" 942]
noncomputable def o_520 (_ : Params) : Obj := tu []
noncomputable def o_521 (_ : Params) : Obj := fa "_law_symbols" "_law_symbols" (sAt 72)
noncomputable def o_522 (_ : Params) : Obj := { cls := .type "code", data := .fields #[vS "_law_symbols" 936, vS "_law_symbols" 937, vS "/claim/cut.py" 938, vI 426 0, vI 1 0, v0, v0, vI 3 0, vR 456, .bool true, vI 181 0, vR 457, .none, vR 458, vR 459, vR 460, vI 943 0, vI 426 0, vS "/claim/cut.py" 944] }
noncomputable def o_523 (_ : Params) : Obj := fb "_law_symbols" "_law_symbols" (sAt 72) (vS "law_no0256_01" 739) 461
noncomputable def o_524 (_ : Params) : Obj := tu []
noncomputable def o_525 (_ : Params) : Obj := fs []
noncomputable def o_526 (_ : Params) : Obj := tu [vS "pen" 949, vS "low" 950, vS "high" 951]
noncomputable def o_527 (_ : Params) : Obj := tu []
noncomputable def o_528 (_ : Params) : Obj := fa "_law_rule" "_law_rule" (sAt 73)
noncomputable def o_529 (_ : Params) : Obj := { cls := .type "code", data := .fields #[vS "_law_rule" 946, vS "_law_rule" 947, vS "/claim/cut.py" 948, vI 441 0, vI 1 0, v0, v0, vI 3 0, vR 463, .bool true, vI 181 0, vR 464, .none, vR 465, vR 466, vR 467, vI 952 0, vI 441 0, vS "/claim/cut.py" 953] }
noncomputable def o_530 (_ : Params) : Obj := fb "_law_rule" "_law_rule" (sAt 73) (vS "law_no0256_01" 739) 468
noncomputable def o_531 (_ : Params) : Obj := tu []
noncomputable def o_532 (_ : Params) : Obj := fs []
noncomputable def o_533 (_ : Params) : Obj := fa "_law_letters" "_law_letters" (sAt 74)
noncomputable def o_534 (_ : Params) : Obj := { cls := .type "code", data := .fields #[vS "_law_letters" 955, vS "_law_letters" 956, vS "/claim/cut.py" 957, vI 445 0, vI 1 0, v0, v0, vI 3 0, vR 470, .bool true, vI 181 0, vR 471, .none, .none, .none, vR 472, vI 958 0, vI 445 0, vS "/claim/cut.py" 959] }
noncomputable def o_535 (_ : Params) : Obj := fb "_law_letters" "_law_letters" (sAt 74) (vS "law_no0256_01" 739) 473
noncomputable def o_536 (_ : Params) : Obj := tu []
noncomputable def o_537 (_ : Params) : Obj := fs []
noncomputable def o_538 (_ : Params) : Obj := fa "law" "law" (sAt 75)
noncomputable def o_539 (_ : Params) : Obj := { cls := .type "code", data := .fields #[vS "law" 961, vS "law" 962, vS "/claim/cut.py" 963, vI 457 0, vI 1 0, v0, v0, vI 3 0, vR 475, .bool true, vI 181 0, vR 476, .none, .none, .none, vR 477, vI 964 0, vI 457 0, vS "/claim/cut.py" 965] }
noncomputable def o_540 (_ : Params) : Obj := fb "law" "law" (sAt 75) (vS "law_no0256_01" 739) 478
noncomputable def tree_47 (P : Params) : BT := nd (boot_o_0 P) (nd (boot_o_1 P) (nd (boot_o_3 P) (nd (boot_o_7 P) nl nl) (nd (o_43 P) nl nl)) (nd (boot_o_5 P) (nd (boot_o_9 P) nl nl) (nd (o_45 P) nl nl))) (nd (boot_o_2 P) (nd (boot_o_4 P) (nd (boot_o_8 P) nl nl) (nd (o_44 P) nl nl)) (nd (boot_o_6 P) (nd (boot_o_10 P) nl nl) (nd (o_46 P) nl nl)))
noncomputable def tree_123 (P : Params) : BT := nd (boot_o_0 P) (nd (boot_o_1 P) (nd (o_87 P) (nd (boot_o_7 P) (nd (o_52 P) (nd (o_89 P) (nd (o_106 P) nl nl) nl) (nd (o_90 P) (nd (o_122 P) nl nl) nl)) (nd (o_60 P) (nd (o_79 P) (nd (o_114 P) nl nl) nl) (nd (o_98 P) nl nl))) (nd (o_43 P) (nd (o_56 P) (nd (o_75 P) (nd (o_110 P) nl nl) nl) (nd (o_94 P) nl nl)) (nd (o_64 P) (nd (o_83 P) (nd (o_118 P) nl nl) nl) (nd (o_102 P) nl nl)))) (nd (boot_o_5 P) (nd (boot_o_9 P) (nd (o_54 P) (nd (o_70 P) (nd (o_108 P) nl nl) nl) (nd (o_92 P) nl nl)) (nd (o_62 P) (nd (o_81 P) (nd (o_116 P) nl nl) nl) (nd (o_100 P) nl nl))) (nd (o_45 P) (nd (o_58 P) (nd (o_77 P) (nd (o_112 P) nl nl) nl) (nd (o_96 P) nl nl)) (nd (o_66 P) (nd (o_85 P) (nd (o_120 P) nl nl) nl) (nd (o_104 P) nl nl))))) (nd (o_49 P) (nd (boot_o_4 P) (nd (boot_o_8 P) (nd (o_53 P) (nd (o_69 P) (nd (o_107 P) nl nl) nl) (nd (o_91 P) (nd (o_123 P) nl nl) nl)) (nd (o_61 P) (nd (o_80 P) (nd (o_115 P) nl nl) nl) (nd (o_99 P) nl nl))) (nd (o_88 P) (nd (o_57 P) (nd (o_76 P) (nd (o_111 P) nl nl) nl) (nd (o_95 P) nl nl)) (nd (o_65 P) (nd (o_84 P) (nd (o_119 P) nl nl) nl) (nd (o_103 P) nl nl)))) (nd (boot_o_6 P) (nd (boot_o_10 P) (nd (o_55 P) (nd (o_71 P) (nd (o_109 P) nl nl) nl) (nd (o_93 P) nl nl)) (nd (o_63 P) (nd (o_82 P) (nd (o_117 P) nl nl) nl) (nd (o_101 P) nl nl))) (nd (o_46 P) (nd (o_59 P) (nd (o_78 P) (nd (o_113 P) nl nl) nl) (nd (o_97 P) nl nl)) (nd (o_67 P) (nd (o_86 P) (nd (o_121 P) nl nl) nl) (nd (o_105 P) nl nl)))))
noncomputable def tree_150 (P : Params) : BT := nd (boot_o_0 P) (nd (boot_o_1 P) (nd (o_124 P) (nd (boot_o_7 P) (nd (o_52 P) (nd (o_89 P) (nd (o_106 P) nl nl) (nd (o_140 P) nl nl)) (nd (o_90 P) (nd (o_122 P) nl nl) nl)) (nd (o_60 P) (nd (o_79 P) (nd (o_114 P) nl nl) (nd (o_148 P) nl nl)) (nd (o_98 P) (nd (o_132 P) nl nl) nl))) (nd (o_43 P) (nd (o_56 P) (nd (o_75 P) (nd (o_110 P) nl nl) (nd (o_144 P) nl nl)) (nd (o_94 P) (nd (o_128 P) nl nl) nl)) (nd (o_64 P) (nd (o_83 P) (nd (o_118 P) nl nl) nl) (nd (o_102 P) (nd (o_136 P) nl nl) nl)))) (nd (boot_o_5 P) (nd (boot_o_9 P) (nd (o_54 P) (nd (o_70 P) (nd (o_108 P) nl nl) (nd (o_142 P) nl nl)) (nd (o_92 P) (nd (o_126 P) nl nl) nl)) (nd (o_62 P) (nd (o_81 P) (nd (o_116 P) nl nl) (nd (o_150 P) nl nl)) (nd (o_100 P) (nd (o_134 P) nl nl) nl))) (nd (o_45 P) (nd (o_58 P) (nd (o_77 P) (nd (o_112 P) nl nl) (nd (o_146 P) nl nl)) (nd (o_96 P) (nd (o_130 P) nl nl) nl)) (nd (o_66 P) (nd (o_85 P) (nd (o_120 P) nl nl) nl) (nd (o_104 P) (nd (o_138 P) nl nl) nl))))) (nd (o_49 P) (nd (boot_o_4 P) (nd (boot_o_8 P) (nd (o_53 P) (nd (o_69 P) (nd (o_107 P) nl nl) (nd (o_141 P) nl nl)) (nd (o_91 P) (nd (o_123 P) nl nl) nl)) (nd (o_61 P) (nd (o_80 P) (nd (o_115 P) nl nl) (nd (o_149 P) nl nl)) (nd (o_99 P) (nd (o_133 P) nl nl) nl))) (nd (o_125 P) (nd (o_57 P) (nd (o_76 P) (nd (o_111 P) nl nl) (nd (o_145 P) nl nl)) (nd (o_95 P) (nd (o_129 P) nl nl) nl)) (nd (o_65 P) (nd (o_84 P) (nd (o_119 P) nl nl) nl) (nd (o_103 P) (nd (o_137 P) nl nl) nl)))) (nd (boot_o_6 P) (nd (boot_o_10 P) (nd (o_55 P) (nd (o_71 P) (nd (o_109 P) nl nl) (nd (o_143 P) nl nl)) (nd (o_93 P) (nd (o_127 P) nl nl) nl)) (nd (o_63 P) (nd (o_82 P) (nd (o_117 P) nl nl) nl) (nd (o_101 P) (nd (o_135 P) nl nl) nl))) (nd (o_46 P) (nd (o_59 P) (nd (o_78 P) (nd (o_113 P) nl nl) (nd (o_147 P) nl nl)) (nd (o_97 P) (nd (o_131 P) nl nl) nl)) (nd (o_67 P) (nd (o_86 P) (nd (o_121 P) nl nl) nl) (nd (o_105 P) (nd (o_139 P) nl nl) nl)))))
noncomputable def tree_345 (P : Params) : BT := nd (boot_o_0 P) (nd (boot_o_1 P) (nd (o_295 P) (nd (boot_o_7 P) (nd (o_52 P) (nd (o_89 P) (nd (o_106 P) (nd (o_176 P) (nd (o_308 P) nl nl) nl) (nd (o_242 P) nl nl)) (nd (o_140 P) (nd (o_208 P) (nd (o_340 P) nl nl) nl) (nd (o_274 P) nl nl))) (nd (o_90 P) (nd (o_122 P) (nd (o_192 P) (nd (o_324 P) nl nl) nl) (nd (o_258 P) nl nl)) (nd (o_160 P) (nd (o_226 P) nl nl) (nd (o_290 P) nl nl)))) (nd (o_60 P) (nd (o_79 P) (nd (o_114 P) (nd (o_184 P) (nd (o_316 P) nl nl) nl) (nd (o_250 P) nl nl)) (nd (o_148 P) (nd (o_218 P) nl nl) (nd (o_282 P) nl nl))) (nd (o_98 P) (nd (o_132 P) (nd (o_200 P) (nd (o_332 P) nl nl) nl) (nd (o_266 P) nl nl)) (nd (o_168 P) (nd (o_234 P) nl nl) (nd (o_300 P) nl nl))))) (nd (o_43 P) (nd (o_56 P) (nd (o_75 P) (nd (o_110 P) (nd (o_180 P) (nd (o_312 P) nl nl) nl) (nd (o_246 P) nl nl)) (nd (o_144 P) (nd (o_214 P) (nd (o_344 P) nl nl) nl) (nd (o_278 P) nl nl))) (nd (o_94 P) (nd (o_128 P) (nd (o_196 P) (nd (o_328 P) nl nl) nl) (nd (o_262 P) nl nl)) (nd (o_164 P) (nd (o_230 P) nl nl) (nd (o_294 P) nl nl)))) (nd (o_64 P) (nd (o_83 P) (nd (o_118 P) (nd (o_188 P) (nd (o_320 P) nl nl) nl) (nd (o_254 P) nl nl)) (nd (o_156 P) (nd (o_222 P) nl nl) (nd (o_286 P) nl nl))) (nd (o_102 P) (nd (o_136 P) (nd (o_204 P) (nd (o_336 P) nl nl) nl) (nd (o_270 P) nl nl)) (nd (o_172 P) (nd (o_238 P) nl nl) (nd (o_304 P) nl nl)))))) (nd (boot_o_5 P) (nd (boot_o_9 P) (nd (o_54 P) (nd (o_70 P) (nd (o_108 P) (nd (o_178 P) (nd (o_310 P) nl nl) nl) (nd (o_244 P) nl nl)) (nd (o_142 P) (nd (o_210 P) (nd (o_342 P) nl nl) nl) (nd (o_276 P) nl nl))) (nd (o_92 P) (nd (o_126 P) (nd (o_194 P) (nd (o_326 P) nl nl) nl) (nd (o_260 P) nl nl)) (nd (o_162 P) (nd (o_228 P) nl nl) (nd (o_292 P) nl nl)))) (nd (o_62 P) (nd (o_81 P) (nd (o_116 P) (nd (o_186 P) (nd (o_318 P) nl nl) nl) (nd (o_252 P) nl nl)) (nd (o_150 P) (nd (o_220 P) nl nl) (nd (o_284 P) nl nl))) (nd (o_100 P) (nd (o_134 P) (nd (o_202 P) (nd (o_334 P) nl nl) nl) (nd (o_268 P) nl nl)) (nd (o_170 P) (nd (o_236 P) nl nl) (nd (o_302 P) nl nl))))) (nd (o_45 P) (nd (o_58 P) (nd (o_77 P) (nd (o_112 P) (nd (o_182 P) (nd (o_314 P) nl nl) nl) (nd (o_248 P) nl nl)) (nd (o_146 P) (nd (o_216 P) nl nl) (nd (o_280 P) nl nl))) (nd (o_96 P) (nd (o_130 P) (nd (o_198 P) (nd (o_330 P) nl nl) nl) (nd (o_264 P) nl nl)) (nd (o_166 P) (nd (o_232 P) nl nl) (nd (o_298 P) nl nl)))) (nd (o_66 P) (nd (o_85 P) (nd (o_120 P) (nd (o_190 P) (nd (o_322 P) nl nl) nl) (nd (o_256 P) nl nl)) (nd (o_158 P) (nd (o_224 P) nl nl) (nd (o_288 P) nl nl))) (nd (o_104 P) (nd (o_138 P) (nd (o_206 P) (nd (o_338 P) nl nl) nl) (nd (o_272 P) nl nl)) (nd (o_174 P) (nd (o_240 P) nl nl) (nd (o_306 P) nl nl))))))) (nd (o_49 P) (nd (boot_o_4 P) (nd (boot_o_8 P) (nd (o_53 P) (nd (o_69 P) (nd (o_107 P) (nd (o_177 P) (nd (o_309 P) nl nl) nl) (nd (o_243 P) nl nl)) (nd (o_141 P) (nd (o_209 P) (nd (o_341 P) nl nl) nl) (nd (o_275 P) nl nl))) (nd (o_91 P) (nd (o_123 P) (nd (o_193 P) (nd (o_325 P) nl nl) nl) (nd (o_259 P) nl nl)) (nd (o_161 P) (nd (o_227 P) nl nl) (nd (o_291 P) nl nl)))) (nd (o_61 P) (nd (o_80 P) (nd (o_115 P) (nd (o_185 P) (nd (o_317 P) nl nl) nl) (nd (o_251 P) nl nl)) (nd (o_149 P) (nd (o_219 P) nl nl) (nd (o_283 P) nl nl))) (nd (o_99 P) (nd (o_133 P) (nd (o_201 P) (nd (o_333 P) nl nl) nl) (nd (o_267 P) nl nl)) (nd (o_169 P) (nd (o_235 P) nl nl) (nd (o_301 P) nl nl))))) (nd (o_296 P) (nd (o_57 P) (nd (o_76 P) (nd (o_111 P) (nd (o_181 P) (nd (o_313 P) nl nl) nl) (nd (o_247 P) nl nl)) (nd (o_145 P) (nd (o_215 P) (nd (o_345 P) nl nl) nl) (nd (o_279 P) nl nl))) (nd (o_95 P) (nd (o_129 P) (nd (o_197 P) (nd (o_329 P) nl nl) nl) (nd (o_263 P) nl nl)) (nd (o_165 P) (nd (o_231 P) nl nl) (nd (o_297 P) nl nl)))) (nd (o_65 P) (nd (o_84 P) (nd (o_119 P) (nd (o_189 P) (nd (o_321 P) nl nl) nl) (nd (o_255 P) nl nl)) (nd (o_157 P) (nd (o_223 P) nl nl) (nd (o_287 P) nl nl))) (nd (o_103 P) (nd (o_137 P) (nd (o_205 P) (nd (o_337 P) nl nl) nl) (nd (o_271 P) nl nl)) (nd (o_173 P) (nd (o_239 P) nl nl) (nd (o_305 P) nl nl)))))) (nd (boot_o_6 P) (nd (boot_o_10 P) (nd (o_55 P) (nd (o_71 P) (nd (o_109 P) (nd (o_179 P) (nd (o_311 P) nl nl) nl) (nd (o_245 P) nl nl)) (nd (o_143 P) (nd (o_213 P) (nd (o_343 P) nl nl) nl) (nd (o_277 P) nl nl))) (nd (o_93 P) (nd (o_127 P) (nd (o_195 P) (nd (o_327 P) nl nl) nl) (nd (o_261 P) nl nl)) (nd (o_163 P) (nd (o_229 P) nl nl) (nd (o_293 P) nl nl)))) (nd (o_63 P) (nd (o_82 P) (nd (o_117 P) (nd (o_187 P) (nd (o_319 P) nl nl) nl) (nd (o_253 P) nl nl)) (nd (o_155 P) (nd (o_221 P) nl nl) (nd (o_285 P) nl nl))) (nd (o_101 P) (nd (o_135 P) (nd (o_203 P) (nd (o_335 P) nl nl) nl) (nd (o_269 P) nl nl)) (nd (o_171 P) (nd (o_237 P) nl nl) (nd (o_303 P) nl nl))))) (nd (o_46 P) (nd (o_59 P) (nd (o_78 P) (nd (o_113 P) (nd (o_183 P) (nd (o_315 P) nl nl) nl) (nd (o_249 P) nl nl)) (nd (o_147 P) (nd (o_217 P) nl nl) (nd (o_281 P) nl nl))) (nd (o_97 P) (nd (o_131 P) (nd (o_199 P) (nd (o_331 P) nl nl) nl) (nd (o_265 P) nl nl)) (nd (o_167 P) (nd (o_233 P) nl nl) (nd (o_299 P) nl nl)))) (nd (o_67 P) (nd (o_86 P) (nd (o_121 P) (nd (o_191 P) (nd (o_323 P) nl nl) nl) (nd (o_257 P) nl nl)) (nd (o_159 P) (nd (o_225 P) nl nl) (nd (o_289 P) nl nl))) (nd (o_105 P) (nd (o_139 P) (nd (o_207 P) (nd (o_339 P) nl nl) nl) (nd (o_273 P) nl nl)) (nd (o_175 P) (nd (o_241 P) nl nl) (nd (o_307 P) nl nl)))))))
noncomputable def tree_540 (P : Params) : BT := nd (boot_o_0 P) (nd (boot_o_1 P) (nd (o_494 P) (nd (boot_o_7 P) (nd (o_52 P) (nd (o_89 P) (nd (o_106 P) (nd (o_176 P) (nd (o_308 P) nl nl) (nd (o_442 P) nl nl)) (nd (o_242 P) (nd (o_376 P) nl nl) (nd (o_508 P) nl nl))) (nd (o_140 P) (nd (o_208 P) (nd (o_340 P) nl nl) (nd (o_474 P) nl nl)) (nd (o_274 P) (nd (o_408 P) nl nl) (nd (o_540 P) nl nl)))) (nd (o_90 P) (nd (o_122 P) (nd (o_192 P) (nd (o_324 P) nl nl) (nd (o_458 P) nl nl)) (nd (o_258 P) (nd (o_392 P) nl nl) (nd (o_524 P) nl nl))) (nd (o_160 P) (nd (o_226 P) (nd (o_358 P) nl nl) (nd (o_490 P) nl nl)) (nd (o_290 P) (nd (o_426 P) nl nl) nl)))) (nd (o_60 P) (nd (o_79 P) (nd (o_114 P) (nd (o_184 P) (nd (o_316 P) nl nl) (nd (o_450 P) nl nl)) (nd (o_250 P) (nd (o_384 P) nl nl) (nd (o_516 P) nl nl))) (nd (o_148 P) (nd (o_218 P) (nd (o_350 P) nl nl) (nd (o_482 P) nl nl)) (nd (o_282 P) (nd (o_416 P) nl nl) nl))) (nd (o_98 P) (nd (o_132 P) (nd (o_200 P) (nd (o_332 P) nl nl) (nd (o_466 P) nl nl)) (nd (o_266 P) (nd (o_400 P) nl nl) (nd (o_532 P) nl nl))) (nd (o_168 P) (nd (o_234 P) (nd (o_366 P) nl nl) (nd (o_500 P) nl nl)) (nd (o_300 P) (nd (o_434 P) nl nl) nl))))) (nd (o_43 P) (nd (o_56 P) (nd (o_75 P) (nd (o_110 P) (nd (o_180 P) (nd (o_312 P) nl nl) (nd (o_446 P) nl nl)) (nd (o_246 P) (nd (o_380 P) nl nl) (nd (o_512 P) nl nl))) (nd (o_144 P) (nd (o_214 P) (nd (o_344 P) nl nl) (nd (o_478 P) nl nl)) (nd (o_278 P) (nd (o_412 P) nl nl) nl))) (nd (o_94 P) (nd (o_128 P) (nd (o_196 P) (nd (o_328 P) nl nl) (nd (o_462 P) nl nl)) (nd (o_262 P) (nd (o_396 P) nl nl) (nd (o_528 P) nl nl))) (nd (o_164 P) (nd (o_230 P) (nd (o_362 P) nl nl) (nd (o_496 P) nl nl)) (nd (o_294 P) (nd (o_430 P) nl nl) nl)))) (nd (o_64 P) (nd (o_83 P) (nd (o_118 P) (nd (o_188 P) (nd (o_320 P) nl nl) (nd (o_454 P) nl nl)) (nd (o_254 P) (nd (o_388 P) nl nl) (nd (o_520 P) nl nl))) (nd (o_156 P) (nd (o_222 P) (nd (o_354 P) nl nl) (nd (o_486 P) nl nl)) (nd (o_286 P) (nd (o_420 P) nl nl) nl))) (nd (o_102 P) (nd (o_136 P) (nd (o_204 P) (nd (o_336 P) nl nl) (nd (o_470 P) nl nl)) (nd (o_270 P) (nd (o_404 P) nl nl) (nd (o_536 P) nl nl))) (nd (o_172 P) (nd (o_238 P) (nd (o_372 P) nl nl) (nd (o_504 P) nl nl)) (nd (o_304 P) (nd (o_438 P) nl nl) nl)))))) (nd (boot_o_5 P) (nd (boot_o_9 P) (nd (o_54 P) (nd (o_70 P) (nd (o_108 P) (nd (o_178 P) (nd (o_310 P) nl nl) (nd (o_444 P) nl nl)) (nd (o_244 P) (nd (o_378 P) nl nl) (nd (o_510 P) nl nl))) (nd (o_142 P) (nd (o_210 P) (nd (o_342 P) nl nl) (nd (o_476 P) nl nl)) (nd (o_276 P) (nd (o_410 P) nl nl) nl))) (nd (o_92 P) (nd (o_126 P) (nd (o_194 P) (nd (o_326 P) nl nl) (nd (o_460 P) nl nl)) (nd (o_260 P) (nd (o_394 P) nl nl) (nd (o_526 P) nl nl))) (nd (o_162 P) (nd (o_228 P) (nd (o_360 P) nl nl) (nd (o_492 P) nl nl)) (nd (o_292 P) (nd (o_428 P) nl nl) nl)))) (nd (o_62 P) (nd (o_81 P) (nd (o_116 P) (nd (o_186 P) (nd (o_318 P) nl nl) (nd (o_452 P) nl nl)) (nd (o_252 P) (nd (o_386 P) nl nl) (nd (o_518 P) nl nl))) (nd (o_150 P) (nd (o_220 P) (nd (o_352 P) nl nl) (nd (o_484 P) nl nl)) (nd (o_284 P) (nd (o_418 P) nl nl) nl))) (nd (o_100 P) (nd (o_134 P) (nd (o_202 P) (nd (o_334 P) nl nl) (nd (o_468 P) nl nl)) (nd (o_268 P) (nd (o_402 P) nl nl) (nd (o_534 P) nl nl))) (nd (o_170 P) (nd (o_236 P) (nd (o_368 P) nl nl) (nd (o_502 P) nl nl)) (nd (o_302 P) (nd (o_436 P) nl nl) nl))))) (nd (o_45 P) (nd (o_58 P) (nd (o_77 P) (nd (o_112 P) (nd (o_182 P) (nd (o_314 P) nl nl) (nd (o_448 P) nl nl)) (nd (o_248 P) (nd (o_382 P) nl nl) (nd (o_514 P) nl nl))) (nd (o_146 P) (nd (o_216 P) (nd (o_348 P) nl nl) (nd (o_480 P) nl nl)) (nd (o_280 P) (nd (o_414 P) nl nl) nl))) (nd (o_96 P) (nd (o_130 P) (nd (o_198 P) (nd (o_330 P) nl nl) (nd (o_464 P) nl nl)) (nd (o_264 P) (nd (o_398 P) nl nl) (nd (o_530 P) nl nl))) (nd (o_166 P) (nd (o_232 P) (nd (o_364 P) nl nl) (nd (o_498 P) nl nl)) (nd (o_298 P) (nd (o_432 P) nl nl) nl)))) (nd (o_66 P) (nd (o_85 P) (nd (o_120 P) (nd (o_190 P) (nd (o_322 P) nl nl) (nd (o_456 P) nl nl)) (nd (o_256 P) (nd (o_390 P) nl nl) (nd (o_522 P) nl nl))) (nd (o_158 P) (nd (o_224 P) (nd (o_356 P) nl nl) (nd (o_488 P) nl nl)) (nd (o_288 P) (nd (o_424 P) nl nl) nl))) (nd (o_104 P) (nd (o_138 P) (nd (o_206 P) (nd (o_338 P) nl nl) (nd (o_472 P) nl nl)) (nd (o_272 P) (nd (o_406 P) nl nl) (nd (o_538 P) nl nl))) (nd (o_174 P) (nd (o_240 P) (nd (o_374 P) nl nl) (nd (o_506 P) nl nl)) (nd (o_306 P) (nd (o_440 P) nl nl) nl))))))) (nd (o_49 P) (nd (boot_o_4 P) (nd (boot_o_8 P) (nd (o_53 P) (nd (o_69 P) (nd (o_107 P) (nd (o_177 P) (nd (o_309 P) nl nl) (nd (o_443 P) nl nl)) (nd (o_243 P) (nd (o_377 P) nl nl) (nd (o_509 P) nl nl))) (nd (o_141 P) (nd (o_209 P) (nd (o_341 P) nl nl) (nd (o_475 P) nl nl)) (nd (o_275 P) (nd (o_409 P) nl nl) nl))) (nd (o_91 P) (nd (o_123 P) (nd (o_193 P) (nd (o_325 P) nl nl) (nd (o_459 P) nl nl)) (nd (o_259 P) (nd (o_393 P) nl nl) (nd (o_525 P) nl nl))) (nd (o_161 P) (nd (o_227 P) (nd (o_359 P) nl nl) (nd (o_491 P) nl nl)) (nd (o_291 P) (nd (o_427 P) nl nl) nl)))) (nd (o_61 P) (nd (o_80 P) (nd (o_115 P) (nd (o_185 P) (nd (o_317 P) nl nl) (nd (o_451 P) nl nl)) (nd (o_251 P) (nd (o_385 P) nl nl) (nd (o_517 P) nl nl))) (nd (o_149 P) (nd (o_219 P) (nd (o_351 P) nl nl) (nd (o_483 P) nl nl)) (nd (o_283 P) (nd (o_417 P) nl nl) nl))) (nd (o_99 P) (nd (o_133 P) (nd (o_201 P) (nd (o_333 P) nl nl) (nd (o_467 P) nl nl)) (nd (o_267 P) (nd (o_401 P) nl nl) (nd (o_533 P) nl nl))) (nd (o_169 P) (nd (o_235 P) (nd (o_367 P) nl nl) (nd (o_501 P) nl nl)) (nd (o_301 P) (nd (o_435 P) nl nl) nl))))) (nd (o_495 P) (nd (o_57 P) (nd (o_76 P) (nd (o_111 P) (nd (o_181 P) (nd (o_313 P) nl nl) (nd (o_447 P) nl nl)) (nd (o_247 P) (nd (o_381 P) nl nl) (nd (o_513 P) nl nl))) (nd (o_145 P) (nd (o_215 P) (nd (o_345 P) nl nl) (nd (o_479 P) nl nl)) (nd (o_279 P) (nd (o_413 P) nl nl) nl))) (nd (o_95 P) (nd (o_129 P) (nd (o_197 P) (nd (o_329 P) nl nl) (nd (o_463 P) nl nl)) (nd (o_263 P) (nd (o_397 P) nl nl) (nd (o_529 P) nl nl))) (nd (o_165 P) (nd (o_231 P) (nd (o_363 P) nl nl) (nd (o_497 P) nl nl)) (nd (o_297 P) (nd (o_431 P) nl nl) nl)))) (nd (o_65 P) (nd (o_84 P) (nd (o_119 P) (nd (o_189 P) (nd (o_321 P) nl nl) (nd (o_455 P) nl nl)) (nd (o_255 P) (nd (o_389 P) nl nl) (nd (o_521 P) nl nl))) (nd (o_157 P) (nd (o_223 P) (nd (o_355 P) nl nl) (nd (o_487 P) nl nl)) (nd (o_287 P) (nd (o_421 P) nl nl) nl))) (nd (o_103 P) (nd (o_137 P) (nd (o_205 P) (nd (o_337 P) nl nl) (nd (o_471 P) nl nl)) (nd (o_271 P) (nd (o_405 P) nl nl) (nd (o_537 P) nl nl))) (nd (o_173 P) (nd (o_239 P) (nd (o_373 P) nl nl) (nd (o_505 P) nl nl)) (nd (o_305 P) (nd (o_439 P) nl nl) nl)))))) (nd (boot_o_6 P) (nd (boot_o_10 P) (nd (o_55 P) (nd (o_71 P) (nd (o_109 P) (nd (o_179 P) (nd (o_311 P) nl nl) (nd (o_445 P) nl nl)) (nd (o_245 P) (nd (o_379 P) nl nl) (nd (o_511 P) nl nl))) (nd (o_143 P) (nd (o_213 P) (nd (o_343 P) nl nl) (nd (o_477 P) nl nl)) (nd (o_277 P) (nd (o_411 P) nl nl) nl))) (nd (o_93 P) (nd (o_127 P) (nd (o_195 P) (nd (o_327 P) nl nl) (nd (o_461 P) nl nl)) (nd (o_261 P) (nd (o_395 P) nl nl) (nd (o_527 P) nl nl))) (nd (o_163 P) (nd (o_229 P) (nd (o_361 P) nl nl) (nd (o_493 P) nl nl)) (nd (o_293 P) (nd (o_429 P) nl nl) nl)))) (nd (o_63 P) (nd (o_82 P) (nd (o_117 P) (nd (o_187 P) (nd (o_319 P) nl nl) (nd (o_453 P) nl nl)) (nd (o_253 P) (nd (o_387 P) nl nl) (nd (o_519 P) nl nl))) (nd (o_155 P) (nd (o_221 P) (nd (o_353 P) nl nl) (nd (o_485 P) nl nl)) (nd (o_285 P) (nd (o_419 P) nl nl) nl))) (nd (o_101 P) (nd (o_135 P) (nd (o_203 P) (nd (o_335 P) nl nl) (nd (o_469 P) nl nl)) (nd (o_269 P) (nd (o_403 P) nl nl) (nd (o_535 P) nl nl))) (nd (o_171 P) (nd (o_237 P) (nd (o_369 P) nl nl) (nd (o_503 P) nl nl)) (nd (o_303 P) (nd (o_437 P) nl nl) nl))))) (nd (o_46 P) (nd (o_59 P) (nd (o_78 P) (nd (o_113 P) (nd (o_183 P) (nd (o_315 P) nl nl) (nd (o_449 P) nl nl)) (nd (o_249 P) (nd (o_383 P) nl nl) (nd (o_515 P) nl nl))) (nd (o_147 P) (nd (o_217 P) (nd (o_349 P) nl nl) (nd (o_481 P) nl nl)) (nd (o_281 P) (nd (o_415 P) nl nl) nl))) (nd (o_97 P) (nd (o_131 P) (nd (o_199 P) (nd (o_331 P) nl nl) (nd (o_465 P) nl nl)) (nd (o_265 P) (nd (o_399 P) nl nl) (nd (o_531 P) nl nl))) (nd (o_167 P) (nd (o_233 P) (nd (o_365 P) nl nl) (nd (o_499 P) nl nl)) (nd (o_299 P) (nd (o_433 P) nl nl) nl)))) (nd (o_67 P) (nd (o_86 P) (nd (o_121 P) (nd (o_191 P) (nd (o_323 P) nl nl) (nd (o_457 P) nl nl)) (nd (o_257 P) (nd (o_391 P) nl nl) (nd (o_523 P) nl nl))) (nd (o_159 P) (nd (o_225 P) (nd (o_357 P) nl nl) (nd (o_489 P) nl nl)) (nd (o_289 P) (nd (o_425 P) nl nl) nl))) (nd (o_105 P) (nd (o_139 P) (nd (o_207 P) (nd (o_339 P) nl nl) (nd (o_473 P) nl nl)) (nd (o_273 P) (nd (o_407 P) nl nl) (nd (o_539 P) nl nl))) (nd (o_175 P) (nd (o_241 P) (nd (o_375 P) nl nl) (nd (o_507 P) nl nl)) (nd (o_307 P) (nd (o_441 P) nl nl) nl)))))))
noncomputable def heap_46 (P : Params) : Heap := { objs := { toList := [boot_o_0 P, boot_o_1 P, boot_o_2 P, boot_o_3 P, boot_o_4 P, boot_o_5 P, boot_o_6 P, boot_o_7 P, boot_o_8 P, boot_o_9 P, boot_o_10 P, o_43 P, o_44 P, o_45 P, o_46 P] } }
noncomputable def heap_541 (P : Params) : Heap := { objs := { toList := [boot_o_0 P, boot_o_1 P, o_49 P, o_494 P, boot_o_4 P, boot_o_5 P, boot_o_6 P, boot_o_7 P, boot_o_8 P, boot_o_9 P, boot_o_10 P, o_43 P, o_495 P, o_45 P, o_46 P, o_52 P, o_53 P, o_54 P, o_55 P, o_56 P, o_57 P, o_58 P, o_59 P, o_60 P, o_61 P, o_62 P, o_63 P, o_64 P, o_65 P, o_66 P, o_67 P, o_89 P, o_69 P, o_70 P, o_71 P, o_75 P, o_76 P, o_77 P, o_78 P, o_79 P, o_80 P, o_81 P, o_82 P, o_83 P, o_84 P, o_85 P, o_86 P, o_90 P, o_91 P, o_92 P, o_93 P, o_94 P, o_95 P, o_96 P, o_97 P, o_98 P, o_99 P, o_100 P, o_101 P, o_102 P, o_103 P, o_104 P, o_105 P, o_106 P, o_107 P, o_108 P, o_109 P, o_110 P, o_111 P, o_112 P, o_113 P, o_114 P, o_115 P, o_116 P, o_117 P, o_118 P, o_119 P, o_120 P, o_121 P, o_122 P, o_123 P, o_126 P, o_127 P, o_128 P, o_129 P, o_130 P, o_131 P, o_132 P, o_133 P, o_134 P, o_135 P, o_136 P, o_137 P, o_138 P, o_139 P, o_140 P, o_141 P, o_142 P, o_143 P, o_144 P, o_145 P, o_146 P, o_147 P, o_148 P, o_149 P, o_150 P, o_155 P, o_156 P, o_157 P, o_158 P, o_159 P, o_160 P, o_161 P, o_162 P, o_163 P, o_164 P, o_165 P, o_166 P, o_167 P, o_168 P, o_169 P, o_170 P, o_171 P, o_172 P, o_173 P, o_174 P, o_175 P, o_176 P, o_177 P, o_178 P, o_179 P, o_180 P, o_181 P, o_182 P, o_183 P, o_184 P, o_185 P, o_186 P, o_187 P, o_188 P, o_189 P, o_190 P, o_191 P, o_192 P, o_193 P, o_194 P, o_195 P, o_196 P, o_197 P, o_198 P, o_199 P, o_200 P, o_201 P, o_202 P, o_203 P, o_204 P, o_205 P, o_206 P, o_207 P, o_208 P, o_209 P, o_210 P, o_213 P, o_214 P, o_215 P, o_216 P, o_217 P, o_218 P, o_219 P, o_220 P, o_221 P, o_222 P, o_223 P, o_224 P, o_225 P, o_226 P, o_227 P, o_228 P, o_229 P, o_230 P, o_231 P, o_232 P, o_233 P, o_234 P, o_235 P, o_236 P, o_237 P, o_238 P, o_239 P, o_240 P, o_241 P, o_242 P, o_243 P, o_244 P, o_245 P, o_246 P, o_247 P, o_248 P, o_249 P, o_250 P, o_251 P, o_252 P, o_253 P, o_254 P, o_255 P, o_256 P, o_257 P, o_258 P, o_259 P, o_260 P, o_261 P, o_262 P, o_263 P, o_264 P, o_265 P, o_266 P, o_267 P, o_268 P, o_269 P, o_270 P, o_271 P, o_272 P, o_273 P, o_274 P, o_275 P, o_276 P, o_277 P, o_278 P, o_279 P, o_280 P, o_281 P, o_282 P, o_283 P, o_284 P, o_285 P, o_286 P, o_287 P, o_288 P, o_289 P, o_290 P, o_291 P, o_292 P, o_293 P, o_294 P, o_297 P, o_298 P, o_299 P, o_300 P, o_301 P, o_302 P, o_303 P, o_304 P, o_305 P, o_306 P, o_307 P, o_308 P, o_309 P, o_310 P, o_311 P, o_312 P, o_313 P, o_314 P, o_315 P, o_316 P, o_317 P, o_318 P, o_319 P, o_320 P, o_321 P, o_322 P, o_323 P, o_324 P, o_325 P, o_326 P, o_327 P, o_328 P, o_329 P, o_330 P, o_331 P, o_332 P, o_333 P, o_334 P, o_335 P, o_336 P, o_337 P, o_338 P, o_339 P, o_340 P, o_341 P, o_342 P, o_343 P, o_344 P, o_345 P, o_348 P, o_349 P, o_350 P, o_351 P, o_352 P, o_353 P, o_354 P, o_355 P, o_356 P, o_357 P, o_358 P, o_359 P, o_360 P, o_361 P, o_362 P, o_363 P, o_364 P, o_365 P, o_366 P, o_367 P, o_368 P, o_369 P, o_372 P, o_373 P, o_374 P, o_375 P, o_376 P, o_377 P, o_378 P, o_379 P, o_380 P, o_381 P, o_382 P, o_383 P, o_384 P, o_385 P, o_386 P, o_387 P, o_388 P, o_389 P, o_390 P, o_391 P, o_392 P, o_393 P, o_394 P, o_395 P, o_396 P, o_397 P, o_398 P, o_399 P, o_400 P, o_401 P, o_402 P, o_403 P, o_404 P, o_405 P, o_406 P, o_407 P, o_408 P, o_409 P, o_410 P, o_411 P, o_412 P, o_413 P, o_414 P, o_415 P, o_416 P, o_417 P, o_418 P, o_419 P, o_420 P, o_421 P, o_424 P, o_425 P, o_426 P, o_427 P, o_428 P, o_429 P, o_430 P, o_431 P, o_432 P, o_433 P, o_434 P, o_435 P, o_436 P, o_437 P, o_438 P, o_439 P, o_440 P, o_441 P, o_442 P, o_443 P, o_444 P, o_445 P, o_446 P, o_447 P, o_448 P, o_449 P, o_450 P, o_451 P, o_452 P, o_453 P, o_454 P, o_455 P, o_456 P, o_457 P, o_458 P, o_459 P, o_460 P, o_461 P, o_462 P, o_463 P, o_464 P, o_465 P, o_466 P, o_467 P, o_468 P, o_469 P, o_470 P, o_471 P, o_472 P, o_473 P, o_474 P, o_475 P, o_476 P, o_477 P, o_478 P, o_479 P, o_480 P, o_481 P, o_482 P, o_483 P, o_484 P, o_485 P, o_486 P, o_487 P, o_488 P, o_489 P, o_490 P, o_491 P, o_492 P, o_493 P, o_496 P, o_497 P, o_498 P, o_499 P, o_500 P, o_501 P, o_502 P, o_503 P, o_504 P, o_505 P, o_506 P, o_507 P, o_508 P, o_509 P, o_510 P, o_511 P, o_512 P, o_513 P, o_514 P, o_515 P, o_516 P, o_517 P, o_518 P, o_519 P, o_520 P, o_521 P, o_522 P, o_523 P, o_524 P, o_525 P, o_526 P, o_527 P, o_528 P, o_529 P, o_530 P, o_531 P, o_532 P, o_533 P, o_534 P, o_535 P, o_536 P, o_537 P, o_538 P, o_539 P, o_540 P] } }
noncomputable def heap_39 (P : Params) : Frag := [(2, o_49 P), (3, o_494 P), (15, o_52 P), (22, o_59 P), (24, o_61 P), (25, o_62 P), (27, o_64 P), (28, o_65 P), (29, o_66 P), (30, o_67 P), (31, o_89 P), (32, o_69 P), (35, o_75 P), (42, o_82 P), (43, o_83 P), (44, o_84 P), (47, o_90 P), (54, o_97 P), (55, o_98 P), (56, o_99 P), (59, o_102 P), (61, o_104 P), (62, o_105 P), (64, o_107 P), (65, o_108 P), (66, o_109 P), (68, o_111 P), (69, o_112 P), (71, o_114 P), (72, o_115 P), (73, o_116 P), (74, o_117 P), (76, o_119 P), (77, o_120 P), (79, o_122 P), (80, o_123 P), (81, o_126 P), (83, o_128 P), (84, o_129 P), (86, o_131 P), (87, o_132 P), (88, o_133 P), (90, o_135 P), (91, o_136 P), (93, o_138 P), (94, o_139 P), (95, o_140 P), (97, o_142 P), (98, o_143 P), (100, o_145 P), (101, o_146 P), (102, o_147 P), (103, o_148 P), (104, o_149 P), (105, o_150 P), (113, o_162 P), (115, o_164 P), (116, o_165 P), (118, o_167 P), (119, o_168 P), (120, o_169 P), (121, o_170 P), (122, o_171 P), (123, o_172 P), (124, o_173 P), (127, o_176 P), (129, o_178 P), (130, o_179 P), (132, o_181 P), (133, o_182 P), (134, o_183 P), (136, o_185 P), (137, o_186 P), (139, o_188 P), (140, o_189 P), (141, o_190 P), (143, o_192 P), (144, o_193 P), (146, o_195 P), (147, o_196 P), (148, o_197 P), (150, o_199 P), (151, o_200 P), (153, o_202 P), (154, o_203 P), (155, o_204 P), (157, o_206 P), (158, o_207 P), (160, o_209 P), (161, o_210 P), (162, o_213 P), (164, o_215 P), (165, o_216 P), (167, o_218 P), (168, o_219 P), (169, o_220 P), (171, o_222 P), (172, o_223 P), (174, o_225 P), (175, o_226 P), (176, o_227 P), (178, o_229 P), (179, o_230 P), (181, o_232 P), (182, o_233 P), (183, o_234 P), (186, o_237 P), (187, o_238 P), (188, o_239 P), (190, o_241 P), (191, o_242 P), (193, o_244 P), (194, o_245 P), (195, o_246 P), (197, o_248 P), (198, o_249 P), (200, o_251 P), (201, o_252 P), (202, o_253 P), (204, o_255 P), (205, o_256 P), (207, o_258 P), (208, o_259 P), (209, o_260 P), (211, o_262 P), (212, o_263 P), (214, o_265 P), (215, o_266 P), (216, o_267 P), (218, o_269 P), (219, o_270 P), (221, o_272 P), (222, o_273 P), (223, o_274 P), (225, o_276 P), (226, o_277 P), (228, o_279 P), (229, o_280 P), (230, o_281 P), (232, o_283 P), (233, o_284 P), (235, o_286 P), (236, o_287 P), (237, o_288 P), (239, o_290 P), (240, o_291 P), (242, o_293 P), (243, o_294 P), (244, o_297 P), (246, o_299 P), (247, o_300 P), (249, o_302 P), (250, o_303 P), (258, o_311 P), (260, o_313 P), (261, o_314 P), (263, o_316 P), (264, o_317 P), (265, o_318 P), (267, o_320 P), (268, o_321 P), (270, o_323 P), (271, o_324 P), (272, o_325 P), (274, o_327 P), (275, o_328 P), (277, o_330 P), (278, o_331 P), (279, o_332 P), (280, o_333 P), (281, o_334 P), (282, o_335 P), (283, o_336 P), (286, o_339 P), (288, o_341 P), (289, o_342 P), (291, o_344 P), (292, o_345 P), (300, o_355 P), (301, o_356 P), (303, o_358 P), (304, o_359 P), (306, o_361 P), (307, o_362 P), (308, o_363 P), (309, o_364 P), (310, o_365 P), (311, o_366 P), (312, o_367 P), (322, o_379 P), (324, o_381 P), (325, o_382 P), (327, o_384 P), (328, o_385 P), (329, o_386 P), (330, o_387 P), (331, o_388 P), (332, o_389 P), (333, o_390 P), (336, o_393 P), (338, o_395 P), (339, o_396 P), (341, o_398 P), (342, o_399 P), (343, o_400 P), (344, o_401 P), (346, o_403 P), (347, o_404 P), (349, o_406 P), (350, o_407 P), (351, o_408 P), (353, o_410 P), (354, o_411 P), (356, o_413 P), (357, o_414 P), (358, o_415 P), (360, o_417 P), (361, o_418 P), (363, o_420 P), (364, o_421 P), (365, o_424 P), (366, o_425 P), (367, o_426 P), (368, o_427 P), (369, o_428 P), (370, o_429 P), (371, o_430 P), (372, o_431 P), (373, o_432 P), (374, o_433 P), (375, o_434 P), (376, o_435 P), (377, o_436 P), (378, o_437 P), (379, o_438 P), (380, o_439 P), (382, o_441 P), (383, o_442 P), (385, o_444 P), (386, o_445 P), (387, o_446 P), (390, o_449 P), (391, o_450 P), (392, o_451 P), (394, o_453 P), (395, o_454 P), (397, o_456 P), (398, o_457 P), (399, o_458 P), (402, o_461 P), (403, o_462 P), (404, o_463 P), (406, o_465 P), (407, o_466 P), (409, o_468 P), (410, o_469 P), (411, o_470 P), (413, o_472 P), (414, o_473 P), (416, o_475 P), (417, o_476 P), (418, o_477 P), (420, o_479 P), (421, o_480 P), (423, o_482 P), (424, o_483 P), (425, o_484 P), (428, o_487 P), (429, o_488 P), (430, o_489 P), (433, o_492 P), (434, o_493 P), (435, o_496 P), (437, o_498 P), (438, o_499 P), (440, o_501 P), (441, o_502 P), (442, o_503 P), (444, o_505 P), (445, o_506 P), (447, o_508 P), (448, o_509 P), (449, o_510 P), (451, o_512 P), (452, o_513 P), (454, o_515 P), (455, o_516 P), (456, o_517 P), (458, o_519 P), (459, o_520 P), (461, o_522 P), (462, o_523 P), (463, o_524 P), (465, o_526 P), (466, o_527 P), (468, o_529 P), (469, o_530 P), (470, o_531 P), (473, o_534 P), (474, o_535 P), (475, o_536 P), (478, o_539 P), (479, o_540 P)]
noncomputable def at_39 : List Addr := [2, 3, 15, 22, 24, 25, 27, 28, 29, 30, 31, 32, 35, 42, 43, 44, 47, 54, 55, 56, 59, 61, 62, 64, 65, 66, 68, 69, 71, 72, 73, 74, 76, 77, 79, 80, 81, 83, 84, 86, 87, 88, 90, 91, 93, 94, 95, 97, 98, 100, 101, 102, 103, 104, 105, 113, 115, 116, 118, 119, 120, 121, 122, 123, 124, 127, 129, 130, 132, 133, 134, 136, 137, 139, 140, 141, 143, 144, 146, 147, 148, 150, 151, 153, 154, 155, 157, 158, 160, 161, 162, 164, 165, 167, 168, 169, 171, 172, 174, 175, 176, 178, 179, 181, 182, 183, 186, 187, 188, 190, 191, 193, 194, 195, 197, 198, 200, 201, 202, 204, 205, 207, 208, 209, 211, 212, 214, 215, 216, 218, 219, 221, 222, 223, 225, 226, 228, 229, 230, 232, 233, 235, 236, 237, 239, 240, 242, 243, 244, 246, 247, 249, 250, 258, 260, 261, 263, 264, 265, 267, 268, 270, 271, 272, 274, 275, 277, 278, 279, 280, 281, 282, 283, 286, 288, 289, 291, 292, 300, 301, 303, 304, 306, 307, 308, 309, 310, 311, 312, 322, 324, 325, 327, 328, 329, 330, 331, 332, 333, 336, 338, 339, 341, 342, 343, 344, 346, 347, 349, 350, 351, 353, 354, 356, 357, 358, 360, 361, 363, 364, 365, 366, 367, 368, 369, 370, 371, 372, 373, 374, 375, 376, 377, 378, 379, 380, 382, 383, 385, 386, 387, 390, 391, 392, 394, 395, 397, 398, 399, 402, 403, 404, 406, 407, 409, 410, 411, 413, 414, 416, 417, 418, 420, 421, 423, 424, 425, 428, 429, 430, 433, 434, 435, 437, 438, 440, 441, 442, 444, 445, 447, 448, 449, 451, 452, 454, 455, 456, 458, 459, 461, 462, 463, 465, 466, 468, 469, 470, 473, 474, 475, 478, 479]
noncomputable def view_39 : Program := view PySem.Challenge.rw_no0256_01.row.toRowW.1 [1, 2, 3, 5, 6, 7, 8, 9, 10, 11, 12, 14, 15, 16, 17, 18, 20, 21, 22, 23, 24, 25, 26, 27, 28, 29, 30, 31, 32, 33, 34, 35, 36, 37, 38, 39, 40, 41, 42, 44, 45, 46, 48, 50, 52, 53, 54, 55, 56, 57, 58, 59, 60, 61, 62, 63, 64, 65, 66, 67, 68, 69, 70, 71, 72, 73, 74, 75]
abbrev prog : Program := PySem.Challenge.rw_no0256_01.row.toRowW.1
noncomputable def env_41 : Env := { scope := prog.main.scope, locals := mainNs, globals := mainNs, cells := [], code := .ref 13, frame := some 14 }
abbrev bd : List Stmt := behindTheImports prog
noncomputable abbrev cd : Code := .body bd env_41
abbrev q0 : Pos := { line := 0, col := 0, endLine := 0, endCol := 0 }
noncomputable def loose : List PySem.Str := ["SUMS", "RELATIONS", "JUNCTIONS"]
noncomputable def mk (t : BT) (n k : Nat) (os : OsState) : SharedT := { tree := t, n := n, life := { }, gens := { toList := [] }, drawn := { }, toks := k, os := os }
abbrev an : Option Value := some (.ref 6)
theorem segE : segRunT treeTable = PySem.W.Fast.tw10110043849684766642 PySem.W.Fast.tw14364793385576792824 := by
  rw [PySem.W.Fast.te10110043849684766642, PySem.W.Fast.te14364793385576792824]
theorem pre (w : World) (os : OsState) : topGo treeTable prog w 11 an 12 { heap := boot_heap w.params, drawn := boot_drawn, toks := boot_toks, os := os } (topStub prog) =
    some ({ heap := heap_46 w.params, toks := 187, os := os }, { cur := denote treeTable cd, code := cd, pos := q0, stack := [topFrame q0] }) := by
  kernel_rfl
theorem block (w : World) (os : OsState) : segRun treeTable prog w 11 an 1 1 { heap := heap_46 w.params, toks := 187, os := os } (blockOf bd env_41 cd q0 [topFrame q0]) =
    some (.next, (mk (tree_47 w.params) 15 187 os).abs, cd, q0) := by
  kernel_rfl
abbrev qA : Pos := { line := 28, col := 0, endLine := 37, endCol := 16 }
abbrev qB : Pos := { line := 67, col := 0, endLine := 67, endCol := 10 }
abbrev qC : Pos := { line := 271, col := 0, endLine := 271, endCol := 8 }
abbrev qD : Pos := { line := 457, col := 0, endLine := 478, endCol := 24 }
theorem rA (w : World) (os : OsState) : segRunT treeTable prog w 11 an 1 1000 (mk (tree_47 w.params) 15 187 os) (piecesOf (bd.take 16) env_41 cd q0 [topFrame q0]) =
    some (.next, mk (tree_123 w.params) 81 292 os, cd, qA) := by
  rw [segE]
  kernel_rfl
theorem rB0 (w : World) (os : OsState) : segRunT treeTable prog (w.withFollow "special-get-raises" false) 11 an 1 400 (mk (tree_123 w.params) 81 292 os) (piecesOf ((bd.drop 16).take 8) env_41 cd qA [topFrame q0]) =
    some (.next, mk (tree_150 w.params) 106 376 os, cd, qB) := by
  rw [segE]
  kernel_rfl
theorem rB1 (w : World) (os : OsState) : segRunT treeTable prog (w.withFollow "special-get-raises" true) 11 an 1 400 (mk (tree_123 w.params) 81 292 os) (piecesOf ((bd.drop 16).take 8) env_41 cd qA [topFrame q0]) =
    some (.next, mk (tree_150 w.params) 106 376 os, cd, qB) := by
  rw [segE]
  kernel_rfl
theorem rB (w : World) : ∀ os : OsState, segRunT treeTable prog w 11 an 1 400 (mk (tree_123 w.params) 81 292 os) (piecesOf ((bd.drop 16).take 8) env_41 cd qA [topFrame q0]) =
    some (.next, mk (tree_150 w.params) 106 376 os, cd, qB) :=
  byRow2 "special-get-raises" (P := fun w => ∀ os : OsState, segRunT treeTable prog w 11 an 1 400 (mk (tree_123 w.params) 81 292 os) (piecesOf ((bd.drop 16).take 8) env_41 cd qA [topFrame q0]) =
    some (.next, mk (tree_150 w.params) 106 376 os, cd, qB)) (fun w os => rB0 w os) (fun w os => rB1 w os) w
theorem rC (w : World) (os : OsState) : segRunT treeTable prog w 11 an 1 1300 (mk (tree_150 w.params) 106 376 os) (piecesOf ((bd.drop 24).take 24) env_41 cd qB [topFrame q0]) =
    some (.next, mk (tree_345 w.params) 293 649 os, cd, qC) := by
  rw [segE]
  kernel_rfl
theorem rD (w : World) (os : OsState) : segRunT treeTable prog w 11 an 1 1300 (mk (tree_345 w.params) 293 649 os) (piecesOf (bd.drop 48) env_41 cd qC [topFrame q0]) =
    some (.next, mk (tree_540 w.params) 480 967 os, cd, qD) := by
  rw [segE]
  kernel_rfl
theorem fin (w : World) (os : OsState) : topRun treeTable prog w 11 an 2 (mk (tree_540 w.params) 480 967 os).abs ⟨doneF .next, cd, qD, [topFrame q0]⟩ =
    some { heap := heap_541 w.params, toks := 967, os := os } := by
  kernel_rfl
end hd
end Mine
namespace Mine
namespace hd
theorem openE (w : World) : (fencedOpening treeTable prog w 7246).map (fun s => (s.heap, s.gens, s.drawn, s.toks)) = some (boot_heap w.params, Array.mk [], boot_drawn, boot_toks) :=
  boot_open (by kernel_rfl) (by decide) (fun s => by kernel_rfl) w
theorem run (w : World) (os : OsState) : topRun treeTable prog w 11 an (12 + (1 + (1000 + (400 + (1300 + (1300 + 2)))))) { heap := boot_heap w.params, drawn := boot_drawn, toks := boot_toks, os := os } (topStub prog) =
    some { heap := heap_541 w.params, toks := 967, os := os } := by
  have f := fin w os
  have kD := piece_app (rest := []) (segRun_of (rD w os)) f
  rw [List.append_nil] at kD
  have kC := piece_app (segRun_of (rC w os)) kD
  rw [show (bd.drop 24).take 24 ++ bd.drop 48 = bd.drop 24 by rw [show bd.drop 48 = (bd.drop 24).drop 24 by rw [List.drop_drop]]; exact List.take_append_drop ..] at kC
  have kB := piece_app (segRun_of (rB w os)) kC
  rw [show (bd.drop 16).take 8 ++ bd.drop 24 = bd.drop 16 by rw [show bd.drop 24 = (bd.drop 16).drop 8 by rw [List.drop_drop]]; exact List.take_append_drop ..] at kB
  have kA := piece_app (segRun_of (rA w os)) kB
  rw [List.take_append_drop] at kA
  exact go_top (pre w os) (piece_block (block w os) kA)
theorem size (w : World) : ((boot_heap w.params).isNs mainGlobals && (Array.mk ([] : List GenState)).size == 0, (boot_heap w.params).objs.size, (boot_heap w.params).nsMap mainGlobals "__annotations__") = (true, 11, an) := by
  kernel_rfl
noncomputable abbrev fS (w : World) (os : OsState) : Shared := { heap := heap_541 w.params, toks := 967, os := os }
theorem l1 (w : World) (os : OsState) : staticsOk (importedModules prog.main.body) (boot_heap w.params) (heap_541 w.params) = true := by kernel_rfl
theorem l2 (w : World) (os : OsState) : namesBound prog (heap_541 w.params) = true := by kernel_rfl
theorem l3 (w : World) (os : OsState) : gensDone (fS w os) = true := by kernel_rfl
theorem l4 (w : World) : laidKept (boot_heap w.params) (heap_541 w.params) = true := by kernel_rfl
theorem y (w : World) : at_39.map (heap_541 w.params).get? = (heap_39 w.params).map fun p => some p.2 := by kernel_rfl
theorem yK (P : Params) : at_39 = (heap_39 P).map (·.1) := by kernel_rfl
noncomputable def Xt (s : Shared) : Bool := xlAt view_39 [] s && recOk PySem.Challenge.rw_no0256_01.row.records s
theorem s1 (w : World) (os : OsState) : seen ((recsOf view_39).map (·.name)) (ownsOf view_39) [] { fS w os with gens := #[] } = expectedOf view_39 := by
  rw [PySem.W.Fast.te5160383126252970620]
  kernel_rfl
theorem s2 (w : World) (os : OsState) : (fS w os).heap.bltView = bltViewBooted := by kernel_rfl
theorem s3 (w : World) (os : OsState) : ((fS w os).heap.keysOk (looseW view_39 loose) ((recsOf view_39).map (·.name)) ((litsOf view_39).map (·.1)) ((clssOf view_39 (looseW view_39 loose)).map (·.name)) && (fS w os).heap.accountedOkI (importedModules prog.main.body) && (fS w os).heap.isNs mainGlobals && (fS w os).heap.isNs builtinsNs && tablesOk view_39 (fS w os).heap && Xt (fS w os) && (if true then (fS w os).gens.size == 0 else !leftWithCleanup (fS w os).gens)) = true := by
  kernel_rfl
theorem s4 (w : World) (os : OsState) : tabsOk view_39 (fS w os) = true := by kernel_rfl
theorem s5 (w : World) (os : OsState) : pinSeenD view_39 (drecsOf view_39) (fS w os) = pinGoodD (drecsOf view_39) := by kernel_rfl
theorem s6 (w : World) (os : OsState) : plainSeenE view_39 (looseW view_39 loose) (fS w os) = plainGoodE view_39 (looseW view_39 loose) := by kernel_rfl
theorem s7 (w : World) (os : OsState) : plainSeenD view_39 loose (fS w os) = plainGoodD view_39 loose := by kernel_rfl
theorem s8 (w : World) (os : OsState) : wideSeen view_39 (fS w os) = wideGood view_39 := by kernel_rfl
theorem s9 (w : World) (os : OsState) : clsSeenW view_39 loose (fS w os) = clsGoodW view_39 loose := by kernel_rfl
end hd
end Mine
namespace Mine
namespace hd
theorem looks (w : World) : (fun os : OsState => ((staticsOk (importedModules prog.main.body) (boot_heap w.params) (heap_541 w.params) && namesBound prog (heap_541 w.params) && gensDone ⟨heap_541 w.params, Array.mk [], {}, 967, os⟩ && laidKept (boot_heap w.params) (heap_541 w.params)),
        openSeen view_39 loose (importedModules prog.main.body) Xt true ⟨heap_541 w.params, Array.mk [], {}, 967, os⟩, (kHook heap_39 at_39 yK).obs ⟨heap_541 w.params, Array.mk [], {}, 967, os⟩)) = fun _ => (true, openGood view_39 loose, (kHook heap_39 at_39 yK).val w) := by
  funext os
  refine looks_pair ?_ (looks_pair ?_ (y w))
  · exact look_both (look_both (look_both (l1 w os) (l2 w os)) (l3 w os)) (l4 w)
  · exact looks_pair (s1 w os) (looks_pair (s2 w os) (looks_pair (s3 w os) (looks_pair (s4 w os) (looks_pair (s5 w os) (looks_pair (s6 w os) (looks_pair (s7 w os) (looks_pair (s8 w os) (s9 w os))))))))
theorem left : LeftO prog view_39 loose Xt (kHook heap_39 at_39 yK).obs (kHook heap_39 at_39 yK).val 7246 :=
  LeftO.of_pieces (H₀ := boot_heap) (H₁ := heap_541) (gs₀ := Array.mk []) (gs₁ := Array.mk []) (d₀ := boot_drawn) (d₁ := {}) (k₀ := boot_toks) (k₁ := 967) (m₀ := 11) (ann := an) (M := 12 + (1 + (1000 + (400 + (1300 + (1300 + 2))))))
    openE size run (by decide) looks
noncomputable def dLaw : DefRec := { name := "law", params := fnP (stmtAt 75), body := fnBody 75, scope := fnScope 75, pos := { line := 457, col := 0, endLine := 478, endCol := 24 } }
theorem o2 : (chainsOk view_39 && opensWell prog && (frees PySem.Challenge.rw_no0256_01.row.toRowW && PySem.Challenge.rw_no0256_01.row.within.isEmpty)) = true := by kernel_rfl
theorem law_ok : OpenLaw.wellSaid PySem.Challenge.rw_no0256_01 = true := by
  rw [PySem.W.Fast.te9446332074065402090]
  kernel_rfl
theorem dOk : defOf view_39 "law" = some (dLaw, []) := by kernel_rfl
theorem pOk : prog.theDef "law" = some (dLaw.params, dLaw.body, dLaw.scope) := by kernel_rfl
end hd
theorem hd (walk : WalkO hd.view_39 hd.loose (XL hd.view_39 []) (kHook hd.heap_39 hd.at_39 hd.yK).says PySem.Challenge.rw_no0256_01.row.toRowW hd.dLaw [] fun f vs => PySem.call f vs) : PySem.Challenge.rw_no0256_01.Holds :=
  holds_law hd.law_ok fun said => PySem.W.holds_open (r := PySem.Challenge.rw_no0256_01.row) (q := hd.view_39) (loose := hd.loose) (Xt := hd.Xt) (XP := XL hd.view_39 []) (YP := (kHook hd.heap_39 hd.at_39 hd.yK).says) (N := 7246)
    hd.left (kHook hd.heap_39 hd.at_39 hd.yK).of (kHook hd.heap_39 hd.at_39 hd.yK).keeps (fun s e => xl_of s (Bool.and_eq_true_iff.mp e).1) XL.keeps hd.dOk hd.pOk (by kernel_rfl) (fun s e => recFacts_of (Bool.and_eq_true_iff.mp e).2) (by kernel_rfl) said hd.o2
    ⟨rfl, rfl, rfl, rfl, rfl, by decide +kernel⟩ ⟨[.list []], by decide +kernel, by decide +kernel⟩ walk
end Mine
end
section
set_option maxHeartbeats 4000000
open PySem PySem.W PySem.Spec PySem.Calls PyProof.Rows
namespace Mine

/-! ## strings, tables -/
noncomputable def leqN : List Nat → List Nat → Bool
  | [], [] => true
  | a :: x, b :: y => match Nat.beq a b with
    | true => leqN x y
    | false => false
  | _, _ => false
noncomputable def seq (a b : PySem.Str) : Bool := leqN a.cps.toList b.cps.toList
noncomputable def lk {α : Type} : List (PySem.Str × α) → PySem.Str → Option α
  | [], _ => none
  | p :: r, x => match seq p.1 x with
    | true => some p.2
    | false => lk r x

/-! ## abstract values -/
inductive AV where
  | none
  | bool (b : Bool)
  | int (i : Int)
  | str (s : PySem.Str)
  | tup (l : List AV)
  | lst (l : List AV)
  | dct (l : List (PySem.Str × AV))
  | rng (a b : Int)
  | ref (i : Nat)
  | obj (C : Addr) (i : Nat)
  | jd
  | raw (v : Value)
inductive MO where
  | lst (l : List AV)
  | dct (l : List (PySem.Str × AV))
structure Ans where
  need : Nat
  res : Option AV
  σ : List MO
structure Stt where
  σ : List MO
  ans : List Ans
structure Loc where
  vars : List (PySem.Str × AV)
  cells : List (PySem.Str × Option AV)
structure Cfg where
  sc : PySem.Scope
  mu : List PySem.Str
  n : Nat
structure Tabs where
  gt : List (PySem.Str × AV)
  mt : Addr → PySem.Str → Option Addr
  fld : Addr → PySem.Str → Bool
  cf : Addr → PySem.Str → Bool
  VL : Nat → Value → List AV → List MO → Option AV → List MO → Prop
inductive Fl where
  | next
  | ret (a : AV)
inductive Out where
  | v (a : AV)
  | b (c : Bool)
  | fl (f : Fl) (ρ : Loc)
inductive Task where
  | e (x : PySem.Expr)
  | t (x : PySem.Expr)
  | m (x : PySem.Expr)
  | st (x : PySem.Stmt)
  | sts (l : List PySem.Stmt)
noncomputable abbrev KO := Out → Stt → Prop
noncomputable abbrev KX := Loc → Stt → Prop
noncomputable abbrev Rec := Nat → Cfg → Task → Loc → Stt → KO → KX → Prop

noncomputable def oK {α : Type} (o : Option α) (k : α → Prop) : Prop := match o with
  | some a => k a
  | none => False
noncomputable def oB {α β : Type} (o : Option α) (k : α → Option β) : Option β := match o with
  | some a => k a
  | none => none
noncomputable def oL (o : Option AV) (k : List AV → Prop) : Prop := match o with
  | some v => match v with
    | .lst l => k l
    | _ => False
  | none => False
noncomputable def cnd (c : Bool) (p q : Prop) : Prop := match c with
  | true => p
  | false => q
noncomputable def vK (o : Out) (k : AV → Prop) : Prop := match o with
  | .v a => k a
  | _ => False
noncomputable def bK (o : Out) (k : Bool → Prop) : Prop := match o with
  | .b a => k a
  | _ => False
noncomputable def fK (o : Out) (k : Fl → Loc → Prop) : Prop := match o with
  | .fl f ρ => k f ρ
  | _ => False

noncomputable def look (T : Tabs) (c : Cfg) (ρ : Loc) (x : PySem.Str) : Option AV := match lk c.sc.names x with
  | some .local => lk ρ.vars x
  | some .cell => (lk ρ.cells x).join
  | some .free => (lk ρ.cells x).join
  | some .globalImplicit => lk T.gt x
  | _ => none
noncomputable def constV (c : Const) : Option AV := match c with
  | .none => some .none
  | .bool b => some (.bool b)
  | .int i => some (.int i)
  | .str x => some (.str x)
  | _ => none
noncomputable def cstE (x : PySem.Expr) : Option Const := match x with
  | .Constant v _ _ => some v
  | _ => none
noncomputable def strO (v : Option Const) : Option PySem.Str := match v with
  | some v => match v with
    | .str x => some x
    | _ => none
  | none => none
noncomputable def avO (v : Option Const) : Option AV := match v with
  | some v => constV v
  | none => none
noncomputable def kyO (k : Option PySem.Expr) : Option PySem.Str := match k with
  | some x => strO (cstE x)
  | none => none
noncomputable def dcB (z : Option PySem.Str) (a : Option AV) (acc : List (PySem.Str × AV)) (k : List (PySem.Str × AV) → Option (List (PySem.Str × AV))) : Option (List (PySem.Str × AV)) := match z with
  | some z => match a with
    | some a => match lk acc z with
      | none => k (acc ++ [(z, a)])
      | some _ => none
    | none => none
  | none => none
noncomputable def dictC : List (Option PySem.Expr) → List PySem.Expr → List (PySem.Str × AV) → Option (List (PySem.Str × AV))
  | [], ys, acc => match ys with
    | [] => some acc
    | _ :: _ => none
  | x :: xs, ys, acc => match ys with
    | [] => none
    | y :: ys => dcB (kyO x) (avO (cstE y)) acc (dictC xs ys)
noncomputable def setC (x : PySem.Str) (a : AV) : List (PySem.Str × Option AV) → List (PySem.Str × Option AV)
  | [] => []
  | p :: r => match seq p.1 x with
    | true => (p.1, some a) :: r
    | false => p :: setC x a r
noncomputable def putD (x : PySem.Str) (v : AV) : List (PySem.Str × AV) → List (PySem.Str × AV)
  | [] => [(x, v)]
  | p :: r => match seq p.1 x with
    | true => (p.1, v) :: r
    | false => p :: putD x v r
noncomputable def putC (ρ : Loc) (x : PySem.Str) (a : AV) (o : Option (Option AV)) : Option Loc := match o with
  | some o => match o with
    | none => some { ρ with cells := setC x a ρ.cells }
    | some _ => none
  | none => none
noncomputable def putK (ρ : Loc) (x : PySem.Str) (a : AV) (k : Option NameKind) : Option Loc := match k with
  | some k => match k with
    | .local => some { ρ with vars := putD x a ρ.vars }
    | .cell => putC ρ x a (lk ρ.cells x)
    | _ => none
  | none => none
noncomputable def put (c : Cfg) (ρ : Loc) (x : PySem.Str) (a : AV) : Option Loc := putK ρ x a (lk c.sc.names x)

/-! ## operations on abstract values -/
noncomputable def idx? (i : Int) (len : Nat) : Option Nat := match decide (0 ≤ i) with
  | true => match decide (i < len) with
    | true => match decide (i < 1000000) with
      | true => some i.toNat
      | false => none
    | false => none
  | false => none
noncomputable def sm (i : Int) : Bool := decide (i.natAbs < 1152921504606846976)
noncomputable def small {α : Type} (l : List α) : Bool := Nat.ble l.length 100000
noncomputable def ii {β : Type} (a b : AV) (f : Int → Int → Option β) : Option β := match a with
  | .int i => match b with
    | .int j => f i j
    | _ => none
  | _ => none
noncomputable def gd (b : Bool) (r : Option AV) : Option AV := match b with
  | true => r
  | false => none
noncomputable def addI (i : Int) (b : AV) : Option AV := match b with
  | .int j => some (.int (i + j))
  | _ => none
noncomputable def addX (x : PySem.Str) (b : AV) : Option AV := match b with
  | .str y => gd (small x.cps.toList) (gd (small y.cps.toList) (some (.str (x ++ y))))
  | _ => none
noncomputable def addL (x : List AV) (b : AV) : Option AV := match b with
  | .lst y => gd (small x) (gd (small y) (some (.lst (x ++ y))))
  | _ => none
noncomputable def addV (a b : AV) : Option AV := match a with
  | .int i => addI i b
  | .str x => addX x b
  | .lst x => addL x b
  | _ => none
noncomputable def mulI (i : Int) (b : AV) : Option AV := match b with
  | .int j => gd (sm i) (gd (sm j) (some (.int (i * j))))
  | _ => none
noncomputable def mulL (x b : AV) : Option AV := match b with
  | .int j => gd (decide (0 ≤ j)) (gd (decide (j ≤ 100000)) (some (.lst (List.replicate j.toNat x))))
  | _ => none
noncomputable def mulV (a b : AV) : Option AV := match a with
  | .int i => mulI i b
  | .lst l => match l with
    | [] => none
    | x :: r => match r with
      | [] => mulL x b
      | _ :: _ => none
  | _ => none
noncomputable def binV (op : Operator) (a b : AV) : Option AV := match op with
  | .Add => addV a b
  | .Sub => ii a b fun i j => some (.int (i - j))
  | .Mult => mulV a b
  | .FloorDiv => ii a b fun i j => gd (decide (0 < j)) (gd (sm j) (some (.int (Int.fdiv i j))))
  | .Mod => ii a b fun i j => gd (decide (0 < j)) (some (.int (Int.fmod i j)))
  | .Pow => ii a b fun i j => gd (decide (0 ≤ j)) (gd (decide (j ≤ 1000)) (gd (sm i) (some (.int (i ^ j.toNat)))))
  | .LShift => ii a b fun i j => gd (decide (0 ≤ j)) (gd (decide (j ≤ 1000)) (gd (sm i) (some (.int (i * 2 ^ j.toNat)))))
  | _ => none
noncomputable def augV (op : Operator) (a b : AV) : Option AV := match op with
  | .Add => ii a b fun i j => some (.int (i + j))
  | .FloorDiv => ii a b fun i j => gd (decide (0 < j)) (gd (sm j) (some (.int (Int.fdiv i j))))
  | _ => none
noncomputable def isNone (a : AV) : Option Bool := match a with
  | .none => some true
  | .raw _ => none
  | _ => some false
mutual
noncomputable def pd : AV → PyData
  | .none => .none
  | .bool b => .bool b
  | .int i => .int i
  | .str x => .str x
  | .tup l => .tuple (pdL l)
  | .lst l => .list (pdL l)
  | _ => .none
noncomputable def pdL : List AV → List PyData
  | [] => []
  | a :: l => pd a :: pdL l
end
mutual
noncomputable def okD : AV → Bool
  | .none => true
  | .bool _ => true
  | .int _ => true
  | .str _ => true
  | .tup l => okL l
  | .lst l => okL l
  | _ => false
noncomputable def okL : List AV → Bool
  | [] => true
  | a :: l => match okD a with
    | true => okL l
    | false => false
end
noncomputable def okV (a : AV) : Bool := match okD a with
  | true => SeqAt.shaped (pd a)
  | false => false
noncomputable def eqDeep (a b : AV) : Option Bool := match okV a with
  | true => match okV b with
    | true => some (PyData.eqv (pd a) (pd b))
    | false => none
  | false => none
noncomputable def eqI (i : Int) (a b : AV) : Option Bool := match b with
  | .int j => some (decide (i = j))
  | _ => eqDeep a b
noncomputable def eqS (x : PySem.Str) (a b : AV) : Option Bool := match b with
  | .str y => some (seq x y)
  | _ => eqDeep a b
noncomputable def eqV (a b : AV) : Option Bool := match a with
  | .int i => eqI i a b
  | .str x => eqS x a b
  | _ => eqDeep a b
noncomputable def inL (a : AV) (l : List AV) : Option Bool := match okV a with
  | true => match okV (.lst l) with
    | true => some ((pdL l).any fun y => PyData.eqv y (pd a))
    | false => none
  | false => none
noncomputable def inK (a : AV) (d : List (PySem.Str × AV)) : Option Bool := match a with
  | .str x => some (lk d x).isSome
  | _ => none
noncomputable def inM (a : AV) (m : Option MO) : Option Bool := match m with
  | some m => match m with
    | .lst l => inL a l
    | .dct d => inK a d
  | none => none
noncomputable def inV (σ : List MO) (a b : AV) : Option Bool := match b with
  | .tup l => inL a l
  | .lst l => inL a l
  | .dct l => inK a l
  | .ref i => inM a σ[i]?
  | _ => none
noncomputable def notO (o : Option Bool) : Option Bool := match o with
  | some b => some (!b)
  | none => none
noncomputable def isN (a b : AV) : Option Bool := match b with
  | .none => isNone a
  | _ => none
noncomputable def cmpV (σ : List MO) (op : CmpOp) (a b : AV) : Option Bool := match op with
  | .Eq => eqV a b
  | .NotEq => notO (eqV a b)
  | .Lt => ii a b fun i j => some (decide (i < j))
  | .LtE => ii a b fun i j => some (decide (i ≤ j))
  | .Gt => ii a b fun i j => some (decide (j < i))
  | .GtE => ii a b fun i j => some (decide (j ≤ i))
  | .Is => isN a b
  | .IsNot => notO (isN a b)
  | .In => inV σ a b
  | .NotIn => notO (inV σ a b)
/-- a comparison that would look into tuples or lists: what is compared is to be shown well-formed apart -/
noncomputable def isSq (a : AV) : Bool := match a with
  | .tup _ => true
  | .lst _ => true
  | _ => false
noncomputable def deepL : List AV → Bool
  | [] => false
  | a :: l => match isSq a with
    | true => true
    | false => deepL l
noncomputable def deep (a : AV) : Bool := match a with
  | .tup l => deepL l
  | .lst l => deepL l
  | _ => false
noncomputable def gEq (a b : AV) : Option (AV × AV × Bool) := match deep a || deep b with
  | true => some (a, b, PyData.eqv (pd a) (pd b))
  | false => none
noncomputable def gInL (a : AV) (l : List AV) : Option (AV × AV × Bool) := match deepL l with
  | true => some (a, .lst l, (pdL l).any fun y => PyData.eqv y (pd a))
  | false => none
noncomputable def gInM (a : AV) (m : Option MO) : Option (AV × AV × Bool) := match m with
  | some m => match m with
    | .lst l => gInL a l
    | .dct _ => none
  | none => none
noncomputable def gIn (σ : List MO) (a b : AV) : Option (AV × AV × Bool) := match b with
  | .tup l => gInL a l
  | .lst l => gInL a l
  | .ref i => gInM a σ[i]?
  | _ => none
noncomputable def gNot (o : Option (AV × AV × Bool)) : Option (AV × AV × Bool) := match o with
  | some (a, b, r) => some (a, b, !r)
  | none => none
noncomputable def guard (σ : List MO) (op : CmpOp) (a b : AV) : Option (AV × AV × Bool) := match op with
  | .Eq => gEq a b
  | .NotEq => gNot (gEq a b)
  | .In => gIn σ a b
  | .NotIn => gNot (gIn σ a b)
  | _ => none
noncomputable def cmpK (σ : List MO) (op : CmpOp) (a b : AV) (k : Bool → Prop) : Prop := match guard σ op a b with
  | some (x, y, r) => okV x = true ∧ okV y = true ∧ k r
  | none => oK (cmpV σ op a b) k
noncomputable def trueV (a : AV) : Option Bool := match a with
  | .bool b => some b
  | .int i => some (!decide (i = 0))
  | .none => some false
  | _ => none
noncomputable def nrV (v : Value) : Option AV := match v with
  | .ref a => some (.raw (.ref a))
  | _ => none
noncomputable def nr (a : AV) : Option AV := match a with
  | .raw v => nrV v
  | a => some a
noncomputable def noRaw (o : Option AV) : Option AV := match o with
  | some a => nr a
  | none => none
noncomputable def atF (b : Bool) (x : PySem.Str) (m : Option MO) : Option AV := match b with
  | true => match m with
    | some m => match m with
      | .dct d => noRaw (lk d x)
      | .lst _ => none
    | none => none
  | false => none
noncomputable def attrV (T : Tabs) (σ : List MO) (a : AV) (x : PySem.Str) : Option AV := match a with
  | .obj C i => atF (T.fld C x) x σ[i]?
  | _ => none
noncomputable def atN : List AV → Nat → Option AV
  | [], _ => none
  | a :: _, 0 => some a
  | _ :: l, n + 1 => atN l n
noncomputable def nth? (l : List AV) (i : Int) : Option AV := match i with
  | .ofNat n => match Nat.ble n 999999 with
    | true => atN l n
    | false => none
  | .negSucc _ => none
noncomputable def subI (l : List AV) (i : AV) : Option AV := match i with
  | .int i => nth? l i
  | _ => none
noncomputable def subK (d : List (PySem.Str × AV)) (i : AV) : Option AV := match i with
  | .str x => lk d x
  | _ => none
noncomputable def chO (o : Option Nat) : Option AV := match o with
  | some c => some (.str ⟨#[c]⟩)
  | none => none
noncomputable def chAt (x : PySem.Str) (o : Option Nat) : Option AV := match o with
  | some k => chO x.cps.toList[k]?
  | none => none
noncomputable def subX (x : PySem.Str) (i : AV) : Option AV := match i with
  | .int i => chAt x (idx? i x.cps.size)
  | _ => none
noncomputable def subM (m : Option MO) (i : AV) : Option AV := match m with
  | some m => match m with
    | .lst l => subI l i
    | .dct d => subK d i
  | none => none
noncomputable def subV (σ : List MO) (a i : AV) : Option AV := match a with
  | .tup l => subI l i
  | .lst l => subI l i
  | .str x => subX x i
  | .dct l => subK l i
  | .ref j => subM σ[j]? i
  | _ => none
noncomputable def sFrom (a l : AV) : Option AV := match l with
  | .int i => match a with
    | .tup l => gd (decide (1 ≤ i)) (gd (decide (i ≤ l.length)) (gd (small l) (some (.tup (l.drop i.toNat)))))
    | .lst l => gd (decide (0 ≤ i)) (gd (small l) (some (.lst (l.drop i.toNat))))
    | _ => none
  | _ => none
noncomputable def sUpto (a u : AV) : Option AV := match u with
  | .int i => match a with
    | .lst l => gd (decide (0 ≤ i)) (gd (small l) (some (.lst (l.take i.toNat))))
    | _ => none
  | _ => none
noncomputable def sliceV (a : AV) (lo hi : Option AV) : Option AV := match lo with
  | some l => match hi with
    | none => sFrom a l
    | some _ => none
  | none => match hi with
    | some u => sUpto a u
    | none => none
noncomputable def intsF (a : Int) (n : Nat) : List AV := (List.range n).map fun (k : Nat) => AV.int (a + k)
noncomputable def okR (a b : Int) : Bool := match decide (-1000000 ≤ a) with
  | true => match decide (a ≤ 1000000) with
    | true => match decide (-1000000 ≤ b) with
      | true => decide (b ≤ 1000000)
      | false => false
    | false => false
  | false => false
noncomputable def itR (a b : Int) (q : Bool) : Option (List AV) := match q with
  | true => some (intsF a (b - a).toNat)
  | false => none
noncomputable def itemsV (a : AV) : Option (List AV) := match a with
  | .tup l => some l
  | .lst l => some l
  | .rng a b => itR a b (okR a b)
  | _ => none
noncomputable def lenR (σ : List MO) (i : Nat) : Option AV := match σ[i]? with
  | some (.lst l) => gd (small l) (some (.int l.length))
  | _ => none
noncomputable def ordV (x : PySem.Str) : Option AV := match x.cps.toList with
  | [c] => some (.int c)
  | _ => none
noncomputable def bT1 (f : String) (a : AV) : Option AV := match a with
  | .int i => if f = "range" then gd (okR 0 i) (some (.rng 0 i)) else if f = "str" then gd (sm i) (some (.str (PySem.Str.ofString (toString i)))) else none
  | .rng a b => if f = "list" then gd (okR a b) (some (.lst (intsF a (b - a).toNat))) else none
  | .lst l => if f = "tuple" then gd (Nat.ble l.length 1000) (some (.tup l)) else none
  | _ => none
noncomputable def bT2 (f : String) (a b : AV) : Option AV := match a with
  | .int a => match b with
    | .int b => if f = "range" then gd (okR a b) (some (.rng a b)) else none
    | _ => none
  | _ => none
noncomputable def bF1 (f : String) (σ : List MO) (a : AV) : Option AV := match a with
  | .tup l => if f = "len" then gd (small l) (some (.int l.length)) else none
  | .lst l => if f = "len" then gd (small l) (some (.int l.length)) else none
  | .str x => if f = "len" then gd (small x.cps.toList) (some (.int x.cps.size)) else if f = "ord" then ordV x else none
  | .ref i => if f = "len" then lenR σ i else none
  | .int i => if f = "abs" then some (.int i.natAbs) else if f = "chr" then gd (decide (0 ≤ i)) (gd (decide (i < 128)) (some (.str ⟨#[i.toNat]⟩))) else none
  | _ => none
noncomputable def bF2 (f : String) (a b : AV) : Option AV := match a with
  | .int i => match b with
    | .int j => if f = "min" then some (.int (min i j)) else if f = "max" then some (.int (max i j)) else if f = "divmod" then gd (decide (0 < j)) (gd (sm j) (some (.tup [.int (Int.fdiv i j), .int (Int.fmod i j)]))) else none
    | _ => none
  | _ => none
noncomputable def biV (f : String) (ty : Bool) (σ : List MO) (as : List AV) : Option AV := match as with
  | [] => none
  | a :: r => match r with
    | [] => match ty with
      | true => bT1 f a
      | false => bF1 f σ a
    | b :: q => match q with
      | [] => match ty with
        | true => bT2 f a b
        | false => bF2 f a b
      | _ :: _ => none
/-- the place of a text in a tuple of texts -/
noncomputable def idxOf (x : PySem.Str) : Nat → List AV → Option Nat
  | k, .str y :: r => match seq y x with
    | true => some k
    | false => idxOf x (k + 1) r
  | _, _ => none
/-- the one dict with pairs for keys -/
noncomputable def joinL : List (Int × Int × Int) := [(0, 0, 0), (0, 1, 1), (0, 2, 2), (0, 3, 3), (1, 1, 1), (1, 2, 2), (1, 3, 3), (2, 2, 2), (3, 3, 3)]
noncomputable def jps (r : List (Int × Int × Int)) : List (PyData × PyData) := r.map fun p => (encTuple PyData.int [p.1, p.2.1], .int p.2.2)
noncomputable def joinV (i j : Int) : Option AV := match (PySem.Spec.lookup (encTuple PyData.int [i, j]) (jps joinL)).getD .none with
  | .int k => some (.int k)
  | .none => some .none
  | _ => none
noncomputable def tupE (x : PySem.Expr) : List PySem.Expr := match x with
  | .Tuple es _ _ => es
  | _ => []
noncomputable def intO (v : Option Const) (a : Int) : Bool := match v with
  | some v => match v with
    | .int i => decide (i = a)
    | _ => false
  | none => false
noncomputable def intI (x : PySem.Expr) (a : Int) : Bool := intO (cstE x) a
noncomputable def and2 (a b : Bool) : Bool := match a with
  | true => b
  | false => false
noncomputable def tupL (l : List PySem.Expr) (a b : Int) : Bool := match l with
  | [] => false
  | x :: r => match r with
    | [] => false
    | y :: r => match r with
      | [] => and2 (intI x a) (intI y b)
      | _ :: _ => false
noncomputable def tupK (k : Option PySem.Expr) (a b : Int) : Bool := match k with
  | some x => tupL (tupE x) a b
  | none => false
noncomputable def jdT : List (Option PySem.Expr) → List PySem.Expr → List (Int × Int × Int) → Bool
  | [], vs, r => match vs with
    | [] => match r with
      | [] => true
      | _ :: _ => false
    | _ :: _ => false
  | k :: ks, vs, r => match vs with
    | [] => false
    | y :: ys => match r with
      | [] => false
      | p :: r => and2 (tupK k p.1 p.2.1) (and2 (intI y p.2.2) (jdT ks ys r))
inductive MK where
  | call (f : Value) (self : List AV)
  | dget (l : List (PySem.Str × AV))
  | tidx (l : List AV)
  | sfind (t : PySem.Str)
  | lapp (i : Nat)
  | lext (i : Nat)
  | jget
  | no
noncomputable def onb (b : Bool) (m : MK) : MK := match b with
  | true => m
  | false => .no
noncomputable def mRaw (b : Bool) (v : Value) : MK := match v with
  | .ref a => onb b (.call (.ref a) [])
  | _ => .no
noncomputable def mFld (b : Bool) (mt : Option Addr) (a : AV) (o : Option AV) : MK := match o with
  | some v => match v with
    | .raw f => mRaw b f
    | _ => .no
  | none => match mt with
    | some f => .call (.ref f) [a]
    | none => .no
noncomputable def mObj (b : Bool) (mt : Option Addr) (a : AV) (x : PySem.Str) (m : Option MO) : MK := match m with
  | some m => match m with
    | .dct d => mFld b mt a (lk d x)
    | .lst _ => .no
  | none => .no
noncomputable def mRef (i : Nat) (x : PySem.Str) (m : Option MO) : MK := match m with
  | some m => match m with
    | .lst _ => match seq x "append" with
      | true => .lapp i
      | false => onb (seq x "extend") (.lext i)
    | .dct _ => .no
  | none => .no
/-- a method, or a field that is called -/
noncomputable def mres (T : Tabs) (σ : List MO) (a : AV) (x : PySem.Str) : MK := match a with
  | .obj C i => mObj (T.cf C x) (T.mt C x) a x σ[i]?
  | .dct l => onb (seq x "get") (.dget l)
  | .jd => onb (seq x "get") .jget
  | .tup l => onb (seq x "index") (.tidx l)
  | .str t => onb (seq x "find") (.sfind t)
  | .ref i => mRef i x σ[i]?
  | _ => .no
noncomputable def pr2 (σ : List MO) (d : AV) (o : Option AV) : AV × List MO := match o with
  | some v => (v, σ)
  | none => (d, σ)
noncomputable def mGet (σ : List MO) (l : List (PySem.Str × AV)) (k d : AV) : Option (AV × List MO) := match k with
  | .str x => some (pr2 σ d (lk l x))
  | _ => none
noncomputable def mJ (σ : List MO) (o : Option AV) : Option (AV × List MO) := match o with
  | some v => some (v, σ)
  | none => none
noncomputable def mJt (σ : List MO) (l : List AV) : Option (AV × List MO) := match l with
  | [] => none
  | a :: l => match a with
    | .int i => match l with
      | [] => none
      | b :: l => match b with
        | .int j => match l with
          | [] => mJ σ (joinV i j)
          | _ :: _ => none
        | _ => none
    | _ => none
noncomputable def mIdx (σ : List MO) (b : Bool) (o : Option Nat) : Option (AV × List MO) := match b with
  | true => match o with
    | some i => some (.int i, σ)
    | none => none
  | false => none
noncomputable def mApp (σ : List MO) (i : Nat) (v : AV) (m : Option MO) : Option (AV × List MO) := match m with
  | some m => match m with
    | .lst l => match small l with
      | true => some (.none, σ.set i (.lst (l ++ [v])))
      | false => none
    | .dct _ => none
  | none => none
noncomputable def mExt (σ : List MO) (i : Nat) (v : List AV) (m : Option MO) : Option (AV × List MO) := match m with
  | some m => match m with
    | .lst l => match small l with
      | true => match small v with
        | true => some (.none, σ.set i (.lst (l ++ v)))
        | false => none
      | false => none
    | .dct _ => none
  | none => none
noncomputable def map1 (σ : List MO) (m : MK) (a : AV) : Option (AV × List MO) := match m with
  | .dget l => mGet σ l a .none
  | .jget => match a with
    | .tup l => mJt σ l
    | _ => none
  | .tidx l => match a with
    | .str k => mIdx σ (Nat.ble l.length 1000) (idxOf k 0 l)
    | _ => none
  | .sfind t => match a with
    | .str u => some (.int (Txt.find t u), σ)
    | _ => none
  | .lapp i => mApp σ i a σ[i]?
  | .lext i => match a with
    | .lst v => mExt σ i v σ[i]?
    | _ => none
  | _ => none
noncomputable def mapp (σ : List MO) (m : MK) (as : List AV) : Option (AV × List MO) := match as with
  | [] => none
  | a :: r => match r with
    | [] => map1 σ m a
    | d :: r => match r with
      | [] => match m with
        | .dget l => mGet σ l a d
        | _ => none
      | _ :: _ => none

/-! ## the transformer -/
noncomputable def okName (x : PySem.Str) : Bool := match seq x "__debug__" with
  | true => false
  | false => match seq x "__classdict__" with
    | true => false
    | false => true
noncomputable def baseOk (x : PySem.Expr) : Bool := match x with
  | .Call (.Name f _) [] [] _ => match seq f "super" with
    | true => false
    | false => true
  | _ => true
noncomputable def notSet (x : PySem.Expr) : Bool := match x with
  | .Set .. => false
  | _ => true
noncomputable def allNS : List PySem.Expr → Bool
  | [] => true
  | .Starred .. :: _ => false
  | _ :: r => allNS r
noncomputable def notStar (x : PySem.Expr) : Bool := match x with
  | .Starred .. => false
  | _ => true
section
variable (T : Tabs) (rec : Rec)
noncomputable def evs (k : Nat) (c : Cfg) (ρ : Loc) : List PySem.Expr → List AV → Stt → (List AV → Stt → Prop) → KX → Prop
  | [], acc, s, K, _ => K acc s
  | x :: r, acc, s, K, KE => match notStar x with
    | true => rec k c (.e x) ρ s (fun o s => vK o fun a => evs k c ρ r (acc ++ [a]) s K KE) KE
    | false => False
noncomputable def req (c : Cfg) (ρ : Loc) (f : Value) (as : List AV) (s : Stt) (K : AV → Stt → Prop) (KE : KX) : Prop := match s.ans with
  | [] => False
  | a :: r => T.VL a.need f as s.σ a.res a.σ ∧ a.need < c.n ∧ match a.res with
    | some v => K v ⟨a.σ, r⟩
    | none => KE ρ ⟨a.σ, r⟩
noncomputable def isNil {α : Type} (l : List α) : Bool := match l with
  | [] => true
  | _ :: _ => false
noncomputable def chain (k : Nat) (c : Cfg) (ρ : Loc) : AV → List CmpOp → List PySem.Expr → Stt → (Bool → Stt → Prop) → KX → Prop
  | _, [], _, _, _, _ => False
  | a, op :: ops, xs, s, K, KE => match xs with
    | [] => False
    | x :: xs => match isNil ops with
      | true => cnd (isNil xs) (cnd (!(behindInMarks op x)) (rec k c (.e x) ρ s (fun o s => vK o fun b => cmpK s.σ op a b fun r => K r s) KE) False) False
      | false => cnd (!(isNil xs)) (rec k c (.e x) ρ s (fun o s => vK o fun b => cmpK s.σ op a b fun r => cnd r (chain k c ρ b ops xs s K KE) (K false s)) KE) False
noncomputable def boolsN (op : BoolOp) : Bool := match op with
  | .And => true
  | .Or => false
noncomputable def boolsC (op : BoolOp) (b : Bool) (p : Prop) (q : Bool → Prop) : Prop := match op with
  | .And => cnd b p (q false)
  | .Or => cnd b (q true) p
noncomputable def bools (k : Nat) (c : Cfg) (ρ : Loc) (op : BoolOp) : List PySem.Expr → Stt → (Bool → Stt → Prop) → KX → Prop
  | [], s, K, _ => K (boolsN op) s
  | x :: r, s, K, KE => rec k c (.t x) ρ s (fun o s => bK o fun b => boolsC op b (bools k c ρ op r s K KE) fun v => K v s) KE
noncomputable def nameOf (x : PySem.Expr) : Option PySem.Str := match x with
  | .Name n _ => some n
  | _ => none
noncomputable def freeOk (ρ : Loc) (all : List (PySem.Str × NameKind)) : List (PySem.Str × NameKind) → Bool
  | [] => true
  | p :: r => match p.2 with
    | .free => match lk ρ.cells p.1 with
      | some (some _) => freeOk ρ all r
      | _ => false
    | .cell => false
    | .local => match lk all p.1 with
      | some .local => freeOk ρ all r
      | _ => false
    | _ => freeOk ρ all r
/-- what a comprehension captures -/
noncomputable def capt (ρ : Loc) : List (PySem.Str × NameKind) → List (PySem.Str × Option AV)
  | [] => []
  | p :: r => match p.2 with
    | .free => match lk ρ.cells p.1 with
      | some a => (p.1, a) :: capt ρ r
      | none => capt ρ r
    | _ => capt ρ r
noncomputable def relN (l : List (PySem.Str × NameKind)) (p : PySem.Str × NameKind) : PySem.Str × NameKind := match p.2 with
  | .free => match lk l p.1 with
    | some .cell => (p.1, .cell)
    | _ => p
  | _ => p
noncomputable def relS (sc scope : PySem.Scope) : PySem.Scope := { scope with names := scope.names.map (relN sc.names) }
noncomputable def isFun (k : PySem.ScopeKind) : Bool := match k with
  | .function => true
  | _ => false
noncomputable def isLoc (o : Option NameKind) : Bool := match o with
  | some k => match k with
    | .local => true
    | _ => false
  | none => false
/-- the turns of a comprehension -/
noncomputable def compT (k : Nat) (c : Cfg) (ρ ρ' : Loc) (elt : PySem.Expr) (ifs : List PySem.Expr) (KE : KX) (acc : List AV) (s : Stt) (nx : List AV → Stt → Prop) : Prop := match ifs with
  | [] => rec k c (.e elt) ρ' s (fun o s => vK o fun v => nx (acc ++ [v]) s) (fun _ s => KE ρ s)
  | i :: r => match r with
    | [] => rec k c (.t i) ρ' s (fun o s => bK o fun b => cnd b (rec k c (.e elt) ρ' s (fun o s => vK o fun v => nx (acc ++ [v]) s) (fun _ s => KE ρ s)) (nx acc s)) (fun _ s => KE ρ s)
    | _ :: _ => False
noncomputable def comp (k : Nat) (c : Cfg) (ρ : Loc) (cs : List (PySem.Str × Option AV)) (t : PySem.Str) (elt : PySem.Expr) (ifs : List PySem.Expr) (KE : KX) : List AV → List AV → Stt → (List AV → Stt → Prop) → Prop
  | [], acc, s, K => K acc s
  | a :: r, acc, s, K => compT rec k c ρ ⟨[(t, a)], cs⟩ elt ifs KE acc s fun acc s => comp k c ρ cs t elt ifs KE r acc s K
noncomputable def compG (k : Nat) (c : Cfg) (ρ : Loc) (elt : PySem.Expr) (gn : PySem.Comprehension) (scope : PySem.Scope) (s : Stt) (K : List AV → Stt → Prop) (KE : KX) (t : PySem.Str) : Prop :=
  rec (k + 1) c (.e gn.iter) ρ s (fun o s => vK o fun src => oK (itemsV src) fun items => cnd (small items) (comp rec k { c with sc := relS c.sc scope } ρ (capt ρ scope.names) t elt gn.ifs KE items [] s K) False) KE
noncomputable def compE (k : Nat) (c : Cfg) (ρ : Loc) (elt : PySem.Expr) (gens : List PySem.Comprehension) (scope : PySem.Scope) (s : Stt) (K : List AV → Stt → Prop) (KE : KX) : Prop :=
  match gens with
  | [] => False
  | gn :: r => match r with
    | _ :: _ => False
    | [] => match k with
      | 0 => False
      | k + 1 => cnd (decide (gn.is_async = 0)) (oK (nameOf gn.target) fun t => cnd (freeOk ρ scope.names scope.names) (cnd (isLoc (lk scope.names t)) (cnd (isFun scope.kind) (cnd (notSet gn.iter) (compG rec k c ρ elt gn scope s K KE t) False) False) False) False) False
noncomputable def optE (k : Nat) (c : Cfg) (ρ : Loc) (x : Option PySem.Expr) (s : Stt) (K : Option AV → Stt → Prop) (KE : KX) : Prop := match x with
  | none => K none s
  | some x => rec k c (.e x) ρ s (fun o s => vK o fun a => K (some a) s) KE
noncomputable def callF (c : Cfg) (ρ : Loc) (f : AV) (as : List AV) (s : Stt) (K : AV → Stt → Prop) (KE : KX) : Prop := match f with
  | .raw (.ref a) => req T c ρ (.ref a) as s K KE
  | .raw (.builtin b) => oK (biV b false s.σ as) fun v => K v s
  | .raw (.type b) => oK (biV b true s.σ as) fun v => K v s
  | _ => False
noncomputable def dictE (ks : List (Option PySem.Expr)) (vs : List PySem.Expr) (s : Stt) (K : AV → Stt → Prop) (j q : Bool) : Prop := match j with
  | true => K .jd s
  | false => cnd q (oK (dictC ks vs []) fun d => K (.dct d) s) False
noncomputable def callM (k : Nat) (c : Cfg) (o : PySem.Expr) (n : PySem.Str) (as : List PySem.Expr) (ρ : Loc) (s : Stt) (K : AV → Stt → Prop) (KE : KX) : Prop :=
  rec k c (.e o) ρ s (fun r s => vK r fun a => match mres T s.σ a n with
    | .call f self => evs rec k c ρ as [] s (fun as s => req T c ρ f (self ++ as) s K KE) KE
    | .no => False
    | m => evs rec k c ρ as [] s (fun as s => oK (mapp s.σ m as) fun r => K r.1 ⟨r.2, s.ans⟩) KE) KE
noncomputable def callE (k : Nat) (c : Cfg) (f : PySem.Expr) (as : List PySem.Expr) (p : Pos) (ρ : Loc) (s : Stt) (K : AV → Stt → Prop) (KE : KX) : Prop := match f with
  | .Attribute o n ap => cnd (baseOk o) (cnd (Nat.ble as.length 20) (cnd (Nat.beq ap.endLine p.line) (callM T rec k c o n as ρ s K KE) False) False) False
  | f => rec k c (.e f) ρ s (fun r s => vK r fun f => evs rec k c ρ as [] s (fun as s => callF T c ρ f as s K KE) KE) KE
noncomputable def subE (k : Nat) (c : Cfg) (v i : PySem.Expr) (ρ : Loc) (s : Stt) (K : AV → Stt → Prop) (KE : KX) : Prop := match i with
  | .Slice lo hi st _ => match st with
    | none => rec k c (.e v) ρ s (fun o s => vK o fun a => optE rec k c ρ lo s (fun l s => optE rec k c ρ hi s (fun h s => oK (sliceV a l h) fun r => K r s) KE) KE) KE
    | some _ => False
  | i => rec k c (.e v) ρ s (fun o s => vK o fun a => rec k c (.e i) ρ s (fun o s => vK o fun b => oK (subV s.σ a b) fun r => K r s) KE) KE
noncomputable def stepE (k : Nat) (c : Cfg) (x : PySem.Expr) (ρ : Loc) (s : Stt) (K : AV → Stt → Prop) (KE : KX) : Prop := match x with
  | .Constant v _ _ => match v with
    | .none => K .none s
    | .bool b => K (.bool b) s
    | .int i => K (.int i) s
    | .str x => K (.str x) s
    | _ => False
  | .Name x _ => cnd (okName x) (oK (look T c ρ x) fun a => K a s) False
  | .Tuple es _ _ => evs rec k c ρ es [] s (fun as s => cnd (small as) (K (.tup as) s) False) KE
  | .List es _ => evs rec k c ρ es [] s (fun as s => cnd (small as) (K (.lst as) s) False) KE
  | .Dict ks vs _ => match ks with
    | [] => False
    | k1 :: ks => dictE (k1 :: ks) vs s K (jdT (k1 :: ks) vs joinL) (Nat.ble ks.length 14)
  | .BinOp l op r _ => rec k c (.e l) ρ s (fun o s => vK o fun a => rec k c (.e r) ρ s (fun o s => vK o fun b => oK (binV op a b) fun v => K v s) KE) KE
  | .UnaryOp op x _ => match op with
    | .USub => rec k c (.e x) ρ s (fun o s => vK o fun a => match a with
      | .int i => K (.int (-i)) s
      | _ => False) KE
    | _ => False
  | .IfExp t b e _ => rec k c (.t t) ρ s (fun o s => bK o fun r => cnd r (rec k c (.e b) ρ s (fun o s => vK o fun a => K a s) KE) (rec k c (.e e) ρ s (fun o s => vK o fun a => K a s) KE)) KE
  | .Compare l ops cs _ => rec k c (.e l) ρ s (fun o s => vK o fun a => chain rec k c ρ a ops cs s (fun b s => K (.bool b) s) KE) KE
  | .Attribute v n _ => cnd (baseOk v) (rec k c (.e v) ρ s (fun o s => vK o fun a => oK (attrV T s.σ a n) fun r => K r s) KE) False
  | .Subscript v i _ => subE rec k c v i ρ s K KE
  | .Call f as kw p => match kw with
    | [] => cnd (allNS as) (callE T rec k c f as p ρ s K KE) False
    | _ :: _ => False
  | .ListComp elt gens scope _ => compE rec k c ρ elt gens scope s (fun l s => K (.lst l) s) KE
  | _ => False
/-- a fresh list or dict that will be changed -/
noncomputable def stepM (k : Nat) (c : Cfg) (x : PySem.Expr) (ρ : Loc) (s : Stt) (K : AV → Stt → Prop) (KE : KX) : Prop := match x with
  | .List es _ => evs rec k c ρ es [] s (fun as s => cnd (small as) (K (.ref s.σ.length) ⟨s.σ ++ [.lst as], s.ans⟩) False) KE
  | .Dict ks vs _ => match ks, vs with
    | [], [] => K (.ref s.σ.length) ⟨s.σ ++ [.dct []], s.ans⟩
    | _, _ => False
  | .ListComp elt gens scope _ => compE rec k c ρ elt gens scope s (fun l s => K (.ref s.σ.length) ⟨s.σ ++ [.lst l], s.ans⟩) KE
  | .BinOp l op r _ => match op with
    | .Mult => rec k c (.e l) ρ s (fun o s => vK o fun a => rec k c (.e r) ρ s (fun o s => vK o fun b => oL (binV .Mult a b) fun l => K (.ref s.σ.length) ⟨s.σ ++ [.lst l], s.ans⟩) KE) KE
    | _ => False
  | _ => False
noncomputable def isFresh (x : PySem.Expr) : Bool := match x with
  | .List .. => true
  | .Dict [] [] _ => true
  | .ListComp .. => true
  | .BinOp (.List ..) .Mult _ _ => true
  | _ => false
noncomputable def tE (k : Nat) (c : Cfg) (x : PySem.Expr) (ρ : Loc) (s : Stt) (K : Bool → Stt → Prop) (KE : KX) : Prop := rec k c (.e x) ρ s (fun o s => vK o fun a => oK (trueV a) fun b => K b s) KE
noncomputable def tU (k : Nat) (c : Cfg) (op : UnaryOp) (x : PySem.Expr) (p : Pos) (ρ : Loc) (s : Stt) (K : Bool → Stt → Prop) (KE : KX) : Prop := match op with
  | .Not => rec k c (.t x) ρ s (fun o s => bK o fun b => K (!b) s) KE
  | op => tE rec k c (.UnaryOp op x p) ρ s K KE
noncomputable def stepT (k : Nat) (c : Cfg) (x : PySem.Expr) (ρ : Loc) (s : Stt) (K : Bool → Stt → Prop) (KE : KX) : Prop := match x with
  | .UnaryOp op x p => tU rec k c op x p ρ s K KE
  | .BoolOp op vs _ => bools rec k c ρ op vs s K KE
  | .IfExp t b e _ => rec k c (.t t) ρ s (fun o s => bK o fun r => cnd r (rec k c (.t b) ρ s (fun o s => bK o fun a => K a s) KE) (rec k c (.t e) ρ s (fun o s => bK o fun a => K a s) KE)) KE
  | .Compare l ops cs _ => rec k c (.e l) ρ s (fun o s => vK o fun a => chain rec k c ρ a ops cs s K KE) KE
  | x => tE rec k c x ρ s K KE
noncomputable def inMu (c : Cfg) (x : PySem.Str) : Bool := c.mu.any (seq x)
noncomputable def binds (c : Cfg) : List PySem.Expr → List AV → Loc → Option Loc
  | [], as, ρ => match as with
    | [] => some ρ
    | _ :: _ => none
  | t :: ts, as, ρ => match as with
    | [] => none
    | a :: as => oB (nameOf t) fun x => oB (put c ρ x a) fun ρ' => binds c ts as ρ'
noncomputable def bindU (c : Cfg) (ts : List PySem.Expr) (a : AV) (ρ : Loc) : Option Loc := match a with
  | .tup l => binds c ts l ρ
  | _ => none
noncomputable def bindT (c : Cfg) (t : PySem.Expr) (a : AV) (ρ : Loc) : Option Loc := match t with
  | .Name x _ => put c ρ x a
  | .Tuple ts _ _ => bindU c ts a ρ
  | _ => none
noncomputable def setN (σ : List MO) (j : Nat) (l : List AV) (v : AV) (o : Option Nat) : Option (List MO) := match o with
  | some n => some (σ.set j (.lst (l.set n v)))
  | none => none
noncomputable def setL (σ : List MO) (j : Nat) (i v : AV) (m : Option MO) : Option (List MO) := match m with
  | some m => match m with
    | .lst l => match i with
      | .int i => setN σ j l v (idx? i l.length)
      | _ => none
    | .dct _ => none
  | none => none
noncomputable def setAt (σ : List MO) (o i v : AV) : Option (List MO) := match o with
  | .ref j => setL σ j i v σ[j]?
  | _ => none
noncomputable def setP (σ : List MO) (j : Nat) (x : PySem.Str) (v : AV) (m : Option MO) : Option (List MO) := match m with
  | some m => match m with
    | .dct d => match Nat.ble d.length 900 with
      | true => some (σ.set j (.dct (putD x v d)))
      | false => none
    | .lst _ => none
  | none => none
noncomputable def setK (σ : List MO) (x : PySem.Str) (o v : AV) : Option (List MO) := match o with
  | .ref j => setP σ j x v σ[j]?
  | _ => none
noncomputable def setI (σ : List MO) (o i v : AV) : Option (List MO) := match i with
  | .str x => setK σ x o v
  | _ => setAt σ o i v
noncomputable def setF (σ : List MO) (j : Nat) (x : PySem.Str) (v : AV) (b : Bool) : Option (List MO) := match b with
  | true => setP σ j x v σ[j]?
  | false => none
noncomputable def setA (T : Tabs) (σ : List MO) (o : AV) (x : PySem.Str) (v : AV) : Option (List MO) := match o with
  | .obj C j => setF σ j x v (T.fld C x)
  | _ => none
noncomputable def notComp (x : PySem.Expr) : Bool := match x with
  | .ListComp .. => false
  | .SetComp .. => false
  | .DictComp .. => false
  | _ => true
noncomputable def plainV (x : PySem.Expr) : Bool := match x with
  | .Tuple .. => false
  | .ListComp .. => false
  | .SetComp .. => false
  | .DictComp .. => false
  | _ => true
/-- the turns of a for -/
noncomputable def turns (k : Nat) (c : Cfg) (t : PySem.Expr) (body : List PySem.Stmt) (KE : KX) : List AV → Loc → Stt → (Fl → Loc → Stt → Prop) → Prop
  | [], ρ, s, K => K .next ρ s
  | a :: r, ρ, s, K => oK (bindT c t a ρ) fun ρ => rec k c (.sts body) ρ s (fun o s => fK o fun f ρ => match f with
    | .next => turns k c t body KE r ρ s K
    | .ret v => K (.ret v) ρ s) KE
/-- the turns of a while -/
noncomputable def wloop (k : Nat) (c : Cfg) (t : PySem.Expr) (body : List PySem.Stmt) (KE : KX) : Nat → Loc → Stt → (Fl → Loc → Stt → Prop) → Prop
  | 0, _, _, _ => False
  | n + 1, ρ, s, K => rec k c (.t t) ρ s (fun o s => bK o fun b => cnd b
        (rec k c (.sts body) ρ s (fun o s => fK o fun f ρ => match f with
          | .next => wloop k c t body KE n ρ s K
          | .ret v => K (.ret v) ρ s) KE)
        (K .next ρ s)) KE
noncomputable def cfB (n : Option PySem.Str) (t : Option PySem.Str) : Bool := match n with
  | some f => match t with
    | some _ => seq f "CheckFault"
    | none => false
  | none => false
noncomputable def cfA (f : PySem.Expr) (as : List PySem.Expr) (kw : List PySem.Keyword) : Bool := match kw with
  | [] => match as with
    | [] => false
    | a :: r => match r with
      | [] => cfB (nameOf f) (strO (cstE a))
      | _ :: _ => false
  | _ :: _ => false
noncomputable def isCF (x : PySem.Expr) : Bool := match x with
  | .Call f as kw _ => cfA f as kw
  | _ => false
noncomputable def tm (b : Bool) (v : PySem.Expr) : Task := match b with
  | true => .m v
  | false => .e v
noncomputable def nnK (a : AV) (p : Prop) : Prop := match a with
  | .none => p
  | _ => False
noncomputable def isGI (o : Option NameKind) : Bool := match o with
  | some k => match k with
    | .globalImplicit => true
    | _ => false
  | none => false
noncomputable def asgC (k : Nat) (c : Cfg) (x : PySem.Str) (elt : PySem.Expr) (gens : List PySem.Comprehension) (scope : PySem.Scope) (ρ : Loc) (s : Stt) (K : Fl → Loc → Stt → Prop) (KE : KX) (b : Bool) : Prop := match b with
  | true => compE rec k c ρ elt gens scope s (fun l s => oK (put c ρ x (.ref s.σ.length)) fun ρ => K .next ρ ⟨s.σ ++ [.lst l], s.ans⟩) KE
  | false => compE rec k c ρ elt gens scope s (fun l s => oK (put c ρ x (.lst l)) fun ρ => K .next ρ s) KE
noncomputable def asgN (k : Nat) (c : Cfg) (x : PySem.Str) (v : PySem.Expr) (ρ : Loc) (s : Stt) (K : Fl → Loc → Stt → Prop) (KE : KX) : Prop := match v with
  | .ListComp elt gens scope _ => asgC rec k c x elt gens scope ρ s K KE (inMu c x)
  | v => cnd (notComp v) (rec k c (tm (inMu c x) v) ρ s (fun o s => vK o fun a => oK (put c ρ x a) fun ρ => K .next ρ s) KE) False
noncomputable def asgT (k : Nat) (c : Cfg) (t v : PySem.Expr) (ρ : Loc) (s : Stt) (K : Fl → Loc → Stt → Prop) (KE : KX) : Prop := match t with
  | .Name x _ => asgN rec k c x v ρ s K KE
  | .Tuple xs m p => cnd (plainV v) (rec k c (.e v) ρ s (fun o s => vK o fun a => oK (bindT c (.Tuple xs m p) a ρ) fun ρ => K .next ρ s) KE) False
  | .Attribute o n _ => rec k c (tm (isFresh v) v) ρ s (fun r s => vK r fun a => rec k c (.e o) ρ s (fun r s => vK r fun ob => oK (setA T s.σ ob n a) fun σ => K .next ρ ⟨σ, s.ans⟩) KE) KE
  | .Subscript o i _ => rec k c (.e v) ρ s (fun r s => vK r fun a => rec k c (.e o) ρ s (fun r s => vK r fun ob => rec k c (.e i) ρ s (fun r s => vK r fun ix => oK (setI s.σ ob ix a) fun σ => K .next ρ ⟨σ, s.ans⟩) KE) KE) KE
  | _ => False
noncomputable def augN (k : Nat) (c : Cfg) (t : PySem.Expr) (op : Operator) (v : PySem.Expr) (ρ : Loc) (s : Stt) (K : Fl → Loc → Stt → Prop) (KE : KX) : Prop := match t with
  | .Name x _ => cnd (isLoc (lk c.sc.names x)) (oK (lk ρ.vars x) fun a => rec k c (.e v) ρ s (fun o s => vK o fun b => oK (augV op a b) fun r => oK (put c ρ x r) fun ρ => K .next ρ s) KE) False
  | _ => False
noncomputable def stepS (k : Nat) (c : Cfg) (x : PySem.Stmt) (ρ : Loc) (s : Stt) (K : Fl → Loc → Stt → Prop) (KE : KX) : Prop := match x with
  | .Expr v _ => cnd (notComp v) (rec k c (.e v) ρ s (fun o s => vK o fun a => nnK a (K .next ρ s)) KE) False
  | .Return v _ => match v with
    | some x => rec k c (.e x) ρ s (fun o s => vK o fun a => K (.ret a) ρ s) KE
    | none => K (.ret .none) ρ s
  | .Assign ts v _ => match ts with
    | [] => False
    | t :: r => match r with
      | [] => asgT T rec k c t v ρ s K KE
      | _ :: _ => False
  | .AugAssign t op v _ => augN rec k c t op v ρ s K KE
  | .If t b e _ => rec k c (.t t) ρ s (fun o s => bK o fun r => cnd r (rec k c (.sts b) ρ s (fun o s => fK o fun f ρ => K f ρ s) KE) (rec k c (.sts e) ρ s (fun o s => fK o fun f ρ => K f ρ s) KE)) KE
  | .Raise x ca _ => match ca with
    | none => match x with
      | some x => cnd (isCF x) (cnd (Nat.ble 3 c.n) (cnd (isGI (lk c.sc.names "CheckFault")) (KE ρ s) False) False) False
      | none => False
    | some _ => False
  | .For t it body els _ => match els with
    | [] => match k with
      | k' + 1 => cnd (notSet it) (rec (k' + 1) c (.e it) ρ s (fun o s => vK o fun src => oK (itemsV src) fun items => cnd (small items) (turns rec k' c t body KE items ρ s K) False) KE) False
      | 0 => False
    | _ :: _ => False
  | .While t body els _ => match els with
    | [] => match k with
      | k' + 1 => wloop rec k' c t body KE 40 ρ s K
      | 0 => False
    | _ :: _ => False
  | _ => False
noncomputable def steps (k : Nat) (c : Cfg) : List PySem.Stmt → Loc → Stt → (Fl → Loc → Stt → Prop) → KX → Prop
  | [], ρ, s, K, _ => K .next ρ s
  | x :: r, ρ, s, K, KE => rec k c (.st x) ρ s (fun o s => fK o fun f ρ => match f with
    | .next => steps k c r ρ s K KE
    | .ret v => K (.ret v) ρ s) KE
noncomputable def step : Rec := fun k c t ρ s K KE => match t with
  | .e x => stepE T rec k c x ρ s (fun a s => K (.v a) s) KE
  | .m x => stepM rec k c x ρ s (fun a s => K (.v a) s) KE
  | .t x => stepT rec k c x ρ s (fun a s => K (.b a) s) KE
  | .st x => stepS T rec k c x ρ s (fun f ρ s => K (.fl f ρ) s) KE
  | .sts l => steps rec k c l ρ s (fun f ρ s => K (.fl f ρ) s) KE
end
noncomputable def run (T : Tabs) : Nat → Rec
  | 0 => fun _ _ _ _ _ _ _ => False
  | n + 1 => step T (run T n)
end Mine
end
section
set_option maxHeartbeats 4000000
open PySem PySem.W PySem.Spec PySem.Calls PyProof.Rows
namespace Mine

theorem leqN_iff : ∀ (a b : List Nat), leqN a b = true ↔ a = b
  | [], [] => by simp [leqN]
  | [], _ :: _ => by simp [leqN]
  | _ :: _, [] => by simp [leqN]
  | a :: x, b :: y => by
    unfold leqN
    cases h : Nat.beq a b with
    | true => simp only [leqN_iff x y, Nat.eq_of_beq_eq_true h, List.cons.injEq, true_and]
    | false => simp only [Bool.false_eq_true, List.cons.injEq, false_iff, not_and]; intro e; exact absurd e (Nat.ne_of_beq_eq_false h)
theorem seq_iff {a b : PySem.Str} : seq a b = true ↔ a = b := by
  unfold seq
  rw [leqN_iff]
  constructor
  · intro h
    cases a; cases b
    simp only [PySem.Str.mk.injEq]
    exact Array.toList_inj.mp h
  · rintro rfl; rfl
theorem seq_self (a : PySem.Str) : seq a a = true := seq_iff.mpr rfl
theorem seq_decide (a b : PySem.Str) : seq a b = decide (a = b) := by
  by_cases h : a = b
  · rw [decide_eq_true h]; exact seq_iff.mpr h
  · rw [decide_eq_false h]
    cases q : seq a b with
    | false => rfl
    | true => exact absurd (seq_iff.mp q) h
theorem lk_eq {α : Type} : ∀ (l : List (PySem.Str × α)) (x : PySem.Str), lk l x = l.lookup x
  | [], _ => rfl
  | p :: r, x => by
    unfold lk
    rw [List.lookup]
    by_cases h : p.1 = x
    · rw [seq_iff.mpr h]; subst h; simp
    · have : seq p.1 x = false := by rw [seq_decide, decide_eq_false h]
      rw [this]
      have : (x == p.1) = false := by simp; exact fun e => h e.symm
      simp only [this]
      exact lk_eq r x
theorem lk_cons_self {α : Type} (x : PySem.Str) (a : α) (l : List (PySem.Str × α)) : lk ((x, a) :: l) x = some a := by
  unfold lk; simp only [seq_self]
theorem lk_cons {α : Type} (x y : PySem.Str) (a : α) (l : List (PySem.Str × α)) : lk ((x, a) :: l) y = if x = y then some a else lk l y := by
  conv => lhs; unfold lk
  by_cases h : x = y
  · simp only [seq_iff.mpr h, if_pos h]
  · have : seq x y = false := by rw [seq_decide, decide_eq_false h]
    simp only [this, if_neg h]

/-! ## the world -/
structure Glb where
  prog : Program
  w : World
  K : Frag
  p : Program
  loose : List PySem.Str
  mean : ExcName → Option Value
  mg : PySem.Str → Option Value
  mb : PySem.Str → Option Value
  base : Heap
  gens : Array GenState
  drawn : Drawn
  os : OsState
  cf : Addr
structure Wd where
  As : List Addr
  fz : List (Addr × Obj)
noncomputable def Kn (g : Glb) (W : Wd) (a : Addr) (o : Obj) : Prop := g.K.lookup a = some o ∨ (a, o) ∈ W.fz
noncomputable abbrev tupObj (vs : List Value) (n : Nat) : Obj := { cls := .type "tuple", data := .seq vs.toArray n }
noncomputable abbrev rngObj (a b : Int) (t u v : Tok) : Obj := { cls := .type "range", dict := none, data := .fields #[.int a t, .int b u, .int 1 v], slots := #[] }
/-- a dict object as a map -/
noncomputable def OMap (g : Glb) (o : Obj) (f : PySem.Str → Option Value) (n : Nat) : Prop :=
  o.ExactDict ∧ ∃ es ep kvs, o.data = .dict es ep ∧ KeysOf (strKind g.prog g.w) es ∧ Pairs (strKind g.prog g.w) es.toList kvs ∧ (kvs.map (·.1)).Nodup ∧ kvs.length ≤ n ∧ ∀ k, valueAt kvs k = f k
theorem OMap.old {g : Glb} {o : Obj} {f : PySem.Str → Option Value} {n : Nat} (h : OMap g o f n) :
    o.ExactDict ∧ ∃ es ep, o.data = .dict es ep ∧ KeysOf (strKind g.prog g.w) es ∧ es.size ≤ n ∧ ∀ k, findBy (strKind g.prog g.w).is es k = f k := by
  obtain ⟨hc, es, ep, kvs, hd, hk, hp, hn, hl, hf⟩ := h
  refine ⟨hc, es, ep, hd, hk, ?_, fun k => ?_⟩
  · rw [← Array.length_toList, hp.length]; exact hl
  · rw [← hf k, ← hp.find k]
    unfold findBy
    rw [← Array.find?_toList]
/-- the dict with pairs for keys, as it lies in the heap -/
noncomputable def JD (g : Glb) (W : Wd) (d : Addr) : Prop := ∃ o es ep xs, (d, o) ∈ W.fz ∧ o.ExactDict ∧ o.data = .dict es ep ∧ es.toList = xs.map (entryOfKey (tupleKind (intKind g.prog g.w))) ∧ (xs.map (·.1)).Nodup ∧
    (∀ x ∈ xs, ∃ ok, (x.2.1, ok) ∈ W.fz ∧ TupKeyObj (intKind g.prog g.w) x.1 ok) ∧ PyProof.V.FlatPairs (encTuple PyData.int) (kvsOf xs) (jps joinL)
mutual
inductive V (g : Glb) (W : Wd) : Value → AV → Prop
  | none : V g W .none .none
  | bool (b : Bool) : V g W (.bool b) (.bool b)
  | int (i : Int) (t : Tok) : V g W (.int i t) (.int i)
  | str (x : PySem.Str) (t : Tok) : V g W (.str x t) (.str x)
  | tup {a : Addr} {vs : List Value} {n : Nat} {ds : List AV} : Kn g W a (tupObj vs n) → VA g W vs ds → V g W (.ref a) (.tup ds)
  | lst {a : Addr} {vs : List Value} {n : Nat} {ds : List AV} : (a, listOf vs.toArray n) ∈ W.fz → VA g W vs ds → V g W (.ref a) (.lst ds)
  | dct {a : Addr} {o : Obj} {f : PySem.Str → Option Value} {n : Nat} {d : List (PySem.Str × AV)} : Kn g W a o → OMap g o f n → VD g W f d → (∀ x, lk d x = none → f x = none) → V g W (.ref a) (.dct d)
  | rng {a : Addr} {i j : Int} {t u v : Tok} : (a, rngObj i j t u v) ∈ W.fz → V g W (.ref a) (.rng i j)
  | ref {i : Nat} {a : Addr} : W.As[i]? = some a → V g W (.ref a) (.ref i)
  | obj {x dx C : Addr} {i : Nat} : (x, instObj C dx) ∈ W.fz → W.As[i]? = some dx → V g W (.ref x) (.obj C i)
  | jd {a : Addr} : JD g W a → V g W (.ref a) .jd
  | raw (v : Value) : V g W v (.raw v)
inductive VA (g : Glb) (W : Wd) : List Value → List AV → Prop
  | nil : VA g W [] []
  | cons {v : Value} {vs : List Value} {d : AV} {ds : List AV} : V g W v d → VA g W vs ds → VA g W (v :: vs) (d :: ds)
inductive VD (g : Glb) (W : Wd) : (PySem.Str → Option Value) → List (PySem.Str × AV) → Prop
  | nil {f : PySem.Str → Option Value} : VD g W f []
  | cons {f : PySem.Str → Option Value} {x : PySem.Str} {a : AV} {v : Value} {d : List (PySem.Str × AV)} : f x = some v → V g W v a → VD g W f d → VD g W f ((x, a) :: d)
end
structure Wd.Le (W W' : Wd) : Prop where
  as : ∃ e, W'.As = W.As ++ e
  fz : ∀ p ∈ W.fz, p ∈ W'.fz
theorem Wd.Le.refl (W : Wd) : W.Le W := ⟨⟨[], by simp⟩, fun _ h => h⟩
theorem Wd.Le.trans {W₁ W₂ W₃ : Wd} (a : W₁.Le W₂) (b : W₂.Le W₃) : W₁.Le W₃ :=
  ⟨let ⟨e, h⟩ := a.as; let ⟨e', h'⟩ := b.as; ⟨e ++ e', by rw [h', h, List.append_assoc]⟩, fun p h => b.fz p (a.fz p h)⟩
theorem Wd.Le.at {W W' : Wd} (h : W.Le W') {i : Nat} {a : Addr} (e : W.As[i]? = some a) : W'.As[i]? = some a := by
  obtain ⟨x, hx⟩ := h.as
  rw [hx]
  obtain ⟨hl, he⟩ := List.getElem?_eq_some_iff.mp e
  rw [List.getElem?_append_left hl]; exact e
theorem Kn.mono {g : Glb} {W W' : Wd} (h : W.Le W') {a : Addr} {o : Obj} (x : Kn g W a o) : Kn g W' a o := x.imp id (h.fz _)
section
variable {g : Glb} {W W' : Wd}
theorem V.none_e {P : Prop} {v : Value} (h : V g W v .none) (k : .none = v → P) : P := by cases h; exact k rfl
theorem V.bool_e {P : Prop} {v : Value} {b : Bool} (h : V g W v (.bool b)) (k : .bool b = v → P) : P := by cases h; exact k rfl
theorem V.int_e {P : Prop} {v : Value} {i : Int} (h : V g W v (.int i)) (k : ∀ t, .int i t = v → P) : P := by cases h; exact k _ rfl
theorem V.str_e {P : Prop} {v : Value} {x : PySem.Str} (h : V g W v (.str x)) (k : ∀ t, .str x t = v → P) : P := by cases h; exact k _ rfl
theorem V.tup_e {P : Prop} {v : Value} {ds : List AV} (h : V g W v (.tup ds)) (k : ∀ a vs n, Kn g W a (tupObj vs n) → VA g W vs ds → .ref a = v → P) : P := by cases h with | tup a b => exact k _ _ _ a b rfl
theorem V.lst_e {P : Prop} {v : Value} {ds : List AV} (h : V g W v (.lst ds)) (k : ∀ a vs n, (a, listOf vs.toArray n) ∈ W.fz → VA g W vs ds → .ref a = v → P) : P := by cases h with | lst a b => exact k _ _ _ a b rfl
theorem V.dct_e {P : Prop} {v : Value} {d : List (PySem.Str × AV)} (h : V g W v (.dct d)) (k : ∀ a o f n, Kn g W a o → OMap g o f n → VD g W f d → (∀ x, lk d x = .none → f x = .none) → .ref a = v → P) : P := by cases h with | dct a b c d => exact k _ _ _ _ a b c d rfl
theorem V.rng_e {P : Prop} {v : Value} {i j : Int} (h : V g W v (.rng i j)) (k : ∀ a t u w, (a, rngObj i j t u w) ∈ W.fz → .ref a = v → P) : P := by cases h with | rng a => exact k _ _ _ _ a rfl
theorem V.ref_e {P : Prop} {v : Value} {i : Nat} (h : V g W v (.ref i)) (k : ∀ a, W.As[i]? = some a → .ref a = v → P) : P := by cases h with | ref a => exact k _ a rfl
theorem V.obj_e {P : Prop} {v : Value} {C : Addr} {i : Nat} (h : V g W v (.obj C i)) (k : ∀ x dx, (x, instObj C dx) ∈ W.fz → W.As[i]? = some dx → .ref x = v → P) : P := by cases h with | obj a b => exact k _ _ a b rfl
theorem V.jd_e {P : Prop} {v : Value} (h : V g W v .jd) (k : ∀ a, JD g W a → .ref a = v → P) : P := by cases h with | jd a => exact k _ a rfl
theorem V.raw_e {P : Prop} {v w : Value} (h : V g W v (.raw w)) (k : w = v → P) : P := by cases h; exact k rfl
theorem VA.nil_e {P : Prop} {vs : List Value} (h : VA g W vs []) (k : [] = vs → P) : P := by cases h; exact k rfl
theorem VA.cons_e {P : Prop} {vs : List Value} {a : AV} {r : List AV} (h : VA g W vs (a :: r)) (k : ∀ v ws, V g W v a → VA g W ws r → v :: ws = vs → P) : P := by cases h with | cons a b => exact k _ _ a b rfl
theorem VA.cons_f {P : Prop} {v : Value} {vs : List Value} {as : List AV} (h : VA g W (v :: vs) as) (k : ∀ a r, V g W v a → VA g W vs r → a :: r = as → P) : P := by cases h with | cons a b => exact k _ _ a b rfl
theorem VA.nil_f {P : Prop} {as : List AV} (h : VA g W [] as) (k : [] = as → P) : P := by cases h; exact k rfl
theorem VA.one_e {P : Prop} {vs : List Value} {a : AV} (h : VA g W vs [a]) (k : ∀ v, V g W v a → [v] = vs → P) : P := h.cons_e fun v ws hv hr e => hr.nil_e fun e2 => k v hv (e2 ▸ e)
theorem VA.two_e {P : Prop} {vs : List Value} {a b : AV} (h : VA g W vs [a, b]) (k : ∀ v w, V g W v a → V g W w b → [v, w] = vs → P) : P := h.cons_e fun v ws hv hr e => hr.one_e fun w hw e2 => k v w hv hw (e2 ▸ e)
theorem VA.i1 {P : Prop} {vs : List Value} {i : Int} (h : VA g W vs [.int i]) (k : ∀ t, [.int i t] = vs → P) : P := h.one_e fun _ hv e => hv.int_e fun t e2 => k t (e2 ▸ e)
theorem VA.i2 {P : Prop} {vs : List Value} {i j : Int} (h : VA g W vs [.int i, .int j]) (k : ∀ t u, [.int i t, .int j u] = vs → P) : P := h.two_e fun _ _ hv hw e => hv.int_e fun t e2 => hw.int_e fun u e3 => k t u (e2 ▸ e3 ▸ e)
theorem JD.go (h : ∀ p ∈ W.fz, p ∈ W'.fz) {d : Addr} (j : JD g W d) : JD g W' d :=
  j.imp fun _ j => j.imp fun _ j => j.imp fun _ j => j.imp fun _ j => j.imp (h _) fun j => j.imp id fun j => j.imp id fun j => j.imp id fun j => j.imp id fun j => j.imp (fun f x hx => (f x hx).imp fun _ r => r.imp (h _) id) id
theorem JD.mono (h : W.Le W') {d : Addr} : JD g W d → JD g W' d := JD.go h.fz
theorem V.mono (h : W.Le W') {v : Value} {a : AV} (x : V g W v a) : V g W' v a :=
  V.rec (motive_1 := fun v a _ => V g W' v a) (motive_2 := fun vs ds _ => VA g W' vs ds) (motive_3 := fun f d _ => VD g W' f d)
    .none (fun _ => .bool _) (fun _ _ => .int _ _) (fun _ _ => .str _ _) (fun k _ r => .tup (Kn.mono h k) r) (fun k _ r => .lst (h.fz _ k) r) (fun k m _ q r => .dct (Kn.mono h k) m r q)
    (fun k => .rng (h.fz _ k)) (fun k => .ref (h.at k)) (fun k i => .obj (h.fz _ k) (h.at i)) (fun k => .jd (JD.mono h k)) (fun _ => .raw _) .nil (fun _ _ a b => .cons a b) .nil (fun e _ _ a b => .cons e a b) x
theorem VA.mono (h : W.Le W') : ∀ {vs : List Value} {ds : List AV}, VA g W vs ds → VA g W' vs ds := by
  intro vs
  induction vs with
  | nil => intro ds x; exact x.nil_f fun ee => ee ▸ .nil
  | cons v vs ih => intro ds x; exact x.cons_f fun a r k l ee => ee ▸ .cons (V.mono h k) (ih l)
theorem VD.cons_e {P : Prop} {f : PySem.Str → Option Value} {p : PySem.Str × AV} {d : List (PySem.Str × AV)} (h : VD g W f (p :: d)) (k : ∀ v, f p.1 = some v → V g W v p.2 → VD g W f d → P) : P := by cases h with | cons a b c => exact k _ a b c
theorem VD.mono (h : W.Le W') {f : PySem.Str → Option Value} : ∀ {d : List (PySem.Str × AV)}, VD g W f d → VD g W' f d := by
  intro d
  induction d with
  | nil => intro _; exact .nil
  | cons p d ih => intro x; exact x.cons_e fun v a b c => .cons a (V.mono h b) (ih c)
end
section
variable {g : Glb} {W : Wd} {vs ws : List Value} {ds es : List AV}
theorem VA.length (h : VA g W vs ds) : vs.length = ds.length := by
  induction vs generalizing ds with
  | nil => cases h; rfl
  | cons v vs ih =>
    cases h with
    | cons _ r => rw [List.length_cons, List.length_cons, ih r]
theorem VA.append (h : VA g W vs ds) (k : VA g W ws es) : VA g W (vs ++ ws) (ds ++ es) := by
  induction vs generalizing ds with
  | nil => cases h; exact k
  | cons v vs ih =>
    cases h with
    | cons h r => exact .cons h (ih r)
theorem VA.one {v : Value} {d : AV} (h : V g W v d) : VA g W [v] [d] := .cons h .nil
theorem VA.snoc {v : Value} {d : AV} (h : VA g W vs ds) (k : V g W v d) : VA g W (vs ++ [v]) (ds ++ [d]) := h.append (.one k)
theorem VA.get (h : VA g W vs ds) {k : Nat} {d : AV} (hk : ds[k]? = some d) : ∃ v, vs[k]? = some v ∧ V g W v d := by
  induction vs generalizing ds k with
  | nil => cases h; cases hk
  | cons v vs ih =>
    cases h with
    | cons h r =>
      cases k with
      | zero => cases hk; exact ⟨v, rfl, h⟩
      | succ k => exact ih r hk
theorem VA.drop (h : VA g W vs ds) (n : Nat) : VA g W (vs.drop n) (ds.drop n) := by
  induction n generalizing vs ds with
  | zero => exact h
  | succ n ih => cases h with
    | nil => exact .nil
    | cons _ r => exact ih r
theorem VA.take (h : VA g W vs ds) (n : Nat) : VA g W (vs.take n) (ds.take n) := by
  induction n generalizing vs ds with
  | zero => exact .nil
  | succ n ih => cases h with
    | nil => exact .nil
    | cons x r => exact .cons x (ih r)
theorem VA.set (h : VA g W vs ds) (n : Nat) {v : Value} {d : AV} (k : V g W v d) : VA g W (vs.set n v) (ds.set n d) := by
  induction n generalizing vs ds with
  | zero => cases h with
    | nil => exact .nil
    | cons _ r => exact .cons k r
  | succ n ih => cases h with
    | nil => exact .nil
    | cons x r => exact .cons x (ih r)
theorem VD.get {f : PySem.Str → Option Value} {d : List (PySem.Str × AV)} (h : VD g W f d) {x : PySem.Str} {a : AV} (e : lk d x = some a) : ∃ v, f x = some v ∧ V g W v a := by
  induction d with
  | nil => cases e
  | cons p d ih =>
    cases h with
    | cons e' hv r =>
      rw [lk_cons] at e
      split at e
      · rename_i q; subst q; cases e; exact ⟨_, e', hv⟩
      · exact ih r e
end
/-- what lies in a mutable place -/
inductive MoR (g : Glb) (W : Wd) : Obj → MO → Prop
  | lst {vs : List Value} {n : Nat} {ds : List AV} : VA g W vs ds → MoR g W (listOf vs.toArray n) (.lst ds)
  | dct {o : Obj} {f : PySem.Str → Option Value} {d : List (PySem.Str × AV)} : OMap g o f d.length → (∀ x a, lk d x = some a → ∃ v, f x = some v ∧ V g W v a) → (∀ x, lk d x = none → f x = none) → MoR g W o (.dct d)
noncomputable def MOs (g : Glb) (W : Wd) : List (Addr × Obj) → List MO → Prop
  | [], [] => True
  | p :: r, m :: q => MoR g W p.2 m ∧ MOs g W r q
  | _, _ => False
theorem MoR.mono {g : Glb} {W W' : Wd} (h : W.Le W') {o : Obj} {m : MO} (x : MoR g W o m) : MoR g W' o m := by
  cases x with
  | lst k => exact .lst (VA.mono h k)
  | dct a b c => exact .dct a (fun x v e => let ⟨u, e1, e2⟩ := b x v e; ⟨u, e1, V.mono h e2⟩) c
theorem MOs.mono {g : Glb} {W W' : Wd} (h : W.Le W') : ∀ {ms : List (Addr × Obj)} {σ : List MO}, MOs g W ms σ → MOs g W' ms σ
  | [], [], _ => trivial
  | _ :: _, _ :: _, ⟨a, b⟩ => ⟨MoR.mono h a, MOs.mono h b⟩
theorem MOs.length {g : Glb} {W : Wd} : ∀ {ms : List (Addr × Obj)} {σ : List MO}, MOs g W ms σ → ms.length = σ.length
  | [], [], _ => rfl
  | _ :: _, _ :: _, ⟨_, b⟩ => by rw [List.length_cons, List.length_cons, MOs.length b]
theorem MOs.append {g : Glb} {W : Wd} {ns : List (Addr × Obj)} {τ : List MO} (k : MOs g W ns τ) : ∀ (ms : List (Addr × Obj)) (σ : List MO), MOs g W ms σ → MOs g W (ms ++ ns) (σ ++ τ) := by
  intro ms
  induction ms with
  | nil => intro σ h; cases σ with
    | nil => exact k
    | cons _ _ => exact h.elim
  | cons p r ih => intro σ h; cases σ with
    | nil => exact h.elim
    | cons m q => exact ⟨h.1, ih q h.2⟩
theorem MOs.get {g : Glb} {W : Wd} : ∀ (ms : List (Addr × Obj)) (σ : List MO), MOs g W ms σ → ∀ {i : Nat} {m : MO}, σ[i]? = some m → ∃ p, ms[i]? = some p ∧ MoR g W p.2 m := by
  intro ms
  induction ms with
  | nil => intro σ h i m e; cases σ with
    | nil => cases e
    | cons _ _ => exact h.elim
  | cons p r ih => intro σ h i m e; cases σ with
    | nil => exact h.elim
    | cons x q => cases i with
      | zero => cases e; exact ⟨p, rfl, h.1⟩
      | succ i => exact ih q h.2 e
theorem MOs.set {g : Glb} {W : Wd} {o' : Obj} {m : MO} (k : MoR g W o' m) : ∀ (ms : List (Addr × Obj)) (σ : List MO), MOs g W ms σ → ∀ {i : Nat} {a : Addr} {o : Obj}, ms[i]? = some (a, o) → MOs g W (ms.set i (a, o')) (σ.set i m) := by
  intro ms
  induction ms with
  | nil => intro σ h i a o e; cases e
  | cons p r ih => intro σ h i a o e; cases σ with
    | nil => exact h.elim
    | cons x q => cases i with
      | zero => exact ⟨k, h.2⟩
      | succ i => exact ⟨h.1, ih q h.2 e⟩
end Mine
end
section
set_option maxHeartbeats 4000000
open PySem PySem.W PySem.Spec PySem.Calls PyProof.Rows
namespace Mine

theorem nodup_inj {l : List Nat} (h : l.Nodup) {i j : Nat} (hi : i < l.length) (hj : j < l.length) (e : l[i] = l[j]) : i = j := by
  have p := List.pairwise_iff_getElem.mp h
  rcases Nat.lt_trichotomy i j with q | q | q
  · exact absurd e (p i j hi hj q)
  · exact q
  · exact absurd e.symm (p j i hj hi q)
structure Cx where
  env : Env
  fr : List Env
  h₀ : Heap
  ex : List (Addr × Obj) := []
noncomputable abbrev Md (g : Glb) : Model := model g.prog g.w
structure TabOk (g : Glb) (T : Tabs) : Prop where
  k1 : g.K.lookup sysModules = none
  gt : ∀ x a, lk T.gt x = some a → (x == ("__debug__" : PySem.Str)) = false ∧ ∃ v, V g ⟨[], []⟩ v a ∧ (g.mg x = some v ∨ (g.mg x = none ∧ g.mb x = some v))
structure CxOk (g : Glb) (c : Cfg) (x : Cx) : Prop where
  sc : x.env.scope = c.sc
  kind : c.sc.kind = .function
  gl : x.env.globals = mainGlobals
  bi : x.env.builtins = builtinsNs
  X : g.K.In x.h₀
  T : Top g.p g.loose g.mean g.mg g.mb x.h₀
  bs : g.base.StaysIn x.h₀
  ff : ∀ e ∈ x.fr, e.scope.kind ≠ .module ∧ ∃ L, e.frame = some L ∧ g.base.get? L = none ∧ (L = x.env.locals ∨ ∃ o, x.h₀.get? L = some o ∧ ∀ vs, o.data ≠ .fields vs)
  top : ∃ e0 rest, x.fr = e0 :: rest ∧ x.env.frame = e0.frame
  cinj : ∀ a b ca, x.env.cells.lookup a = some ca → x.env.cells.lookup b = some ca → a = b
structure StD (g : Glb) (x : Cx) (W : Wd) (ρ : Loc) (σ : List MO) (sh : Shared) (m : PySem.Str → Option Value) (ms cs : List (Addr × Obj)) : Prop where
  F : Fr x.h₀ x.env.locals sh.heap m
  N : News x.h₀ x.env.locals sh.heap (ms ++ (cs ++ W.fz))
  vars : ∀ y a, lk ρ.vars y = some a → ∃ v, m y = some v ∧ V g W v a
  as : ms.map (·.1) = W.As
  mo : MOs g W ms σ
  cel : ∀ y oa, lk ρ.cells y = some oa → ∃ ca o ov, x.env.cells.lookup y = some ca ∧ ((x.h₀.get? ca = some o ∧ oa.isSome = true) ∨ (ca, o) ∈ cs) ∧ o.data = .cell ov ∧ ∀ a, oa = some a → ∃ v, ov = some v ∧ V g W v a
  nd : ((ms ++ cs).map (·.1)).Nodup
  dj : ∀ p ∈ ms ++ cs, ∀ q ∈ W.fz, p.1 ≠ q.1
  lo : ∀ p ∈ ms ++ (cs ++ W.fz), 3 < p.1
  ge : sh.gens = g.gens
  dr : sh.drawn = g.drawn
  os : sh.os = g.os
  ex : ∀ p ∈ x.ex, p ∈ cs ∧ ∀ ov, p.2.data ≠ .cell ov
noncomputable def St (g : Glb) (x : Cx) (W : Wd) (ρ : Loc) (σ : List MO) (sh : Shared) : Prop := ∃ m ms cs, StD g x W ρ σ sh m ms cs
theorem St.e {g : Glb} {x : Cx} {W : Wd} {ρ : Loc} {σ : List MO} {sh : Shared} {P : Prop} (S : St g x W ρ σ sh) (k : ∀ m ms cs, StD g x W ρ σ sh m ms cs → P) : P := S.elim fun m S => S.elim fun ms S => S.elim fun cs D => k m ms cs D

theorem StD.cget {g : Glb} {x : Cx} {W : Wd} {ρ : Loc} {σ : List MO} {sh : Shared} {m : PySem.Str → Option Value} {ms cs : List (Addr × Obj)} (S : StD g x W ρ σ sh m ms cs) {ca : Addr} {o : Obj} {oa : Option AV} (h : (x.h₀.get? ca = some o ∧ oa.isSome = true) ∨ (ca, o) ∈ cs) : sh.heap.get? ca = some o := by
  rcases h with h | h
  · exact S.F.keep _ _ h.1
  · exact (S.N _ (List.mem_append.mpr (.inr (List.mem_append.mpr (.inl h))))).1
section
variable {g : Glb} {T : Tabs} {c : Cfg} {x : Cx} {W : Wd} {ρ : Loc} {σ : List MO} {sh : Shared} {A : Around}
theorem St.toks (S : St g x W ρ σ sh) (t : Nat) : St g x W ρ σ { sh with toks := t } := by
  refine S.e fun m ms cs S => ?_
  exact ⟨m, ms, cs, S.F, S.N, S.vars, S.as, S.mo, S.cel, S.nd, S.dj, S.lo, S.ge, S.dr, S.os, S.ex⟩
theorem St.keepK (O : CxOk g c x) (S : St g x W ρ σ sh) : g.K.In sh.heap := by
  refine S.e fun m ms cs S => ?_
  exact O.X.keeps S.F.keep
theorem St.kn (O : CxOk g c x) (S : St g x W ρ σ sh) {a : Addr} {o : Obj} (h : Kn g W a o) : sh.heap.get? a = some o := by
  rcases h with h | h
  · exact S.keepK O _ _ h
  · refine S.e fun m ms cs S => ?_
    exact (S.N _ (List.mem_append.mpr (.inr (List.mem_append.mpr (.inr h))))).1
theorem St.fzAt (S : St g x W ρ σ sh) {a : Addr} {o : Obj} (h : (a, o) ∈ W.fz) : sh.heap.get? a = some o := by
  refine S.e fun m ms cs S => ?_
  exact (S.N _ (List.mem_append.mpr (.inr (List.mem_append.mpr (.inr h))))).1
/-- what lies at a mutable place -/
theorem St.at (S : St g x W ρ σ sh) {i : Nat} {a : Addr} {mo : MO} (ha : W.As[i]? = some a) (hm : σ[i]? = some mo) : ∃ o, sh.heap.get? a = some o ∧ MoR g W o mo := by
  refine S.e fun m ms cs S => ?_
  obtain ⟨p, hp, hr⟩ := MOs.get ms σ S.mo hm
  have : (ms.map (·.1))[i]? = some p.1 := by rw [List.getElem?_map, hp]; rfl
  rw [S.as, ha] at this
  cases this
  exact ⟨p.2, (S.N p (List.mem_append.mpr (.inl (List.mem_of_getElem? hp)))).1, hr⟩
theorem St.atL {P : Prop} (S : St g x W ρ σ sh) {i : Nat} {a : Addr} {l : List AV} (ha : W.As[i]? = some a) (hm : σ[i]? = some (.lst l)) (k : ∀ vs n, sh.heap.get? a = some (listOf vs.toArray n) → VA g W vs l → P) : P := by
  obtain ⟨o, ho, hr⟩ := S.at ha hm
  cases hr with
  | lst hv => exact k _ _ ho hv
theorem St.atD {P : Prop} (S : St g x W ρ σ sh) {i : Nat} {a : Addr} {d : List (PySem.Str × AV)} (ha : W.As[i]? = some a) (hm : σ[i]? = some (.dct d)) (k : ∀ o f, sh.heap.get? a = some o → OMap g o f d.length → (∀ x a, lk d x = some a → ∃ v, f x = some v ∧ V g W v a) → (∀ x, lk d x = none → f x = none) → P) : P := by
  obtain ⟨o, ho, hr⟩ := S.at ha hm
  cases hr with
  | dct h1 h2 h3 => exact k _ _ ho h1 h2 h3
theorem St.big (S : St g x W ρ σ sh) (O : CxOk g c x) : 3 < sh.heap.objs.size := by
  refine S.e fun m ms cs S => ?_
  exact (O.T.g.keeps S.F.keep).lt
theorem St.push (O : CxOk g c x) (S : St g x W ρ σ sh) (o : Obj) (hf : o.isFreed = false) : St g x ⟨W.As, (sh.heap.objs.size, o) :: W.fz⟩ ρ σ { sh with heap := sh.heap.push o } := by
  have big := S.big O
  refine S.e fun m ms cs S => ?_
  have le : W.Le ⟨W.As, (sh.heap.objs.size, o) :: W.fz⟩ := ⟨⟨[], by simp⟩, fun p h => .tail _ h⟩
  have NN := News.push S.F S.N o hf
  refine ⟨m, ms, cs, S.F.push o, fun p hp => NN p ?_, fun y a e => ?_, S.as, MOs.mono le S.mo, fun y oa e => ?_, S.nd, fun p hp q hq => ?_, fun p hp => ?_, S.ge, S.dr, S.os, S.ex⟩
  · rcases List.mem_append.mp hp with h | h
    · exact .tail _ (List.mem_append.mpr (.inl h))
    · rcases List.mem_append.mp h with h | h
      · exact .tail _ (List.mem_append.mpr (.inr (List.mem_append.mpr (.inl h))))
      · cases h with
        | head => exact .head _
        | tail _ h => exact .tail _ (List.mem_append.mpr (.inr (List.mem_append.mpr (.inr h))))
  · obtain ⟨v, h1, h2⟩ := S.vars y a e
    exact ⟨v, h1, V.mono le h2⟩
  · obtain ⟨ca, oo, ov, h1, h2, h3, h4⟩ := S.cel y oa e
    exact ⟨ca, oo, ov, h1, h2, h3, fun a ha => let ⟨v, q1, q2⟩ := h4 a ha; ⟨v, q1, V.mono le q2⟩⟩
  · cases hq with
    | head =>
      have hp' : p ∈ ms ++ (cs ++ W.fz) := by
        rcases List.mem_append.mp hp with h | h
        · exact List.mem_append.mpr (.inl h)
        · exact List.mem_append.mpr (.inr (List.mem_append.mpr (.inl h)))
      exact Nat.ne_of_lt (Heap.lt_size (S.N p hp').1)
    | tail _ hq => exact S.dj p hp q hq
  · rcases List.mem_append.mp hp with h | h
    · exact S.lo p (List.mem_append.mpr (.inl h))
    · rcases List.mem_append.mp h with h | h
      · exact S.lo p (List.mem_append.mpr (.inr (List.mem_append.mpr (.inl h))))
      · cases h with
        | head => exact big
        | tail _ h => exact S.lo p (List.mem_append.mpr (.inr (List.mem_append.mpr (.inr h))))
theorem le_push (o : Addr × Obj) (W : Wd) : W.Le ⟨W.As, o :: W.fz⟩ := ⟨⟨[], by simp⟩, fun _ h => .tail _ h⟩
theorem le_new (a : Addr) (W : Wd) : W.Le ⟨W.As ++ [a], W.fz⟩ := ⟨⟨[a], rfl⟩, fun _ h => h⟩
/-- a new mutable place -/
theorem St.pushM (O : CxOk g c x) (S : St g x W ρ σ sh) (o : Obj) (hf : o.isFreed = false) (mo : MO) (hr : MoR g ⟨W.As ++ [sh.heap.objs.size], W.fz⟩ o mo) :
    St g x ⟨W.As ++ [sh.heap.objs.size], W.fz⟩ ρ (σ ++ [mo]) { sh with heap := sh.heap.push o } := by
  have big := S.big O
  refine S.e fun m ms cs S => ?_
  have le := le_new sh.heap.objs.size W
  have NN := News.push S.F S.N o hf
  have old : ∀ p ∈ ms ++ (cs ++ W.fz), p.1 ≠ sh.heap.objs.size := fun p hp => Nat.ne_of_lt (Heap.lt_size (S.N p hp).1)
  refine ⟨m, ms ++ [(sh.heap.objs.size, o)], cs, S.F.push o, fun p hp => NN p ?_, fun y a e => ?_, by rw [List.map_append, S.as]; rfl, MOs.append (show MOs g _ [(sh.heap.objs.size, o)] [mo] from ⟨hr, trivial⟩) _ _ (MOs.mono le S.mo), fun y oa e => ?_, ?_, fun p hp q hq => ?_, fun p hp => ?_, S.ge, S.dr, S.os, S.ex⟩
  · rcases List.mem_append.mp hp with h | h
    · rcases List.mem_append.mp h with h | h
      · exact .tail _ (List.mem_append.mpr (.inl h))
      · rw [List.mem_singleton.mp h]; exact .head _
    · exact .tail _ (List.mem_append.mpr (.inr h))
  · obtain ⟨v, h1, h2⟩ := S.vars y a e
    exact ⟨v, h1, V.mono le h2⟩
  · obtain ⟨ca, oo, ov, h1, h2, h3, h4⟩ := S.cel y oa e
    exact ⟨ca, oo, ov, h1, h2, h3, fun a ha => let ⟨v, q1, q2⟩ := h4 a ha; ⟨v, q1, V.mono le q2⟩⟩
  · rw [List.map_append, List.map_append, List.append_assoc]
    have h := S.nd
    rw [List.map_append] at h
    obtain ⟨h1, h2, h3⟩ := List.nodup_append.mp h
    refine List.nodup_append.mpr ⟨h1, ?_, fun a ha b hb => ?_⟩
    · refine List.nodup_cons.mpr ⟨fun q => ?_, h2⟩
      obtain ⟨p, hp, e⟩ := List.mem_map.mp q
      exact old p (List.mem_append.mpr (.inr (List.mem_append.mpr (.inl hp)))) e
    · rcases List.mem_append.mp hb with hb | hb
      · rw [List.mem_singleton.mp hb]
        obtain ⟨p, hp, rfl⟩ := List.mem_map.mp ha
        exact old p (List.mem_append.mpr (.inl hp))
      · exact h3 a ha b hb
  · rcases List.mem_append.mp hp with h | h
    · rcases List.mem_append.mp h with h | h
      · exact S.dj p (List.mem_append.mpr (.inl h)) q hq
      · rw [List.mem_singleton.mp h]
        exact Ne.symm (old q (List.mem_append.mpr (.inr (List.mem_append.mpr (.inr hq)))))
    · exact S.dj p (List.mem_append.mpr (.inr h)) q hq
  · rcases List.mem_append.mp hp with h | h
    · rcases List.mem_append.mp h with h | h
      · exact S.lo p (List.mem_append.mpr (.inl h))
      · rw [List.mem_singleton.mp h]; exact big
    · exact S.lo p (List.mem_append.mpr (.inr h))
/-- a mutable place is changed -/
theorem St.upd (S : St g x W ρ σ sh) {i : Nat} {a : Addr} {o' : Obj} {mo : MO} {h' : Heap} (ha : W.As[i]? = some a) (hs : Heap.SameBut a sh.heap h') (ho : h'.get? a = some o') (hr : MoR g W o' mo) :
    St g x W ρ (σ.set i mo) { sh with heap := h' } := by
  refine S.e fun m ms cs S => ?_
  have hl : i < ms.length := by
    rw [← S.as] at ha
    obtain ⟨hl, _⟩ := List.getElem?_eq_some_iff.mp ha
    simpa using hl
  have hp : ms[i]? = some ms[i] := List.getElem?_eq_getElem hl
  have ea : ms[i].1 = a := by
    rw [← S.as, List.getElem?_map, hp] at ha
    simpa using ha
  have hmem := List.mem_of_getElem? hp
  have ze := S.N _ (List.mem_append.mpr (.inl hmem))
  rw [ea] at ze
  have hnd := S.nd
  rw [List.map_append] at hnd
  obtain ⟨n1, n2, n3⟩ := List.nodup_append.mp hnd
  have hset : ∀ p ∈ ms.set i (a, o'), p = (a, o') ∨ (p ∈ ms ∧ p.1 ≠ a) := by
    intro p hp'
    obtain ⟨j, hj, e⟩ := List.mem_iff_getElem.mp hp'
    rw [List.getElem_set] at e
    split at e
    · exact .inl e.symm
    · rename_i hij
      rw [List.length_set] at hj
      refine .inr ⟨e ▸ List.getElem_mem hj, fun q => hij ?_⟩
      have n1' : ∀ (i j : Nat) (hi : i < (ms.map (·.1)).length) (hj : j < (ms.map (·.1)).length), (ms.map (·.1))[i] = (ms.map (·.1))[j] → i = j := fun i j hi hj => nodup_inj n1 hi hj
      refine n1' i j (by simpa using hl) (by simpa using hj) ?_
      simp only [List.getElem_map]
      rw [ea, e, q]
  have hmap : (ms.set i (a, o')).map (·.1) = ms.map (·.1) := by
    rw [List.map_set]
    refine List.ext_getElem (by simp) fun j h1 h2 => ?_
    rw [List.getElem_set]
    split
    · rename_i e; subst e; simp only [List.getElem_map]; exact ea.symm
    · rfl
  refine ⟨m, ms.set i (a, o'), cs, S.F.change hs ze.2.1 ze.2.2, fun p hp' => ?_, S.vars, hmap.trans S.as, MOs.set hr ms σ S.mo (a := a) (o := ms[i].2) (hp.trans (congrArg some (Prod.ext ea rfl))), S.cel, ?_, fun p hp' q hq => ?_, fun p hp' => ?_, S.ge, S.dr, S.os, S.ex⟩
  · rcases List.mem_append.mp hp' with h | h
    · rcases hset p h with rfl | ⟨h1, h2⟩
      · exact ⟨ho, ze.2⟩
      · have z := S.N p (List.mem_append.mpr (.inl h1))
        exact ⟨(hs.2 _ h2).trans z.1, z.2⟩
    · have z := S.N p (List.mem_append.mpr (.inr h))
      refine ⟨(hs.2 _ fun q => ?_).trans z.1, z.2⟩
      rcases List.mem_append.mp h with h | h
      · exact n3 a (ea ▸ List.mem_map_of_mem hmem) p.1 (List.mem_map_of_mem h) q.symm
      · exact S.dj ms[i] (List.mem_append.mpr (.inl hmem)) p h (ea.trans q.symm)
  · rw [List.map_append, hmap, ← List.map_append]; exact S.nd
  · rcases List.mem_append.mp hp' with h | h
    · rcases hset p h with rfl | ⟨h1, _⟩
      · have := S.dj ms[i] (List.mem_append.mpr (.inl hmem)) q hq
        rw [ea] at this; exact this
      · exact S.dj p (List.mem_append.mpr (.inl h1)) q hq
    · exact S.dj p (List.mem_append.mpr (.inr h)) q hq
  · rcases List.mem_append.mp hp' with h | h
    · rcases hset p h with rfl | ⟨h1, _⟩
      · have := S.lo ms[i] (List.mem_append.mpr (.inl hmem)); rw [ea] at this; exact this
      · exact S.lo p (List.mem_append.mpr (.inl h1))
    · exact S.lo p (List.mem_append.mpr (.inr h))
/-- loading a name -/
theorem St.ld (TO : TabOk g T) (O : CxOk g c x) (S : St g x W ρ σ sh) {y : PySem.Str} {a : AV} (hl : look T c ρ y = some a) (hd : (y == ("__debug__" : PySem.Str)) = false) (hcd : (y == ("__classdict__" : PySem.Str)) = false) {pos : Pos} {Q : Value → Shared → Prop} {E : Value → Shared → Prop}
    (h : ∀ v, V g W v a → Q v sh) : wpAny (Md g) A (eval (.Name y pos) x.env) Q E sh := by
  have hk : x.env.scope.kind = .function := by rw [O.sc]; exact O.kind
  have ko : x.env.kindOf y = lk c.sc.names y := by unfold Env.kindOf; rw [O.sc, lk_eq]
  have S' := S
  refine S.e fun m ms cs S => ?_
  unfold look at hl
  split at hl
  · rename_i q
    obtain ⟨v, h1, h2⟩ := S.vars y a hl
    exact wpAny_Name (wpAny_loadName_local hk (ko.trans q) S.F.ns h1 (h v h2)) hd
  · rename_i q
    cases e : lk ρ.cells y with
    | none => rw [e] at hl; cases hl
    | some oa =>
      rw [e] at hl
      obtain ⟨ca, o, ov, h1, h2, h3, h4⟩ := S.cel y oa e
      obtain ⟨v, rfl, h5⟩ := h4 a hl
      exact wpAny_Name (wpAny_loadName_cell hk (ko.trans q) h1 ⟨o, S.cget h2, h3⟩ (h v h5)) hd
  · rename_i q
    cases e : lk ρ.cells y with
    | none => rw [e] at hl; cases hl
    | some oa =>
      rw [e] at hl
      obtain ⟨ca, o, ov, h1, h2, h3, h4⟩ := S.cel y oa e
      obtain ⟨v, rfl, h5⟩ := h4 a hl
      exact wpAny_Name (wpAny_loadName_free hk (ko.trans q) h1 ⟨o, S.cget h2, h3⟩ (h v h5) hcd) hd
  · rename_i q
    obtain ⟨_, v, hv, hg⟩ := TO.gt y a hl
    have hv' : V g W v a := V.mono ⟨⟨W.As, rfl⟩, fun p hp => (List.not_mem_nil hp).elim⟩ hv
    have G := O.T.g.keeps S.F.keep
    have B := O.T.b.keeps S.F.keep
    rcases hg with hg | ⟨hg, hb⟩
    · exact Name_function_global hk (ko.trans q) (loadGlobal_global (by rw [O.gl]; exact G) hg (h v hv')) hd
    · exact Name_function_global hk (ko.trans q) (loadGlobal_builtin (by rw [O.gl]; exact G) hg (by rw [O.bi]; exact B) hb (h v hv')) hd
  · cases hl
end
end Mine
end
section
set_option maxHeartbeats 4000000
open PySem PySem.W PySem.Spec PySem.Calls PyProof.Rows
namespace Mine

/-! ## calls: what a contract says -/
structure BOk (g : Glb) (fr : List Env) (B : Heap) : Prop where
  X : g.K.In B
  T : Top g.p g.loose g.mean g.mg g.mb B
  bs : g.base.StaysIn B
  ff : ∀ e ∈ fr, e.scope.kind ≠ .module ∧ ∃ L, e.frame = some L ∧ g.base.get? L = none ∧ ∃ o, B.get? L = some o ∧ ∀ vs, o.data ≠ .fields vs
  ne : ∃ e0 rest, fr = e0 :: rest ∧ ∃ L, e0.frame = some L
structure HpD (g : Glb) (B : Heap) (W : Wd) (σ : List MO) (sh : Shared) (ms : List (Addr × Obj)) : Prop where
  keep : ∀ b o, B.get? b = some o → sh.heap.get? b = some o
  size : B.objs.size ≤ sh.heap.objs.size
  N : ∀ p ∈ ms ++ W.fz, sh.heap.get? p.1 = some p.2 ∧ B.get? p.1 = none
  as : ms.map (·.1) = W.As
  mo : MOs g W ms σ
  nd : (ms.map (·.1)).Nodup
  dj : ∀ p ∈ ms, ∀ q ∈ W.fz, p.1 ≠ q.1
  lo : ∀ p ∈ ms ++ W.fz, 3 < p.1
  ge : sh.gens = g.gens
  dr : sh.drawn = g.drawn
  os : sh.os = g.os
noncomputable def Hp (g : Glb) (B : Heap) (W : Wd) (σ : List MO) (sh : Shared) : Prop := ∃ ms, HpD g B W σ sh ms
/-- an exception that flies out of a call -/
noncomputable def ExcO (g : Glb) (fr : List Env) (B : Heap) (e : Value) (sh : Shared) : Prop :=
  ∃ a a0, e = .ref a ∧ Heap.FlyingW g.base fr a (.ref g.cf) a0 sh.heap ∧ B.UpToSlots sh.heap ∧ sh.gens = g.gens ∧ sh.drawn = g.drawn ∧ sh.os = g.os
structure Room (A : Around) (n k : Nat) : Prop where
  d : A.depth + n < recursionLimit
  u : A.units + 8 * n + k + 90 < cLine
structure AOk (A : Around) (fr : List Env) : Prop where
  f : A.frames = some fr
  h : A.handled = none
noncomputable def Valid (g : Glb) (need : Nat) (f : Value) (as : List AV) (σ : List MO) (r : Option AV) (σ' : List MO) : Prop :=
  keepIn g.K f = true ∧ ∀ (A : Around) (fr : List Env) (B : Heap) (W : Wd) (vs : List Value) (sh : Shared) (R : Result → Shared → Prop),
    AOk A fr → Room A need 2 → BOk g fr B → Hp g B W σ sh → VA g W vs as →
    (∀ a v W' sh', r = some a → W.Le W' → Hp g B W' σ' sh' → V g W' v a → R (.ok (.ret v)) sh') →
    (r = none → ∀ e sh', ExcO g fr B e sh' → R (.error e) sh') → codeAny (Md g) A (.call f ⟨vs, []⟩) R sh

/-! ## exceptions within a frame -/
inductive ExcObj (g : Glb) (x : Cx) (a : Addr) (a0 : Value) (h : Heap) : Prop
  | fresh {oe : Obj} {vs : Array Value} : h.get? a = some oe → oe.cls = .ref g.cf → oe.data = .fields vs → vs[0]? = some a0 → vs[1]? = some .none → ExcObj g x a a0 h
  | fly : h.TracedAtW g.base a (.ref g.cf) a0 .none → ExcObj g x a a0 h
  | held {L : Addr} : x.env.frame = some L → h.TracedAtW g.base a (.ref g.cf) a0 (rawInt L) → ExcObj g x a a0 h
noncomputable def ExcA (g : Glb) (x : Cx) (ρ : Loc) (e : Value) (sh : Shared) : Prop :=
  ∃ a a0, e = .ref a ∧ g.base.StaysIn sh.heap ∧ g.base.get? a = none ∧ sh.heap.FunFrames g.base x.fr ∧ ExcObj g x a a0 sh.heap ∧ x.h₀.UpToSlots sh.heap ∧
    (∃ m W, sh.heap.Ns x.env.locals m ∧ ∀ y av, lk ρ.vars y = some av → ∃ v, m y = some v ∧ V g W v av) ∧ sh.gens = g.gens ∧ sh.drawn = g.drawn ∧ sh.os = g.os

/-! ## soundness -/
section
variable (g : Glb) (x : Cx) (W : Wd) (ρ : Loc)
noncomputable def PV (K : AV → Stt → Prop) (Q : Value → Shared → Prop) : Prop := ∀ a s' W' v sh', W.Le W' → St g x W' ρ s'.σ sh' → V g W' v a → K a s' → Q v sh'
noncomputable def PB (K : Bool → Stt → Prop) (Q : Bool → Shared → Prop) : Prop := ∀ a s' W' sh', W.Le W' → St g x W' ρ s'.σ sh' → K a s' → Q a sh'
noncomputable def PL (K : List AV → Stt → Prop) (Q : List Value → Shared → Prop) : Prop := ∀ as s' W' vs sh', W.Le W' → St g x W' ρ s'.σ sh' → VA g W' vs as → K as s' → Q vs sh'
noncomputable def PX (KE : KX) (E : Value → Shared → Prop) : Prop := ∀ ρ' s' e sh', ExcA g x ρ' e sh' → KE ρ' s' → E e sh'
inductive FlR : Flow → Fl → Prop
  | next : FlR .next .next
  | ret {v : Value} {a : AV} : V g W v a → FlR (.ret v) (.ret a)
noncomputable def PF (K : Fl → Loc → Stt → Prop) (Q : Flow → Shared → Prop) : Prop := ∀ f ρ' s' W' fl sh', W.Le W' → St g x W' ρ' s'.σ sh' → FlR g W' fl f → K f ρ' s' → Q fl sh'
end
noncomputable def GoalT (g : Glb) (x : Cx) (A : Around) (W : Wd) (ρ : Loc) (t : Task) (K : KO) (KE : KX) (sh : Shared) : Prop := match t with
  | .e e => ∀ Q E, PV g x W ρ (fun a s => K (.v a) s) Q → PX g x KE E → wpAny (Md g) A (eval e x.env) Q E sh
  | .m e => ∀ Q E, PV g x W ρ (fun a s => K (.v a) s) Q → PX g x KE E → wpAny (Md g) A (eval e x.env) Q E sh
  | .t e => ∀ Q E, PB g x W ρ (fun a s => K (.b a) s) Q → PX g x KE E → wpAny (Md g) A (isTrue e x.env (eval e x.env)) Q E sh
  | .st y => ∀ Q E, PF g x W (fun f ρ s => K (.fl f ρ) s) Q → PX g x KE E → wpAny (Md g) A (exec y x.env) Q E sh
  | .sts l => ∀ Q E, PF g x W (fun f ρ s => K (.fl f ρ) s) Q → PX g x KE E → wpAny (Md g) A (execs l x.env) Q E sh
noncomputable def Snd (g : Glb) (rec : Rec) : Prop := ∀ k c t ρ s K KE, rec k c t ρ s K KE → ∀ x W A sh, CxOk g c x → Room A c.n k → AOk A x.fr → St g x W ρ s.σ sh → GoalT g x A W ρ t K KE sh
theorem PV.le {g : Glb} {x : Cx} {W W₁ : Wd} {ρ : Loc} {K : AV → Stt → Prop} {Q : Value → Shared → Prop} (h : PV g x W ρ K Q) (l : W.Le W₁) : PV g x W₁ ρ K Q :=
  fun a s' W' v sh' l' => h a s' W' v sh' (l.trans l')
theorem PB.le {g : Glb} {x : Cx} {W W₁ : Wd} {ρ : Loc} {K : Bool → Stt → Prop} {Q : Bool → Shared → Prop} (h : PB g x W ρ K Q) (l : W.Le W₁) : PB g x W₁ ρ K Q :=
  fun a s' W' sh' l' => h a s' W' sh' (l.trans l')
theorem PF.le {g : Glb} {x : Cx} {W W₁ : Wd} {K : Fl → Loc → Stt → Prop} {Q : Flow → Shared → Prop} (h : PF g x W K Q) (l : W.Le W₁) : PF g x W₁ K Q :=
  fun a r s' W' v sh' l' => h a r s' W' v sh' (l.trans l')
theorem PL.le {g : Glb} {x : Cx} {W W₁ : Wd} {ρ : Loc} {K : List AV → Stt → Prop} {Q : List Value → Shared → Prop} (h : PL g x W ρ K Q) (l : W.Le W₁) : PL g x W₁ ρ K Q :=
  fun a s' W' v sh' l' => h a s' W' v sh' (l.trans l')

section
variable {g : Glb} {T : Tabs} {rec : Rec} {k : Nat} {c : Cfg} {x : Cx} {W : Wd} {ρ : Loc} {s : Stt} {sh : Shared} {A : Around} {K : AV → Stt → Prop} {KE : KX} {Q E : Value → Shared → Prop}
/-- the standing facts of a step -/
structure Ctx (g : Glb) (T : Tabs) (rec : Rec) (k : Nat) (c : Cfg) (x : Cx) (A : Around) : Prop where
  snd : Snd g rec
  TO : TabOk g T
  O : CxOk g c x
  R : Room A c.n k
  a : AOk A x.fr
theorem Ctx.e (C : Ctx g T rec k c x A) {y : Expr} {K : KO} (h : rec k c (.e y) ρ s K KE) (S : St g x W ρ s.σ sh) {E : Value → Shared → Prop} (hE : PX g x KE E) {Q : Value → Shared → Prop} (hQ : PV g x W ρ (fun a s => K (.v a) s) Q) :
    wpAny (Md g) A (eval y x.env) Q E sh := C.snd _ _ _ _ _ _ _ h _ _ _ _ C.O C.R C.a S Q E hQ hE
theorem Ctx.t (C : Ctx g T rec k c x A) {y : Expr} {K : KO} (h : rec k c (.t y) ρ s K KE) (S : St g x W ρ s.σ sh) {E : Value → Shared → Prop} (hE : PX g x KE E) {Q : Bool → Shared → Prop} (hQ : PB g x W ρ (fun a s => K (.b a) s) Q) :
    wpAny (Md g) A (isTrue y x.env (eval y x.env)) Q E sh := C.snd _ _ _ _ _ _ _ h _ _ _ _ C.O C.R C.a S Q E hQ hE

theorem okName_iff {y : PySem.Str} (h : okName y = true) : (y == ("__debug__" : PySem.Str)) = false ∧ (y == ("__classdict__" : PySem.Str)) = false := by
  unfold okName at h
  split at h
  · cases h
  · rename_i h1
    split at h
    · cases h
    · rename_i h2
      rw [seq_decide] at h1 h2
      constructor
      · exact beq_eq_false_iff_ne.mpr (of_decide_eq_false h1)
      · exact beq_eq_false_iff_ne.mpr (of_decide_eq_false h2)
theorem cnd_true {b : Bool} {p : Prop} (h : cnd b p False) : b = true ∧ p := by
  cases b with
  | true => exact ⟨rfl, h⟩
  | false => exact h.elim
theorem oK_some {α : Type} {o : Option α} {k : α → Prop} (h : oK o k) : ∃ a, o = some a ∧ k a := by
  cases o with
  | none => exact h.elim
  | some a => exact ⟨a, rfl, h⟩
theorem cnd_e {P : Prop} {b : Bool} {p : Prop} (h : cnd b p False) (k : b = true → p → P) : P := (cnd_true h).elim k
theorem oK_e {P : Prop} {α : Type} {o : Option α} {k : α → Prop} (h : oK o k) (f : ∀ a, o = some a → k a → P) : P := (oK_some h).elim fun a r => r.elim (f a)
theorem s_Constant {v : Const} {u : Nat} {p : Pos} (S : St g x W ρ s.σ sh) (h : stepE T rec k c (.Constant v u p) ρ s K KE) (hQ : PV g x W ρ K Q) : wpAny (Md g) A (eval (.Constant v u p) x.env) Q E sh := by
  cases v with
  | none => exact wpAny_Constant_none (hQ _ _ W _ _ (.refl W) S .none h)
  | bool b => exact wpAny_Constant_bool (hQ _ _ W _ _ (.refl W) S (.bool b) h)
  | int i => exact wpAny_Constant_int (hQ _ _ W _ _ (.refl W) (S.toks _) (.int i _) h)
  | str y => exact wpAny_Constant_str (hQ _ _ W _ _ (.refl W) (S.toks _) (.str y _) h)
  | _ => exact h.elim
theorem s_Name {y : PySem.Str} {p : Pos} (C : Ctx g T rec k c x A) (S : St g x W ρ s.σ sh) (h : stepE T rec k c (.Name y p) ρ s K KE) (hQ : PV g x W ρ K Q) : wpAny (Md g) A (eval (.Name y p) x.env) Q E sh := by
  refine cnd_e h fun ho h => ?_
  refine oK_e h fun a ha h => ?_
  exact S.ld C.TO C.O ha (okName_iff ho).1 (okName_iff ho).2 fun v hv => hQ _ _ W _ _ (.refl W) S hv h
theorem star_cons {y : Expr} (h : notStar y = true) (r : List Expr) (env : Env) : starEach (y :: r) env = (false, eval y env) :: starEach r env := by
  cases y <;> first | rfl | cases h
/-- the items of a display, the arguments of a call -/
theorem s_evs {pos : Pos} (C : Ctx g T rec k c x A) {E : Value → Shared → Prop} (hE : PX g x KE E) : ∀ (l : List Expr) (acc : List AV) (av : List Value) (W : Wd) (s : Stt) (sh : Shared) (K : List AV → Stt → Prop) (Q : List Value → Shared → Prop), St g x W ρ s.σ sh → VA g W av acc → evs rec k c ρ l acc s K KE →
    (∀ as s' W' vs sh', W.Le W' → St g x W' ρ s'.σ sh' → VA g W' (av ++ vs) as → K as s' → Q vs sh') → wpAny (Md g) A (spliced (backTo pos (starEach l x.env))) Q E sh := by
  intro l
  induction l with
  | nil => intro acc av W s sh K Q S hv h hQ; exact wpAny_pure (hQ acc s W [] sh (.refl W) S (by simpa using hv) h)
  | cons y r ih =>
    intro acc av W s sh K Q S hv h hQ
    unfold evs at h
    split at h
    · rename_i hs
      rw [star_cons hs]
      show wpAny (Md g) A (spliced ((false, eval y x.env) :: backTo pos (starEach r x.env))) Q E sh
      unfold spliced
      refine wpAny_bind (C.e h S hE fun a s' W' v sh' le S' hv' h' => ?_)
      refine wpAny_bind (wpAny_pure (wpAny_bind (wpAny_holding ?_)))
      refine ih (acc ++ [a]) (av ++ [v]) W' s' sh' K _ S' ((hv.mono le).append (.one hv')) h' fun as s'' W'' vs sh'' le' S'' hv'' h'' => ?_
      exact wpAny_pure (hQ as s'' W'' _ sh'' (le.trans le') S'' (by simpa using hv'') h'')
    · exact h.elim
theorem s_list {pos : Pos} (C : Ctx g T rec k c x A) {E : Value → Shared → Prop} (hE : PX g x KE E) {l : List Expr} {K : List AV → Stt → Prop} {Q : List Value → Shared → Prop} (S : St g x W ρ s.σ sh) (h : evs rec k c ρ l [] s K KE) (hQ : PL g x W ρ K Q) :
    wpAny (Md g) A (spliced (backTo pos (starEach l x.env))) Q E sh :=
  s_evs C hE l [] [] W s sh K Q S .nil h fun as s' W' vs sh' le S' hv h => hQ as s' W' vs sh' le S' (by simpa using hv) h
theorem small_le {α : Type} {l : List α} (h : small l = true) : l.length ≤ 100000 := Nat.le_of_ble_eq_true h
theorem St.newTuple (O : CxOk g c x) (S : St g x W ρ s.σ sh) {vs : List Value} {as : List AV} (hv : VA g W vs as) (hs : small as = true) {Q : Value → Shared → Prop} {E : Value → Shared → Prop} (h : ∀ W' v sh', W.Le W' → St g x W' ρ s.σ sh' → V g W' v (.tup as) → Q v sh') : wpAny (Md g) A (PySem.newTuple vs) Q E sh := by
  have hl : vs.length ≤ sizeLine := by rw [hv.length]; exact Nat.le_trans (small_le hs) (by decide)
  refine wpAny_newObj_type (h _ _ _ (le_push _ W) (S.push O _ rfl) ?_) (by show vs.toArray.size ≤ sizeLine; rw [List.size_toArray]; exact hl)
  exact .tup (n := 0) (.inr (.head _)) (hv.mono (le_push _ W))
theorem St.newList (O : CxOk g c x) (S : St g x W ρ s.σ sh) {vs : List Value} {as : List AV} (hv : VA g W vs as) (hs : small as = true) {Q : Value → Shared → Prop} {E : Value → Shared → Prop} (h : ∀ W' v sh', W.Le W' → St g x W' ρ s.σ sh' → V g W' v (.lst as) → Q v sh') : wpAny (Md g) A (PySem.newList vs) Q E sh := by
  have hl : vs.length ≤ sizeLine := by rw [hv.length]; exact Nat.le_trans (small_le hs) (by decide)
  refine wpAny_newObj_type (h _ _ _ (le_push _ W) (S.push O _ rfl) ?_) (by show vs.toArray.size ≤ sizeLine; rw [List.size_toArray]; exact hl)
  exact .lst (n := 0) (.head _) (hv.mono (le_push _ W))
theorem St.newListM (O : CxOk g c x) (S : St g x W ρ s.σ sh) {vs : List Value} {as : List AV} (hv : VA g W vs as) (hs : small as = true) {Q : Value → Shared → Prop} {E : Value → Shared → Prop} (h : ∀ W' v sh', W.Le W' → St g x W' ρ (s.σ ++ [.lst as]) sh' → V g W' v (.ref s.σ.length) → Q v sh') : wpAny (Md g) A (PySem.newList vs) Q E sh := by
  have hl : vs.length ≤ sizeLine := by rw [hv.length]; exact Nat.le_trans (small_le hs) (by decide)
  have hlen : W.As.length = s.σ.length := by
    refine S.e fun m ms cs D => ?_
    rw [← D.as, List.length_map]; exact D.mo.length
  refine wpAny_newObj_type (h _ _ _ (le_new _ W) (S.pushM O _ rfl _ (.lst (n := 0) (hv.mono (le_new _ W)))) ?_) (by show vs.toArray.size ≤ sizeLine; rw [List.size_toArray]; exact hl)
  refine .ref ?_
  rw [← hlen]
  simp
theorem s_Tuple {l : List Expr} {u : Nat} {p : Pos} (C : Ctx g T rec k c x A) (S : St g x W ρ s.σ sh) (h : stepE T rec k c (.Tuple l u p) ρ s K KE) (hQ : PV g x W ρ K Q) (hE : PX g x KE E) : wpAny (Md g) A (eval (.Tuple l u p) x.env) Q E sh := by
  refine Tuple_ (s_list C hE S h fun as s' W' vs sh' le S' hv h => ?_)
  refine cnd_e h fun hs h => ?_
  exact S'.newTuple C.O hv hs fun W'' v sh'' le' S'' hv' => hQ _ _ _ _ _ (le.trans le') S'' hv' h
theorem s_List {l : List Expr} {p : Pos} (C : Ctx g T rec k c x A) (S : St g x W ρ s.σ sh) (h : stepE T rec k c (.List l p) ρ s K KE) (hQ : PV g x W ρ K Q) (hE : PX g x KE E) : wpAny (Md g) A (eval (.List l p) x.env) Q E sh := by
  refine List_ (s_list C hE S h fun as s' W' vs sh' le S' hv h => ?_)
  refine cnd_e h fun hs h => ?_
  exact S'.newList C.O hv hs fun W'' v sh'' le' S'' hv' => hQ _ _ _ _ _ (le.trans le') S'' hv' h
theorem s_ListM {l : List Expr} {p : Pos} (C : Ctx g T rec k c x A) (S : St g x W ρ s.σ sh) (h : stepM rec k c (.List l p) ρ s K KE) (hQ : PV g x W ρ K Q) (hE : PX g x KE E) : wpAny (Md g) A (eval (.List l p) x.env) Q E sh := by
  refine List_ (s_list C hE S h fun as s' W' vs sh' le S' hv h => ?_)
  refine cnd_e h fun hs h => ?_
  exact S'.newListM C.O (s := s') hv hs fun W'' v sh'' le' S'' hv' => hQ _ ⟨s'.σ ++ [.lst as], s'.ans⟩ _ _ _ (le.trans le') S'' hv' h
theorem s_IfExp {t b e : Expr} {p : Pos} (C : Ctx g T rec k c x A) (S : St g x W ρ s.σ sh) (h : stepE T rec k c (.IfExp t b e p) ρ s K KE) (hQ : PV g x W ρ K Q) (hE : PX g x KE E) : wpAny (Md g) A (eval (.IfExp t b e p) x.env) Q E sh := by
  refine wpAny_IfExp (C.t h S hE fun r s' W' sh' le S' h' => ?_)
  cases r with
  | true => exact C.e h' S' hE (hQ.le le)
  | false => exact C.e h' S' hE (hQ.le le)
end
end Mine
end
section
set_option maxHeartbeats 4000000
open PySem PySem.W PySem.Spec PySem.Calls PyProof.Rows
namespace Mine
theorem ff_p {P : Prop} (h : false = true) : P := Bool.noConfusion h
theorem oB_e {P : Prop} {α β : Type} {o : Option α} {k : α → Option β} {r : β} (h : oB o k = some r) (f : ∀ a, o = some a → k a = some r → P) : P := by
  cases o with
  | some a => exact f a rfl h
  | none => cases h
theorem some_p {α : Type} {P : α → Prop} {a v : α} (h : some a = some v) (k : P a) : P v := by cases h; exact k
theorem none_p {P : Prop} {α : Type} {v : α} (h : none = some v) : P := by cases h
theorem gd_some {b : Bool} {r : Option AV} {v : AV} (h : gd b r = some v) : b = true ∧ r = some v := by
  cases b with
  | true => exact ⟨rfl, h⟩
  | false => cases h
theorem gd_e {P : Prop} {b : Bool} {r : Option AV} {v : AV} (h : gd b r = some v) (k : b = true → r = some v → P) : P := (gd_some h).elim k
theorem gd_v {P : AV → Prop} {b : Bool} {a v : AV} (h : gd b (some a) = some v) (k : b = true → P a) : P v := by
  obtain ⟨q, e⟩ := gd_some h
  cases e
  exact k q
theorem eqDeep_ok {a b : AV} (ha : okV a = true) (hb : okV b = true) : eqDeep a b = some (PyData.eqv (pd a) (pd b)) := by
  unfold eqDeep
  rw [ha, hb]
theorem deep_eq {a b : AV} (h : (deep a || deep b) = true) (ha : okV a = true) (hb : okV b = true) : eqV a b = some (PyData.eqv (pd a) (pd b)) := by
  cases a with
  | int i => cases b with
    | int j => cases h
    | _ => exact eqDeep_ok ha hb
  | str i => cases b with
    | str j => cases h
    | _ => exact eqDeep_ok ha hb
  | _ => exact eqDeep_ok ha hb
theorem gEq_ok {a b : AV} {p : AV × AV × Bool} (h : gEq a b = some p) (hx : okV p.1 = true) (hy : okV p.2.1 = true) : eqV a b = some p.2.2 := by
  unfold gEq at h
  generalize hd : (deep a || deep b) = q at h
  cases q with
  | true => exact some_p h (P := fun p => okV p.1 = true → okV p.2.1 = true → eqV a b = some p.2.2) (fun hx hy => deep_eq hd hx hy) hx hy
  | false => exact none_p h
theorem gInL_ok {a : AV} {l : List AV} {p : AV × AV × Bool} (h : gInL a l = some p) (hx : okV p.1 = true) (hy : okV p.2.1 = true) : inL a l = some p.2.2 := by
  unfold gInL at h
  generalize deepL l = q at h
  cases q with
  | true => exact some_p h (P := fun p => okV p.1 = true → okV p.2.1 = true → inL a l = some p.2.2) (fun hx hy => by unfold inL; rw [hx, hy]) hx hy
  | false => exact none_p h
theorem gIn_ok {σ : List MO} {a b : AV} {p : AV × AV × Bool} (h : gIn σ a b = some p) (hx : okV p.1 = true) (hy : okV p.2.1 = true) : inV σ a b = some p.2.2 := by
  cases b with
  | tup l => exact gInL_ok h hx hy
  | lst l => exact gInL_ok h hx hy
  | ref i =>
    have h : gInM a σ[i]? = some p := h
    show inM a σ[i]? = _
    generalize σ[i]? = m at h
    cases m with
    | none => exact none_p h
    | some m => cases m with
      | lst l => exact gInL_ok h hx hy
      | dct l => exact none_p h
  | _ => exact none_p h
theorem gNot_ok {o : Option (AV × AV × Bool)} {q : Option Bool} {p : AV × AV × Bool} (h : gNot o = some p) (k : ∀ p, o = some p → okV p.1 = true → okV p.2.1 = true → q = some p.2.2) (hx : okV p.1 = true) (hy : okV p.2.1 = true) : notO q = some p.2.2 := by
  cases o with
  | none => exact none_p h
  | some r => exact some_p h (P := fun p => okV p.1 = true → okV p.2.1 = true → notO q = some p.2.2) (fun hx hy => by rw [k r rfl hx hy]; rfl) hx hy
theorem guard_ok {σ : List MO} {op : CmpOp} {a b : AV} {p : AV × AV × Bool} (h : guard σ op a b = some p) (hx : okV p.1 = true) (hy : okV p.2.1 = true) : cmpV σ op a b = some p.2.2 := by
  cases op with
  | Eq => exact gEq_ok h hx hy
  | NotEq => exact gNot_ok h (fun _ => gEq_ok) hx hy
  | In => exact gIn_ok h hx hy
  | NotIn => exact gNot_ok h (fun _ => gIn_ok) hx hy
  | _ => exact none_p h
theorem cmpK_some {σ : List MO} {op : CmpOp} {a b : AV} {k : Bool → Prop} (h : cmpK σ op a b k) : ∃ r, cmpV σ op a b = some r ∧ k r := by
  unfold cmpK at h
  generalize e : guard σ op a b = o at h
  cases o with
  | some p => exact ⟨_, guard_ok e h.1 h.2.1, h.2.2⟩
  | none => exact oK_some h
theorem cmpK_e {P : Prop} {σ : List MO} {op : CmpOp} {a b : AV} {k : Bool → Prop} (h : cmpK σ op a b k) (f : ∀ r, cmpV σ op a b = some r → k r → P) : P := (cmpK_some h).elim fun r h => f r h.1 h.2
section
variable {g : Glb} {T : Tabs} {rec : Rec} {k : Nat} {c : Cfg} {x : Cx} {W : Wd} {ρ : Loc} {s : Stt} {sh : Shared} {A : Around} {K : AV → Stt → Prop} {KE : KX} {Q E : Value → Shared → Prop}
theorem okL_cons {a : AV} {l : List AV} (h : okL (a :: l) = true) : okD a = true ∧ okL l = true := by
  have h : (match okD a with | true => okL l | false => false) = true := h
  generalize okD a = b at h
  cases b with
  | true => exact ⟨rfl, h⟩
  | false => cases h
theorem St.reads (O : CxOk g c x) (S : St g x W ρ s.σ sh) {v : Value} {a : AV} (hv : V g W v a) : okD a = true → ∃ as, Reads sh.heap v (pd a) as :=
  V.rec (motive_1 := fun v a _ => okD a = true → ∃ as, Reads sh.heap v (pd a) as) (motive_2 := fun vs as _ => okL as = true → ∃ bs, ReadsAll sh.heap vs (pdL as) bs) (motive_3 := fun _ _ _ => True)
    (fun _ => ⟨_, Reads.none⟩) (fun b _ => ⟨_, Reads.bool b⟩) (fun i t _ => ⟨_, Reads.int i t⟩) (fun y t _ => ⟨_, Reads.str y t⟩)
    (fun {a vs n ds} k _ r h => (r h).elim fun _ q => ⟨_, show Reads sh.heap (.ref a) (.tuple (pdL ds)) _ from reads_tuple_at (S.kn O k) rfl rfl (q : ReadsAll sh.heap vs.toArray.toList _ _)⟩)
    (fun {a vs n ds} k _ r h => (r h).elim fun _ q => ⟨_, show Reads sh.heap (.ref a) (.list (pdL ds)) _ from reads_list_at (S.fzAt k) rfl rfl (q : ReadsAll sh.heap vs.toArray.toList _ _)⟩)
    (fun _ _ _ _ _ h => Bool.noConfusion h) (fun _ h => Bool.noConfusion h) (fun _ h => Bool.noConfusion h) (fun _ _ h => Bool.noConfusion h) (fun _ h => Bool.noConfusion h) (fun _ h => Bool.noConfusion h)
    (fun _ => ⟨_, ReadsAll.nil⟩) (fun _ _ r1 r2 h => (r1 (okL_cons h).1).elim fun _ q => (r2 (okL_cons h).2).elim fun _ p => ⟨_, ReadsAll.cons q p⟩) trivial (fun _ _ _ _ _ => trivial) hv
theorem St.readsL (O : CxOk g c x) (S : St g x W ρ s.σ sh) : ∀ {vs : List Value} {as : List AV}, VA g W vs as → okL as = true → ∃ bs, ReadsAll sh.heap vs (pdL as) bs := by
  intro vs
  induction vs with
  | nil => intro as h _; exact h.nil_f fun ee => ee ▸ ⟨_, ReadsAll.nil⟩
  | cons v vs ih => intro as h; exact h.cons_f fun a r ha hr ee => ee ▸ fun h => (S.reads O ha (okL_cons h).1).elim fun _ q => (ih hr (okL_cons h).2).elim fun _ p => ⟨_, ReadsAll.cons q p⟩
theorem okV_iff {a : AV} (h : okV a = true) : okD a = true ∧ SeqAt.shaped (pd a) = true := by
  unfold okV at h
  generalize okD a = b at h
  cases b with
  | true => exact ⟨rfl, h⟩
  | false => cases h
theorem Room.u64 {n k : Nat} (R : Room A n k) : A.units + 64 < cLine :=
  Nat.lt_of_le_of_lt (Nat.add_le_add (Nat.le_trans (Nat.le_add_right _ (8 * n)) (Nat.le_add_right _ k)) (by decide : 64 ≤ 90)) R.u
theorem eqDeep_e {P : Bool → Prop} {a b : AV} {r : Bool} (h : eqDeep a b = some r) (k : okV a = true → okV b = true → P (PyData.eqv (pd a) (pd b))) : P r := by
  unfold eqDeep at h
  generalize okV a = p at h k
  generalize okV b = q at h k
  cases p with
  | true => cases q with
    | true => exact some_p h (k rfl rfl)
    | false => exact none_p h
  | false => exact none_p h
theorem eqV_e {P : AV → AV → Bool → Prop} {a b : AV} {r : Bool} (h : eqV a b = some r) (k1 : ∀ i j, P (.int i) (.int j) (decide (i = j))) (k2 : ∀ y z, P (.str y) (.str z) (seq y z)) (k3 : ∀ a b, okV a = true → okV b = true → P a b (PyData.eqv (pd a) (pd b))) : P a b r := by
  have d : eqDeep a b = some r → P a b r := fun h => eqDeep_e h (k3 a b)
  cases a with
  | int i => cases b with
    | int j => exact some_p h (k1 i j)
    | _ => exact d h
  | str i => cases b with
    | str j => exact some_p h (k2 i j)
    | _ => exact d h
  | _ => exact d h
theorem s_eq (C : Ctx g T rec k c x A) (S : St g x W ρ s.σ sh) {a b : AV} {av bv : Value} {r : Bool} (ha : V g W av a) (hb : V g W bv b) (h : eqV a b = some r) (hQ : Q (.bool r) sh) : wpAny (Md g) A (compareOp .Eq av bv) Q E sh :=
  eqV_e h (P := fun a b r => V g W av a → V g W bv b → Q (.bool r) sh → wpAny (Md g) A (compareOp .Eq av bv) Q E sh) (fun _ _ ha hb hQ => ha.int_e fun _ ee => ee ▸ hb.int_e fun _ ee => ee ▸ eq_int hQ)
    (fun y z ha hb hQ => ha.str_e fun _ ee => ee ▸ hb.str_e fun _ ee => ee ▸ eq_str (show Q (.bool (decide (y = z))) sh from (seq_decide y z) ▸ hQ))
    (fun _ _ h1 h2 ha hb hQ => (S.reads C.O ha (okV_iff h1).1).elim fun _ ra => (S.reads C.O hb (okV_iff h2).1).elim fun _ rb => eq_dataH ra rb (okV_iff h1).2 (okV_iff h2).2 C.R.u64 hQ) ha hb hQ
theorem notO_some {o : Option Bool} {r : Bool} (h : notO o = some r) : ∃ b, o = some b ∧ r = !b := by
  cases o with
  | none => cases h
  | some b => cases h; exact ⟨b, rfl, rfl⟩
theorem s_ne (C : Ctx g T rec k c x A) (S : St g x W ρ s.σ sh) {a b : AV} {av bv : Value} {r : Bool} (ha : V g W av a) (hb : V g W bv b) (h : eqV a b = some r) (hQ : Q (.bool (!r)) sh) : wpAny (Md g) A (compareOp .NotEq av bv) Q E sh :=
  eqV_e h (P := fun a b r => V g W av a → V g W bv b → Q (.bool (!r)) sh → wpAny (Md g) A (compareOp .NotEq av bv) Q E sh) (fun _ _ ha hb hQ => ha.int_e fun _ ee => ee ▸ hb.int_e fun _ ee => ee ▸ ne_int hQ)
    (fun y z ha hb hQ => ha.str_e fun _ ee => ee ▸ hb.str_e fun _ ee => ee ▸ ne_str (show Q (.bool (!decide (y = z))) sh from (seq_decide y z) ▸ hQ))
    (fun _ _ h1 h2 ha hb hQ => (S.reads C.O ha (okV_iff h1).1).elim fun _ ra => (S.reads C.O hb (okV_iff h2).1).elim fun _ rb => ne_dataH ra rb (okV_iff h1).2 (okV_iff h2).2 C.R.u64 hQ) ha hb hQ
theorem isNone_val {a : AV} {v : Value} {r : Bool} (hv : V g W v a) (h : isNone a = some r) : (v == Value.none) = r :=
  V.casesOn (motive_1 := fun v a _ => isNone a = some r → (v == Value.none) = r) hv (fun h => Option.some.inj h) (fun _ h => Option.some.inj h) (fun _ _ h => Option.some.inj h) (fun _ _ h => Option.some.inj h) (fun _ _ h => Option.some.inj h) (fun _ _ h => Option.some.inj h) (fun _ _ _ _ h => Option.some.inj h)
    (fun _ h => Option.some.inj h) (fun _ h => Option.some.inj h) (fun _ _ h => Option.some.inj h) (fun _ h => Option.some.inj h) (fun _ h => none_p h) h
theorem canLay_shaped {d : PyData} (h : SeqAt.shaped d = true) : d.canLay0 = true := SeqAt.canLay_of_shaped h
theorem Room.in1 {n k : Nat} (R : Room A n k) {xs d : PyData} (hd : SeqAt.shaped d = true) (m : Nat) : A.units + 1 + min m d.depth < cLine := by
  have := R.u
  have := SeqAt.depth_of_shaped hd
  have := Nat.min_le_right m d.depth
  omega
theorem okV_lst {l : List AV} (h : okV (.lst l) = true) : okL l = true ∧ PyData.canLayAll0 (pdL l) = true := by
  have := okV_iff h
  refine ⟨by simpa [okD] using this.1, ?_⟩
  have q := canLay_shaped this.2
  unfold pd at q
  exact q
theorem inL_e {P : Bool → Prop} {a : AV} {l : List AV} {r : Bool} (h : inL a l = some r) (k : okV a = true → okV (.lst l) = true → P ((pdL l).any fun y => PyData.eqv y (pd a))) : P r := by
  unfold inL at h
  generalize okV a = p at h k
  generalize okV (.lst l) = q at h k
  cases p with
  | true => cases q with
    | true => exact some_p h (k rfl rfl)
    | false => exact none_p h
  | false => exact none_p h
/-- both ways to ask -/
noncomputable def In2 (g : Glb) (A : Around) (Q E : Value → Shared → Prop) (sh : Shared) (av bv : Value) (r : Bool) : Prop :=
  ((∀ t, Q (.bool r) { sh with toks := t }) → wpAny (Md g) A (compareOp .In av bv) Q E sh) ∧ ((∀ t, Q (.bool (!r)) { sh with toks := t }) → wpAny (Md g) A (compareOp .NotIn av bv) Q E sh)
theorem s_inL (C : Ctx g T rec k c x A) (S : St g x W ρ s.σ sh) {a : AV} {l : List AV} {av : Value} {r : Bool} {o : Obj} {ca : Addr} {n : Nat} {vs : List Value} (ho : sh.heap.get? ca = some o) (hc : o.cls = .type "tuple" ∨ o.cls = .type "list") (hd : o.data = .seq vs.toArray n)
    (hvs : VA g W vs l) (ha : V g W av a) (h : inL a l = some r) : In2 g A Q E sh av (.ref ca) r := by
  refine inL_e h (P := In2 g A Q E sh av (.ref ca)) fun h1 h2 => ?_
  obtain ⟨as, ra⟩ := S.reads C.O ha (okV_iff h1).1
  obtain ⟨bs, rb⟩ := S.readsL C.O hvs (okV_lst h2).1
  have room := fun m => C.R.in1 (xs := pd a) (okV_iff h1).2 m
  have l1 := (okV_lst h2).2
  have l2 := canLay_shaped (okV_iff h1).2
  have rb : ReadsAll sh.heap vs.toArray.toList (pdL l) bs := rb
  rcases hc with hc | hc
  · exact ⟨fun q => SeqAt.in_tuple_reads (reads_tuple_at ho hc hd rb) ra l1 l2 (room _) (q sh.toks), fun q => SeqAt.notIn_tuple_reads (reads_tuple_at ho hc hd rb) ra l1 l2 (room _) (q sh.toks)⟩
  · exact ⟨fun q => SeqAt.in_list_reads (reads_list_at ho hc hd rb) ra l1 l2 (room _) (q sh.toks), fun q => SeqAt.notIn_list_reads (reads_list_at ho hc hd rb) ra l1 l2 (room _) (q sh.toks)⟩
theorem OMap.mapOf {o : Obj} {f : PySem.Str → Option Value} {n : Nat} (h : OMap g o f n) {hp : Heap} {a : Addr} (ho : hp.get? a = some o) : hp.MapOf (strKind g.prog g.w) a f :=
  let ⟨hc, es, ep, hd, hk, _, hf⟩ := h.old; ⟨o, es, ep, ho, hc, hd, hk, hf⟩
theorem str_is (y : PySem.Str) (t : Tok) : (strKind g.prog g.w).is y (.str y t) = true := by
  show Value.isStrOf y (.str y t) = true
  simp [Value.isStrOf]
theorem St.noSys (TO : TabOk g T) (S : St g x W ρ s.σ sh) {a : Addr} {o : Obj} (h : Kn g W a o) : (a == sysModules) = false := by
  rcases h with h | h
  · refine beq_eq_false_iff_ne.mpr fun e => ?_
    rw [e, TO.k1] at h; cases h
  · refine S.e fun m ms cs D => ?_
    have := D.lo _ (List.mem_append.mpr (.inr (List.mem_append.mpr (.inr h))))
    refine beq_eq_false_iff_ne.mpr fun e => ?_
    have this : @LT.lt Nat _ 3 a := this
    rw [show a = 1 from e] at this
    exact absurd this (by decide)
theorem St.noSysM (S : St g x W ρ s.σ sh) {i : Nat} {a : Addr} (h : W.As[i]? = some a) : (a == sysModules) = false := by
  refine S.e fun m ms cs D => ?_
  rw [← D.as, List.getElem?_map] at h
  obtain ⟨p, hp, rfl⟩ := Option.map_eq_some_iff.mp h
  have := D.lo _ (List.mem_append.mpr (.inl (List.mem_of_getElem? hp)))
  refine beq_eq_false_iff_ne.mpr fun e => ?_
  have this : @LT.lt Nat _ 3 p.1 := this
  rw [show p.1 = 1 from e] at this
  exact absurd this (by decide)
theorem lk_isSome {f : PySem.Str → Option Value} {d : List (PySem.Str × AV)} {y : PySem.Str} (h1 : ∀ a, lk d y = some a → ∃ v, f y = some v ∧ V g W v a) (h2 : lk d y = none → f y = none) : (f y).isSome = (lk d y).isSome := by
  cases e : lk d y with
  | none => rw [h2 e]; rfl
  | some a => obtain ⟨v, q, _⟩ := h1 a e; rw [q]; rfl
theorem s_inK {a : AV} {d : List (PySem.Str × AV)} {av : Value} {r : Bool} {ca : Addr} {f : PySem.Str → Option Value} (ns : (ca == sysModules) = false) (M : sh.heap.MapOf (strKind g.prog g.w) ca f)
    (h1 : ∀ y a, lk d y = some a → ∃ v, f y = some v ∧ V g W v a) (h2 : ∀ y, lk d y = none → f y = none) (ha : V g W av a) (h : inK a d = some r) : In2 g A Q E sh av (.ref ca) r := by
  cases a with
  | str y =>
    refine ha.str_e fun t ee => ee ▸ some_p h (P := In2 g A Q E sh (.str y t) (.ref ca)) ?_
    rw [← lk_isSome (h1 y) (h2 y)]
    exact ⟨fun q => wpAny_in_of (str_is y t) ns M (q _), fun q => wpAny_notIn_of (str_is y t) ns M (q _)⟩
  | _ => exact none_p h
theorem s_inV (C : Ctx g T rec k c x A) (S : St g x W ρ s.σ sh) {a b : AV} {av bv : Value} {r : Bool} (ha : V g W av a) (hb : V g W bv b) (h : inV s.σ a b = some r) : In2 g A Q E sh av bv r := by
  cases b with
  | tup l => exact hb.tup_e fun _ _ _ k1 k2 ee => ee ▸ s_inL C S (S.kn C.O k1) (.inl rfl) rfl k2 ha h
  | lst l => exact hb.lst_e fun _ _ _ k1 k2 ee => ee ▸ s_inL C S (S.fzAt k1) (.inr rfl) rfl k2 ha h
  | dct d => exact hb.dct_e fun _ _ _ _ k1 k2 k3 k4 ee => ee ▸ s_inK (S.noSys C.TO k1) (k2.mapOf (S.kn C.O k1)) (fun _ _ h => k3.get h) k4 ha h
  | ref i =>
    have h : inM a s.σ[i]? = some r := h
    generalize e : s.σ[i]? = m at h
    cases m with
    | none => exact none_p h
    | some m => cases m with
      | lst l => exact hb.ref_e fun _ k1 ee => ee ▸ S.atL k1 e fun _ _ ho hv => s_inL C S ho (.inr rfl) rfl hv ha h
      | dct d => exact hb.ref_e fun _ k1 ee => ee ▸ S.atD k1 e fun _ _ ho k2 k3 k4 => s_inK (S.noSysM k1) (k2.mapOf ho) k3 k4 ha h
  | _ => exact none_p h
theorem ii_e {β : Type} {P : AV → AV → Prop} {a b : AV} {f : Int → Int → Option β} {r : β} (h : ii a b f = some r) (k : ∀ i j, f i j = some r → P (.int i) (.int j)) : P a b := by
  cases a with
  | int i => cases b with
    | int j => exact k i j h
    | _ => exact none_p h
  | _ => exact none_p h
theorem s_ii {op : CmpOp} {f : Int → Int → Bool} (hf : ∀ i j t u, Q (.bool (f i j)) sh → wpAny (Md g) A (compareOp op (.int i t) (.int j u)) Q E sh) {a b : AV} {av bv : Value} {r : Bool} (ha : V g W av a) (hb : V g W bv b) (h : (ii a b fun i j => some (f i j)) = some r) (hQ : Q (.bool r) sh) : wpAny (Md g) A (compareOp op av bv) Q E sh :=
  ii_e h (P := fun a b => V g W av a → V g W bv b → wpAny (Md g) A (compareOp op av bv) Q E sh) (fun i j e ha hb => ha.int_e fun t ee => ee ▸ hb.int_e fun u ee => ee ▸ hf i j t u (Option.some.inj e ▸ hQ)) ha hb
theorem isN_e {P : AV → Prop} {a b : AV} {r : Bool} (h : isN a b = some r) (k : isNone a = some r → P .none) : P b := by
  cases b with
  | none => exact k h
  | _ => exact none_p h
theorem s_cmp (C : Ctx g T rec k c x A) (S : St g x W ρ s.σ sh) {op : CmpOp} {a b : AV} {av bv : Value} {r : Bool} (ha : V g W av a) (hb : V g W bv b) (h : cmpV s.σ op a b = some r) (hQ : ∀ t, Q (.bool r) { sh with toks := t }) :
    wpAny (Md g) A (compareOp op av bv) Q E sh := by
  cases op with
  | Eq => exact s_eq C S ha hb h (hQ sh.toks)
  | NotEq =>
    obtain ⟨b', e, rfl⟩ := notO_some h
    exact s_ne C S ha hb e (hQ sh.toks)
  | Lt => exact s_ii (fun _ _ _ _ => lt_int) ha hb h (hQ sh.toks)
  | LtE => exact s_ii (fun _ _ _ _ => le_int) ha hb h (hQ sh.toks)
  | Gt => exact s_ii (fun _ _ _ _ => gt_int) ha hb h (hQ sh.toks)
  | GtE => exact s_ii (fun _ _ _ _ => ge_int) ha hb h (hQ sh.toks)
  | Is =>
    refine isN_e h (P := fun b => V g W bv b → wpAny (Md g) A (compareOp .Is av bv) Q E sh) (fun h hb => hb.none_e fun ee => ee ▸ (is_none_gen ?_)) hb
    rw [isNone_val ha h]; exact hQ sh.toks
  | IsNot =>
    obtain ⟨b', e, rfl⟩ := notO_some h
    refine isN_e e (P := fun b => V g W bv b → wpAny (Md g) A (compareOp .IsNot av bv) Q E sh) (fun h hb => hb.none_e fun ee => ee ▸ (isnot_none_gen ?_)) hb
    rw [isNone_val ha h]; exact hQ sh.toks
  | In => exact (s_inV C S ha hb h).1 hQ
  | NotIn =>
    obtain ⟨b', e, rfl⟩ := notO_some h
    exact (s_inV C S ha hb e).2 hQ
end
end Mine
end
section
set_option maxHeartbeats 4000000
open PySem PySem.W PySem.Spec PySem.Calls PyProof.Rows
namespace Mine
section
variable {g : Glb} {T : Tabs} {rec : Rec} {k : Nat} {c : Cfg} {x : Cx} {ρ : Loc} {A : Around} {KE : KX} {E : Value → Shared → Prop}
theorem marked_not {op : CmpOp} {y : Expr} {t : Sem Value} (h : behindInMarks op y = false) : markedBehindIn op y t = t := by
  unfold markedBehindIn; rw [h]
theorem isNil_t {α : Type} {l : List α} (h : isNil l = true) : l = [] := by
  cases l with
  | nil => rfl
  | cons _ _ => exact ff_p h
theorem isNil_f {α : Type} {l : List α} (h : (!(isNil l)) = true) : ∃ a r, l = a :: r := by
  cases l with
  | nil => exact ff_p h
  | cons a r => exact ⟨a, r, rfl⟩
theorem not_t {b : Bool} (h : (!b) = true) : b = false := by
  cases b with
  | false => rfl
  | true => exact ff_p h
theorem chain_e {P : List CmpOp → List Expr → Prop} {a : AV} {op : CmpOp} {ops : List CmpOp} {xs : List Expr} {s : Stt} {K : Bool → Stt → Prop} (h : chain rec k c ρ a (op :: ops) xs s K KE)
    (f : ∀ y, behindInMarks op y = false → rec k c (.e y) ρ s (fun o s => vK o fun b => cmpK s.σ op a b fun r => K r s) KE → P [] [y])
    (f2 : ∀ y o2 ops y2 r, rec k c (.e y) ρ s (fun o s => vK o fun b => cmpK s.σ op a b fun v => cnd v (chain rec k c ρ b (o2 :: ops) (y2 :: r) s K KE) (K false s)) KE → P (o2 :: ops) (y :: y2 :: r)) : P ops xs := by
  cases xs with
  | nil => exact h.elim
  | cons y r =>
    cases ops with
    | nil =>
      refine cnd_e h fun h1 h2 => cnd_e h2 fun h3 h4 => ?_
      cases isNil_t h1
      exact f y (not_t h3) h4
    | cons o2 ops =>
      refine cnd_e h fun h1 h2 => ?_
      obtain ⟨y2, r, rfl⟩ := isNil_f h1
      exact f2 y o2 ops y2 r h2
theorem cc_one {pos : Pos} {a : Value} {op : CmpOp} {t : Sem Value} : compareChain pos a [op] [t] = (do let rv ← holding [a] t; standAt pos; operate [a, rv] (compareOp op a rv)) := rfl
theorem cc_two {pos : Pos} {a : Value} {op o2 : CmpOp} {ops : List CmpOp} {t t2 : Sem Value} {ts : List (Sem Value)} : compareChain pos a (op :: o2 :: ops) (t :: t2 :: ts) = (do
    let rv ← holding [a] t
    standAt pos
    let c ← holding [a, rv] (compareOp op a rv)
    release [a, rv] [c]
    if ← holding [c, rv] (truthy c) then compareChain pos rv (o2 :: ops) (t2 :: ts) else pure c) := rfl
theorem tc_one {pos : Pos} {a : Value} {op : CmpOp} {t : Sem Value} : testChain pos a [op] [t] = (do let rv ← holding [a] t; standAt pos; let c ← operate [a, rv] (compareOp op a rv); holding [c] (truthy c)) := rfl
theorem tc_two {pos : Pos} {a : Value} {op o2 : CmpOp} {ops : List CmpOp} {t t2 : Sem Value} {ts : List (Sem Value)} : testChain pos a (op :: o2 :: ops) (t :: t2 :: ts) = (do
    let rv ← holding [a] t
    standAt pos
    let c ← holding [a, rv] (compareOp op a rv)
    release [a, rv] [c]
    if ← holding [c, rv] (truthy c) then testChain pos rv (o2 :: ops) (t2 :: ts) else pure false) := rfl
theorem mk_one {op : CmpOp} {y : Expr} {env : Env} (h : behindInMarks op y = false) : markedEach [op] [y] (evalEach [y] env) = [eval y env] := congrArg (· :: []) (marked_not h)
theorem mk_two {op o2 : CmpOp} {ops : List CmpOp} {y y2 : Expr} {r : List Expr} {env : Env} : ∃ t2 ts, markedEach (op :: o2 :: ops) (y :: y2 :: r) (evalEach (y :: y2 :: r) env) = eval y env :: t2 :: ts ∧ markedEach (o2 :: ops) (y2 :: r) (evalEach (y2 :: r) env) = t2 :: ts := by
  cases ops <;> cases r <;> exact ⟨_, _, rfl, rfl⟩
theorem s_chainV {pos : Pos} (C : Ctx g T rec k c x A) (hE : PX g x KE E) : ∀ (ops : List CmpOp) (xs : List Expr) (a : AV) (av : Value) (W : Wd) (s : Stt) (sh : Shared) (K : Bool → Stt → Prop) (Q : Value → Shared → Prop), St g x W ρ s.σ sh → V g W av a → chain rec k c ρ a ops xs s K KE →
    (∀ r s' W' sh', W.Le W' → St g x W' ρ s'.σ sh' → K r s' → Q (.bool r) sh') → wpAny (Md g) A (compareChain pos av ops (markedEach ops xs (evalEach xs x.env))) Q E sh := by
  intro ops
  induction ops with
  | nil => intro xs a av W s sh K Q S hv h; exact h.elim
  | cons op ops ih =>
    intro xs a av W s sh K Q S hv h hQ
    refine chain_e h (P := fun ops xs => (∀ (xs : List Expr) (a : AV) (av : Value) (W : Wd) (s : Stt) (sh : Shared) (K : Bool → Stt → Prop) (Q : Value → Shared → Prop), St g x W ρ s.σ sh → V g W av a → chain rec k c ρ a ops xs s K KE →
      (∀ r s' W' sh', W.Le W' → St g x W' ρ s'.σ sh' → K r s' → Q (.bool r) sh') → wpAny (Md g) A (compareChain pos av ops (markedEach ops xs (evalEach xs x.env))) Q E sh) → wpAny (Md g) A (compareChain pos av (op :: ops) (markedEach (op :: ops) xs (evalEach xs x.env))) Q E sh) (fun y hb h _ => ?_) (fun y o2 ops y2 r h ih => ?_) ih
    · rw [mk_one hb, cc_one]
      exact wpAny_bind (wpAny_holding (C.e h S hE fun b s' W' bv sh' le S' hv' h' => cmpK_e h' fun r hr h' => wpAny_bind (wpAny_standAt (wpAny_operateT (s_cmp C S' (hv.mono le) hv' hr fun t => hQ r s' W' _ le (S'.toks t) h')))))
    · obtain ⟨t2, ts, e1, e2⟩ := mk_two (op := op) (o2 := o2) (ops := ops) (y := y) (y2 := y2) (r := r) (env := x.env)
      rw [e1, cc_two, ← e2]
      refine wpAny_bind (wpAny_holding (C.e h S hE fun b s' W' bv sh' le S' hv' h' => cmpK_e h' fun v hr h' => ?_))
      refine wpAny_bind (wpAny_standAt (wpAny_bind (wpAny_holding (s_cmp C S' (hv.mono le) hv' hr fun t => wpAny_bind (wpAny_release (wpAny_bind (wpAny_holding (wpAny_truthy_bool ?_))))))))
      cases v with
      | true => exact ih (y2 :: r) b bv W' s' _ K Q (S'.toks t) hv' h' fun r'' s'' W'' sh'' le' S'' h'' => hQ r'' s'' W'' sh'' (le.trans le') S'' h''
      | false => exact wpAny_pure (hQ false s' W' _ le (S'.toks t) h')
theorem s_chainT {pos : Pos} (C : Ctx g T rec k c x A) (hE : PX g x KE E) : ∀ (ops : List CmpOp) (xs : List Expr) (a : AV) (av : Value) (W : Wd) (s : Stt) (sh : Shared) (K : Bool → Stt → Prop) (Q : Bool → Shared → Prop), St g x W ρ s.σ sh → V g W av a → chain rec k c ρ a ops xs s K KE →
    PB g x W ρ K Q → wpAny (Md g) A (testChain pos av ops (markedEach ops xs (evalEach xs x.env))) Q E sh := by
  intro ops
  induction ops with
  | nil => intro xs a av W s sh K Q S hv h; exact h.elim
  | cons op ops ih =>
    intro xs a av W s sh K Q S hv h hQ
    refine chain_e h (P := fun ops xs => (∀ (xs : List Expr) (a : AV) (av : Value) (W : Wd) (s : Stt) (sh : Shared) (K : Bool → Stt → Prop) (Q : Bool → Shared → Prop), St g x W ρ s.σ sh → V g W av a → chain rec k c ρ a ops xs s K KE →
      PB g x W ρ K Q → wpAny (Md g) A (testChain pos av ops (markedEach ops xs (evalEach xs x.env))) Q E sh) → wpAny (Md g) A (testChain pos av (op :: ops) (markedEach (op :: ops) xs (evalEach xs x.env))) Q E sh) (fun y hb h _ => ?_) (fun y o2 ops y2 r h ih => ?_) ih
    · rw [mk_one hb, tc_one]
      exact wpAny_bind (wpAny_holding (C.e h S hE fun b s' W' bv sh' le S' hv' h' => cmpK_e h' fun r hr h' => wpAny_bind (wpAny_standAt (wpAny_bind (wpAny_operateT (s_cmp C S' (hv.mono le) hv' hr fun t => wpAny_holding (wpAny_truthy_bool (hQ r s' W' _ le (S'.toks t) h'))))))))
    · obtain ⟨t2, ts, e1, e2⟩ := mk_two (op := op) (o2 := o2) (ops := ops) (y := y) (y2 := y2) (r := r) (env := x.env)
      rw [e1, tc_two, ← e2]
      refine wpAny_bind (wpAny_holding (C.e h S hE fun b s' W' bv sh' le S' hv' h' => cmpK_e h' fun v hr h' => ?_))
      refine wpAny_bind (wpAny_standAt (wpAny_bind (wpAny_holding (s_cmp C S' (hv.mono le) hv' hr fun t => wpAny_bind (wpAny_release (wpAny_bind (wpAny_holding (wpAny_truthy_bool ?_))))))))
      cases v with
      | true => exact ih (y2 :: r) b bv W' s' _ K Q (S'.toks t) hv' h' (hQ.le le)
      | false => exact wpAny_pure (hQ false s' W' _ le (S'.toks t) h')
theorem s_Compare {W : Wd} {s : Stt} {sh : Shared} {K : AV → Stt → Prop} {Q : Value → Shared → Prop} {l : Expr} {ops : List CmpOp} {cs : List Expr} {p : Pos} (C : Ctx g T rec k c x A) (S : St g x W ρ s.σ sh) (h : stepE T rec k c (.Compare l ops cs p) ρ s K KE) (hQ : PV g x W ρ K Q) (hE : PX g x KE E) :
    wpAny (Md g) A (eval (.Compare l ops cs p) x.env) Q E sh := by
  rw [arm_eval_Compare]
  refine wpAny_bind (C.e h S hE fun a s' W' av sh' le S' hv h' => ?_)
  exact s_chainV C hE ops cs a av W' s' sh' _ Q S' hv h' fun r s'' W'' sh'' le' S'' h'' => hQ _ _ _ _ _ (le.trans le') S'' (.bool r) h''
theorem s_bools (C : Ctx g T rec k c x A) (hE : PX g x KE E) {op : BoolOp} : ∀ (xs : List Expr) (W : Wd) (s : Stt) (sh : Shared) (K : Bool → Stt → Prop) (Q : Bool → Shared → Prop), St g x W ρ s.σ sh → bools rec k c ρ op xs s K KE →
    PB g x W ρ K Q → wpAny (Md g) A (allTrue op xs x.env) Q E sh := by
  intro xs
  induction xs with
  | nil =>
    intro W s sh K Q S h hQ
    cases op with
    | And => exact wpAny_allTrue_And_nil (hQ _ _ W _ (.refl W) S h)
    | Or => exact wpAny_allTrue_Or_nil (hQ _ _ W _ (.refl W) S h)
  | cons y r ih =>
    intro W s sh K Q S h hQ
    cases op with
    | And =>
      refine wpAny_allTrue_And_cons (C.t h S hE fun b s' W' sh' le S' h' => ?_)
      cases b with
      | true => exact ih W' s' sh' K Q S' h' (hQ.le le)
      | false => exact hQ _ _ _ _ le S' h'
    | Or =>
      refine wpAny_allTrue_Or_cons (C.t h S hE fun b s' W' sh' le S' h' => ?_)
      cases b with
      | true => exact hQ _ _ _ _ le S' h'
      | false => exact ih W' s' sh' K Q S' h' (hQ.le le)
theorem trueV_e {P : AV → Bool → Prop} {a : AV} {b : Bool} (h : trueV a = some b) (k1 : P .none false) (k2 : ∀ b, P (.bool b) b) (k3 : ∀ i, P (.int i) (!decide (i = 0))) : P a b := by
  cases a with
  | none => exact some_p h k1
  | bool b => exact some_p h (k2 b)
  | int i => exact some_p h (k3 i)
  | _ => exact none_p h
theorem s_truthy {W : Wd} {sh : Shared} {Q : Bool → Shared → Prop} {a : AV} {v : Value} {b : Bool} (hv : V g W v a) (h : trueV a = some b) (hQ : Q b sh) : wpAny (Md g) A (truthy v) Q E sh :=
  trueV_e h (P := fun a b => V g W v a → Q b sh → wpAny (Md g) A (truthy v) Q E sh) (fun hv hQ => hv.none_e fun ee => ee ▸ (truthy_none hQ)) (fun _ hv hQ => hv.bool_e fun ee => ee ▸ (wpAny_truthy_bool hQ)) (fun _ hv hQ => hv.int_e fun _ ee => ee ▸ truthy_int hQ) hv hQ
theorem s_Tv {W : Wd} {s : Stt} {sh : Shared} {K : Bool → Stt → Prop} {Q : Bool → Shared → Prop} {y : Expr} (e : isTrue y x.env (eval y x.env) = (do let v ← eval y x.env; standAt y.pos; holding [v] (truthy v))) (C : Ctx g T rec k c x A) (S : St g x W ρ s.σ sh) (h : tE rec k c y ρ s K KE) (hQ : PB g x W ρ K Q) (hE : PX g x KE E) :
    wpAny (Md g) A (isTrue y x.env (eval y x.env)) Q E sh := by
  rw [e]
  exact wpAny_bind (C.e h S hE fun a s' W' av sh' le S' hv h' => oK_e h' fun b hb h' => wpAny_bind (wpAny_standAt (wpAny_holding (s_truthy hv hb (hQ _ _ _ _ le S' h')))))
theorem s_T {W : Wd} {s : Stt} {sh : Shared} {K : Bool → Stt → Prop} {Q : Bool → Shared → Prop} {y : Expr} (C : Ctx g T rec k c x A) (S : St g x W ρ s.σ sh) (h : stepT rec k c y ρ s K KE) (hQ : PB g x W ρ K Q) (hE : PX g x KE E) :
    wpAny (Md g) A (isTrue y x.env (eval y x.env)) Q E sh := by
  cases y with
  | UnaryOp op y p => cases op with
    | Not => exact wpAny_isTrue_Not (C.t h S hE fun b s' W' sh' le S' h' => hQ _ _ _ _ le S' h')
    | _ => exact s_Tv rfl C S h hQ hE
  | BoolOp op vs p => exact wpAny_isTrue_BoolOp (s_bools C hE _ W s sh K Q S h hQ)
  | IfExp t b e p =>
    rw [PySem.arm_isTrue_IfExp]
    refine wpAny_bind (C.t h S hE fun r s' W' sh' le S' h' => ?_)
    cases r with
    | true => exact C.t h' S' hE (hQ.le le)
    | false => exact C.t h' S' hE (hQ.le le)
  | Compare l ops cs p =>
    rw [PySem.arm_isTrue_Compare]
    exact wpAny_bind (C.e h S hE fun a s' W' av sh' le S' hv h' => s_chainT C hE ops cs a av W' s' sh' K Q S' hv h' (hQ.le le))
  | _ => exact s_Tv rfl C S h hQ hE
end
end Mine
end
section
set_option maxHeartbeats 4000000
open PySem PySem.W PySem.Spec PySem.Calls PyProof.Rows
namespace Mine
section
variable {g : Glb} {T : Tabs} {rec : Rec} {k : Nat} {c : Cfg} {x : Cx} {W : Wd} {ρ : Loc} {s : Stt} {sh : Shared} {A : Around} {K : AV → Stt → Prop} {KE : KX} {Q E : Value → Shared → Prop}
theorem StD.size {m : PySem.Str → Option Value} {ms cs : List (Addr × Obj)} {σ : List MO} (D : StD g x W ρ σ sh m ms cs) : ∀ p ∈ ms ++ (cs ++ W.fz), p.1 ≠ sh.heap.objs.size :=
  fun p hp => Nat.ne_of_lt (Heap.lt_size (D.N p hp).1)
/-- a new object that stays as it is -/
theorem StD.addD {m : PySem.Str → Option Value} {ms cs : List (Addr × Obj)} {σ : List MO} {h' : Heap} {a : Addr} {o : Obj} (D : StD g x W ρ σ sh m ms cs) (F' : Fr x.h₀ x.env.locals h' m) (N' : News x.h₀ x.env.locals h' ((a, o) :: (ms ++ (cs ++ W.fz))))
    (ha : ∀ p ∈ ms ++ (cs ++ W.fz), p.1 ≠ a) (lo : @LT.lt Nat _ 3 a) (t : Nat) : StD g x ⟨W.As, (a, o) :: W.fz⟩ ρ σ { sh with heap := h', toks := t } m ms cs := by
  have le := le_push (a, o) W
  refine ⟨F', fun p hp => N' p ?_, fun y v e => ?_, D.as, MOs.mono le D.mo, fun y oa e => ?_, D.nd, fun p hp q hq => ?_, fun p hp => ?_, D.ge, D.dr, D.os, D.ex⟩
  · rcases List.mem_append.mp hp with h | h
    · exact .tail _ (List.mem_append.mpr (.inl h))
    · rcases List.mem_append.mp h with h | h
      · exact .tail _ (List.mem_append.mpr (.inr (List.mem_append.mpr (.inl h))))
      · cases h with
        | head => exact .head _
        | tail _ h => exact .tail _ (List.mem_append.mpr (.inr (List.mem_append.mpr (.inr h))))
  · obtain ⟨v, h1, h2⟩ := D.vars y v e
    exact ⟨v, h1, V.mono le h2⟩
  · obtain ⟨ca, oo, ov, h1, h2, h3, h4⟩ := D.cel y oa e
    exact ⟨ca, oo, ov, h1, h2, h3, fun a ha => let ⟨v, q1, q2⟩ := h4 a ha; ⟨v, q1, V.mono le q2⟩⟩
  · cases hq with
    | head =>
      refine ha p ?_
      rcases List.mem_append.mp hp with h | h
      · exact List.mem_append.mpr (.inl h)
      · exact List.mem_append.mpr (.inr (List.mem_append.mpr (.inl h)))
    | tail _ hq => exact D.dj p hp q hq
  · rcases List.mem_append.mp hp with h | h
    · exact D.lo p (List.mem_append.mpr (.inl h))
    · rcases List.mem_append.mp h with h | h
      · exact D.lo p (List.mem_append.mpr (.inr (List.mem_append.mpr (.inl h))))
      · cases h with
        | head => exact lo
        | tail _ h => exact D.lo p (List.mem_append.mpr (.inr (List.mem_append.mpr (.inr h))))
theorem StD.add {m : PySem.Str → Option Value} {ms cs : List (Addr × Obj)} {σ : List MO} {h' : Heap} {a : Addr} {o : Obj} (D : StD g x W ρ σ sh m ms cs) (F' : Fr x.h₀ x.env.locals h' m) (N' : News x.h₀ x.env.locals h' ((a, o) :: (ms ++ (cs ++ W.fz))))
    (ha : ∀ p ∈ ms ++ (cs ++ W.fz), p.1 ≠ a) (lo : @LT.lt Nat _ 3 a) (t : Nat) : St g x ⟨W.As, (a, o) :: W.fz⟩ ρ σ { sh with heap := h', toks := t } := ⟨m, ms, cs, D.addD F' N' ha lo t⟩
/-- a new object that will be changed -/
theorem StD.addM {m : PySem.Str → Option Value} {ms cs : List (Addr × Obj)} {σ : List MO} {h' : Heap} {a : Addr} {o : Obj} {mo : MO} (D : StD g x W ρ σ sh m ms cs) (F' : Fr x.h₀ x.env.locals h' m) (N' : News x.h₀ x.env.locals h' ((a, o) :: (ms ++ (cs ++ W.fz))))
    (ha : ∀ p ∈ ms ++ (cs ++ W.fz), p.1 ≠ a) (lo : @LT.lt Nat _ 3 a) (hr : MoR g ⟨W.As ++ [a], W.fz⟩ o mo) (t : Nat) : St g x ⟨W.As ++ [a], W.fz⟩ ρ (σ ++ [mo]) { sh with heap := h', toks := t } := by
  have le := le_new a W
  refine ⟨m, ms ++ [(a, o)], cs, F', fun p hp => N' p ?_, fun y a e => ?_, by rw [List.map_append, D.as]; rfl, MOs.append (show MOs g _ [(a, o)] [mo] from ⟨hr, trivial⟩) _ _ (MOs.mono le D.mo), fun y oa e => ?_, ?_, fun p hp q hq => ?_, fun p hp => ?_, D.ge, D.dr, D.os, D.ex⟩
  · rcases List.mem_append.mp hp with h | h
    · rcases List.mem_append.mp h with h | h
      · exact .tail _ (List.mem_append.mpr (.inl h))
      · rw [List.mem_singleton.mp h]; exact .head _
    · exact .tail _ (List.mem_append.mpr (.inr h))
  · obtain ⟨v, h1, h2⟩ := D.vars y a e
    exact ⟨v, h1, V.mono le h2⟩
  · obtain ⟨ca, oo, ov, h1, h2, h3, h4⟩ := D.cel y oa e
    exact ⟨ca, oo, ov, h1, h2, h3, fun a ha => let ⟨v, q1, q2⟩ := h4 a ha; ⟨v, q1, V.mono le q2⟩⟩
  · rw [List.map_append, List.map_append, List.append_assoc]
    have h := D.nd
    rw [List.map_append] at h
    obtain ⟨h1, h2, h3⟩ := List.nodup_append.mp h
    refine List.nodup_append.mpr ⟨h1, ?_, fun b hb d hd => ?_⟩
    · refine List.nodup_cons.mpr ⟨fun q => ?_, h2⟩
      obtain ⟨p, hp, e⟩ := List.mem_map.mp q
      exact ha p (List.mem_append.mpr (.inr (List.mem_append.mpr (.inl hp)))) e
    · rcases List.mem_append.mp hd with hb' | hb'
      · rw [List.mem_singleton.mp hb']
        obtain ⟨p, hp, rfl⟩ := List.mem_map.mp hb
        exact ha p (List.mem_append.mpr (.inl hp))
      · exact h3 b hb d hb'
  · rcases List.mem_append.mp hp with h | h
    · rcases List.mem_append.mp h with h | h
      · exact D.dj p (List.mem_append.mpr (.inl h)) q hq
      · rw [List.mem_singleton.mp h]
        exact Ne.symm (ha q (List.mem_append.mpr (.inr (List.mem_append.mpr (.inr hq)))))
    · exact D.dj p (List.mem_append.mpr (.inr h)) q hq
  · rcases List.mem_append.mp hp with h | h
    · rcases List.mem_append.mp h with h | h
      · exact D.lo p (List.mem_append.mpr (.inl h))
      · rw [List.mem_singleton.mp h]; exact lo
    · exact D.lo p (List.mem_append.mpr (.inr h))
theorem StD.big {m : PySem.Str → Option Value} {ms cs : List (Addr × Obj)} {σ : List MO} (D : StD g x W ρ σ sh m ms cs) (O : CxOk g c x) : @LT.lt Nat _ 3 sh.heap.objs.size := (O.T.g.keeps D.F.keep).lt
theorem St.lenAs {σ : List MO} (S : St g x W ρ σ sh) : W.As.length = σ.length := by
  refine S.e fun m ms cs D => ?_
  rw [← D.as, List.length_map]; exact D.mo.length
theorem fold_rep (v : Value) : ∀ (j : Nat) (acc : Array Value), List.foldl (fun a b => a ++ b) acc (List.replicate j #[v]) = acc ++ (List.replicate j v).toArray := by
  intro j
  induction j with
  | zero => intro acc; simp
  | succ j ih => intro acc; rw [List.replicate_succ, List.foldl_cons, ih, List.replicate_succ]; apply Array.ext'; simp
theorem VA.replicate {v : Value} {a : AV} (h : V g W v a) : ∀ (n : Nat), VA g W (List.replicate n v) (List.replicate n a)
  | 0 => .nil
  | n + 1 => .cons h (VA.replicate h n)
theorem sm_iff {i : Int} (h : sm i = true) : i.natAbs < 1152921504606846976 := of_decide_eq_true h
/-- what a built-in gives back -/
noncomputable def BQ (g : Glb) (x : Cx) (W : Wd) (ρ : Loc) (σ : List MO) (Q : Value → Shared → Prop) (r : AV) : Prop := ∀ W' v sh', W.Le W' → St g x W' ρ σ sh' → V g W' v r → Q v sh'
theorem BQ.int {i : Int} (h : BQ g x W ρ s.σ Q (.int i)) (S : St g x W ρ s.σ sh) (t t' : Tok) : Q (.int i t) { sh with toks := t' } := h W _ _ (.refl W) (S.toks t') (.int i t)
theorem mulL_eq (v : Value) (j : Nat) (b : Bool) (hb : b = false) : (List.foldl (fun x1 x2 => x1 ++ x2) #[] (List.replicate (if b = true then 0 else j) #[v])) = (List.replicate j v).toArray := by
  subst hb
  simp only [Bool.false_eq_true, if_false]
  rw [fold_rep]; simp
theorem s_mulL (C : Ctx g T rec k c x A) (S : St g x W ρ s.σ sh) {a : AV} {j : Int} {av : Value} {t : Tok} (ha : V g W av (.lst [a])) (h0 : 0 ≤ j) (h1 : j ≤ 100000)
    (hQ : ∀ h' t' (vs : List Value) (m : PySem.Str → Option Value) (ms cs : List (Addr × Obj)), StD g x W ρ s.σ sh m ms cs → Fr x.h₀ x.env.locals h' m → News x.h₀ x.env.locals h' ((sh.heap.objs.size, listOf vs.toArray 0) :: (ms ++ (cs ++ W.fz))) → VA g W vs (List.replicate j.toNat a) → Q (.ref sh.heap.objs.size) { sh with heap := h', toks := t' }) :
    wpAny (Md g) A (binaryOp .Mult av (.int j t)) Q E sh := by
  refine ha.lst_e fun l vs n k1 k2 ee => ee ▸ S.e fun m ms cs D => ?_
  obtain ⟨v, rfl, hv⟩ : ∃ v, vs = [v] ∧ V g W v a := k2.one_e fun v hv ee => ee ▸ ⟨v, rfl, hv⟩
  refine mul_list D.F D.N (D.N _ (List.mem_append.mpr (.inr (List.mem_append.mpr (.inr k1))))).1 (by clear hQ D C S; omega) (by clear hQ D C S; omega) (show 1 * j.toNat ≤ 2 ^ 24 by clear hQ D C S; omega) fun h' F' N' => ?_
  rw [mulL_eq v j.toNat (Array.isEmpty #[v]) rfl] at N'
  exact hQ h' sh.toks (List.replicate j.toNat v) m ms cs D F' N' (VA.replicate hv _)
theorem small_add {y z : PySem.Str} (h1 : small y.cps.toList = true) (h2 : small z.cps.toList = true) : y.length + z.length ≤ sizeLine := by
  have a1 := Nat.le_of_ble_eq_true h1
  have a2 := Nat.le_of_ble_eq_true h2
  simp only [Array.length_toList] at a1 a2
  simp only [PySem.Str.length, sizeLine]
  omega
theorem s_addS (S : St g x W ρ s.σ sh) {y z : PySem.Str} {t u : Tok} (h1 : small y.cps.toList = true) (h2 : small z.cps.toList = true) (hQ : BQ g x W ρ s.σ Q (.str (y ++ z))) : wpAny (Md g) A (binaryOp .Add (.str y t) (.str z u)) Q E sh :=
  add_str (fun t' tk => hQ W _ _ (.refl W) (S.toks tk) (.str _ t')) (small_add h1 h2)
theorem small_addL {vs ws : List Value} {y z : List AV} (a : VA g W vs y) (b : VA g W ws z) (h1 : small y = true) (h2 : small z = true) : vs.toArray.size + ws.toArray.size ≤ sizeLine := by
  have a1 := Nat.le_of_ble_eq_true h1
  have a2 := Nat.le_of_ble_eq_true h2
  simp only [List.size_toArray, a.length, b.length, sizeLine]
  omega
theorem s_addL (C : Ctx g T rec k c x A) (S : St g x W ρ s.σ sh) {y z : List AV} {av bv : Value} (ha : V g W av (.lst y)) (hb : V g W bv (.lst z)) (h1 : small y = true) (h2 : small z = true) (hQ : BQ g x W ρ s.σ Q (.lst (y ++ z))) : wpAny (Md g) A (binaryOp .Add av bv) Q E sh := by
  refine ha.lst_e fun a1 vs1 n1 k1 k2 ee => ee ▸ hb.lst_e fun a2 vs2 n2 k3 k4 ee => ee ▸ S.e fun m ms cs D => ?_
  refine add_arrays D.F D.N ⟨_, (D.N _ (List.mem_append.mpr (.inr (List.mem_append.mpr (.inr k1))))).1, rfl, _, rfl⟩ ⟨_, (D.N _ (List.mem_append.mpr (.inr (List.mem_append.mpr (.inr k3))))).1, rfl, _, rfl⟩ (fun h' F' N' => ?_) (small_addL k2 k4 h1 h2)
  exact hQ _ _ _ (le_push _ W) (D.add F' N' D.size (D.big C.O) sh.toks) (.lst (vs := vs1 ++ vs2) (n := 0) (.head _) ((k2.append k4).mono (le_push _ W)))
theorem addV_e {P : AV → AV → AV → Prop} {a b r : AV} (h : addV a b = some r) (k1 : ∀ i j, P (.int i) (.int j) (.int (i + j))) (k2 : ∀ y z, small y.cps.toList = true → small z.cps.toList = true → P (.str y) (.str z) (.str (y ++ z)))
    (k3 : ∀ y z, small y = true → small z = true → P (.lst y) (.lst z) (.lst (y ++ z))) : P a b r := by
  cases a with
  | int i => cases b with
    | int j => exact some_p h (k1 i j)
    | _ => exact none_p h
  | str i => cases b with
    | str j => exact gd_e h fun h1 h => gd_v h fun h2 => k2 i j h1 h2
    | _ => exact none_p h
  | lst i => cases b with
    | lst j => exact gd_e h fun h1 h => gd_v h fun h2 => k3 i j h1 h2
    | _ => exact none_p h
  | _ => exact none_p h
theorem mulV_e {P : AV → AV → AV → Prop} {a b r : AV} (h : mulV a b = some r) (k1 : ∀ i j, sm i = true → sm j = true → P (.int i) (.int j) (.int (i * j))) (k2 : ∀ a j, 0 ≤ j → j ≤ 100000 → P (.lst [a]) (.int j) (.lst (List.replicate j.toNat a))) : P a b r := by
  cases a with
  | int i => cases b with
    | int j => exact gd_e h fun h1 h => gd_v h fun h2 => k1 i j h1 h2
    | _ => exact none_p h
  | lst l => cases l with
    | nil => exact none_p h
    | cons a l => cases l with
      | cons _ _ => exact none_p h
      | nil => cases b with
        | int j => exact gd_e h fun h1 h => gd_v h fun h2 => k2 a j (of_decide_eq_true h1) (of_decide_eq_true h2)
        | _ => exact none_p h
  | _ => exact none_p h
theorem mul_ok {i j : Int} (h1 : sm i = true) (h2 : sm j = true) : IntMulOk i j := by
  have := sm_iff h1
  have := sm_iff h2
  exact IntMulOk.of_left (intBits_le_64 (by omega) (by omega))
theorem sm_64 {i : Int} (h : sm i = true) : i.natAbs < 2 ^ 64 := Nat.lt_trans (sm_iff h) (by decide)
theorem pw_1 {j : Int} (h : j ≤ 1000) : j ≤ 1000000 := Int.le_trans h (by decide)
theorem nopy {i j : Int} (h1 : 0 < j) (h2 : sm j = true) : Builtin.divisionGoesByPylong i j = false := by
  have a2 := sm_iff h2
  refine PyProof.noPylong_of_log2 ?_
  have : Nat.log2 j.natAbs < 60 := (Nat.log2_lt (by omega)).mpr a2
  omega
theorem s_iiO {op : Operator} {f : Int → Int → Option AV} {a b r : AV} {av bv : Value} (ha : V g W av a) (hb : V g W bv b) (h : ii a b f = some r) (k : ∀ i j t u, f i j = some r → wpAny (Md g) A (binaryOp op (.int i t) (.int j u)) Q E sh) : wpAny (Md g) A (binaryOp op av bv) Q E sh :=
  ii_e h (P := fun a b => V g W av a → V g W bv b → wpAny (Md g) A (binaryOp op av bv) Q E sh) (fun i j e ha hb => ha.int_e fun t ee => ee ▸ hb.int_e fun u ee => ee ▸ k i j t u e) ha hb
theorem s_bin (C : Ctx g T rec k c x A) (S : St g x W ρ s.σ sh) {op : Operator} {a b r : AV} {av bv : Value} (ha : V g W av a) (hb : V g W bv b) (h : binV op a b = some r)
    (hQ : ∀ W' v sh', W.Le W' → St g x W' ρ s.σ sh' → V g W' v r → Q v sh') : wpAny (Md g) A (binaryOp op av bv) Q E sh := by
  have hQ : BQ g x W ρ s.σ Q r := hQ
  have hi : ∀ {i : Int}, BQ g x W ρ s.σ Q (.int i) → ∀ t t', Q (.int i t) { sh with toks := t' } := fun h t t' => h.int S t t'
  cases op with
  | Add =>
    exact addV_e h (P := fun a b r => V g W av a → V g W bv b → BQ g x W ρ s.σ Q r → wpAny (Md g) A (binaryOp .Add av bv) Q E sh) (fun _ _ ha hb hQ => ha.int_e fun _ ee => ee ▸ hb.int_e fun _ ee => ee ▸ add_int (hi hQ _ _)) (fun _ _ h1 h2 ha hb hQ => ha.str_e fun _ ee => ee ▸ hb.str_e fun _ ee => ee ▸ s_addS S h1 h2 hQ)
      (fun _ _ h1 h2 ha hb hQ => s_addL C S ha hb h1 h2 hQ) ha hb hQ
  | Sub => exact s_iiO ha hb h fun _ _ _ _ e => sub_int (hi (Option.some.inj e ▸ hQ) _ _)
  | Mult =>
    exact mulV_e h (P := fun a b r => V g W av a → V g W bv b → BQ g x W ρ s.σ Q r → wpAny (Md g) A (binaryOp .Mult av bv) Q E sh) (fun _ _ h1 h2 ha hb hQ => ha.int_e fun _ ee => ee ▸ hb.int_e fun _ ee => ee ▸ mul_int (hi hQ _ _) (mul_ok h1 h2))
      (fun _ _ h1 h2 ha hb hQ => hb.int_e fun _ ee => ee ▸ s_mulL C S ha h1 h2 fun h' t' vs m ms cs D F' N' hvs => hQ _ _ _ (le_push _ W) (D.add F' N' D.size (D.big C.O) _) (.lst (n := 0) (.head _) (hvs.mono (le_push _ W)))) ha hb hQ
  | Mod => exact s_iiO ha hb h fun _ _ _ _ e => gd_e e fun h1 e => mod_int' (Ne.symm (Int.ne_of_lt (of_decide_eq_true h1))) (hi (Option.some.inj e ▸ hQ) _ _)
  | Pow => exact s_iiO ha hb h fun _ _ _ _ e => gd_e e fun h1 e => gd_e e fun h2 e => gd_e e fun h3 e => pow_int_small (of_decide_eq_true h1) (pw_1 (of_decide_eq_true h2)) (sm_64 h3) (hi (Option.some.inj e ▸ hQ) _ _)
  | LShift => exact s_iiO ha hb h fun _ _ _ _ e => gd_e e fun h1 e => gd_e e fun h2 e => gd_e e fun h3 e => lshift_int_small (of_decide_eq_true h1) (pw_1 (of_decide_eq_true h2)) (sm_64 h3) (hi (Option.some.inj e ▸ hQ) _ _)
  | FloorDiv => exact s_iiO ha hb h fun _ _ _ _ e => gd_e e fun h1 e => gd_e e fun h2 e => floordiv_int (Ne.symm (Int.ne_of_lt (of_decide_eq_true h1))) (hi (Option.some.inj e ▸ hQ) _ _) (.inl (nopy (of_decide_eq_true h1) h2))
  | _ => exact none_p h
theorem s_BinOp {l r : Expr} {op : Operator} {p : Pos} (C : Ctx g T rec k c x A) (S : St g x W ρ s.σ sh) (h : stepE T rec k c (.BinOp l op r p) ρ s K KE) (hQ : PV g x W ρ K Q) (hE : PX g x KE E) : wpAny (Md g) A (eval (.BinOp l op r p) x.env) Q E sh := by
  refine wpAny_BinOp (C.e h S hE fun a s' W' av sh' le S' ha h' => C.e h' S' hE fun b s'' W'' bv sh'' le' S'' hb h'' => ?_)
  refine oK_e h'' fun v hv h'' => ?_
  exact s_bin C S'' (ha.mono le') hb hv fun W3 v' sh3 le3 S3 hv' => hQ _ _ _ _ _ ((le.trans le').trans le3) S3 hv' h''
theorem oL_e {P : Prop} {o : Option AV} {k : List AV → Prop} (h : oL o k) (f : ∀ l, o = some (.lst l) → k l → P) : P := by
  cases o with
  | none => exact h.elim
  | some v => cases v with
    | lst l => exact f l rfl h
    | _ => exact h.elim
theorem s_BinOpM {l r : Expr} {op : Operator} {p : Pos} (C : Ctx g T rec k c x A) (S : St g x W ρ s.σ sh) (h : stepM rec k c (.BinOp l op r p) ρ s K KE) (hQ : PV g x W ρ K Q) (hE : PX g x KE E) : wpAny (Md g) A (eval (.BinOp l op r p) x.env) Q E sh := by
  cases op with
  | Mult =>
    refine wpAny_BinOp (C.e h S hE fun a s' W' av sh' le S' ha h' => C.e h' S' hE fun b s'' W'' bv sh'' le' S'' hb h'' => oL_e h'' fun l' e h2 => ?_)
    refine mulV_e e (P := fun a b r => V g W'' av a → V g W'' bv b → r = .lst l' → wpAny (Md g) A (binaryOp .Mult av bv) Q E sh'') (fun _ _ _ _ _ _ e => by cases e) (fun y j h3 h4 ha hb e => ?_) (ha.mono le') hb rfl
    refine hb.int_e fun t ee => ee ▸ s_mulL C S'' ha h3 h4 fun h' t' vs m ms cs D F' N' hvs => ?_
    rw [AV.lst.inj e] at hvs
    refine hQ _ ⟨_, s''.ans⟩ _ _ _ ((le.trans le').trans (le_new _ W'')) (D.addM F' N' D.size (D.big C.O) (.lst (n := 0) (hvs.mono (le_new _ W''))) _) ?_ h2
    refine .ref ?_
    rw [← S''.lenAs]
    simp
  | _ => exact h.elim
theorem neg_e {P : AV → Prop} {a : AV} {k : Int → Prop} (h : match a with
      | .int i => k (-i)
      | _ => False) (f : ∀ i, k (-i) → P (.int i)) : P a := by
  cases a with
  | int i => exact f i h
  | _ => exact h.elim
theorem s_UnaryOp {op : UnaryOp} {y : Expr} {p : Pos} (C : Ctx g T rec k c x A) (S : St g x W ρ s.σ sh) (h : stepE T rec k c (.UnaryOp op y p) ρ s K KE) (hQ : PV g x W ρ K Q) (hE : PX g x KE E) : wpAny (Md g) A (eval (.UnaryOp op y p) x.env) Q E sh := by
  cases op with
  | USub =>
    rw [arm_eval_UnaryOp]
    exact wpAny_bind (C.e h S hE fun a s' W' av sh' le S' ha h' => wpAny_bind (wpAny_standAt (wpAny_holding (neg_e (k := fun i => K (.int i) s') h' (P := fun a => V g W' av a → _) (fun i h' ha => ha.int_e fun t ee => ee ▸ neg_int (hQ _ _ _ _ _ le (S'.toks _) (.int _ _) h')) ha))))
  | _ => exact h.elim
end
end Mine
end
section
set_option maxHeartbeats 4000000
open PySem PySem.W PySem.Spec PySem.Calls PyProof.Rows
namespace Mine
theorem OMap.dictOf {g : Glb} {o : Obj} {f : PySem.Str → Option Value} {n : Nat} (h : OMap g o f n) :
    ∃ es ep, o = dictOf es ep ∧ es.length ≤ n ∧ ∀ y, getL y es = some (f y) := by
  obtain ⟨⟨h1, h2, h3⟩, es, ep, hd, hk, hn, hf⟩ := h.old
  obtain ⟨cls, dict, data, slots⟩ := o
  simp only at h1 h2 h3 hd
  subst h1 h2 h3 hd
  refine ⟨es.toList, ep, by simp [W.dictOf], by simpa using hn, fun y => ?_⟩
  have e1 : ∀ e ∈ es.toList, e.key.isStr y = (strKind g.prog g.w).is y e.key ∧ e.refKey = false := by
    intro e he
    obtain ⟨k, hk1, _⟩ := hk e (Array.mem_toList_iff.mp he)
    refine ⟨((strKind g.prog g.w).strs y y 0 e.key (str_is (g := g) y 0)).symm, ?_⟩
    obtain ⟨t, ht⟩ := Value.isStrOf_shape (show Value.isStrOf k e.key = true from hk1)
    unfold DictEntry.refKey
    rw [ht]
  have e2 : es.toList.find? (fun e => e.key.isStr y) = es.toList.find? (fun e => (strKind g.prog g.w).is y e.key) := by
    have : ∀ l : List DictEntry, (∀ e ∈ l, e.key.isStr y = (strKind g.prog g.w).is y e.key) → l.find? (fun e => e.key.isStr y) = l.find? (fun e => (strKind g.prog g.w).is y e.key) := by
      intro l
      induction l with
      | nil => intro _; rfl
      | cons a r ih => intro h; rw [List.find?_cons, List.find?_cons, h a (.head _), ih fun e he => h e (.tail _ he)]
    exact this _ fun e he => (e1 e he).1
  unfold getL
  rw [e2, ← hf y]
  unfold findBy
  rw [← Array.find?_toList]
  cases q : es.toList.find? (fun e => (strKind g.prog g.w).is y e.key) with
  | some e => rfl
  | none =>
    have : es.toList.any (·.refKey) = false := by
      rw [List.any_eq_false]
      intro e he
      rw [(e1 e he).2]; simp
    simp only [this]
    rfl
section
variable {g : Glb} {T : Tabs} {rec : Rec} {k : Nat} {c : Cfg} {x : Cx} {W : Wd} {ρ : Loc} {s : Stt} {sh : Shared} {A : Around} {K : AV → Stt → Prop} {KE : KX} {Q E : Value → Shared → Prop}
structure FldOk (g : Glb) (C : Addr) (n : PySem.Str) : Prop where
  pg : plainGet g.K C n = true
  hd : hasDictIn g.K C = true
  at_ : ∃ attr, findIn g.K (.ref C) n = some attr ∧ noGet g.K attr = true
theorem St.inst_e {P : Prop} (O : CxOk g c x) (S : St g x W ρ s.σ sh) {v : Value} {C : Addr} {i : Nat} {d : List (PySem.Str × AV)} (hv : V g W v (.obj C i)) (hd : s.σ[i]? = some (.dct d))
    (f : ∀ a dx es ep, W.As[i]? = some dx → (a, instObj C dx) ∈ W.fz → InstAt sh.heap a (instObj C dx) C (some (dictOf es ep)) → (∀ y, lk d y = none → getL y es = some none) → (∀ y a, lk d y = some a → ∃ v, getL y es = some (some v) ∧ V g W v a) → .ref a = v → P) : P := by
  refine hv.obj_e fun a dx k1 k2 ee => S.atD k2 hd fun o fm ho m1 m2 m3 => ?_
  obtain ⟨es, ep, rfl, hn, hg⟩ := m1.dictOf
  exact f a dx es ep k2 k1 ⟨S.fzAt k1, rfl, rfl, ho⟩ (fun y e => by rw [hg, m3 y e]) (fun y av e => (m2 y av e).imp fun v h => ⟨by rw [hg, h.1], h.2⟩) ee
theorem nrV_e {w : Value} {r : AV} (h : nrV w = some r) : some (AV.raw w) = some r ∧ handedIn w = true := by
  cases w with
  | ref a => exact ⟨h, rfl⟩
  | _ => exact none_p h
theorem nr_e {a r : AV} (h : nr a = some r) : some a = some r := by
  cases a with
  | raw w => exact (nrV_e h).1
  | _ => exact h
theorem nr_hand {a r : AV} (h : nr a = some r) {v : Value} (hv : V g W v a) : handedIn v = true :=
  V.casesOn (motive_1 := fun v a _ => nr a = some r → handedIn v = true) hv (fun _ => rfl) (fun _ _ => rfl) (fun _ _ _ => rfl) (fun _ _ _ => rfl) (fun _ _ _ => rfl) (fun _ _ _ => rfl) (fun _ _ _ _ _ => rfl) (fun _ _ => rfl) (fun _ _ => rfl) (fun _ _ _ => rfl) (fun _ _ => rfl) (fun _ h => (nrV_e h).2) h
theorem noRaw_some {o : Option AV} {r : AV} (h : noRaw o = some r) : o = some r ∧ ∀ v, V g W v r → handedIn v = true := by
  cases o with
  | none => exact none_p h
  | some a =>
    have e := nr_e h
    cases e
    exact ⟨rfl, fun v hv => nr_hand h hv⟩
theorem s_atF (C' : Ctx g T rec k c x A) (hT : ∀ C n, T.fld C n = true → FldOk g C n) (S : St g x W ρ s.σ sh) {C : Addr} {i : Nat} {d : List (PySem.Str × AV)} {r : AV} {v : Value} {n : PySem.Str} {e : Bool} (hv : V g W v (.obj C i)) (hf : T.fld C n = true) (hd : s.σ[i]? = some (.dct d)) (h : noRaw (lk d n) = some r) (hQ : ∀ v' t, V g W v' r → Q v' { sh with toks := t }) :
    wpAny (Md g) A (getAttr v n e) Q E sh := by
  obtain ⟨e1, e2⟩ := noRaw_some (g := g) (W := W) h
  refine S.inst_e C'.O hv hd fun ad dx es ep _ _ I _ hg ee => ee ▸ S.e fun m ms cs D => ?_
  obtain ⟨v', g1, g2⟩ := hg n r e1
  have F := hT C n hf
  exact F.at_.elim fun attr f => get_own D.F C'.O.X I F.pg F.hd f.1 f.2 g1 (e2 v' g2) (hQ v' _ g2)
theorem s_attr (C' : Ctx g T rec k c x A) (hT : ∀ C n, T.fld C n = true → FldOk g C n) (S : St g x W ρ s.σ sh) {a r : AV} {v : Value} {n : PySem.Str} {e : Bool} (hv : V g W v a) (h : attrV T s.σ a n = some r) (hQ : ∀ v' t, V g W v' r → Q v' { sh with toks := t }) :
    wpAny (Md g) A (getAttr v n e) Q E sh := by
  cases a with
  | obj C i =>
    have h : atF (T.fld C n) n s.σ[i]? = some r := h
    generalize hf : T.fld C n = b at h
    generalize hd : s.σ[i]? = m at h
    cases b with
    | false => exact none_p h
    | true => cases m with
      | none => exact none_p h
      | some m => cases m with
        | lst _ => exact none_p h
        | dct d => exact s_atF C' hT S hv hf hd h hQ
  | _ => exact none_p h
theorem base_name {id n : PySem.Str} {q p : Pos} {env : Env} (h : baseOk (.Call (.Name id q) [] [] p) = true) (w : Sem Value) : attributeBase (.Call (.Name id q) [] [] p) n env w = w := by
  unfold baseOk at h
  dsimp only at h
  generalize e : seq id "super" = b at h
  cases b with
  | true => exact ff_p h
  | false =>
    rw [seq_decide] at e
    have : (id != ("super" : PySem.Str)) = true := bne_iff_ne.mpr (of_decide_eq_false e)
    unfold attributeBase
    simp only [this, Bool.true_or, if_true]
theorem base_of {o : Expr} {n : PySem.Str} {env : Env} (h : baseOk o = true) (w : Sem Value) : attributeBase o n env w = w := by
  cases o with
  | Call f as kw p =>
    cases f with
    | Name id q => cases as with
      | nil => cases kw with
        | nil => exact base_name h w
        | cons _ _ => rfl
      | cons _ _ => rfl
    | _ => rfl
  | _ => rfl
theorem s_Attribute {y : Expr} {n : PySem.Str} {p : Pos} (C : Ctx g T rec k c x A) (hT : ∀ C n, T.fld C n = true → FldOk g C n) (S : St g x W ρ s.σ sh) (h : stepE T rec k c (.Attribute y n p) ρ s K KE) (hQ : PV g x W ρ K Q) (hE : PX g x KE E) :
    wpAny (Md g) A (eval (.Attribute y n p) x.env) Q E sh := by
  refine cnd_e h fun hb h => ?_
  refine Attribute_any_ (C.e h S hE fun a s' W' av sh' le S' ha h' => ?_) ?_
  · refine oK_e h' fun r hr h' => ?_
    exact s_attr C hT S' ha hr fun v' t hv' => hQ _ _ _ _ _ le (S'.toks t) hv' h'
  · rw [arm_eval_Attribute, base_of hb]
end
end Mine
end
section
set_option maxHeartbeats 4000000
open PySem PySem.W PySem.Spec PySem.Calls PyProof.Rows
namespace Mine
section
variable {g : Glb} {T : Tabs} {rec : Rec} {k : Nat} {c : Cfg} {x : Cx} {W : Wd} {ρ : Loc} {s : Stt} {sh : Shared} {A : Around} {K : AV → Stt → Prop} {KE : KX} {Q E : Value → Shared → Prop}
theorem idx_some {i : Int} {n j : Nat} (h : idx? i n = some j) : 0 ≤ i ∧ i < n ∧ j = i.toNat ∧ i < 1000000 := by
  unfold idx? at h
  split at h
  · rename_i h1
    split at h
    · rename_i h2
      split at h
      · rename_i h3; cases h; exact ⟨of_decide_eq_true h1, of_decide_eq_true h2, rfl, of_decide_eq_true h3⟩
      · cases h
    · cases h
  · cases h
theorem atN_get : ∀ (l : List AV) (n : Nat), atN l n = l[n]?
  | [], _ => by simp [atN]
  | _ :: _, 0 => rfl
  | _ :: l, n + 1 => by simp [atN, atN_get l n]
theorem nth_some {l : List AV} {i : Int} {r : AV} (h : nth? l i = some r) : 0 ≤ i ∧ i < l.length ∧ l[i.toNat]? = some r ∧ i < 1000000 := by
  unfold nth? at h
  split at h
  · rename_i n
    split at h
    · rename_i h1
      have h1 := Nat.le_of_ble_eq_true h1
      rw [atN_get] at h
      obtain ⟨h2, _⟩ := List.getElem?_eq_some_iff.mp h
      exact ⟨Int.natCast_nonneg n, by show (n : Int) < _; omega, h, by show (n : Int) < _; omega⟩
    · cases h
  · cases h
theorem lt63 {i : Int} {n : Nat} (_ : i < (n : Int)) (h2 : i < 1000000) : i < 2 ^ 63 := Int.lt_trans h2 (by decide)
theorem seqIndex_of {i : Int} {n : Nat} (h0 : 0 ≤ i) (h1 : i < n) : seqIndex? i n = some i.toNat := by
  unfold seqIndex?
  have : ¬ (i < 0) := by omega
  simp only [this, if_false]
  rw [if_pos]
  simp only [Bool.and_eq_true, decide_eq_true_eq]
  exact ⟨h0, h1⟩
/-- an item: what lies behind the two operands -/
noncomputable def TQ (g : Glb) (W : Wd) (sh : Shared) (Q : Value → Shared → Prop) (r : AV) : Prop := ∀ v t, V g W v r → Q v { sh with toks := t }
noncomputable abbrev SubS (slice : Expr) : Prop := ∀ o i, subscripted slice false o i = operate [o, i] (getItem o i)
theorem ch_ok {j : Int} (h0 : 0 ≤ j) (hj : j < 1000000) : (decide (j < -(2 ^ 63 : Int)) || decide (j ≥ 2 ^ 63)) = false := by
  simp only [Bool.or_eq_false_iff, decide_eq_false_iff_not]; omega
section
variable {value slice : Expr} (hs : SubS slice)
include hs
theorem tl_list {ad : Addr} {vs : List Value} {l : List AV} {i r : AV} {iv : Value} (hL : sh.heap.IsList ad vs.toArray) (hv : VA g W vs l) (hi : V g W iv i) (h : subI l i = some r) (hQ : TQ g W sh Q r) : wpAny (Md g) A (subscriptTail value slice (.ref ad) iv) Q E sh := by
  cases i with
  | int j =>
    refine hi.int_e fun t ee => ee ▸ ?_
    obtain ⟨h0, h1, hr, hj⟩ := nth_some h
    obtain ⟨v, e1, e2⟩ := hv.get hr
    exact tail_any hL.typeIs slot_list_getitem.lookup (wpAny_getItem_list hL h0 (lt63 h1 hj) (by rw [List.getElem?_toArray]; exact e1) (hQ v sh.toks e2)) (hs _ _)
  | _ => exact none_p h
theorem tl_tup {l : List AV} {i r : AV} {av iv : Value} (C : Ctx g T rec k c x A) (S : St g x W ρ s.σ sh) (ha : V g W av (.tup l)) (hi : V g W iv i) (h : subI l i = some r) (hQ : TQ g W sh Q r) : wpAny (Md g) A (subscriptTail value slice av iv) Q E sh := by
  cases i with
  | int j =>
    refine hi.int_e fun t ee => ee ▸ ha.tup_e fun a vs n k1 k2 ee => ee ▸ ?_
    obtain ⟨h0, h1, hr, hj⟩ := nth_some h
    obtain ⟨v, e1, e2⟩ := k2.get hr
    have IT : IsTup sh.heap a vs.toArray := ⟨_, S.kn C.O k1, rfl, _, rfl⟩
    exact item_tupleT IT (Int.le_trans (by decide) h0) (lt63 h1 hj) (seqIndex_of h0 (by rw [k2.length]; exact h1)) e1 (hQ v sh.toks e2) (hs _ _)
  | _ => exact none_p h
theorem tl_str {y : PySem.Str} {u : Tok} {i r : AV} {iv : Value} (hi : V g W iv i) (h : subX y i = some r) (hQ : TQ g W sh Q r) : wpAny (Md g) A (subscriptTail value slice (.str y u) iv) Q E sh := by
  cases i with
  | int j =>
    refine hi.int_e fun t ee => ee ▸ ?_
    have h : chAt y (idx? j y.cps.size) = some r := h
    generalize e : idx? j y.cps.size = o at h
    cases o with
    | none => exact none_p h
    | some q =>
      have h2 : chO y.cps.toList[q]? = some r := h
      generalize ec : y.cps.toList[q]? = o at h2
      cases o with
      | none => exact none_p h2
      | some ch =>
        obtain ⟨h0, h1, rfl, hj⟩ := idx_some e
        refine some_p h2 (P := fun r => TQ g W sh Q r → _) (fun hQ => ?_) hQ
        refine tail_any (typeIs_str sh y u) slot_str_getitem.lookup (getItem_str (i := j) (c := ch) (ch_ok h0 hj) ?_ (hQ _ _ (.str _ _))) (hs _ _)
        rw [show y.length = y.cps.size from rfl, seqIndex_of h0 h1]
        simpa using ec
  | _ => exact none_p h
theorem tl_dct {d : List (PySem.Str × AV)} {f : PySem.Str → Option Value} {ad : Addr} {i r : AV} {iv : Value} (M : sh.heap.MapOf (strKind g.prog g.w) ad f) (hd : ∀ y a, lk d y = some a → ∃ v, f y = some v ∧ V g W v a) (hi : V g W iv i) (h : subK d i = some r) (hQ : TQ g W sh Q r) : wpAny (Md g) A (subscriptTail value slice (.ref ad) iv) Q E sh := by
  cases i with
  | str y =>
    refine hi.str_e fun t ee => ee ▸ ?_
    obtain ⟨v, e1, e2⟩ := hd _ _ h
    exact tail_any M.typeIs PySem.slot_dict_getitem.lookup (wpAny_getItem_of (str_is y t) M e1 (hQ v _ e2)) (hs _ _)
  | _ => exact none_p h
theorem s_tail (C : Ctx g T rec k c x A) (S : St g x W ρ s.σ sh) {a i r : AV} {av iv : Value} (ha : V g W av a) (hi : V g W iv i) (h : subV s.σ a i = some r)
    (hQ : TQ g W sh Q r) : wpAny (Md g) A (subscriptTail value slice av iv) Q E sh := by
  cases a with
  | tup l => exact tl_tup hs C S ha hi h hQ
  | lst l => exact ha.lst_e fun _ _ _ k1 k2 ee => ee ▸ tl_list hs ⟨_, S.fzAt k1, rfl, _, rfl⟩ k2 hi h hQ
  | str y => exact ha.str_e fun _ ee => ee ▸ tl_str hs hi h hQ
  | dct d => exact ha.dct_e fun _ _ _ _ k1 k2 k3 _ ee => ee ▸ tl_dct hs (k2.mapOf (S.kn C.O k1)) (fun _ _ e => k3.get e) hi h hQ
  | ref j =>
    have h : subM s.σ[j]? i = some r := h
    generalize e : s.σ[j]? = m at h
    cases m with
    | none => exact none_p h
    | some m => cases m with
      | lst l => exact ha.ref_e fun _ k1 ee => ee ▸ S.atL k1 e fun _ _ ho hv => tl_list hs ⟨_, ho, rfl, _, rfl⟩ hv hi h hQ
      | dct d => exact ha.ref_e fun _ k1 ee => ee ▸ S.atD k1 e fun _ _ ho k2 k3 _ => tl_dct hs (k2.mapOf ho) k3 hi h hQ
  | _ => exact none_p h
end
theorem s_Subscript {y i : Expr} {p : Pos} (C : Ctx g T rec k c x A) (S : St g x W ρ s.σ sh) (hi : SubS i) (h : rec k c (.e y) ρ s (fun o s => vK o fun a => rec k c (.e i) ρ s (fun o s => vK o fun b => oK (subV s.σ a b) fun r => K r s) KE) KE) (hQ : PV g x W ρ K Q) (hE : PX g x KE E) :
    wpAny (Md g) A (eval (.Subscript y i p) x.env) Q E sh := by
  refine Subscript_ (C.e h S hE fun a s' W' av sh' le S' ha h' => C.e h' S' hE fun b s'' W'' bv sh'' le' S'' hb h'' => ?_)
  refine oK_e h'' fun r hr h'' => ?_
  exact s_tail hi C S'' (ha.mono le') hb hr fun v t hv => hQ _ _ _ _ _ (le.trans le') (S''.toks t) hv h''
theorem optE_none {k : Nat} {c : Cfg} {ρ : Loc} {s : Stt} {K : Option AV → Stt → Prop} {KE : KX} (h : optE rec k c ρ none s K KE) : K none s := h
theorem s_optE {y : Option Expr} {K : Option AV → Stt → Prop} {Q : Value → Shared → Prop} (C : Ctx g T rec k c x A) (S : St g x W ρ s.σ sh) (h : optE rec k c ρ y s K KE) (hE : PX g x KE E)
    (hQ : ∀ a s' W' v sh', W.Le W' → St g x W' ρ s'.σ sh' → (match a with | none => v = .none | some a => V g W' v a) → K a s' → Q v sh') : wpAny (Md g) A (evalPart y x.env) Q E sh := by
  cases y with
  | none => exact wpAny_evalPart_none (hQ none s W _ sh (.refl W) S rfl h)
  | some y => exact wpAny_evalPart_some (C.e h S hE fun a s' W' v sh' le S' hv h' => hQ (some a) s' W' v sh' le S' hv h')
noncomputable abbrev slObj (l u : Value) : Obj := { cls := .type "slice", data := .fields #[l, u, .none] }
noncomputable abbrev shS (sh : Shared) (l u : Value) : Shared := { sh with heap := sh.heap.push (slObj l u) }
theorem nat_of {i : Int} (h : 0 ≤ i) : ∃ n : Nat, i = n := ⟨i.toNat, (Int.toNat_of_nonneg h).symm⟩
section
variable {y : Expr} {lo hi : Option Expr} {q : Pos}
theorem sl_tup {l : List AV} {i : Int} {t : Tok} {av : Value} (C : Ctx g T rec k c x A) (S : St g x W ρ s.σ sh) (ha : V g W av (.tup l)) (h1 : 1 ≤ i) (h2 : i ≤ l.length) (h3 : small l = true) (hQ : BQ g x W ρ s.σ Q (.tup (l.drop i.toNat))) :
    wpAny (Md g) A (subscriptTail y (.Slice lo hi none q) av (.ref sh.heap.objs.size)) Q E (shS sh (.int i t) .none) := by
  obtain ⟨n', rfl⟩ := nat_of (Int.le_trans (by decide) h1)
  refine ha.tup_e fun ad vs n k1 k2 ee => ee ▸ ?_
  have hlen := k2.length
  have IT : IsTup (sh.heap.push (slObj (.int n' t) .none)) ad vs.toArray := ⟨_, Heap.get?_push_of_some _ (S.kn C.O k1), rfl, _, rfl⟩
  have h1 := Int.ofNat_le.mp h1
  have h2 := Int.ofNat_le.mp h2
  refine tail_any IT.typeIs slot_tuple_getitem.lookup (getItem_tuple_from IT (Heap.IsSliceOf.new sh.heap _ _ .none) h1 (by rw [List.size_toArray, hlen]; exact h2) ?_ (by rw [List.size_toArray, hlen]; exact Nat.le_trans (small_le h3) (by decide))) rfl
  have le := le_push (sh.heap.objs.size, slObj (.int n' t) .none) W
  exact hQ _ _ _ (le.trans (le_push _ _)) ((S.push C.O _ rfl).push C.O _ rfl) (.tup (n := 0) (.inr (.head _)) ((k2.drop _).mono (le.trans (le_push _ _))))
theorem sl_from {l : List AV} {i : Int} {t : Tok} {av : Value} (C : Ctx g T rec k c x A) (S : St g x W ρ s.σ sh) (ha : V g W av (.lst l)) (h1 : 0 ≤ i) (h3 : small l = true) (hQ : BQ g x W ρ s.σ Q (.lst (l.drop i.toNat))) :
    wpAny (Md g) A (subscriptTail y (.Slice lo hi none q) av (.ref sh.heap.objs.size)) Q E (shS sh (.int i t) .none) := by
  obtain ⟨n', rfl⟩ := nat_of h1
  refine ha.lst_e fun ad vs n k1 k2 ee => ee ▸ ?_
  have hlen := k2.length
  have IL : (sh.heap.push (slObj (.int n' t) .none)).IsList ad vs.toArray := ⟨_, Heap.get?_push_of_some _ (S.fzAt k1), rfl, _, rfl⟩
  refine tail_any IL.typeIs slot_list_getitem.lookup (wpAny_getItem_list_slice IL (Heap.IsSliceOf.new sh.heap _ _ .none) (.int _ t) .none .none (by simp) ?_ (by rw [List.size_toArray, hlen]; exact Nat.le_trans (small_le h3) (by decide))) rfl
  rw [show slicePick vs.toArray (some (n' : Int)) none none = (vs.drop n').toArray by rw [slicePick_from']]
  have le := le_push (sh.heap.objs.size, slObj (.int n' t) .none) W
  exact hQ _ _ _ (le.trans (le_push _ _)) ((S.push C.O _ rfl).push C.O _ rfl) (.lst (n := 0) (.head _) ((k2.drop _).mono (le.trans (le_push _ _))))
theorem sl_upto {l : List AV} {i : Int} {t : Tok} {av : Value} (C : Ctx g T rec k c x A) (S : St g x W ρ s.σ sh) (ha : V g W av (.lst l)) (h1 : 0 ≤ i) (h3 : small l = true) (hQ : BQ g x W ρ s.σ Q (.lst (l.take i.toNat))) :
    wpAny (Md g) A (subscriptTail y (.Slice lo hi none q) av (.ref sh.heap.objs.size)) Q E (shS sh .none (.int i t)) := by
  obtain ⟨n', rfl⟩ := nat_of h1
  refine ha.lst_e fun ad vs n k1 k2 ee => ee ▸ ?_
  have hlen := k2.length
  have IL : (sh.heap.push (slObj .none (.int n' t))).IsList ad vs.toArray := ⟨_, Heap.get?_push_of_some _ (S.fzAt k1), rfl, _, rfl⟩
  refine tail_any IL.typeIs slot_list_getitem.lookup (wpAny_getItem_list_slice IL (Heap.IsSliceOf.new sh.heap _ _ .none) .none (.int _ t) .none (by simp) ?_ (by rw [List.size_toArray, hlen]; exact Nat.le_trans (small_le h3) (by decide))) rfl
  rw [show slicePick vs.toArray none (some (n' : Int)) none = (vs.take n').toArray by rw [slicePick_upto']]
  have le := le_push (sh.heap.objs.size, slObj .none (.int n' t)) W
  exact hQ _ _ _ (le.trans (le_push _ _)) ((S.push C.O _ rfl).push C.O _ rfl) (.lst (n := 0) (.head _) ((k2.take _).mono (le.trans (le_push _ _))))
noncomputable def OV (g : Glb) (W : Wd) (v : Value) (o : Option AV) : Prop := match o with
  | none => v = .none
  | some a => V g W v a
theorem s_sl {a r : AV} {l u : Option AV} {av lv uv : Value} (C : Ctx g T rec k c x A) (S : St g x W ρ s.σ sh) (ha : V g W av a) (hl : OV g W lv l) (hu : OV g W uv u) (h : sliceV a l u = some r) (hQ : BQ g x W ρ s.σ Q r) :
    wpAny (Md g) A (subscriptTail y (.Slice lo hi none q) av (.ref sh.heap.objs.size)) Q E (shS sh lv uv) := by
  cases l with
  | some l => cases u with
    | some _ => exact none_p h
    | none =>
      cases (hu : uv = .none)
      cases l with
      | int i =>
        refine V.int_e (hl : V g W lv (.int i)) fun t ee => ee ▸ ?_
        cases a with
        | tup l => exact gd_e h fun h1 h => gd_e h fun h2 h => gd_v h (P := fun r => BQ g x W ρ s.σ Q r → _) (fun h3 hQ => sl_tup C S ha (of_decide_eq_true h1) (of_decide_eq_true h2) h3 hQ) hQ
        | lst l => exact gd_e h fun h1 h => gd_v h (P := fun r => BQ g x W ρ s.σ Q r → _) (fun h3 hQ => sl_from C S ha (of_decide_eq_true h1) h3 hQ) hQ
        | _ => exact none_p h
      | _ => exact none_p h
  | none => cases u with
    | none => exact none_p h
    | some u =>
      cases (hl : lv = .none)
      cases u with
      | int i =>
        refine V.int_e (hu : V g W uv (.int i)) fun t ee => ee ▸ ?_
        cases a with
        | lst l => exact gd_e h fun h1 h => gd_v h (P := fun r => BQ g x W ρ s.σ Q r → _) (fun h3 hQ => sl_upto C S ha (of_decide_eq_true h1) h3 hQ) hQ
        | _ => exact none_p h
      | _ => exact none_p h
theorem OV.mono {W' : Wd} {v : Value} {o : Option AV} (le : W.Le W') (h : OV g W v o) : OV g W' v o := by
  cases o with
  | none => exact h
  | some a => exact V.mono le h
theorem s_Slice {p : Pos} (C : Ctx g T rec k c x A) (S : St g x W ρ s.σ sh) (h : stepE T rec k c (.Subscript y (.Slice lo hi none q) p) ρ s K KE) (hQ : PV g x W ρ K Q) (hE : PX g x KE E) :
    wpAny (Md g) A (eval (.Subscript y (.Slice lo hi none q) p) x.env) Q E sh := by
  refine Subscript_ (C.e h S hE fun a s' W' av sh' le S' ha h' => ?_)
  refine wpAny_Slice (s_optE (K := fun l s => optE rec k c ρ hi s (fun h s => oK (sliceV a l h) fun r => K r s) KE) C S' h' hE fun l s₁ W₁ lv sh₁ le₁ S₁ hl h₁ => s_optE (K := fun h s => oK (sliceV a l h) fun r => K r s) C S₁ h₁ hE fun u s₂ W₂ uv sh₂ le₂ S₂ hu h₂ => wpAny_evalPart_none ?_)
  exact oK_e h₂ fun r hr h₂ => s_sl C S₂ (ha.mono (le₁.trans le₂)) (OV.mono le₂ hl) hu hr fun W3 v sh3 le3 S3 hv => hQ _ _ _ _ _ (((le.trans le₁).trans le₂).trans le3) S3 hv h₂
end
end
end Mine
end
section
set_option maxHeartbeats 4000000
open PySem PySem.W PySem.Spec PySem.Calls PyProof.Rows
namespace Mine
/-- a CheckFault is raised -/
noncomputable def RaiseS (g : Glb) : Prop := ∀ (c : Cfg) (x : Cx) (W : Wd) (ρ : Loc) (σ : List MO) (sh : Shared) (A : Around) (Q : Flow → Shared → Prop) (E : Value → Shared → Prop) (np : Pos) (txt : PySem.Str) (u : Nat) (cp p pos : Pos),
  CxOk g c x → Room A 3 0 → AOk A x.fr → St g x W ρ σ sh → lk c.sc.names "CheckFault" = some .globalImplicit → (∀ e sh', ExcA g x ρ e sh' → E e sh') →
  wpAny (Md g) A (exec (.Raise (some (.Call (.Name "CheckFault" np) [.Constant (.str txt) u cp] [] p)) none pos) x.env) Q E sh
structure SetOk (g : Glb) (C : Addr) (n : PySem.Str) : Prop where
  sa : findIn g.K (.ref C) "__setattr__" = some (some (.builtin "object.__setattr__"))
  po : plainOver g.K C = true
  tk : takerIn g.K C n = some none
  hd : hasDictIn g.K C = true
structure TOk (g : Glb) (T : Tabs) : Prop where
  rs : RaiseS g
  set : ∀ C n, T.fld C n = true → SetOk g C n
  tab : TabOk g T
  fld : ∀ C n, T.fld C n = true → FldOk g C n
  cf : ∀ C n, T.cf C n = true → FldOk g C n ∧ findIn g.K (.ref C) n = some none
  mt : ∀ C n f, T.mt C n = some f → plainGet g.K C n = true ∧ findIn g.K (.ref C) n = some (some (.ref f)) ∧ isFn g.K (.ref f) = true
  vl : ∀ n f as σ r σ', T.VL n f as σ r σ' → Valid g n f as σ r σ'
section
variable {g : Glb} {T : Tabs} {rec : Rec} {k : Nat} {c : Cfg} {x : Cx} {W : Wd} {ρ : Loc} {s : Stt} {sh : Shared} {A : Around} {K : AV → Stt → Prop} {KE : KX} {Q E : Value → Shared → Prop}
theorem hide_ns {h : Heap} {l : List Addr} {L : Addr} {m : PySem.Str → Option Value} (hn : h.Ns L m) (hL : L ∉ l) : (hideAll h l).Ns L m := by
  obtain ⟨o, es, ep, ho, r⟩ := hn
  exact ⟨o, es, ep, hideAll_get _ ho hL, r⟩
/-- from a frame into a call, and back -/
theorem St.enter {σ : List MO} (O : CxOk g c x) (S : St g x W ρ σ sh) : ∃ B, BOk g x.fr B ∧ Hp g B W σ sh ∧
    (∀ W' σ' sh', W.Le W' → Hp g B W' σ' sh' → St g x W' ρ σ' sh') ∧ (∀ e sh', ExcO g x.fr B e sh' → ExcA g x ρ e sh') := by
  refine S.e fun m ms cs D => ?_
  have inl : ∀ p ∈ ms ++ W.fz, p ∈ ms ++ (cs ++ W.fz) := fun p hp => (List.mem_append.mp hp).elim (fun h => List.mem_append.mpr (.inl h)) fun h => List.mem_append.mpr (.inr (List.mem_append.mpr (.inr h)))
  have hid : ∀ b, b ∈ (ms ++ W.fz).map (·.1) → ∃ p ∈ ms ++ W.fz, p.1 = b := fun b hb => List.mem_map.mp hb
  have nL : x.env.locals ∉ (ms ++ W.fz).map (·.1) := fun q => by
    obtain ⟨p, hp, e⟩ := hid _ q
    exact (D.N p (inl p hp)).2.1 e
  have n0 : ∀ b o, x.h₀.get? b = some o → b ∉ (ms ++ W.fz).map (·.1) := fun b o e q => by
    obtain ⟨p, hp, rfl⟩ := hid _ q
    rw [(D.N p (inl p hp)).2.2] at e; cases e
  have hnd := D.nd
  rw [List.map_append] at hnd
  obtain ⟨nd1, nd2, nd3⟩ := List.nodup_append.mp hnd
  have nc : ∀ p ∈ cs, p.1 ∉ (ms ++ W.fz).map (·.1) := fun p hp q => by
    obtain ⟨r, hr, e⟩ := hid _ q
    rcases List.mem_append.mp hr with h | h
    · exact nd3 r.1 (List.mem_map_of_mem h) p.1 (List.mem_map_of_mem hp) e
    · exact D.dj p (List.mem_append.mpr (.inr hp)) r h e.symm
  have st : x.h₀.StaysIn (hideAll sh.heap ((ms ++ W.fz).map (·.1))) := fun b o e => hideAll_get _ (D.F.keep b o e) (n0 b o e)
  have nsB := hide_ns D.F.ns nL
  have fcs : ∀ p ∈ cs, (hideAll sh.heap ((ms ++ W.fz).map (·.1))).get? p.1 = some p.2 := fun p hp => hideAll_get _ (D.N p (List.mem_append.mpr (.inr (List.mem_append.mpr (.inl hp))))).1 (nc p hp)
  obtain ⟨oL, esL, epL, hoL, hdL, _⟩ := id nsB
  refine ⟨hideAll sh.heap ((ms ++ W.fz).map (·.1)), ⟨O.X.keeps (fun b o e => st b o e), O.T.keeps (fun b o e => st b o e), fun b o e => st b o (O.bs b o e), fun e he => ?_, ?_⟩, ⟨ms, fun b o e => of_hideAll _ e, Nat.le_of_eq (hideAll_size _ _), fun p hp => ⟨(D.N p (inl p hp)).1, hideAll_none _ (List.mem_map_of_mem hp)⟩, D.as, D.mo, nd1,
      fun p hp q hq => D.dj p (List.mem_append.mpr (.inl hp)) q hq, fun p hp => D.lo p (inl p hp), D.ge, D.dr, D.os⟩, fun W' σ' sh' le H => ?_, fun e sh' X => ?_⟩
  · obtain ⟨h1, L, h2, h3, h4⟩ := O.ff e he
    refine ⟨h1, L, h2, h3, ?_⟩
    rcases h4 with rfl | ⟨o, h5, h6⟩
    · exact ⟨oL, hoL, fun vs q => by rw [hdL] at q; cases q⟩
    · exact ⟨o, st L o h5, h6⟩
  · obtain ⟨e0, rest, h1, h2⟩ := O.top
    obtain ⟨_, L, h3, _⟩ := O.ff e0 (h1 ▸ .head _)
    exact ⟨e0, rest, h1, L, h3⟩
  · obtain ⟨ms', H⟩ := H
    have bn : ∀ p ∈ ms' ++ W'.fz, ∀ b o, (hideAll sh.heap ((ms ++ W.fz).map (·.1))).get? b = some o → p.1 ≠ b := fun p hp b o e q => by
      have := (H.N p hp).2; rw [q, e] at this; cases this
    have h0n : ∀ p ∈ ms' ++ W'.fz, x.h₀.get? p.1 = none := fun p hp => by
      cases q : x.h₀.get? p.1 with
      | none => rfl
      | some o => have := (H.N p hp).2; rw [st _ _ q] at this; cases this
    have outl : ∀ p, p ∈ ms' ++ (cs ++ W'.fz) → p ∈ cs ∨ p ∈ ms' ++ W'.fz := fun p hp => by
      rcases List.mem_append.mp hp with h | h
      · exact .inr (List.mem_append.mpr (.inl h))
      · rcases List.mem_append.mp h with h | h
        · exact .inl h
        · exact .inr (List.mem_append.mpr (.inr h))
    refine ⟨m, ms', cs, ⟨nsB.keeps H.keep, fun b o e => H.keep b o (st b o e), D.F.above⟩, fun p hp => ?_, fun y a e => ?_, H.as, H.mo, fun y oa e => ?_, ?_, fun p hp q hq => ?_, fun p hp => ?_, H.ge, H.dr, H.os, D.ex⟩
    · rcases outl p hp with h | h
      · have z := D.N p (List.mem_append.mpr (.inr (List.mem_append.mpr (.inl h))))
        exact ⟨H.keep _ _ (fcs p h), z.2⟩
      · exact ⟨(H.N p h).1, bn p h _ _ hoL, h0n p h⟩
    · obtain ⟨v, h1, h2⟩ := D.vars y a e
      exact ⟨v, h1, h2.mono le⟩
    · obtain ⟨ca, oo, ov, h1, h2, h3, h4⟩ := D.cel y oa e
      exact ⟨ca, oo, ov, h1, h2, h3, fun a ha => let ⟨v, q1, q2⟩ := h4 a ha; ⟨v, q1, q2.mono le⟩⟩
    · rw [List.map_append]
      refine List.nodup_append.mpr ⟨H.nd, nd2, fun a ha b hb e => ?_⟩
      obtain ⟨p, hp, rfl⟩ := List.mem_map.mp ha
      obtain ⟨q, hq, rfl⟩ := List.mem_map.mp hb
      exact bn p (List.mem_append.mpr (.inl hp)) _ _ (fcs q hq) e
    · rcases List.mem_append.mp hp with h | h
      · exact H.dj p h q hq
      · exact Ne.symm (bn q (List.mem_append.mpr (.inr hq)) _ _ (fcs p h))
    · rcases outl p hp with h | h
      · exact D.lo p (List.mem_append.mpr (.inr (List.mem_append.mpr (.inl h))))
      · exact H.lo p h
  · obtain ⟨a, a0, rfl, ⟨f1, f2, f3, f4⟩, hu, r⟩ := X
    exact ⟨a, a0, rfl, f1, f2, f3, .fly f4, (Heap.UpToSlots.of_keeps (fun b o e => st b o e)).trans hu, ⟨m, W, hu.ns nsB, D.vars⟩, r⟩
theorem Room.dn {n m k : Nat} (R : Room A n k) (h : m < n) : Room A m 2 :=
  ⟨Nat.lt_trans (Nat.add_lt_add_left h _) R.d, Nat.lt_of_le_of_lt (Nat.add_le_add_right (Nat.le_trans (Nat.le_trans (Nat.add_le_add_left (by decide : 2 ≤ 8) (A.units + 8 * m)) (Nat.add_le_add_left (Nat.mul_le_mul_left 8 h) A.units)) (Nat.le_add_right _ k)) 90) R.u⟩
theorem req_e {P : Prop} {f : Value} {as : List AV} (h : req T c ρ f as s K KE) (f2 : ∀ (a : Ans) (r : List Ans), T.VL a.need f as s.σ a.res a.σ → a.need < c.n → (match a.res with
    | some v => K v ⟨a.σ, r⟩
    | none => KE ρ ⟨a.σ, r⟩) → P) : P := by
  unfold req at h
  generalize s.ans = l at h
  cases l with
  | nil => exact h.elim
  | cons a r => exact f2 a r h.1 h.2.1 h.2.2
theorem s_req {f : Value} {as : List AV} {vs : List Value} (C : Ctx g T rec k c x A) (Z : TOk g T) (S : St g x W ρ s.σ sh) (hv : VA g W vs as) (h : req T c ρ f as s K KE) (hQ : PV g x W ρ K Q) (hE : PX g x KE E) :
    keepIn g.K f = true ∧ wpAny (Md g) A (call f vs) Q E sh := by
  refine req_e h fun a r h1 h2 h3 => ?_
  obtain ⟨hk, VL⟩ := Z.vl _ _ _ _ _ _ h1
  obtain ⟨B, b1, b2, b3, b4⟩ := S.enter C.O
  refine ⟨hk, wpAny_call (VL A x.fr B W vs sh (wants Q E) C.a (C.R.dn h2) b1 b2 hv (fun v av W' sh' e le H hv' => ?_) fun e ex sh' X => ?_)⟩
  · rw [e] at h3
    exact hQ v ⟨a.σ, r⟩ W' av sh' le (b3 W' _ sh' le H) hv' h3
  · rw [e] at h3
    exact hE ρ ⟨a.σ, r⟩ ex sh' (b4 ex sh' X) h3
theorem req_keep {f : Value} {as : List AV} (Z : TOk g T) (h : req T c ρ f as s K KE) : keepIn g.K f = true := by
  unfold req at h
  split at h
  · exact h.elim
  · exact (Z.vl _ _ _ _ _ _ h.1).1
end
end Mine
end
section
set_option maxHeartbeats 4000000
open PySem PySem.W PySem.Spec PySem.Calls PyProof.Rows
namespace Mine
section
variable {g : Glb} {T : Tabs} {rec : Rec} {k : Nat} {c : Cfg} {x : Cx} {W : Wd} {ρ : Loc} {s : Stt} {sh : Shared} {A : Around} {K : AV → Stt → Prop} {KE : KX} {Q E : Value → Shared → Prop}
theorem ite_e {P : Prop} {c : Prop} [Decidable c] {a b : Option AV} {v : AV} (h : (if c then a else b) = some v) (k1 : c → a = some v → P) (k2 : b = some v → P) : P := by
  split at h
  · exact k1 ‹_› h
  · exact k2 h
theorem none_e {P : Prop} {α : Type} {v : α} (h : none = some v) : P := by cases h
theorem some_v {α : Type} {P : α → Prop} {a v : α} (h : some a = some v) (k : P a) : P v := by cases h; exact k
theorem okR_iff {a b : Int} (h : okR a b = true) : -1000000 ≤ a ∧ a ≤ 1000000 ∧ -1000000 ≤ b ∧ b ≤ 1000000 := by
  unfold okR at h
  split at h
  · rename_i h1
    split at h
    · rename_i h2
      split at h
      · rename_i h3
        exact ⟨of_decide_eq_true h1, of_decide_eq_true h2, of_decide_eq_true h3, of_decide_eq_true h⟩
      · cases h
    · cases h
  · cases h
theorem StD.same {m : PySem.Str → Option Value} {ms cs : List (Addr × Obj)} {σ : List MO} {h' : Heap} (D : StD g x W ρ σ sh m ms cs) (F' : Fr x.h₀ x.env.locals h' m) (N' : News x.h₀ x.env.locals h' (ms ++ (cs ++ W.fz))) (t : Nat) : St g x W ρ σ { sh with heap := h', toks := t } :=
  ⟨m, ms, cs, F', N', D.vars, D.as, D.mo, D.cel, D.nd, D.dj, D.lo, D.ge, D.dr, D.os, D.ex⟩
theorem VA.ofInts : ∀ {vs : List Value} {ns : List Int}, IntsAre vs ns → VA g W vs (ns.map AV.int)
  | _, _, .nil => .nil
  | _, _, .cons _ _ h => .cons (.int _ _) (VA.ofInts h)
theorem V.int' {i j : Int} {t : Tok} (h : i = j) : V g W (.int i t) (.int j) := h ▸ .int i t
theorem log_sm {i : Int} (h : i.natAbs < 1152921504606846976) : i.natAbs.log2 < 60 := by
  by_cases hz : i.natAbs = 0
  · rw [hz]; decide
  · exact (Nat.log2_lt hz).mpr h
theorem intsF_eq (a : Int) (n : Nat) : intsF a n = (rangeInts a 1 n).map AV.int := by
  unfold intsF rangeInts
  rw [List.map_map]
  refine List.map_congr_left fun i _ => ?_
  simp
theorem rangeSize_1 (a b : Int) : Builtin.Range.rangeSize a b 1 = ((b - a).toNat : Int) := by
  rw [rangeSize_one]
  omega
theorem okR_sm {a b : Int} (h : okR a b = true) : Builtin.Range.small a b 1 = true := by
  have h := okR_iff h
  exact small_one (by omega) (by omega) (by omega) (by omega)
theorem okR_len {a b : Int} (h : okR a b = true) : (b - a).toNat ≤ 2 ^ 24 := by
  have h := okR_iff h
  omega
theorem small_63 {α : Type} {l : List α} (h : small l = true) : (l.length : Int) < 2 ^ 63 := by
  have := small_le h
  omega
theorem bi_range1 {i : Int} {t : Tok} (C : Ctx g T rec k c x A) (S : St g x W ρ s.σ sh) (hQ : BQ g x W ρ s.σ Q (.rng 0 i)) : wpAny (Md g) A (call (.type "range") [.int i t]) Q E sh :=
  call_range_1 (hQ _ _ _ (le_push _ W) ((S.push C.O _ rfl).toks _) (.rng (.head _)))
theorem bi_range2 {i j : Int} {t u : Tok} (C : Ctx g T rec k c x A) (S : St g x W ρ s.σ sh) (hQ : BQ g x W ρ s.σ Q (.rng i j)) : wpAny (Md g) A (call (.type "range") [.int i t, .int j u]) Q E sh :=
  call_range_2 (hQ _ _ _ (le_push _ W) ((S.push C.O _ rfl).toks _) (.rng (.head _)))
theorem bi_list {a b : Int} {r : Addr} {t u w : Tok} (C : Ctx g T rec k c x A) (S : St g x W ρ s.σ sh) (k1 : (r, rngObj a b t u w) ∈ W.fz) (h1 : okR a b = true) (hQ : BQ g x W ρ s.σ Q (.lst (intsF a (b - a).toNat))) : wpAny (Md g) A (call (.type "list") [.ref r]) Q E sh := by
  have ho := S.fzAt k1
  refine S.e fun m ms cs D => ?_
  refine list_rangeD C.a.h D.F D.N ho (okR_sm h1) (rangeSize_1 _ _) (okR_len h1) fun h' tk ys F' N' hk hn hl hp hc => ?_
  have hs : ∀ p ∈ (sh.heap.objs.size, listOf ys.toArray hp.1.choose) :: (ms ++ (cs ++ W.fz)), h'.get? p.1 = some p.2 ∧ p.1 ≠ x.env.locals ∧ x.h₀.get? p.1 = none := by
    intro p hp'
    cases hp' with
    | head => exact ⟨hp.1.choose_spec, Nat.ne_of_gt D.F.ns.lt, hn⟩
    | tail _ hp' => exact N' p hp'
  refine hQ _ _ _ (le_push _ W) (D.add F' hs D.size (D.big C.O) tk) (.lst (n := hp.1.choose) (.head _) ?_)
  rw [intsF_eq]
  exact VA.ofInts (IntsAre.ofCarried hc)
theorem bi_tuple {l : List AV} {v : Value} (C : Ctx g T rec k c x A) (S : St g x W ρ s.σ sh) (hv : V g W v (.lst l)) (h1 : Nat.ble l.length 1000 = true) (hQ : BQ g x W ρ s.σ Q (.tup l)) : wpAny (Md g) A (call (.type "tuple") [v]) Q E sh := by
  refine hv.lst_e fun ad vs n k1 k2 ee => ee ▸ ?_
  have h1 := Nat.le_of_ble_eq_true h1
  have hl := k2.length
  have ho := S.fzAt k1
  refine S.e fun m ms cs D => ?_
  refine kde_tupleOf D.F D.N ⟨_, ho, rfl, _, rfl⟩ (by rw [List.size_toArray, hl]; exact Nat.le_trans h1 (by decide)) rfl fun a h' F' N' lt => ?_
  have hm : (ad, listOf vs.toArray n) ∈ ms ++ (cs ++ W.fz) := List.mem_append.mpr (.inr (List.mem_append.mpr (.inr k1)))
  exact hQ _ _ _ (le_push _ W) (D.add F' N' (fun p hp => Nat.ne_of_lt (lt p hp)) (Nat.lt_trans (D.lo _ hm) (lt _ hm)) sh.toks) (.tup (n := 0) (.inr (.head _)) (k2.mono (le_push _ W)))
theorem bi_str {i : Int} {t : Tok} (S : St g x W ρ s.σ sh) (h1 : sm i = true) (hQ : BQ g x W ρ s.σ Q (.str (PySem.Str.ofString (toString i)))) : wpAny (Md g) A (call (.type "str") [.int i t]) Q E sh :=
  P.str_of_int (Nat.lt_trans (log_sm (sm_iff h1)) (by decide)) (hQ W _ _ (.refl W) (S.toks _) (.str _ _))
theorem bi_len {ad : Addr} {vs : List Value} {l : List AV} (S : St g x W ρ s.σ sh) (hl : sh.heap.IsList ad vs.toArray) (hv : VA g W vs l) (hs : small l = true) (hQ : BQ g x W ρ s.σ Q (.int l.length)) : wpAny (Md g) A (call (.builtin "len") [.ref ad]) Q E sh := by
  refine PyProof.Rows.len_list hl (by rw [List.size_toArray, hv.length]; exact small_63 hs) ?_
  rw [List.size_toArray, hv.length]
  exact hQ.int S _ _
theorem bi_lenT {v : Value} {l : List AV} (C : Ctx g T rec k c x A) (S : St g x W ρ s.σ sh) (hv : V g W v (.tup l)) (hs : small l = true) (hQ : BQ g x W ρ s.σ Q (.int l.length)) : wpAny (Md g) A (call (.builtin "len") [v]) Q E sh := by
  refine hv.tup_e fun a vs n k1 k2 ee => ee ▸ ?_
  refine PyProof.Rows.len_tuple ⟨_, S.kn C.O k1, rfl, _, rfl⟩ (by rw [List.size_toArray, k2.length]; exact small_63 hs) ?_
  rw [List.size_toArray, k2.length]
  exact hQ.int S _ _
theorem bi_lenL {v : Value} {l : List AV} (S : St g x W ρ s.σ sh) (hv : V g W v (.lst l)) (hs : small l = true) (hQ : BQ g x W ρ s.σ Q (.int l.length)) : wpAny (Md g) A (call (.builtin "len") [v]) Q E sh :=
  hv.lst_e fun _ _ _ k1 k2 ee => ee ▸ bi_len S ⟨_, S.fzAt k1, rfl, _, rfl⟩ k2 hs hQ
theorem bi_lenS {y : PySem.Str} {t : Tok} (S : St g x W ρ s.σ sh) (hs : small y.cps.toList = true) (hQ : BQ g x W ρ s.σ Q (.int y.cps.size)) : wpAny (Md g) A (call (.builtin "len") [.str y t]) Q E sh :=
  PyProof.Rows.len_str (fun h => absurd (small_63 hs) (Int.not_lt.mpr h)) (hQ.int S _ _)
theorem bi_lenR {v : Value} {i : Nat} {r : AV} (S : St g x W ρ s.σ sh) (hv : V g W v (.ref i)) (h : lenR s.σ i = some r) (hQ : BQ g x W ρ s.σ Q r) : wpAny (Md g) A (call (.builtin "len") [v]) Q E sh := by
  unfold lenR at h
  generalize e : s.σ[i]? = o at h
  cases o with
  | none => cases h
  | some mo =>
    cases mo with
    | dct l => cases h
    | lst l =>
      refine gd_e h fun h1 h => ?_
      cases h
      refine hv.ref_e fun a k1 ee => ee ▸ ?_
      obtain ⟨o, ho, hr⟩ := S.at k1 e
      cases hr with
      | lst hv => exact bi_len S ⟨_, ho, rfl, _, rfl⟩ hv h1 hQ
theorem abs_v (i : Int) : (if i < 0 then -i else i) = i.natAbs := by split <;> omega
theorem bi_abs {i : Int} {t : Tok} (S : St g x W ρ s.σ sh) (hQ : BQ g x W ρ s.σ Q (.int i.natAbs)) : wpAny (Md g) A (call (.builtin "abs") [.int i t]) Q E sh := by
  refine call_abs_int fun u tk => ?_
  rw [abs_v]
  exact hQ.int S _ _
theorem min_v (i j : Int) : (if j < i then j else i) = min i j := by
  by_cases h : j < i
  · rw [if_pos h, Int.min_eq_right (Int.le_of_lt h)]
  · rw [if_neg h, Int.min_eq_left (Int.not_lt.mp h)]
theorem max_v (i j : Int) : (if i < j then j else i) = max i j := by
  by_cases h : i < j
  · rw [if_pos h, Int.max_eq_right (Int.le_of_lt h)]
  · rw [if_neg h, Int.max_eq_left (Int.not_lt.mp h)]
theorem bi_min {i j : Int} {t u : Tok} (C : Ctx g T rec k c x A) (S : St g x W ρ s.σ sh) (hQ : BQ g x W ρ s.σ Q (.int (min i j))) : wpAny (Md g) A (call (.builtin "min") [.int i t, .int j u]) Q E sh :=
  S.e fun _ _ _ D => min_two_N C.a.h D.F D.N fun _ tk F' N' => hQ _ _ _ (.refl W) (D.same F' N' tk) (V.int' (min_v i j))
theorem bi_max {i j : Int} {t u : Tok} (C : Ctx g T rec k c x A) (S : St g x W ρ s.σ sh) (hQ : BQ g x W ρ s.σ Q (.int (max i j))) : wpAny (Md g) A (call (.builtin "max") [.int i t, .int j u]) Q E sh :=
  S.e fun _ _ _ D => max_two_N C.a.h D.F D.N fun _ tk F' N' => hQ _ _ _ (.refl W) (D.same F' N' tk) (V.int' (max_v i j))
theorem bi_divmod {i j : Int} {t u : Tok} (C : Ctx g T rec k c x A) (S : St g x W ρ s.σ sh) (h1 : 0 < j) (h2 : sm j = true) (hQ : BQ g x W ρ s.σ Q (.tup [.int (Int.fdiv i j), .int (Int.fmod i j)])) : wpAny (Md g) A (call (.builtin "divmod") [.int i t, .int j u]) Q E sh :=
  S.e fun _ _ _ D => divmod_N D.F D.N (Ne.symm (Int.ne_of_lt h1)) (fun _ F' N' => hQ _ _ _ (le_push _ W) (D.add F' N' D.size (D.big C.O) _) (.tup (vs := [_, _]) (n := 0) (.inr (.head _)) (.cons (.int _ _) (.cons (.int _ _) .nil))))
    (.inl (PyProof.noPylong_of_log2 (Nat.lt_trans (log_sm (sm_iff h2)) (by decide))))
theorem bi_chr {i : Int} {t : Tok} (S : St g x W ρ s.σ sh) (h1 : 0 ≤ i) (h2 : i < 128) (hQ : BQ g x W ρ s.σ Q (.str ⟨#[i.toNat]⟩)) : wpAny (Md g) A (call (.builtin "chr") [.int i t]) Q E sh := by
  refine P.chr_of_int ?_ (hQ W _ _ (.refl W) (S.toks _) (.str _ _))
  clear hQ S
  simp only [Bool.or_eq_false_iff, decide_eq_false_iff_not]; omega
theorem bi_ord {y : PySem.Str} {t : Tok} {r : AV} (S : St g x W ρ s.σ sh) (h : ordV y = some r) (hQ : BQ g x W ρ s.σ Q r) : wpAny (Md g) A (call (.builtin "ord") [.str y t]) Q E sh := by
  unfold ordV at h
  generalize e : y.cps.toList = l at h
  cases l with
  | nil => cases h
  | cons ch q => cases q with
    | cons _ _ => cases h
    | nil =>
      cases h
      have e1 := Array.ext' (ys := #[ch]) e
      refine ord_of_one (by simp only [PySem.Str.length, e1]; rfl) ?_
      rw [e1]
      exact hQ.int S _ _
theorem bi_T1 (C : Ctx g T rec k c x A) (S : St g x W ρ s.σ sh) {f : String} {a r : AV} {v : Value} (hv : V g W v a) (h : bT1 f a = some r) (hQ : BQ g x W ρ s.σ Q r) : wpAny (Md g) A (call (.type f) [v]) Q E sh := by
  cases a with
  | int i =>
    refine ite_e h (fun e h => ?_) fun h => ite_e h (fun e h => ?_) none_e
    · subst e
      exact gd_v h (P := fun r => BQ g x W ρ s.σ Q r → _) (fun _ hQ => hv.int_e fun t ee => ee ▸ bi_range1 C S hQ) hQ
    · subst e
      exact gd_v h (P := fun r => BQ g x W ρ s.σ Q r → _) (fun h1 hQ => hv.int_e fun t ee => ee ▸ bi_str S h1 hQ) hQ
  | rng a b =>
    refine ite_e h (fun e h => ?_) none_e
    subst e
    exact gd_v h (P := fun r => BQ g x W ρ s.σ Q r → _) (fun h1 hQ => hv.rng_e fun _ _ _ _ k ee => ee ▸ bi_list C S k h1 hQ) hQ
  | lst l =>
    refine ite_e h (fun e h => ?_) none_e
    subst e
    exact gd_v h (P := fun r => BQ g x W ρ s.σ Q r → _) (fun h1 hQ => bi_tuple C S hv h1 hQ) hQ
  | _ => exact none_e h
theorem bi_T2 (C : Ctx g T rec k c x A) (S : St g x W ρ s.σ sh) {f : String} {a b r : AV} {vs : List Value} (hv : VA g W vs [a, b]) (h : bT2 f a b = some r) (hQ : BQ g x W ρ s.σ Q r) : wpAny (Md g) A (call (.type f) vs) Q E sh := by
  cases a with
  | int i => cases b with
    | int j =>
      refine ite_e h (fun e h => ?_) none_e
      subst e
      exact gd_v h (P := fun r => BQ g x W ρ s.σ Q r → _) (fun _ hQ => hv.i2 fun t u ee => ee ▸ bi_range2 C S hQ) hQ
    | _ => exact none_e h
  | _ => exact none_e h
theorem bi_F1 (C : Ctx g T rec k c x A) (S : St g x W ρ s.σ sh) {f : String} {a r : AV} {v : Value} (hv : V g W v a) (h : bF1 f s.σ a = some r) (hQ : BQ g x W ρ s.σ Q r) : wpAny (Md g) A (call (.builtin f) [v]) Q E sh := by
  cases a with
  | tup l =>
    refine ite_e h (fun e h => ?_) none_e
    subst e
    exact gd_v h (P := fun r => BQ g x W ρ s.σ Q r → _) (fun h1 hQ => bi_lenT C S hv h1 hQ) hQ
  | lst l =>
    refine ite_e h (fun e h => ?_) none_e
    subst e
    exact gd_v h (P := fun r => BQ g x W ρ s.σ Q r → _) (fun h1 hQ => bi_lenL S hv h1 hQ) hQ
  | str y =>
    refine ite_e h (fun e h => ?_) fun h => ite_e h (fun e h => ?_) none_e
    · subst e
      exact gd_v h (P := fun r => BQ g x W ρ s.σ Q r → _) (fun h1 hQ => hv.str_e fun t ee => ee ▸ bi_lenS S h1 hQ) hQ
    · subst e
      exact hv.str_e fun t ee => ee ▸ bi_ord S h hQ
  | ref i =>
    refine ite_e h (fun e h => ?_) none_e
    subst e
    exact bi_lenR S hv h hQ
  | int i =>
    refine ite_e h (fun e h => ?_) fun h => ite_e h (fun e h => ?_) none_e
    · subst e
      exact some_v h (P := fun r => BQ g x W ρ s.σ Q r → _) (fun hQ => hv.int_e fun t ee => ee ▸ bi_abs S hQ) hQ
    · subst e
      exact gd_e h fun h1 h => gd_v h (P := fun r => BQ g x W ρ s.σ Q r → _) (fun h2 hQ => hv.int_e fun t ee => ee ▸ bi_chr S (of_decide_eq_true h1) (of_decide_eq_true h2) hQ) hQ
  | _ => exact none_e h
theorem bi_F2 (C : Ctx g T rec k c x A) (S : St g x W ρ s.σ sh) {f : String} {a b r : AV} {vs : List Value} (hv : VA g W vs [a, b]) (h : bF2 f a b = some r) (hQ : BQ g x W ρ s.σ Q r) : wpAny (Md g) A (call (.builtin f) vs) Q E sh := by
  cases a with
  | int i => cases b with
    | int j =>
      refine ite_e h (fun e h => ?_) fun h => ite_e h (fun e h => ?_) fun h => ite_e h (fun e h => ?_) none_e
      · subst e
        exact some_v h (P := fun r => BQ g x W ρ s.σ Q r → _) (fun hQ => hv.i2 fun t u ee => ee ▸ bi_min C S hQ) hQ
      · subst e
        exact some_v h (P := fun r => BQ g x W ρ s.σ Q r → _) (fun hQ => hv.i2 fun t u ee => ee ▸ bi_max C S hQ) hQ
      · subst e
        exact gd_e h fun h1 h => gd_v h (P := fun r => BQ g x W ρ s.σ Q r → _) (fun h2 hQ => hv.i2 fun t u ee => ee ▸ bi_divmod C S (of_decide_eq_true h1) h2 hQ) hQ
    | _ => exact none_e h
  | _ => exact none_e h
theorem s_bi (C : Ctx g T rec k c x A) (S : St g x W ρ s.σ sh) {f : String} {ty : Bool} {as : List AV} {vs : List Value} {r : AV} (hv : VA g W vs as) (h : biV f ty s.σ as = some r)
    (hQ : ∀ W' v sh', W.Le W' → St g x W' ρ s.σ sh' → V g W' v r → Q v sh') : wpAny (Md g) A (call (match ty with | true => .type f | false => .builtin f) vs) Q E sh := by
  cases as with
  | nil => exact none_e h
  | cons a q => cases q with
    | nil => cases ty with
      | true => exact hv.one_e fun v hv ee => ee ▸ bi_T1 C S hv h hQ
      | false => exact hv.one_e fun v hv ee => ee ▸ bi_F1 C S hv h hQ
    | cons b q => cases q with
      | nil => cases ty with
        | true => exact bi_T2 C S hv h hQ
        | false => exact bi_F2 C S hv h hQ
      | cons _ _ => exact none_e h
end
end Mine
end
section
set_option maxHeartbeats 4000000
open PySem PySem.W PySem.Spec PySem.Calls PyProof.Rows
namespace Mine
section
variable {g : Glb} {T : Tabs} {rec : Rec} {k : Nat} {c : Cfg} {x : Cx} {W : Wd} {ρ : Loc} {s : Stt} {sh : Shared} {A : Around} {K : AV → Stt → Prop} {KE : KX} {Q E : Value → Shared → Prop}
theorem ns_cons {y : Expr} {r : List Expr} (h : allNS (y :: r) = true) : notStar y = true ∧ allNS r = true := by
  cases y <;> first | exact ⟨rfl, h⟩ | cases h
theorem s_plain {pos : Pos} {env : Env} : ∀ {l : List Expr}, allNS l = true → (backTo pos (starEach l env)).any (·.1) = false
  | [], _ => rfl
  | y :: r, h => by
    rw [star_cons (ns_cons h).1]
    show (false || (backTo pos (starEach r env)).any (·.1)) = false
    rw [s_plain (ns_cons h).2]; rfl
theorem s_evalArgs {M : Model} {f : Value} {pos : Pos} {env : Env} {l : List Expr} {Q : Args → Shared → Prop} (hn : allNS l = true) (h : wpAny M A (spliced (backTo pos (starEach l env))) (fun vs s₁ => Q ⟨vs, []⟩ s₁) E sh) :
    wpAny M A (evalArgs f true (backTo pos (starEach l env)) []) Q E sh := by
  cases l with
  | nil =>
    unfold evalArgs
    show wpAny M A (spliced [] >>= _) Q E sh
    refine wpAny_bind (wpAny_mono h (fun vs s' h' => ?_) fun _ _ x => x)
    refine wpAny_holding ?_
    exact wpAny_bind (wpAny_pure (wpAny_bind (wpAny_pure (wpAny_pure h'))))
  | cons y r =>
    rw [star_cons (ns_cons hn).1] at h ⊢
    exact evalArgs_plain h
/-- the call of a def or a class of the text's own -/
theorem s_callK {f : Value} {first : List Value} {pos : Pos} {l : List Expr} (hn : allNS l = true) (h : wpAny (Md g) A (spliced (backTo pos (starEach l x.env))) (fun vs s₁ => (keepIn g.K f = true ∧ g.K.In s₁.heap) ∧ wpAny (Md g) A (call f (first ++ vs)) Q E s₁) E sh) :
    wpAny (Md g) A (callWith pos f first (backTo pos (starEach l x.env)) []) Q E sh :=
  callWith_of (P := fun h => keepIn g.K f = true ∧ g.K.In h) (by rw [s_plain hn]; rfl) (fun h p => keeps_K p.1 h p.2) (s_evalArgs hn h)
theorem s_callB {id : String} {first : List Value} {pos : Pos} {l : List Expr} (hn : allNS l = true) (h : wpAny (Md g) A (spliced (backTo pos (starEach l x.env))) (fun vs s₁ => wpAny (Md g) A (call (.builtin id) (first ++ vs)) Q E s₁) E sh) :
    wpAny (Md g) A (callWith pos (.builtin id) first (backTo pos (starEach l x.env)) []) Q E sh :=
  callWith_builtin (s_plain hn) (s_evalArgs hn h)
theorem s_callT {id : String} {first : List Value} {pos : Pos} {l : List Expr} (hn : allNS l = true) (h : wpAny (Md g) A (spliced (backTo pos (starEach l x.env))) (fun vs s₁ => wpAny (Md g) A (call (.type id) (first ++ vs)) Q E s₁) E sh) :
    wpAny (Md g) A (callWith pos (.type id) first (backTo pos (starEach l x.env)) []) Q E sh :=
  PyProof.Rows.callWith_type (s_plain hn) (s_evalArgs hn h)
theorem s_callNo {f fa : AV} {fv : Value} {first : List Value} {pos : Pos} {l : List Expr} (C : Ctx g T rec k c x A) (hn : allNS l = true) (S : St g x W ρ s.σ sh) (h : evs rec k c ρ l [] s (fun as s => callF T c ρ fa as s K KE) KE) (hE : PX g x KE E) (hf : ∀ as s, ¬ callF T c ρ fa as s K KE) :
    wpAny (Md g) A (callWith pos fv first (backTo pos (starEach l x.env)) []) Q E sh := by
  unfold callWith
  exact wpAny_bind (wpAny_holding (wpAny_mono (s_evalArgs (Q := fun _ _ => False) hn (s_list C hE S h fun as s' W' vs sh' le S' hv h' => hf _ _ h')) (fun _ _ h => h.elim) fun _ _ h => h))
theorem s_callF {fa : AV} {fv : Value} {l : List Expr} {p : Pos} (C : Ctx g T rec k c x A) (Z : TOk g T) (S : St g x W ρ s.σ sh) (hfv : V g W fv fa) (hn : allNS l = true) (h : evs rec k c ρ l [] s (fun as s => callF T c ρ fa as s K KE) KE) (hQ : PV g x W ρ K Q) (hE : PX g x KE E) :
    wpAny (Md g) A (callWith p fv [] (backTo p (starEach l x.env)) []) Q E sh := by
  cases fa with
  | raw fv =>
    refine hfv.raw_e fun ee => ee ▸ ?_
    cases fv with
    | ref a =>
      refine s_callK hn (s_list C hE S h fun as s'' W'' vs sh'' le' S'' hv h'' => ?_)
      have := s_req C Z S'' hv h'' (hQ.le le') hE
      exact ⟨⟨this.1, S''.keepK C.O⟩, this.2⟩
    | builtin b => exact s_callB hn (s_list C hE S h fun as s'' W'' vs sh'' le' S'' hv h'' => oK_e h'' fun r hr h'' => s_bi (ty := false) C S'' hv hr fun W3 v sh3 le3 S3 hv3 => hQ _ _ _ _ _ (le'.trans le3) S3 hv3 h'')
    | type b => exact s_callT hn (s_list C hE S h fun as s'' W'' vs sh'' le' S'' hv h'' => oK_e h'' fun r hr h'' => s_bi (ty := true) C S'' hv hr fun W3 v sh3 le3 S3 hv3 => hQ _ _ _ _ _ (le'.trans le3) S3 hv3 h'')
    | _ => exact s_callNo (f := .none) C hn S h hE fun _ _ q => q
  | _ => exact s_callNo (f := .none) C hn S h hE fun _ _ q => q
theorem s_CallN {f : Expr} {l : List Expr} {p : Pos} (he : eval (.Call f l [] p) x.env = (do callWith p (← eval f x.env) [] (backTo p (starEach l x.env)) (backToKw p (keywordEach [] x.env)))) (C : Ctx g T rec k c x A) (Z : TOk g T) (S : St g x W ρ s.σ sh) (hn : allNS l = true)
    (h : rec k c (.e f) ρ s (fun r s => vK r fun f => evs rec k c ρ l [] s (fun as s => callF T c ρ f as s K KE) KE) KE) (hQ : PV g x W ρ K Q) (hE : PX g x KE E) : wpAny (Md g) A (eval (.Call f l [] p) x.env) Q E sh := by
  rw [he]
  exact wpAny_bind (C.e h S hE fun fa s' W' fv sh' le S' hfv h' => s_callF C Z S' hfv hn h' (hQ.le le) hE)
end
end Mine
end
section
set_option maxHeartbeats 4000000
open PySem PySem.W PySem.Spec PySem.Calls PyProof.Rows
namespace Mine
section
variable {g : Glb} {T : Tabs} {rec : Rec} {k : Nat} {c : Cfg} {x : Cx} {W : Wd} {ρ : Loc} {s : Stt} {sh : Shared} {A : Around} {K : AV → Stt → Prop} {KE : KX} {Q E : Value → Shared → Prop}
theorem idxOf_e {y : PySem.Str} {k i : Nat} {d : AV} {r : List AV} (h : idxOf y k (d :: r) = some i) : ∃ y', d = .str y' ∧ ((y' = y ∧ k = i) ∨ (y' ≠ y ∧ idxOf y (k + 1) r = some i)) := by
  cases d with
  | str y' =>
    refine ⟨y', rfl, ?_⟩
    have h : (match seq y' y with
      | true => some k
      | false => idxOf y (k + 1) r) = some i := h
    generalize e : seq y' y = b at h
    cases b with
    | true => exact .inl ⟨seq_iff.mp e, Option.some.inj h⟩
    | false => exact .inr ⟨fun q => by rw [seq_iff.mpr q] at e; exact ff_p e.symm, h⟩
  | _ => exact none_p h
theorem tidx_tree {ad : Addr} {vs : List Value} {ds : List AV} {y : PySem.Str} {t : Tok} {i n : Nat} {P : PySem.Fin → Shared → Prop} (hv : VA g W vs ds) (ho : sh.heap.get? ad = some (tupObj vs n)) (hi : idxOf y 0 ds = some i)
    (h : ∀ t' u, P (.done (.ret (.int i t'))) { sh with toks := u }) : wpAny (Md g) A (Builtin.«tuple.index» ⟨[.ref ad, .str y t], []⟩) P E sh := by
  show wpAny _ _ (Builtin.Tuple.tupleItemsOf (.ref ad) >>= _) _ _ sh
  refine wpAny_bind (wpAny_tupleItemsOf ho rfl ?_)
  dsimp only
  refine wpAny_bind (wpAny_pure (wpAny_bind (wpAny_pure (wpAny_bind ?_))))
  rw [Std.Legacy.Range.forIn_eq_forIn_range']
  have hlen := hv.length
  refine wpAny_forIn_list _ (fun rest r s' => r.1 = none ∧ s' = sh ∧ ∃ j, rest = List.range' j (vs.length - j) 1 ∧ idxOf y j (ds.drop j) = some i) _ ?_ ?_ _ _ ⟨rfl, rfl, 0, ?_, hi⟩
  · rintro a rest r s' ⟨hr, rfl, j, he, hj⟩
    have hj1 : j < vs.length := by
      rcases Nat.lt_or_ge j vs.length with q | q
      · exact q
      · rw [Nat.sub_eq_zero_of_le q] at he; cases he
    rw [show vs.length - j = (vs.length - (j + 1)) + 1 from (Nat.succ_pred_eq_of_pos (Nat.sub_pos_of_lt hj1)).symm, List.range'_succ] at he
    obtain ⟨rfl, rfl⟩ := List.cons.inj he
    have hj2 : a < ds.length := hlen ▸ hj1
    rw [List.drop_eq_getElem_cons hj2] at hj
    have hget : ds[a]? = some ds[a] := List.getElem?_eq_getElem hj2
    obtain ⟨v, hv1, hv2⟩ := hv.get hget
    have e3 : vs.toArray[a]? = some v := by simpa using hv1
    rw [e3]
    obtain ⟨y', hy, hc⟩ := idxOf_e hj
    rw [hy] at hv2
    obtain ⟨u, rfl⟩ : ∃ u, v = .str y' u := hv2.str_e fun u ee => ⟨u, ee.symm⟩
    dsimp only
    refine wpAny_bind (wpAny_eqBool_str ?_)
    rcases hc with ⟨e4, e5⟩ | ⟨e4, hj⟩
    · rw [if_pos (decide_eq_true e4)]
      subst e5
      exact wpAny_bind (wpAny_mono (wpAny_ret_mkInt (Q := fun v s2 => P (.done (.ret v)) s2) (h _ _)) (fun fin s2 ⟨v, e, z⟩ => wpAny_pure (wpAny_pure (by rw [e]; exact z))) fun _ _ z => z)
    · rw [decide_eq_false e4, if_neg Bool.false_ne_true]
      exact wpAny_pure ⟨rfl, rfl, a + 1, rfl, hj⟩
  · rintro r s' ⟨hr, rfl, j, he, hj⟩
    have : ds.drop j = [] := by
      apply List.drop_eq_nil_of_le
      rw [← hlen]
      have := congrArg List.length he
      simp at this
      omega
    rw [this] at hj
    cases hj
  · show List.range' 0 ((min vs.toArray.size vs.toArray.size - 0 + 1 - 1) / 1) 1 = _
    simp

theorem St.jdAt (S : St g x W ρ s.σ sh) {d : Addr} (J : JD g W d) : TabAtH (tupleKind (intKind g.prog g.w)) (encTuple PyData.int) sh.heap d (jps joinL) := by
  obtain ⟨o, es, ep, xs, h1, h2, h3, h4, h5, h6, h7⟩ := J
  refine ⟨?_, xs, ⟨o, es, ep, S.fzAt h1, h2, h3, h4, fun y hy => ?_, h5⟩, h7⟩
  · refine S.e fun m ms cs D => ?_
    have := D.lo _ (List.mem_append.mpr (.inr (List.mem_append.mpr (.inr h1))))
    refine beq_eq_false_iff_ne.mpr fun e => ?_
    have this : @LT.lt Nat _ 3 d := this
    rw [show d = 1 from e] at this
    exact absurd this (by decide)
  · obtain ⟨ok, h8, h9⟩ := h6 y hy
    exact h9.key (S.fzAt h8)
noncomputable def MQ (g : Glb) (x : Cx) (W : Wd) (ρ : Loc) (Q : Value → Shared → Prop) (r : AV × List MO) : Prop := ∀ v sh', St g x W ρ r.2 sh' → V g W v r.1 → Q v sh'
theorem m_get {f : PySem.Str → Option Value} {l : List (PySem.Str × AV)} {d : AV} {dv : Value} {y : PySem.Str} {t : Tok} (k3 : VD g W f l) (k4 : ∀ x, lk l x = none → f x = none) (S : St g x W ρ s.σ sh) (hd : V g W dv d) (hQ : MQ g x W ρ Q (pr2 s.σ d (lk l y))) : Q ((f y).getD dv) { sh with toks := t } := by
  generalize e : lk l y = o at hQ
  cases o with
  | some a =>
    obtain ⟨u, e1, e2⟩ := k3.get e
    rw [e1]
    exact hQ _ _ (S.toks _) e2
  | none =>
    rw [k4 y e]
    exact hQ _ _ (S.toks _) hd
theorem m_get1 {l : List (PySem.Str × AV)} {a : AV} {v self : Value} {r : AV × List MO} (C : Ctx g T rec k c x A) (S : St g x W ρ s.σ sh) (hs : V g W self (.dct l)) (hv : V g W v a) (h : mGet s.σ l a .none = some r) (hQ : MQ g x W ρ Q r) : wpAny (Md g) A (call (.builtin "dict.get") [self, v]) Q E sh := by
  cases a with
  | str y =>
    exact hs.dct_e fun a o f n k1 k2 k3 k4 ee => ee ▸ hv.str_e fun t ee => ee ▸ some_v h (P := fun r => MQ g x W ρ Q r → _) (fun hQ =>
      call_meetsIn PySem.F.slot_dict_get (k2.mapOf (S.kn C.O k1)).typeIs PySem.F.entry_dict_get (PySem.F.args_dict_get_2 _ _) (meets_dict_get (strKind g.prog g.w) _ (str_is y t) (S.noSys C.TO k1)) ⟨_, k2.mapOf (S.kn C.O k1), m_get k3 k4 S .none hQ⟩) hQ
  | _ => exact none_e h
theorem m_get2 {l : List (PySem.Str × AV)} {a d : AV} {v w self : Value} {r : AV × List MO} (C : Ctx g T rec k c x A) (S : St g x W ρ s.σ sh) (hs : V g W self (.dct l)) (hv : V g W v a) (hw : V g W w d) (h : mGet s.σ l a d = some r) (hQ : MQ g x W ρ Q r) : wpAny (Md g) A (call (.builtin "dict.get") [self, v, w]) Q E sh := by
  cases a with
  | str y =>
    exact hs.dct_e fun a o f n k1 k2 k3 k4 ee => ee ▸ hv.str_e fun t ee => ee ▸ some_v h (P := fun r => MQ g x W ρ Q r → _) (fun hQ =>
      call_meetsIn PySem.F.slot_dict_get (k2.mapOf (S.kn C.O k1)).typeIs PySem.F.entry_dict_get (PySem.F.args_dict_get_3 _ _ _) (meets_dict_get_default (strKind g.prog g.w) _ (str_is y t) (S.noSys C.TO k1) _) ⟨_, k2.mapOf (S.kn C.O k1), m_get k3 k4 S hw hQ⟩) hQ
  | _ => exact none_e h
theorem joinV_e {i j : Int} {v' : Value} {a : AV} (hj : joinV i j = some a) (hf : PyProof.V.Flat v' ((PySem.Spec.lookup (encTuple PyData.int [i, j]) (jps joinL)).getD .none)) : V g W v' a := by
  unfold joinV at hj
  generalize (PySem.Spec.lookup (encTuple PyData.int [i, j]) (jps joinL)).getD .none = o at hj hf
  cases o with
  | int k =>
    cases hj
    obtain ⟨t, rfl⟩ := hf.int_inv
    exact .int _ _
  | none =>
    cases hj
    rw [hf.none_inv]
    exact .none
  | _ => exact none_e hj
theorem m_jget {l : List AV} {v self : Value} {r : AV × List MO} (C : Ctx g T rec k c x A) (S : St g x W ρ s.σ sh) (hs : V g W self .jd) (hv : V g W v (.tup l)) (h : mJt s.σ l = some r) (hQ : MQ g x W ρ Q r) : wpAny (Md g) A (call (.builtin "dict.get") [self, v]) Q E sh := by
  cases l with
  | nil => exact none_e h
  | cons a l => cases a with
    | int i => cases l with
      | nil => exact none_e h
      | cons b l => cases b with
        | int j => cases l with
          | cons _ _ => exact none_e h
          | nil =>
            refine hv.tup_e fun a vs n k1 k2 ee => ee ▸ ?_
            have h : mJ s.σ (joinV i j) = some r := h
            generalize hj : joinV i j = o at h
            cases o with
            | none => exact none_e h
            | some w =>
              refine hs.jd_e fun d J ee => ee ▸ ?_
              obtain ⟨ti, tj, rfl⟩ : ∃ t u, vs = [.int i t, .int j u] := k2.i2 fun t u ee => ee ▸ ⟨t, u, rfl⟩
              have hkey : (tupleKind (intKind g.prog g.w)).is sh.heap [i, j] _ := ⟨_, _, _, S.kn C.O k1, rfl, rfl, by
                show ItemsAre _ [i, j] (List.toArray [Value.int i ti, Value.int j tj]).toList
                exact .cons (intKind_is _ _ _ _) (.cons (intKind_is _ _ _ _) .nil)⟩
              exact some_v h (P := fun r => MQ g x W ρ Q r → _) (fun hQ => call_get1_tabH (knd := tupleKind (intKind g.prog g.w)) (same_encTuple PyProof.V.same_int) (tupleKind_room_in1 (by have := C.R.u; clear hQ hkey C S; omega)) hkey (S.jdAt J) fun v' hf => hQ _ _ (S.toks _) (joinV_e hj hf)) hQ
        | _ => exact none_e h
    | _ => exact none_e h
theorem m_tidx {l : List AV} {y : PySem.Str} {t : Tok} {self : Value} {r : AV × List MO} (C : Ctx g T rec k c x A) (S : St g x W ρ s.σ sh) (hs : V g W self (.tup l)) {b : Bool} (h : mIdx s.σ b (idxOf y 0 l) = some r) (hQ : MQ g x W ρ Q r) : wpAny (Md g) A (call (.builtin "tuple.index") [self, .str y t]) Q E sh := by
  generalize hj : idxOf y 0 l = o at h
  cases b with
  | false => exact none_e h
  | true => cases o with
    | none => exact none_e h
    | some i =>
      refine hs.tup_e fun a vs n k1 k2 ee => ee ▸ ?_
      have IT : IsTup sh.heap a vs.toArray := ⟨_, S.kn C.O k1, rfl, _, rfl⟩
      exact some_v h (P := fun r => MQ g x W ρ Q r → _) (fun hQ => wpAny_call_entry PySem.F.slot_tuple_index IT.typeIs PySem.F.entry_tuple_index (tidx_tree k2 (S.kn C.O k1) hj fun t' u => ⟨_, rfl, hQ _ _ (S.toks _) (.int _ _)⟩) (PySem.F.args_tuple_index_2 _ _)) hQ
theorem m_lapp {i : Nat} {a : AV} {v self : Value} {r : AV × List MO} (S : St g x W ρ s.σ sh) (hs : V g W self (.ref i)) (hv : V g W v a) (h : mApp s.σ i a s.σ[i]? = some r) (hQ : MQ g x W ρ Q r) : wpAny (Md g) A (call (.builtin "list.append") [self, v]) Q E sh := by
  generalize e : s.σ[i]? = o at h
  cases o with
  | none => exact none_e h
  | some m => cases m with
    | dct _ => exact none_e h
    | lst l =>
      unfold mApp at h
      dsimp only at h
      generalize h1 : small l = b at h
      cases b with
      | false => exact none_e h
      | true =>
        refine hs.ref_e fun ad k1 ee => ee ▸ S.atL k1 e fun vs n ho hl => ?_
        refine some_v h (P := fun r => MQ g x W ρ Q r → _) (fun hQ => ?_) hQ
        refine wpAny_list_append_plain ⟨_, ho⟩ (fun h' ⟨n', ho'⟩ hs' => hQ _ _ (S.upd k1 hs' ho' ?_) .none) ?_
        · rw [List.push_toArray]
          exact .lst (hl.snoc hv)
        · rw [List.size_toArray, hl.length]
          exact Nat.le_trans (small_le h1) (by decide)
theorem ext_sz {vs ws : List Value} {l m : List AV} (a : VA g W vs l) (b : VA g W ws m) (h1 : small l = true) (h2 : small m = true) : vs.toArray.size + ws.toArray.size ≤ sizeLine := by
  rw [List.size_toArray, List.size_toArray, a.length, b.length]
  exact Nat.le_trans (Nat.add_le_add (small_le h1) (small_le h2)) (by decide)
theorem m_lext {i : Nat} {m : List AV} {v self : Value} {r : AV × List MO} (S : St g x W ρ s.σ sh) (hs : V g W self (.ref i)) (hv : V g W v (.lst m)) (h : mExt s.σ i m s.σ[i]? = some r) (hQ : MQ g x W ρ Q r) : wpAny (Md g) A (call (.builtin "list.extend") [self, v]) Q E sh := by
  generalize e : s.σ[i]? = o at h
  cases o with
  | none => exact none_e h
  | some q => cases q with
    | dct _ => exact none_e h
    | lst l =>
      unfold mExt at h
      dsimp only at h
      generalize h1 : small l = b at h
      generalize h2 : small m = b2 at h
      cases b with
      | false => exact none_e h
      | true => cases b2 with
        | false => exact none_e h
        | true =>
          refine hs.ref_e fun ad k1 ee => ee ▸ S.atL k1 e fun vs2 n2 ho hl => hv.lst_e fun ad1 vs1 n1 k2 k3 ee => ee ▸ ?_
          refine some_v h (P := fun r => MQ g x W ρ Q r → _) (fun hQ => ?_) hQ
          have hz := ext_sz hl k3 h1 h2
          refine call_meets PySem.F.slot_list_extend ⟨_, ho, rfl⟩ PySem.F.entry_list_extend (PySem.F.args_list_extend_2 _ _) (AutoSeq1.list_extend_list_list_0 _ vs2.toArray n2 _ vs1.toArray n1 (extend_door hz) (Nat.le_trans (Nat.le_add_right _ _) hz)) ⟨ho, S.fzAt k2, ?_⟩
          refine hQ _ _ (S.upd k1 (Heap.SameBut.update ..) (Heap.get?_update_self _ ho (by rw [mapSeq_app]; rfl)) ?_) .none
          rw [mapSeq_app, List.append_toArray]
          exact .lst (hl.append k3)
noncomputable def BiM (g : Glb) (W : Wd) (m : MK) (f self : Value) : Prop := match m with
  | .dget l => f = .builtin "dict.get" ∧ V g W self (.dct l)
  | .tidx l => f = .builtin "tuple.index" ∧ V g W self (.tup l)
  | .sfind t => f = .builtin "str.find" ∧ V g W self (.str t)
  | .lapp i => f = .builtin "list.append" ∧ V g W self (.ref i)
  | .lext i => f = .builtin "list.extend" ∧ V g W self (.ref i)
  | .jget => f = .builtin "dict.get" ∧ V g W self .jd
  | _ => False
theorem m_one (C : Ctx g T rec k c x A) (S : St g x W ρ s.σ sh) {m : MK} {a : AV} {v : Value} {r : AV × List MO} (hv : V g W v a) (h : map1 s.σ m a = some r) {f self : Value} (hm : BiM g W m f self) (hQ : MQ g x W ρ Q r) : wpAny (Md g) A (call f [self, v]) Q E sh := by
  cases m with
  | dget l => rw [hm.1]; exact m_get1 C S hm.2 hv h hQ
  | jget =>
    rw [hm.1]
    cases a with
    | tup l => exact m_jget C S hm.2 hv h hQ
    | _ => exact none_e h
  | tidx l =>
    rw [hm.1]
    cases a with
    | str y => exact hv.str_e fun t ee => ee ▸ m_tidx C S hm.2 h hQ
    | _ => exact none_e h
  | sfind t =>
    rw [hm.1]
    cases a with
    | str u => exact hv.str_e fun _ ee => ee ▸ hm.2.str_e fun _ ee => ee ▸ some_v h (P := fun r => MQ g x W ρ Q r → _) (fun hQ => PySem.SC.find (hQ _ _ (S.toks _) (.int _ _))) hQ
    | _ => exact none_e h
  | lapp i => rw [hm.1]; exact m_lapp S hm.2 hv h hQ
  | lext i =>
    rw [hm.1]
    cases a with
    | lst u => exact m_lext S hm.2 hv h hQ
    | _ => exact none_e h
  | _ => exact hm.elim
theorem BiM.mono {W' : Wd} {m : MK} {f self : Value} (le : W.Le W') (h : BiM g W m f self) : BiM g W' m f self := by
  cases m <;> first | exact ⟨h.1, h.2.mono le⟩ | exact h.elim
/-- the call of a method of the machine -/
theorem s_mapp (C : Ctx g T rec k c x A) (S : St g x W ρ s.σ sh) {m : MK} {as : List AV} {vs : List Value} {r : AV × List MO} (hv : VA g W vs as) (h : mapp s.σ m as = some r) {f : Value} {self : Value}
    (hm : BiM g W m f self)
    (hQ : ∀ v sh', St g x W ρ r.2 sh' → V g W v r.1 → Q v sh') : wpAny (Md g) A (call f (self :: vs)) Q E sh := by
  cases as with
  | nil => exact none_e h
  | cons a q => cases q with
    | nil => exact hv.one_e fun v hv ee => ee ▸ m_one C S hv h hm hQ
    | cons d q => cases q with
      | cons _ _ => exact none_e h
      | nil => cases m with
        | dget l => exact hv.two_e fun v w hv hw ee => ee ▸ by rw [hm.1]; exact m_get2 C S hm.2 hv hw h hQ
        | _ => exact none_e h
end
end Mine
end
section
set_option maxHeartbeats 4000000
open PySem PySem.W PySem.Spec PySem.Calls PyProof.Rows
namespace Mine
section
variable {g : Glb} {T : Tabs} {rec : Rec} {k : Nat} {c : Cfg} {x : Cx} {W : Wd} {ρ : Loc} {s : Stt} {sh : Shared} {A : Around} {K : AV → Stt → Prop} {KE : KX} {Q E : Value → Shared → Prop}
theorem allNS_star {env : Env} : ∀ {l : List Expr}, allNS l = true → (starEach l env).all (!·.1) = true
  | [], _ => rfl
  | y :: r, h => by
    rw [star_cons (ns_cons h).1]
    show (true && (starEach r env).all (!·.1)) = true
    rw [allNS_star (ns_cons h).2]; rfl
theorem allNS_back {pos : Pos} {env : Env} : ∀ {l : List Expr}, allNS l = true → (backTo pos (starEach l env)).all (!·.1) = true
  | [], _ => rfl
  | y :: r, h => by
    rw [star_cons (ns_cons h).1]
    show (true && (backTo pos (starEach r env)).all (!·.1)) = true
    rw [allNS_back (ns_cons h).2]; rfl
theorem s_CallHead {M : Model} {env : Env} {Q E : Value → Shared → Prop} {o : Expr} {n : PySem.Str} {ap p : Pos} {l : List Expr} (hb : baseOk o = true) (hl : Nat.ble l.length 20 = true) (hp : Nat.beq ap.endLine p.line = true) (hn : allNS l = true)
    (h : wpAny M A (eval o env) (fun ov s₁ => wpAny M A (getMethod ov n (do return (← importBound o env).getD true)) (fun fx s₂ => wpAny M A (callWith p fx.1 fx.2 (backTo p (starEach l env)) []) Q E s₂) E s₁) E sh) :
    wpAny M A (eval (.Call (.Attribute o n ap) l [] p) env) Q E sh := by
  rw [arm_eval_Call, base_of hb]
  refine wpAny_bind (wpAny_mono h (fun ov s₁ h₁ => ?_) fun _ _ e => e)
  refine wpAny_bind (wpAny_standAt ?_)
  have hform : methodCallForm (l.length + ([] : List Keyword).length) (backTo p (starEach l env)) (backToKw p (keywordEach [] env)) = true := by
    unfold methodCallForm
    rw [allNS_back hn]
    have := Nat.le_of_ble_eq_true hl
    simp [keywordEach, backToKw]
    omega
  have hline : (ap.endLine == p.line) = true := by
    rw [Nat.eq_of_beq_eq_true hp]; simp
  have hpos : methodCallPos true o env ap p = pure p := by unfold methodCallPos; rw [hline]; simp
  unfold methodCall
  rw [hform]
  refine wpAny_bind (wpAny_holding (wpAny_mono h₁ (fun fx s₂ h₂ => ?_) fun _ _ e => e))
  obtain ⟨f, first⟩ := fx
  exact wpAny_bind (wpAny_of_eq hpos h₂)
/-- a method, found -/
noncomputable def MR (g : Glb) (W : Wd) (m : MK) (f : Value) (first : List Value) : Prop := match m with
  | .call f' self => f = f' ∧ VA g W first self
  | .no => False
  | m => ∃ v, first = [v] ∧ BiM g W m f v
noncomputable def MH (g : Glb) (W : Wd) (sh : Shared) (Q : Value × List Value → Shared → Prop) (m : MK) : Prop := ∀ f first t, MR g W m f first → Q (f, first) { sh with toks := t }
theorem onb_e {P : MK → Prop} {b : Bool} {m : MK} (hno : onb b m ≠ .no) (h : P (onb b m)) : b = true ∧ P m := by
  cases b with
  | true => exact ⟨rfl, h⟩
  | false => exact absurd rfl hno
section
variable {n : PySem.Str} {pl : Sem Bool} {Q : Value × List Value → Shared → Prop} {av : Value}
theorem meth_fld {C' : Addr} {i : Nat} {d : List (PySem.Str × AV)} (C : Ctx g T rec k c x A) (Z : TOk g T) (S : St g x W ρ s.σ sh) (hv : V g W av (.obj C' i)) (hd : s.σ[i]? = some (.dct d))
    (hno : mFld (T.cf C' n) (T.mt C' n) (.obj C' i) (lk d n) ≠ .no) (hQ : MH g W sh Q (mFld (T.cf C' n) (T.mt C' n) (.obj C' i) (lk d n))) : wpAny (Md g) A (getMethod av n pl) Q E sh := by
  refine S.inst_e C.O hv hd fun ad dx es ep k2 k1 I hg0 hg ee => ee ▸ S.e fun m ms cs D => ?_
  generalize e : lk d n = o at hno hQ
  cases o with
  | none =>
    generalize em : T.mt C' n = q at hno hQ
    cases q with
    | none => exact absurd rfl hno
    | some f =>
      obtain ⟨h1, h2, h3⟩ := Z.mt _ _ _ em
      exact method_inst D.F C.O.X I h1 h2 h3 (hg0 n e) (hQ _ _ sh.toks ⟨rfl, .cons (.obj k1 k2) .nil⟩)
  | some r =>
    cases r with
    | raw f =>
      cases f with
      | ref fa =>
        obtain ⟨ec, hQ⟩ := onb_e (P := MH g W sh Q) hno hQ
        obtain ⟨Fk, hn⟩ := Z.cf _ _ ec
        obtain ⟨v', g1, g2⟩ := hg n _ e
        have g2 : v' = .ref fa := g2.raw_e fun ee => ee.symm
        subst g2
        obtain ⟨attr, f1, f2⟩ := Fk.at_
        have pg := plainGet_of Fk.pg
        exact method_usual (C.O.X.keeps D.F.keep) I pg.1 pg.2 hn rfl (get_own D.F C.O.X I Fk.pg Fk.hd f1 f2 g1 rfl (hQ _ [] _ ⟨rfl, .nil⟩))
      | _ => exact absurd rfl hno
    | _ => exact absurd rfl hno
theorem meth_dct {l : List (PySem.Str × AV)} (C : Ctx g T rec k c x A) (S : St g x W ρ s.σ sh) (hv : V g W av (.dct l)) (hQ : MH g W sh Q (.dget l)) : wpAny (Md g) A (getMethod av "get" pl) Q E sh :=
  hv.dct_e fun _ _ _ _ k1 k2 k3 k4 ee => ee ▸ getMethod_builtin (k2.mapOf (S.kn C.O k1)).typeIs PySem.F.plainAttrs_dict PySem.F.slot_dict_get PySem.F.type_dict_get (k2.mapOf (S.kn C.O k1)).noDict (hQ _ _ sh.toks ⟨_, rfl, rfl, .dct k1 k2 k3 k4⟩)
theorem meth_jd (S : St g x W ρ s.σ sh) (hv : V g W av .jd) (hQ : MH g W sh Q .jget) : wpAny (Md g) A (getMethod av "get" pl) Q E sh :=
  hv.jd_e fun _ J ee => ee ▸ getMethod_tabH PySem.F.slot_dict_get PySem.F.type_dict_get (S.jdAt J) (hQ _ _ sh.toks ⟨_, rfl, rfl, .jd J⟩)
theorem meth_tup {l : List AV} (C : Ctx g T rec k c x A) (S : St g x W ρ s.σ sh) (hv : V g W av (.tup l)) (hQ : MH g W sh Q (.tidx l)) : wpAny (Md g) A (getMethod av "index" pl) Q E sh := by
  refine hv.tup_e fun ad vs nn k1 k2 ee => ee ▸ ?_
  have IT : IsTup sh.heap ad vs.toArray := ⟨_, S.kn C.O k1, rfl, _, rfl⟩
  refine getMethod_builtin IT.typeIs PySem.F.plainAttrs_tuple PySem.F.slot_tuple_index PySem.F.type_tuple_index (fun a e => ?_) (hQ _ _ sh.toks ⟨_, rfl, rfl, .tup k1 k2⟩)
  rw [← Value.ref.inj e]
  exact ⟨_, S.kn C.O k1, rfl⟩
theorem meth_str {t : PySem.Str} (hv : V g W av (.str t)) (hQ : MH g W sh Q (.sfind t)) : wpAny (Md g) A (getMethod av "find" pl) Q E sh :=
  hv.str_e fun u ee => ee ▸ getMethod_builtin (typeIs_str _ _ _) PySem.F.plainAttrs_str PySem.F.slot_str_find PySem.F.type_str_find (fun a e => by cases e) (hQ _ _ sh.toks ⟨_, rfl, rfl, .str _ _⟩)
theorem meth_lst {i : Nat} {l : List AV} (S : St g x W ρ s.σ sh) (hv : V g W av (.ref i)) (hd : s.σ[i]? = some (.lst l)) (hno : mRef i n (some (.lst l)) ≠ .no) (hQ : MH g W sh Q (mRef i n (some (.lst l)))) : wpAny (Md g) A (getMethod av n pl) Q E sh := by
  refine hv.ref_e fun ad k1 ee => ee ▸ S.atL k1 hd fun vs nn ho hl => ?_
  have IL : sh.heap.IsList ad vs.toArray := ⟨_, ho, rfl, _, rfl⟩
  have nd : ∀ a, Value.ref ad = .ref a → ∃ o, sh.heap.get? a = some o ∧ o.dict = none := fun a e => by
    rw [← Value.ref.inj e]
    exact ⟨_, ho, rfl⟩
  unfold mRef at hno hQ
  dsimp only at hno hQ
  generalize e : seq n "append" = b at hno hQ
  cases b with
  | true =>
    cases seq_iff.mp e
    exact getMethod_builtin IL.typeIs PySem.F.plainAttrs_list PySem.F.slot_list_append PySem.F.type_list_append nd (hQ _ _ sh.toks ⟨_, rfl, rfl, .ref k1⟩)
  | false =>
    obtain ⟨e2, hQ⟩ := onb_e (P := MH g W sh Q) hno hQ
    cases seq_iff.mp e2
    exact getMethod_builtin IL.typeIs PySem.F.plainAttrs_list PySem.F.slot_list_extend PySem.F.type_list_extend nd (hQ _ _ sh.toks ⟨_, rfl, rfl, .ref k1⟩)
theorem s_meth (C : Ctx g T rec k c x A) (Z : TOk g T) (S : St g x W ρ s.σ sh) {a : AV} (hv : V g W av a) (hno : mres T s.σ a n ≠ .no) (hQ : MH g W sh Q (mres T s.σ a n)) : wpAny (Md g) A (getMethod av n pl) Q E sh := by
  cases a with
  | obj C' i =>
    have hno : mObj (T.cf C' n) (T.mt C' n) (.obj C' i) n s.σ[i]? ≠ .no := hno
    have hQ : MH g W sh Q (mObj (T.cf C' n) (T.mt C' n) (.obj C' i) n s.σ[i]?) := hQ
    generalize hd : s.σ[i]? = o at hno hQ
    cases o with
    | none => exact absurd rfl hno
    | some m => cases m with
      | lst _ => exact absurd rfl hno
      | dct d => exact meth_fld C Z S hv hd hno hQ
  | dct l =>
    obtain ⟨e, hQ⟩ := onb_e (P := MH g W sh Q) hno hQ
    cases seq_iff.mp e
    exact meth_dct C S hv hQ
  | jd =>
    obtain ⟨e, hQ⟩ := onb_e (P := MH g W sh Q) hno hQ
    cases seq_iff.mp e
    exact meth_jd S hv hQ
  | tup l =>
    obtain ⟨e, hQ⟩ := onb_e (P := MH g W sh Q) hno hQ
    cases seq_iff.mp e
    exact meth_tup C S hv hQ
  | str t =>
    obtain ⟨e, hQ⟩ := onb_e (P := MH g W sh Q) hno hQ
    cases seq_iff.mp e
    exact meth_str hv hQ
  | ref i =>
    have hno : mRef i n s.σ[i]? ≠ .no := hno
    have hQ : MH g W sh Q (mRef i n s.σ[i]?) := hQ
    generalize hd : s.σ[i]? = o at hno hQ
    cases o with
    | none => exact absurd rfl hno
    | some m => cases m with
      | dct _ => exact absurd rfl hno
      | lst l => exact meth_lst S hv hd hno hQ
  | _ => exact absurd rfl hno
end
theorem BiM.bi {m : MK} {f self : Value} (h : BiM g W m f self) : ∃ id, f = .builtin id := by
  cases m <;> first | exact ⟨_, h.1⟩ | exact h.elim
theorem s_biM {p : Pos} {l : List Expr} {m : MK} {id : String} {v : Value} (C : Ctx g T rec k c x A) (S : St g x W ρ s.σ sh) (hn : allNS l = true) (hm : BiM g W m (.builtin id) v)
    (h : evs rec k c ρ l [] s (fun as s => oK (mapp s.σ m as) fun r => K r.1 ⟨r.2, s.ans⟩) KE) (hQ : PV g x W ρ K Q) (hE : PX g x KE E) : wpAny (Md g) A (callWith p (.builtin id) [v] (backTo p (starEach l x.env)) []) Q E sh := by
  refine s_callB hn (s_list C hE S h fun as s' W' vs sh' le S' hv h' => ?_)
  refine oK_e h' fun r hr h' => ?_
  have hm := hm.mono le
  exact s_mapp C S' hv hr hm fun v' sh2 S2 hv' => hQ r.1 ⟨r.2, s'.ans⟩ _ _ _ le S2 hv' h'
theorem s_CallM {o : Expr} {n : PySem.Str} {ap p : Pos} {l : List Expr} (C : Ctx g T rec k c x A) (Z : TOk g T) (S : St g x W ρ s.σ sh) (hb : baseOk o = true) (hl : Nat.ble l.length 20 = true) (hp : Nat.beq ap.endLine p.line = true) (hn : allNS l = true)
    (h : callM T rec k c o n l ρ s K KE) (hQ : PV g x W ρ K Q) (hE : PX g x KE E) :
    wpAny (Md g) A (eval (.Call (.Attribute o n ap) l [] p) x.env) Q E sh := by
  refine s_CallHead hb hl hp hn (C.e h S hE fun a s' W' av sh' le S' hv h' => ?_)
  have h' : (match mres T s'.σ a n with
          | .call f self => evs rec k c ρ l [] s' (fun as s => req T c ρ f (self ++ as) s K KE) KE
          | .no => False
          | m => evs rec k c ρ l [] s' (fun as s => oK (mapp s.σ m as) fun r => K r.1 ⟨r.2, s.ans⟩) KE) := h'
  have hno : mres T s'.σ a n ≠ .no := fun q => by rw [q] at h'; exact h'
  refine s_meth C Z S' hv hno fun f first t hm => ?_
  generalize mres T s'.σ a n = m at hm hno h'
  have bi : ∀ v, first = [v] → BiM g W' m f v → evs rec k c ρ l [] s' (fun as s => oK (mapp s.σ m as) fun r => K r.1 ⟨r.2, s.ans⟩) KE → wpAny (Md g) A (callWith p f first (backTo p (starEach l x.env)) []) Q E { sh' with toks := t } := fun v e hb h' => by
    obtain ⟨id, rfl⟩ := hb.bi
    subst e
    exact s_biM C (S'.toks t) hn hb h' (hQ.le le) hE
  cases m with
  | call f' self =>
    obtain ⟨rfl, hf⟩ := hm
    refine s_callK hn (s_list C hE (S'.toks t) h' fun as s'' W'' vs sh'' le' S'' hv h'' => ?_)
    have := s_req C Z S'' ((hf.mono le').append hv) h'' (hQ.le (le.trans le')) hE
    exact ⟨⟨this.1, S''.keepK C.O⟩, this.2⟩
  | no => exact absurd rfl hno
  | _ => exact hm.elim fun v hm => bi v hm.1 hm.2 h'
end
end Mine
end
section
set_option maxHeartbeats 4000000
open PySem PySem.W PySem.Spec PySem.Calls PyProof.Rows
namespace Mine
inductive KV : List (Value × Value) → List (PySem.Str × AV) → Prop
  | nil : KV [] []
  | cons {y : PySem.Str} {t : Tok} {v : Value} {a : AV} {vs : List (Value × Value)} {d : List (PySem.Str × AV)} : (∀ g W, V g W v a) → KV vs d → KV ((.str y t, v) :: vs) ((y, a) :: d)
section
variable {g : Glb} {T : Tabs} {rec : Rec} {k : Nat} {c : Cfg} {x : Cx} {W : Wd} {ρ : Loc} {s : Stt} {σ : List MO} {sh : Shared} {A : Around} {K : AV → Stt → Prop} {KE : KX} {Q E : Value → Shared → Prop}
theorem constV_eval {M : Model} {v : Const} {a : AV} {u : Nat} {p : Pos} {env : Env} (h : constV v = some a) (hQ : ∀ v tk, (∀ g W, V g W v a) → Q v { sh with toks := tk }) : wpAny M A (eval (.Constant v u p) env) Q E sh := by
  cases v <;> simp only [constV] at h <;> first | (cases h; done) | skip
  · cases h; exact wpAny_Constant_none (hQ _ _ fun _ _ => .none)
  · cases h; exact wpAny_Constant_bool (hQ _ _ fun _ _ => .bool _)
  · cases h; exact wpAny_Constant_int (hQ _ _ fun _ _ => .int _ _)
  · cases h; exact wpAny_Constant_str (hQ _ _ fun _ _ => .str _ _)
theorem lk_none_mem {α : Type} {y : PySem.Str} : ∀ {l : List (PySem.Str × α)}, lk l y = none → y ∉ l.map (·.1)
  | [], _, h => (List.not_mem_nil h).elim
  | p :: r, e, h => by
    obtain ⟨z, a⟩ := p
    rw [lk_cons] at e
    split at e
    · cases e
    · rename_i q
      cases h with
      | head => exact q rfl
      | tail _ h => exact lk_none_mem e h
theorem nil_p {P : Prop} {α : Type} {a : α} {l : List α} (h : [] = a :: l) : P := by cases h
theorem cstE_e {P : Expr → Prop} {y : Expr} {v : Const} (h : cstE y = some v) (k : ∀ u p, P (.Constant v u p)) : P y := by
  cases y with
  | Constant w u p => cases h; exact k u p
  | _ => exact none_p h
theorem cstE_iff {y : Expr} {v : Const} (h : cstE y = some v) : ∃ u p, y = .Constant v u p := cstE_e h (P := fun y => ∃ u p, y = .Constant v u p) fun u p => ⟨u, p, rfl⟩
theorem strO_e {o : Option Const} {z : PySem.Str} (h : strO o = some z) : o = some (.str z) := by
  cases o with
  | none => exact none_p h
  | some v => cases v with
    | str x => cases h; rfl
    | _ => exact none_p h
theorem kyO_iff {k : Option Expr} {z : PySem.Str} (h : kyO k = some z) : ∃ u p, k = some (.Constant (.str z) u p) := by
  cases k with
  | none => exact none_p h
  | some x => exact (cstE_iff (strO_e h)).imp fun u h => h.imp fun p h => congrArg some h
theorem avO_iff {y : Expr} {a : AV} (h : avO (cstE y) = some a) : ∃ v u p, y = .Constant v u p ∧ constV v = some a := by
  generalize e : cstE y = o at h
  cases o with
  | none => exact none_p h
  | some v => obtain ⟨u, p, rfl⟩ := cstE_iff e; exact ⟨v, u, p, rfl, h⟩
theorem dcB_e {P : Prop} {z : Option PySem.Str} {a : Option AV} {acc d : List (PySem.Str × AV)} {k : List (PySem.Str × AV) → Option (List (PySem.Str × AV))} (h : dcB z a acc k = some d) (f : ∀ y b, z = some y → a = some b → lk acc y = none → k (acc ++ [(y, b)]) = some d → P) : P := by
  cases z with
  | none => exact none_p h
  | some y => cases a with
    | none => exact none_p h
    | some b =>
      unfold dcB at h
      dsimp only at h
      generalize e : lk acc y = o at h
      cases o with
      | none => exact f y b rfl rfl e h
      | some _ => exact none_p h
noncomputable def EvP (env : Env) (pos : Pos) (prog : Program) (w : World) (ks : List (Option Expr)) (vs : List Expr) (acc d : List (PySem.Str × AV)) : Prop :=
  ∃ e, d = acc ++ e ∧ (d.map (·.1)).Nodup ∧ ks.length = vs.length ∧ ks.all (·.isSome) = true ∧ ∀ (A : Around) (E : Value → Shared → Prop) (sh : Shared) (Q : List (Value × Value) → Shared → Prop), (∀ vals tk, KV vals e → Q vals { sh with toks := tk }) → wpAny (model prog w) A (evalPairs (pairTrees ks vs env pos)) Q E sh
theorem evP_nil {env : Env} {pos : Pos} {prog : Program} {w : World} {acc : List (PySem.Str × AV)} (hn : (acc.map (·.1)).Nodup) : EvP env pos prog w [] [] acc acc :=
  ⟨[], (List.append_nil _).symm, hn, rfl, rfl, fun _ _ sh _ hQ => pairTrees_nil_walk (hQ [] sh.toks .nil)⟩
theorem nodup_snoc {acc : List (PySem.Str × AV)} {z : PySem.Str} {a : AV} (hn : (acc.map (·.1)).Nodup) (e1 : lk acc z = none) : ((acc ++ [(z, a)]).map (·.1)).Nodup := by
  rw [List.map_append]
  refine List.nodup_append.mpr ⟨hn, by simp, fun b hb b' hb' => ?_⟩
  rw [List.mem_singleton.mp hb']
  exact fun q => lk_none_mem e1 (by have q : b = z := q; rw [← q]; exact hb)
theorem evP_cons {env : Env} {pos : Pos} {prog : Program} {w : World} {ks : List (Option Expr)} {vs : List Expr} {acc d : List (PySem.Str × AV)} {z : PySem.Str} {a : AV} {u u2 : Nat} {p p2 : Pos} {v2 : Const} (e2 : constV v2 = some a) (h : EvP env pos prog w ks vs (acc ++ [(z, a)]) d) :
    EvP env pos prog w (some (.Constant (.str z) u p) :: ks) (.Constant v2 u2 p2 :: vs) acc d := by
  obtain ⟨e, he, h1, h2, h3, h4⟩ := h
  refine ⟨(z, a) :: e, by rw [he]; simp, h1, by simp [h2], by simpa using h3, fun A E sh Q hQ => ?_⟩
  exact pairTrees_cons_walk (wpAny_Constant_str (constV_eval e2 fun v tk hv => h4 _ _ _ _ fun vals tk2 hk => hQ _ tk2 (.cons hv hk)))
theorem evalPairs_consts {env : Env} {pos : Pos} {prog : Program} {w : World} : ∀ (ks : List (Option Expr)) (vs : List Expr) (acc d : List (PySem.Str × AV)), dictC ks vs acc = some d → (acc.map (·.1)).Nodup → EvP env pos prog w ks vs acc d := by
  intro ks
  induction ks with
  | nil =>
    intro vs acc d h hn
    cases vs with
    | cons _ _ => exact none_p h
    | nil => cases h; exact evP_nil hn
  | cons ko ks ih =>
    intro vs acc d h hn
    cases vs with
    | nil => exact none_p h
    | cons y ys =>
      refine dcB_e h fun z a hz ha hl h2 => ?_
      obtain ⟨u, p, rfl⟩ := kyO_iff hz
      obtain ⟨v2, u2, p2, rfl, e2⟩ := avO_iff ha
      exact evP_cons e2 (ih ys _ d h2 (nodup_snoc hn hl))
theorem KV.keys {vs : List (Value × Value)} {d : List (PySem.Str × AV)} (h : KV vs d) : allStrKeys vs = true ∧ (strPairs vs).map (·.1) = d.map (·.1) := by
  induction h with
  | nil => exact ⟨rfl, rfl⟩
  | cons _ _ ih => exact ⟨ih.1, by simp [strPairs, ih.2]⟩
theorem KV.none {vs : List (Value × Value)} {d : List (PySem.Str × AV)} (h : KV vs d) : ∀ y, lk d y = none → valueAt (strPairs vs) y = none := by
  induction h with
  | nil => exact fun _ _ => rfl
  | cons _ _ ih =>
    intro y e
    rw [lk_cons] at e
    split at e
    · cases e
    · rename_i q
      have := ih y e
      simp only [valueAt, strPairs, List.find?_cons, decide_eq_false q] at this ⊢
      exact this
theorem KV.some {vs : List (Value × Value)} {d : List (PySem.Str × AV)} (h : KV vs d) : ∀ y a, lk d y = some a → ∃ v, valueAt (strPairs vs) y = some v ∧ V g W v a := by
  induction h with
  | nil => exact fun _ _ e => none_p e
  | cons hv _ ih =>
    intro y a e
    rw [lk_cons] at e
    split at e
    · rename_i q
      cases e
      refine ⟨_, ?_, hv g W⟩
      simp only [valueAt, strPairs, List.find?_cons, decide_eq_true q, Option.map]
    · rename_i q
      obtain ⟨v, h1, h2⟩ := ih y a e
      refine ⟨v, ?_, h2⟩
      simp only [valueAt, strPairs, List.find?_cons, decide_eq_false q] at h1 ⊢
      exact h1
theorem lk_mem {α : Type} : ∀ {l : List (PySem.Str × α)}, (l.map (·.1)).Nodup → ∀ p ∈ l, lk l p.1 = some p.2
  | (z, a) :: r, hn, p, hp => by
    rw [List.map_cons, List.nodup_cons] at hn
    rw [lk_cons]
    cases hp with
    | head => rw [if_pos rfl]
    | tail _ hp =>
      rw [if_neg fun q : z = p.1 => hn.1 (by rw [q]; exact List.mem_map_of_mem (f := (·.1)) hp)]
      exact lk_mem hn.2 p hp
theorem VD.of {f : PySem.Str → Option Value} : ∀ {d : List (PySem.Str × AV)}, (∀ p ∈ d, ∃ v, f p.1 = some v ∧ V g W v p.2) → VD g W f d
  | [], _ => .nil
  | (z, a) :: r, h => by
    obtain ⟨v, h1, h2⟩ := h _ (.head _)
    exact .cons h1 h2 (VD.of fun p hp => h p (.tail _ hp))
theorem VD.lk' {f : PySem.Str → Option Value} {d : List (PySem.Str × AV)} (hn : (d.map (·.1)).Nodup) (h : ∀ y a, lk d y = some a → ∃ v, f y = some v ∧ V g W v a) : VD g W f d :=
  VD.of fun p hp => h _ _ (lk_mem hn p hp)
theorem omap_of {h : Heap} {a : Addr} {kvs : List (PySem.Str × Value)} (hd : h.DictOf (strKind g.prog g.w) a kvs) : ∃ o, h.get? a = some o ∧ OMap g o (valueAt kvs) kvs.length := by
  obtain ⟨o, es, ep, h1, h2, h3, h4, h5, h6⟩ := hd
  exact ⟨o, h1, h2, es, ep, kvs, h3, h4, h5, h6, Nat.le_refl _, fun _ => rfl⟩
theorem s_DictC {ks : List (Option Expr)} {vs : List Expr} {p : Pos} {d : List (PySem.Str × AV)} (C : Ctx g T rec k c x A) (S : St g x W ρ s.σ sh) (h0 : ks ≠ []) (hl : ks.length ≤ 15) (hd : dictC ks vs [] = some d) (hQ : ∀ W' v sh', W.Le W' → St g x W' ρ s.σ sh' → V g W' v (.dct d) → Q v sh') :
    wpAny (Md g) A (eval (.Dict ks vs p) x.env) Q E sh := by
  obtain ⟨e, he, h1, h2, h3, h4⟩ := evalPairs_consts (env := x.env) (pos := p) (prog := g.prog) (w := g.w) ks vs [] d hd .nil
  rw [List.nil_append] at he
  subst he
  have big := S.big C.O
  refine S.e fun m ms cs D => ?_
  refine wpAny_Dict_walk (knd := strKind g.prog g.w) h3 h2 h0 hl (h4 _ _ _ _ fun vals tk hk => ?_)
  refine display_done_str hk.keys.1 (by rw [hk.keys.2]; exact h1) (PySem.Heap.DictOf.new ..) fun h' hm hs => ?_
  obtain ⟨o, ho, hom⟩ := omap_of hm
  have F1 := D.F.push { cls := .type "dict", data := .dict #[] }
  have N1 := News.push D.F D.N { cls := .type "dict", data := .dict #[] } rfl
  have hL : @Ne Nat sh.heap.objs.size x.env.locals := Nat.ne_of_gt D.F.ns.lt
  have h0n : x.h₀.get? sh.heap.objs.size = none := by
    cases q : x.h₀.get? sh.heap.objs.size with
    | none => rfl
    | some o => exact absurd (Heap.lt_size (D.F.keep _ _ q)) (Nat.lt_irrefl _)
  refine hQ _ _ _ (le_push (sh.heap.objs.size, o) W) (D.add (h' := h') (F1.change hs hL h0n) ?_ D.size big _) ?_
  · intro q hq
    cases hq with
    | head => exact ⟨ho, hL, h0n⟩
    | tail _ hq =>
      have z := N1 q (.tail _ hq)
      exact ⟨(hs.2 _ (D.size q hq)).trans z.1, z.2⟩
  · exact .dct (.inr (.head _)) hom (VD.lk' h1 (hk.some)) (hk.none)
theorem and2_iff {a b : Bool} (h : and2 a b = true) : a = true ∧ b = true := by
  cases a with
  | true => exact ⟨rfl, h⟩
  | false => cases h
theorem intO_e {o : Option Const} {a : Int} (h : intO o a = true) : o = some (.int a) := by
  cases o with
  | none => cases h
  | some v => cases v with
    | int x => rw [of_decide_eq_true h]
    | _ => cases h
theorem intI_iff {y : Expr} {a : Int} (h : intI y a = true) : ∃ u p, y = .Constant (.int a) u p := cstE_iff (intO_e h)
theorem tupE_e {P : Expr → Prop} {y z : Expr} {r : List Expr} (h : tupE y = z :: r) (k : ∀ u p, P (.Tuple (z :: r) u p)) : P y := by
  cases y with
  | Tuple es u p => cases (show es = z :: r from h); exact k u p
  | _ => exact nil_p h
theorem tupE_iff {y z : Expr} {r : List Expr} (h : tupE y = z :: r) : ∃ u p, y = .Tuple (z :: r) u p := tupE_e h (P := fun y => ∃ u p, y = .Tuple (z :: r) u p) fun u p => ⟨u, p, rfl⟩
theorem tupK_iff {k : Option Expr} {a b : Int} (h : tupK k a b = true) : ∃ u1 p1 u2 p2 u3 p3, k = some (.Tuple [.Constant (.int a) u1 p1, .Constant (.int b) u2 p2] u3 p3) := by
  cases k with
  | none => cases h
  | some y =>
    have h : tupL (tupE y) a b = true := h
    generalize e : tupE y = l at h
    cases l with
    | nil => cases h
    | cons z l => cases l with
      | nil => cases h
      | cons z2 l => cases l with
        | cons _ _ => cases h
        | nil =>
          obtain ⟨u3, p3, rfl⟩ := tupE_iff e
          obtain ⟨h1, h2⟩ := and2_iff h
          obtain ⟨u1, p1, rfl⟩ := intI_iff h1
          obtain ⟨u2, p2, rfl⟩ := intI_iff h2
          exact ⟨u1, p1, u2, p2, u3, p3, rfl⟩
theorem Heap.SameBut.trans' {d : Addr} {h1 h2 h3 : Heap} (a : Heap.SameBut d h1 h2) (b : Heap.SameBut d h2 h3) : Heap.SameBut d h1 h3 := ⟨b.1.trans a.1, fun z hz => (b.2 z hz).trans (a.2 z hz)⟩
/-- what the pairs of the display become -/
noncomputable def trip (r : List (Int × Int × Int)) (as : List (Addr × Value)) : List (List Int × Addr × Value) := (r.zip as).map fun q => ([q.1.1, q.1.2.1], q.2.1, q.2.2)
noncomputable def JdQ (g : Glb) (x : Cx) (ρ : Loc) (σ : List MO) (prog : Program) (w : World) (d : Addr) (od : Obj) (m : PySem.Str → Option Value) (ms cs : List (Addr × Obj)) (r : List (Int × Int × Int)) (W : Wd) (Q : List (Value × Value) → Shared → Prop) : Prop :=
  ∀ W' sh' (ys : List (List Int × Addr × Value)), W.Le W' → StD g x W' ρ σ sh' m ms cs → sh'.heap.get? d = some od → (∀ p ∈ ms ++ (cs ++ W'.fz), p.1 ≠ d) → (∀ y ∈ ys, ∃ ok, (y.2.1, ok) ∈ W'.fz ∧ TupKeyObj (intKind prog w) y.1 ok) → ys.map (·.1) = r.map (fun q => [q.1, q.2.1]) →
        PyProof.V.FlatPairs (encTuple PyData.int) (kvsOf ys) (jps r) → Q (ys.map fun y => (.ref y.2.1, y.2.2)) sh'
noncomputable def JdP (g : Glb) (x : Cx) (ρ : Loc) (σ : List MO) (prog : Program) (w : World) (env : Env) (pos : Pos) (d : Addr) (od : Obj) (m : PySem.Str → Option Value) (ms cs : List (Addr × Obj)) (r : List (Int × Int × Int)) (ks : List (Option Expr)) (vs : List Expr) : Prop :=
  ks.length = vs.length ∧ ks.all (·.isSome) = true ∧
    ∀ (A : Around) (E : Value → Shared → Prop) (W : Wd) (sh : Shared) (Q : List (Value × Value) → Shared → Prop), StD g x W ρ σ sh m ms cs → sh.heap.get? d = some od → (∀ p ∈ ms ++ (cs ++ W.fz), p.1 ≠ d) →
      JdQ g x ρ σ prog w d od m ms cs r W Q → wpAny (model prog w) A (evalPairs (pairTrees ks vs env pos)) Q E sh
section
variable {d : Addr} {od : Obj} {prog : Program} {w : World} {env : Env} {pos : Pos} {m : PySem.Str → Option Value} {ms cs : List (Addr × Obj)}
theorem jdP_nil : JdP g x ρ σ prog w env pos d od m ms cs [] [] [] :=
  ⟨rfl, rfl, fun _ _ W sh _ D hd hn hQ => pairTrees_nil_walk (hQ W sh [] (.refl W) D hd hn (fun _ hy => (List.not_mem_nil hy).elim) rfl .nil)⟩
theorem ne_push {o : Obj} (hd : sh.heap.get? d = some od) (hn : ∀ p ∈ ms ++ (cs ++ W.fz), p.1 ≠ d) : ∀ p ∈ ms ++ (cs ++ (sh.heap.objs.size, o) :: W.fz), p.1 ≠ d := fun p hp => by
  rcases List.mem_append.mp hp with h | h
  · exact hn p (List.mem_append.mpr (.inl h))
  · rcases List.mem_append.mp h with h | h
    · exact hn p (List.mem_append.mpr (.inr (List.mem_append.mpr (.inl h))))
    · cases h with
      | head => exact Nat.ne_of_gt (Heap.lt_size hd)
      | tail _ h => exact hn p (List.mem_append.mpr (.inr (List.mem_append.mpr (.inr h))))
theorem jdQ_cons {W' : Wd} {Q : List (Value × Value) → Shared → Prop} {q : Int × Int × Int} {r : List (Int × Int × Int)} {ad : Addr} {t1 t2 t3 : Tok} {o : Obj} (ho : o = { cls := .type "tuple", dict := none, data := .seq [Value.int q.1 t1, Value.int q.2.1 t2].toArray 0, slots := #[] }) (le1 : W.Le W') (hm1 : (ad, o) ∈ W'.fz)
    (hQ : JdQ g x ρ σ prog w d od m ms cs (q :: r) W Q) : JdQ g x ρ σ prog w d od m ms cs r W' (fun l sh => Q ((.ref ad, .int q.2.2 t3) :: l) sh) := by
  intro W2 sh' ys le D' hd' hn' hk hm hf
  refine hQ W2 sh' (([q.1, q.2.1], ad, Value.int q.2.2 t3) :: ys) (le1.trans le) D' hd' hn' (fun z hz => ?_) ?_ ?_
  · cases hz with
    | head => exact ⟨_, le.fz _ hm1, ho ▸ TupKeyObj.made (.cons (intKind_is _ _ _ _) (.cons (intKind_is _ _ _ _) .nil))⟩
    | tail _ hz => exact hk z hz
  · rw [List.map_cons, List.map_cons, hm]
  · exact .cons (PyProof.V.Flat.int _ _) hf
theorem jdP_cons (O : CxOk g c x) {q : Int × Int × Int} {r : List (Int × Int × Int)} {ks : List (Option Expr)} {vs : List Expr} {u1 u2 u3 u4 : Nat} {p1 p2 p3 p4 : Pos} (h : JdP g x ρ σ prog w env pos d od m ms cs r ks vs) :
    JdP g x ρ σ prog w env pos d od m ms cs (q :: r) (some (.Tuple [.Constant (.int q.1) u1 p1, .Constant (.int q.2.1) u2 p2] u3 p3) :: ks) (.Constant (.int q.2.2) u4 p4 :: vs) := by
  obtain ⟨i1, i2, i3⟩ := h
  refine ⟨by simp [i1], by simpa using i2, fun A E W sh Q D hd hn hQ => ?_⟩
  refine pairTrees_cons_walk (Tuple_ (Calls.spliced_cons (wpAny_Constant_int (k := u1) (pos := p1) (Calls.spliced_cons (wpAny_Constant_int (k := u2) (pos := p2) (wpAny_pure ?_))))))
  refine wpAny_newObj_type ?_ (by show (List.toArray [_, _]).size ≤ sizeLine; rw [PySem.sizeLine_eq]; simp)
  refine wpAny_Constant_int (k := u4) (pos := p4) ?_
  exact i3 _ _ _ _ _ (D.addD (D.F.push _) (News.push D.F D.N _ rfl) D.size (D.big O) _) (Heap.get?_push_of_some _ hd) (ne_push hd hn) (jdQ_cons rfl (le_push _ W) (.head _) hQ)
theorem jd_pairs (O : CxOk g c x) : ∀ (r : List (Int × Int × Int)) (ks : List (Option Expr)) (vs : List Expr), jdT ks vs r = true → JdP g x ρ σ prog w env pos d od m ms cs r ks vs := by
  intro r
  induction r with
  | nil =>
    intro ks vs h
    cases ks with
    | cons k ks => cases vs <;> exact Bool.noConfusion h
    | nil => cases vs with
      | cons _ _ => exact Bool.noConfusion h
      | nil => exact jdP_nil
  | cons q r ih =>
    intro ks vs h
    cases ks with
    | nil => cases vs <;> exact Bool.noConfusion h
    | cons ko ks => cases vs with
      | nil => exact Bool.noConfusion h
      | cons y vs =>
        obtain ⟨h1, hh⟩ := and2_iff h
        obtain ⟨h2, hh2⟩ := and2_iff hh
        obtain ⟨u1, p1, u2, p2, u3, p3, rfl⟩ := tupK_iff h1
        obtain ⟨u4, p4, rfl⟩ := intI_iff h2
        exact jdP_cons O (ih ks vs hh2)
theorem jdT_len : ∀ (ks : List (Option Expr)) (vs : List Expr) (r : List (Int × Int × Int)), jdT ks vs r = true → ks.length = r.length := by
  intro ks
  induction ks with
  | nil => intro vs r h; cases vs <;> cases r <;> first | rfl | exact Bool.noConfusion h
  | cons ko ks ih =>
    intro vs r h
    cases vs with
    | nil => exact Bool.noConfusion h
    | cons y vs => cases r with
      | nil => exact Bool.noConfusion h
      | cons q r => exact congrArg (· + 1) (ih vs r (and2_iff (and2_iff h).2).2)
end
theorem jd_store {d : Addr} {prog : Program} {w : World} {A : Around} (hu : A.units < cLine) {E : Value → Shared → Prop} : ∀ (ys xs : List (List Int × Addr × Value)) (s : Shared) (Q : PUnit → Shared → Prop), s.heap.DictOfH (tupleKind (intKind prog w)) d xs →
    (∀ y ∈ ys, IsTupleKey (intKind prog w) s.heap y.1 y.2.1) → ((xs ++ ys).map (·.1)).Nodup → xs.length + ys.length ≤ 1000 →
    (∀ h' tk, h'.DictOfH (tupleKind (intKind prog w)) d (xs ++ ys) → Heap.SameBut d s.heap h' → Q PUnit.unit { s with heap := h', toks := tk }) →
    wpAny (model prog w) A (storeAll d (ys.map fun y => (.ref y.2.1, y.2.2))) Q E s := by
  intro ys
  induction ys with
  | nil =>
    intro xs s Q hd _ _ _ hQ
    unfold storeAll
    rw [List.map_nil, List.forIn_nil]
    rw [List.append_nil] at hQ
    exact wpAny_pure (hQ s.heap s.toks hd ⟨rfl, fun _ _ => rfl⟩)
  | cons y ys ih =>
    intro xs s Q hd hk hn hl hQ
    rw [List.length_cons] at hl
    unfold storeAll
    rw [List.map_cons, List.forIn_cons]
    refine wpAny_bind (wpAny_bind (wpAny_dictSet_heap (knd := tupleKind (intKind prog w)) (k := y.1) hu (hk y (.head _)) hd (fun h' hm hs => wpAny_pure ?_) (by rw [PySem.sizeLine_eq]; omega)))
    have hno : atKey xs y.1 = none := by
      refine atKey_none_of_get fun j p hj => ?_
      rw [List.map_append] at hn
      obtain ⟨_, _, h3⟩ := List.nodup_append.mp hn
      exact h3 y.1 (List.mem_map.mpr ⟨(y.1, p), List.mem_of_getElem? hj, rfl⟩) y.1 (.head _) rfl
    rw [storedH_new hno] at hm
    obtain ⟨o, es, ep, ho, hc, hdat, _⟩ := id hd
    refine ih (xs ++ [(y.1, y.2.1, y.2.2)]) _ _ hm (fun z hz => IsTupleKey.keeps (hk z (.tail _ hz)) ho hdat hs) (by simpa using hn) (by simp; omega) fun h2 tk2 hm2 hs2 => ?_
    exact hQ h2 tk2 (by simpa using hm2) (Heap.SameBut.trans' hs hs2)
theorem s_DictJ {ks : List (Option Expr)} {vs : List Expr} {p : Pos} (C : Ctx g T rec k c x A) (S : St g x W ρ s.σ sh) (hd : jdT ks vs joinL = true) (hQ : ∀ W' v sh', W.Le W' → St g x W' ρ s.σ sh' → V g W' v .jd → Q v sh') :
    wpAny (Md g) A (eval (.Dict ks vs p) x.env) Q E sh := by
  have big := S.big C.O
  refine S.e fun m ms cs D => ?_
  obtain ⟨i1, i2, i3⟩ := jd_pairs (d := sh.heap.objs.size) (od := { cls := .type "dict", data := .dict #[] }) (prog := g.prog) (w := g.w) (env := x.env) (pos := p) (m := m) (ms := ms) (cs := cs) (ρ := ρ) (σ := s.σ) C.O joinL ks vs hd
  have hlen : ks.length = 9 := jdT_len ks vs joinL hd
  refine wpAny_Dict_any i2 i1 (fun q => by rw [q] at hlen; cases hlen) (by omega) ?_
  have F1 := D.F.push { cls := .type "dict", data := .dict #[] }
  have N1 := News.push D.F D.N { cls := .type "dict", data := .dict #[] } rfl
  have D1 : StD g x W ρ s.σ { sh with heap := sh.heap.push { cls := .type "dict", data := .dict #[] } } m ms cs :=
    ⟨F1, fun p hp => N1 p (.tail _ hp), D.vars, D.as, D.mo, D.cel, D.nd, D.dj, D.lo, D.ge, D.dr, D.os, D.ex⟩
  refine i3 _ _ W _ _ D1 (Heap.get?_push_size _ rfl) D.size fun W' sh' ys le D' hd' hn' hk hm hf => ?_
  refine jd_store (by have := C.R.u; omega) ys [] sh' _ ⟨_, #[], 0, hd', ⟨rfl, rfl, rfl⟩, rfl, rfl, fun x hx => by simp at hx, List.nodup_nil⟩ (fun y hy => ?_) ?_ ?_ fun h' tk hm2 hs => ?_
  · obtain ⟨ok, h1, h2⟩ := hk y hy
    exact h2.key (D'.N _ (List.mem_append.mpr (.inr (List.mem_append.mpr (.inr h1))))).1
  · rw [List.nil_append, hm]; decide
  · have := congrArg List.length hm
    simp only [List.length_map] at this
    rw [List.length_nil, this]; decide
  · rw [List.nil_append] at hm2
    obtain ⟨o, es, ep, ho, hc, hdat, he, _, hnd⟩ := hm2
    have hL : @Ne Nat sh.heap.objs.size x.env.locals := Nat.ne_of_gt D.F.ns.lt
    have h0n : x.h₀.get? sh.heap.objs.size = none := by
      cases q : x.h₀.get? sh.heap.objs.size with
      | none => rfl
      | some o => exact absurd (Heap.lt_size (D.F.keep _ _ q)) (Nat.lt_irrefl _)
    refine hQ ⟨W'.As, (sh.heap.objs.size, o) :: W'.fz⟩ _ _ (le.trans (le_push _ W')) (D'.add (h' := h') (D'.F.change hs hL h0n) (fun q hq => ?_) (fun q hq => hn' q hq) big tk) (.jd ⟨o, es, ep, ys, .head _, hc, hdat, he, hnd, fun y hy => ?_, hf⟩)
    · cases hq with
      | head => exact ⟨ho, hL, h0n⟩
      | tail _ hq =>
        have z := D'.N q hq
        exact ⟨(hs.2 _ (hn' q hq)).trans z.1, z.2⟩
    · obtain ⟨ok, h1, h2⟩ := hk y hy
      exact ⟨ok, .tail _ h1, h2⟩
theorem s_DictM {p : Pos} (C : Ctx g T rec k c x A) (S : St g x W ρ s.σ sh) (h : K (.ref s.σ.length) ⟨s.σ ++ [.dct []], s.ans⟩) (hQ : PV g x W ρ K Q) :
    wpAny (Md g) A (eval (.Dict [] [] p) x.env) Q E sh := by
  refine wpAny_Dict_empty (hQ _ ⟨_, s.ans⟩ _ _ _ (le_new _ W) (S.pushM C.O _ rfl (.dct []) ?_) ?_ h)
  · refine .dct (f := fun _ => none) ⟨⟨rfl, rfl, rfl⟩, #[], 0, [], rfl, fun e he => by simp at he, .nil, .nil, Nat.le_refl _, fun _ => rfl⟩ (fun _ _ e => by cases e) fun _ _ => rfl
  · refine .ref ?_
    rw [← S.lenAs]
    simp
end
end Mine
end
section
set_option maxHeartbeats 4000000
open PySem PySem.W PySem.Spec PySem.Calls PyProof.Rows
namespace Mine
noncomputable def ItObj (o : Obj) : Prop := (∃ n vs, o.cls = .type n ∧ o.data = .fields vs ∧ ["enumerate", "zip", "dict_itemiterator", "dict_reverseitemiterator", "odict_iterator", "itertools.zip_longest", "itertools.pairwise"].contains n = false)
section
variable {g : Glb} {T : Tabs} {rec : Rec} {k : Nat} {c : Cfg} {x : Cx} {W : Wd} {ρ : Loc} {s : Stt} {σ : List MO} {sh : Shared} {A : Around} {K : AV → Stt → Prop} {KE : KX} {Q E : Value → Shared → Prop}
/-- other objects beside the state's own -/
structure OthD (x : Cx) (W : Wd) (h : Heap) (ms cs : List (Addr × Obj)) (os : List (Addr × Obj)) : Prop where
  at_ : ∀ p ∈ os, h.get? p.1 = some p.2 ∧ p.1 ≠ x.env.locals ∧ x.h₀.get? p.1 = none ∧ @LT.lt Nat _ 3 p.1 ∧ ∀ ov, p.2.data ≠ .cell ov
  ap : ∀ p ∈ os, ∀ q ∈ ms ++ (cs ++ W.fz), q.1 ≠ p.1
  nd : (os.map (·.1)).Nodup
noncomputable def StO (g : Glb) (x : Cx) (W : Wd) (ρ : Loc) (σ : List MO) (sh : Shared) (os : List (Addr × Obj)) : Prop := ∃ m ms cs, StD g x W ρ σ sh m ms cs ∧ OthD x W sh.heap ms cs os
noncomputable def Cx.plus (x : Cx) (os : List (Addr × Obj)) : Cx := { x with ex := os ++ x.ex }
theorem CxOk.plus {os : List (Addr × Obj)} (O : CxOk g c x) : CxOk g c (x.plus os) := ⟨O.sc, O.kind, O.gl, O.bi, O.X, O.T, O.bs, O.ff, O.top, O.cinj⟩
theorem ExcA.unplus {os : List (Addr × Obj)} {e : Value} (h : ExcA g (x.plus os) ρ e sh) : ExcA g x ρ e sh := by
  obtain ⟨a, a0, h1, h2, h3, h4, h5, h6⟩ := h
  refine ⟨a, a0, h1, h2, h3, h4, ?_, h6⟩
  cases h5 with
  | fresh q1 q2 q3 q4 q5 => exact .fresh q1 q2 q3 q4 q5
  | fly q => exact .fly q
  | held q1 q2 => exact .held q1 q2
theorem St.toO (S : St g x W ρ σ sh) : StO g x W ρ σ sh [] := by
  refine S.e fun m ms cs D => ?_
  exact ⟨m, ms, cs, D, ⟨fun _ h => (List.not_mem_nil h).elim, fun _ h => (List.not_mem_nil h).elim, .nil⟩⟩
theorem StO.st {os : List (Addr × Obj)} (S : StO g x W ρ σ sh os) : St g x W ρ σ sh := by
  obtain ⟨m, ms, cs, D, _⟩ := S
  exact ⟨m, ms, cs, D⟩
theorem StO.at {os : List (Addr × Obj)} (S : StO g x W ρ σ sh os) {a : Addr} {o : Obj} (h : (a, o) ∈ os) : sh.heap.get? a = some o := by
  obtain ⟨m, ms, cs, D, Z⟩ := S
  exact (Z.at_ _ h).1
/-- the others join the state -/
theorem StO.put {os : List (Addr × Obj)} (S : StO g x W ρ σ sh os) : St g (x.plus os) W ρ σ sh := by
  obtain ⟨m, ms, cs, D, Z⟩ := S
  refine ⟨m, ms, os ++ cs, D.F, fun p hp => ?_, D.vars, D.as, D.mo, fun y oa e => ?_, ?_, fun p hp q hq => ?_, fun p hp => ?_, D.ge, D.dr, D.os, fun p hp => ?_⟩
  · rcases List.mem_append.mp hp with h | h
    · exact D.N p (List.mem_append.mpr (.inl h))
    · rcases List.mem_append.mp h with h | h
      · rcases List.mem_append.mp h with h | h
        · have z := Z.at_ p h; exact ⟨z.1, z.2.1, z.2.2.1⟩
        · exact D.N p (List.mem_append.mpr (.inr (List.mem_append.mpr (.inl h))))
      · exact D.N p (List.mem_append.mpr (.inr (List.mem_append.mpr (.inr h))))
  · obtain ⟨ca, o, ov, h1, h2, h3⟩ := D.cel y oa e
    exact ⟨ca, o, ov, h1, h2.imp id fun h => List.mem_append.mpr (.inr h), h3⟩
  · have h := D.nd
    rw [List.map_append] at h
    obtain ⟨h1, h2, h3⟩ := List.nodup_append.mp h
    rw [List.map_append, List.map_append]
    refine List.nodup_append.mpr ⟨h1, List.nodup_append.mpr ⟨Z.nd, h2, fun a ha b hb e => ?_⟩, fun a ha b hb e => ?_⟩
    · obtain ⟨p, hp, rfl⟩ := List.mem_map.mp ha
      obtain ⟨q, hq, rfl⟩ := List.mem_map.mp hb
      exact Z.ap p hp q (List.mem_append.mpr (.inr (List.mem_append.mpr (.inl hq)))) e.symm
    · rcases List.mem_append.mp hb with hb | hb
      · obtain ⟨p, hp, rfl⟩ := List.mem_map.mp hb
        obtain ⟨q, hq, rfl⟩ := List.mem_map.mp ha
        exact Z.ap p hp q (List.mem_append.mpr (.inl hq)) e
      · exact h3 a ha b hb e
  · rcases List.mem_append.mp hp with h | h
    · exact D.dj p (List.mem_append.mpr (.inl h)) q hq
    · rcases List.mem_append.mp h with h | h
      · exact (Z.ap p h q (List.mem_append.mpr (.inr (List.mem_append.mpr (.inr hq))))).symm
      · exact D.dj p (List.mem_append.mpr (.inr h)) q hq
  · rcases List.mem_append.mp hp with h | h
    · exact D.lo p (List.mem_append.mpr (.inl h))
    · rcases List.mem_append.mp h with h | h
      · rcases List.mem_append.mp h with h | h
        · exact (Z.at_ p h).2.2.2.1
        · exact D.lo p (List.mem_append.mpr (.inr (List.mem_append.mpr (.inl h))))
      · exact D.lo p (List.mem_append.mpr (.inr (List.mem_append.mpr (.inr h))))
  · rcases List.mem_append.mp hp with h | h
    · exact ⟨List.mem_append.mpr (.inl h), (Z.at_ p h).2.2.2.2⟩
    · exact ⟨List.mem_append.mpr (.inr (D.ex p h).1), (D.ex p h).2⟩
/-- the others leave the state -/
theorem StO.back {os : List (Addr × Obj)} (hc : ∀ p ∈ os, ∀ ov, p.2.data ≠ .cell ov) (hx : ∀ p ∈ x.ex, ∀ q ∈ os, p.1 ≠ q.1) (hn : (os.map (·.1)).Nodup) (S : St g (x.plus os) W ρ σ sh) : StO g x W ρ σ sh os := by
  refine S.e fun m ms cs D => ?_
  have hos : ∀ p ∈ os, p ∈ cs := fun p hp => (D.ex p (List.mem_append.mpr (.inl hp))).1
  have inn : ∀ p, p ∈ ms ++ (cs.filter (fun p => !decide (p.1 ∈ os.map (·.1))) ++ W.fz) → p ∈ ms ++ (cs ++ W.fz) := fun p hp => by
    rcases List.mem_append.mp hp with h | h
    · exact List.mem_append.mpr (.inl h)
    · rcases List.mem_append.mp h with h | h
      · exact List.mem_append.mpr (.inr (List.mem_append.mpr (.inl (List.mem_filter.mp h).1)))
      · exact List.mem_append.mpr (.inr (List.mem_append.mpr (.inr h)))
  have keepC : ∀ p, p ∈ cs → (∀ q ∈ os, p.1 ≠ q.1) → p ∈ cs.filter (fun p => !decide (p.1 ∈ os.map (·.1))) := fun p hp h => by
    refine List.mem_filter.mpr ⟨hp, ?_⟩
    simp only [Bool.not_eq_true', decide_eq_false_iff_not]
    intro hm
    obtain ⟨q, hq, e⟩ := List.mem_map.mp hm
    exact h q hq e.symm
  have nd := D.nd
  rw [List.map_append] at nd
  obtain ⟨n1, n2, n3⟩ := List.nodup_append.mp nd
  refine ⟨m, ms, cs.filter (fun p => !decide (p.1 ∈ os.map (·.1))), ⟨D.F, fun p hp => D.N p (inn p hp), D.vars, D.as, D.mo, fun y oa e => ?_, ?_, fun p hp q hq => ?_, fun p hp => D.lo p (inn p hp), D.ge, D.dr, D.os, fun p hp => ?_⟩, ⟨fun p hp => ?_, fun p hp q hq => ?_, hn⟩⟩
  · obtain ⟨ca, o, ov, h1, h2, h3, h4⟩ := D.cel y oa e
    refine ⟨ca, o, ov, h1, h2.imp id fun h => keepC _ h fun q hq e' => ?_, h3, h4⟩
    have z1 := D.cget (.inr h : (x.h₀.get? ca = some o ∧ oa.isSome = true) ∨ (ca, o) ∈ cs)
    have z2 := (D.N q (List.mem_append.mpr (.inr (List.mem_append.mpr (.inl (hos q hq)))))).1
    have e' : ca = q.1 := e'
    rw [← e', z1] at z2
    cases z2
    exact hc q hq _ h3
  · rw [List.map_append]
    refine List.nodup_append.mpr ⟨n1, ?_, fun a ha b hb => n3 a ha b ?_⟩
    · exact (List.filter_sublist.map _).nodup n2
    · obtain ⟨q, hq, rfl⟩ := List.mem_map.mp hb
      exact List.mem_map_of_mem (List.mem_filter.mp hq).1
  · rcases List.mem_append.mp hp with h | h
    · exact D.dj p (List.mem_append.mpr (.inl h)) q hq
    · exact D.dj p (List.mem_append.mpr (.inr (List.mem_filter.mp h).1)) q hq
  · exact ⟨keepC p (D.ex p (List.mem_append.mpr (.inr hp))).1 (hx p hp), (D.ex p (List.mem_append.mpr (.inr hp))).2⟩
  · have z := D.N p (List.mem_append.mpr (.inr (List.mem_append.mpr (.inl (hos p hp)))))
    exact ⟨z.1, z.2.1, z.2.2, D.lo p (List.mem_append.mpr (.inr (List.mem_append.mpr (.inl (hos p hp))))), hc p hp⟩
  · intro e
    rcases List.mem_append.mp hq with h | h
    · exact n3 q.1 (List.mem_map_of_mem h) p.1 (List.mem_map_of_mem (hos p hp)) e
    · rcases List.mem_append.mp h with h | h
      · have := (List.mem_filter.mp h).2
        simp only [Bool.not_eq_true', decide_eq_false_iff_not] at this
        exact this (e ▸ List.mem_map_of_mem hp)
      · exact D.dj p (List.mem_append.mpr (.inr (hos p hp))) q h e.symm
/-- the others change, all else stays -/
theorem StO.change {os os' : List (Addr × Obj)} {h' : Heap} (S : StO g x W ρ σ sh os) (hk : ∀ b o, b ∉ os.map (·.1) → sh.heap.get? b = some o → h'.get? b = some o) (ha : os'.map (·.1) = os.map (·.1))
    (ho : ∀ p ∈ os', h'.get? p.1 = some p.2 ∧ ∀ ov, p.2.data ≠ .cell ov) (t : Nat) : StO g x W ρ σ { sh with heap := h', toks := t } os' := by
  obtain ⟨m, ms, cs, D, Z⟩ := S
  have mem : ∀ a, a ∈ os.map (·.1) → ∃ p ∈ os, p.1 = a := fun a h => List.mem_map.mp h
  have kp : ∀ p ∈ ms ++ (cs ++ W.fz), h'.get? p.1 = some p.2 := fun p hp => hk _ _ (fun q => by
    obtain ⟨r, hr, e⟩ := mem _ q
    exact Z.ap r hr p hp e.symm) (D.N p hp).1
  have nL : x.env.locals ∉ os.map (·.1) := fun q => by
    obtain ⟨r, hr, e⟩ := mem _ q
    exact (Z.at_ r hr).2.1 e
  have n0 : ∀ b o, x.h₀.get? b = some o → b ∉ os.map (·.1) := fun b o e q => by
    obtain ⟨r, hr, rfl⟩ := mem _ q
    rw [(Z.at_ r hr).2.2.1] at e; cases e
  refine ⟨m, ms, cs, ⟨⟨?_, fun b o e => hk b o (n0 b o e) (D.F.keep b o e), D.F.above⟩, fun p hp => ⟨kp p hp, (D.N p hp).2⟩, D.vars, D.as, D.mo, D.cel, D.nd, D.dj, D.lo, D.ge, D.dr, D.os, D.ex⟩, ⟨fun p hp => ?_, fun p hp q hq => ?_, ha ▸ Z.nd⟩⟩
  · obtain ⟨o, es, ep, h1, h2⟩ := D.F.ns
    exact ⟨o, es, ep, hk _ _ nL h1, h2⟩
  · obtain ⟨r, hr, e⟩ := mem p.1 (ha ▸ List.mem_map_of_mem hp)
    have z := Z.at_ r hr
    rw [e] at z
    exact ⟨(ho p hp).1, z.2.1, z.2.2.1, z.2.2.2.1, (ho p hp).2⟩
  · obtain ⟨r, hr, e⟩ := mem p.1 (ha ▸ List.mem_map_of_mem hp)
    rw [← e]
    exact Z.ap r hr q hq
/-- one more other -/
theorem StO.add {os : List (Addr × Obj)} {h' : Heap} {a : Addr} {o : Obj} (S : StO g x W ρ σ sh os) (hk : ∀ b o, sh.heap.get? b = some o → h'.get? b = some o) (hn : sh.heap.get? a = none) (ha : h'.get? a = some o) (lo : @LT.lt Nat _ 3 a) (hc : ∀ ov, o.data ≠ .cell ov) (t : Nat) :
    StO g x W ρ σ { sh with heap := h', toks := t } ((a, o) :: os) := by
  obtain ⟨m, ms, cs, D, Z⟩ := S
  have nn : ∀ b o, sh.heap.get? b = some o → b ≠ a := fun b o e q => by rw [q, hn] at e; cases e
  obtain ⟨oL, es, ep, h1, h2⟩ := id D.F.ns
  refine ⟨m, ms, cs, ⟨⟨⟨oL, es, ep, hk _ _ h1, h2⟩, fun b o e => hk b o (D.F.keep b o e), D.F.above⟩, fun p hp => ⟨hk _ _ (D.N p hp).1, (D.N p hp).2⟩, D.vars, D.as, D.mo, D.cel, D.nd, D.dj, D.lo, D.ge, D.dr, D.os, D.ex⟩, ⟨fun p hp => ?_, fun p hp q hq => ?_, ?_⟩⟩
  · cases hp with
    | head =>
      refine ⟨ha, (nn _ _ h1).symm, ?_, lo, hc⟩
      cases q : x.h₀.get? a with
      | none => rfl
      | some o => exact absurd rfl (nn _ _ (D.F.keep _ _ q))
    | tail _ hp =>
      have z := Z.at_ p hp
      exact ⟨hk _ _ z.1, z.2⟩
  · cases hp with
    | head => exact nn _ _ (D.N q hq).1
    | tail _ hp => exact Z.ap p hp q hq
  · rw [List.map_cons]
    refine List.nodup_cons.mpr ⟨fun q => ?_, Z.nd⟩
    obtain ⟨r, hr, e⟩ := List.mem_map.mp q
    exact nn _ _ (Z.at_ r hr).1 e
end
end Mine
end
section
set_option maxHeartbeats 4000000
open PySem PySem.W PySem.Spec PySem.Calls PyProof.Rows
namespace Mine
theorem lk_putD (y : PySem.Str) (a : AV) : ∀ (d : List (PySem.Str × AV)) (z : PySem.Str), lk (putD y a d) z = if z = y then some a else lk d z
  | [], z => by
    unfold putD
    rw [lk_cons]
    by_cases h : y = z
    · rw [if_pos h, if_pos h.symm]
    · rw [if_neg h, if_neg fun e => h e.symm]
  | p :: r, z => by
    unfold putD
    cases e : seq p.1 y with
    | true =>
      have e := seq_iff.mp e
      obtain ⟨n, b⟩ := p
      dsimp only at e ⊢
      subst e
      rw [lk_cons, lk_cons]
      by_cases h : n = z
      · rw [if_pos h, if_pos h.symm]
      · rw [if_neg h, if_neg fun e => h e.symm, if_neg h]
    | false =>
      obtain ⟨n, b⟩ := p
      have e' : n ≠ y := fun q => by rw [seq_iff.mpr q] at e; cases e
      dsimp only
      rw [lk_cons, lk_cons, lk_putD y a r z]
      by_cases h : n = z
      · subst h; rw [if_pos rfl, if_pos rfl, if_neg e']
      · rw [if_neg h, if_neg h]
section
variable {g : Glb} {T : Tabs} {rec : Rec} {k : Nat} {c : Cfg} {x : Cx} {W : Wd} {ρ : Loc} {s : Stt} {σ : List MO} {sh : Shared} {A : Around} {K : AV → Stt → Prop} {KE : KX} {Q E : Value → Shared → Prop}
/-- the heap grows, nothing else -/
theorem St.grow {h' : Heap} (S : St g x W ρ σ sh) (hk : ∀ b o, sh.heap.get? b = some o → h'.get? b = some o) (t : Nat) : St g x W ρ σ { sh with heap := h', toks := t } := by
  have := S.toO.change (os' := []) (h' := h') (fun b o _ e => hk b o e) rfl (fun p hp => (List.not_mem_nil hp).elim) t
  exact this.st
theorem lk_setC {y : PySem.Str} {a : AV} : ∀ {l : List (PySem.Str × Option AV)} {z : PySem.Str}, (∃ o, lk l y = some o) → lk (setC y a l) z = if z = y then some (some a) else lk l z
  | [], _, h => by obtain ⟨o, h⟩ := h; cases h
  | (n, o) :: r, z, h => by
    unfold setC
    cases e : seq n y with
    | true =>
      have e := seq_iff.mp e
      subst e
      dsimp only
      rw [lk_cons, lk_cons]
      by_cases q : z = n
      · subst q; rw [if_pos rfl, if_pos rfl]
      · rw [if_neg q, if_neg fun w => q w.symm, if_neg fun w => q w.symm]
    | false =>
      have e' : n ≠ y := fun q => by rw [seq_iff.mpr q] at e; cases e
      dsimp only
      rw [lk_cons, lk_cons]
      obtain ⟨o', h⟩ := h
      rw [lk_cons, if_neg e'] at h
      by_cases q : n = z
      · subst q; rw [if_pos rfl, if_pos rfl, if_neg e']
      · rw [if_neg q, if_neg q]; exact lk_setC ⟨o', h⟩
theorem s_put (O : CxOk g c x) (S : St g x W ρ σ sh) {y : PySem.Str} {a : AV} {v : Value} {ρ' : Loc} {Q : Unit → Shared → Prop} (hv : V g W v a) (hp : put c ρ y a = some ρ') (hQ : ∀ sh', St g x W ρ' σ sh' → Q () sh') :
    wpAny (Md g) A (storeName x.env y v) Q E sh := by
  have hk : x.env.scope.kind = .function := by rw [O.sc]; exact O.kind
  have ko : x.env.kindOf y = lk c.sc.names y := by unfold Env.kindOf; rw [O.sc, lk_eq]
  refine S.e fun m ms cs D => ?_
  have hp : putK ρ y a (lk c.sc.names y) = some ρ' := hp
  generalize q : lk c.sc.names y = kd at hp
  cases kd with
  | none => exact none_p hp
  | some kd =>
  cases kd with
  | «local» =>
    cases hp
    refine wpAny_storeName_local (ko.trans q) D.F.ns (fun h' hn hs => hQ _ ?_) (by rw [hk]; rfl)
    refine ⟨_, ms, cs, D.F.set hn hs, D.N.set hs, fun z b e => ?_, D.as, D.mo, D.cel, D.nd, D.dj, D.lo, D.ge, D.dr, D.os, D.ex⟩
    have e : lk (putD y a ρ.vars) z = some b := e
    rw [lk_putD] at e
    by_cases w : z = y
    · subst w
      rw [if_pos rfl] at e
      cases e
      exact ⟨v, if_pos rfl, hv⟩
    · rw [if_neg w] at e
      obtain ⟨u, h1, h2⟩ := D.vars z b e
      exact ⟨u, by rw [if_neg w]; exact h1, h2⟩
  | cell =>
    have hp : putC ρ y a (lk ρ.cells y) = some ρ' := hp
    generalize e : lk ρ.cells y = oc at hp
    cases oc with
    | none => exact none_p hp
    | some oc => cases oc with
    | some _ => exact none_p hp
    | none =>
      cases hp
      obtain ⟨ca, o, ov, h1, h2, h3, h4⟩ := D.cel y none e
      have hm : (ca, o) ∈ cs := h2.resolve_left fun w => by cases w.2
      have ho := D.N _ (List.mem_append.mpr (.inr (List.mem_append.mpr (.inl hm))))
      refine wpAny_storeName_cell hk (ko.trans q) h1 ⟨o, ho.1, h3⟩ fun h' ⟨o', ho', hd'⟩ hs => hQ _ ?_
      have nd := D.nd
      rw [List.map_append] at nd
      obtain ⟨n1, n2, n3⟩ := List.nodup_append.mp nd
      have hu : ∀ p ∈ cs, p.1 = ca → p = (ca, o) := fun p hp e' => by
        have z := (D.N p (List.mem_append.mpr (.inr (List.mem_append.mpr (.inl hp))))).1
        rw [e', ho.1] at z
        exact Prod.ext e' (Option.some.inj z).symm
      have hmap : (cs.map fun p => if p.1 = ca then (ca, o') else p).map (·.1) = cs.map (·.1) := by
        rw [List.map_map]
        refine List.map_congr_left fun p _ => ?_
        show (if p.1 = ca then (ca, o') else p).1 = p.1
        by_cases w : p.1 = ca
        · rw [if_pos w]; exact w.symm
        · rw [if_neg w]
      have hin : ∀ p ∈ cs.map (fun p => if p.1 = ca then (ca, o') else p), p = (ca, o') ∨ (p ∈ cs ∧ p.1 ≠ ca) := fun p hp => by
        obtain ⟨r, hr, e'⟩ := List.mem_map.mp hp
        by_cases w : r.1 = ca
        · rw [if_pos w] at e'; exact .inl e'.symm
        · rw [if_neg w] at e'; subst e'; exact .inr ⟨hr, w⟩
      have keep : ∀ p ∈ cs, p.1 ≠ ca → p ∈ cs.map (fun p => if p.1 = ca then (ca, o') else p) := fun p hp w => List.mem_map.mpr ⟨p, hp, if_neg w⟩
      have hms : ∀ p ∈ ms, p.1 ≠ ca := fun p hp e' => n3 p.1 (List.mem_map_of_mem hp) ca (List.mem_map_of_mem (f := (·.1)) hm) e'
      have hfz : ∀ p ∈ W.fz, p.1 ≠ ca := fun p hp e' => D.dj (ca, o) (List.mem_append.mpr (.inr hm)) p hp e'.symm
      refine ⟨m, ms, cs.map (fun p => if p.1 = ca then (ca, o') else p), D.F.change hs ho.2.1 ho.2.2, fun p hp => ?_, D.vars, D.as, D.mo, fun z oa e' => ?_, ?_, fun p hp r hr => ?_, fun p hp => ?_, D.ge, D.dr, D.os, fun p hp => ?_⟩
      · have old : ∀ p, p ∈ ms ++ (cs ++ W.fz) → p.1 ≠ ca → h'.get? p.1 = some p.2 ∧ p.1 ≠ x.env.locals ∧ x.h₀.get? p.1 = none := fun p hp w => ⟨(hs.2 _ w).trans (D.N p hp).1, (D.N p hp).2⟩
        rcases List.mem_append.mp hp with h | h
        · exact old p (List.mem_append.mpr (.inl h)) (hms p h)
        · rcases List.mem_append.mp h with h | h
          · rcases hin p h with rfl | ⟨h, w⟩
            · exact ⟨ho', ho.2⟩
            · exact old p (List.mem_append.mpr (.inr (List.mem_append.mpr (.inl h)))) w
          · exact old p (List.mem_append.mpr (.inr (List.mem_append.mpr (.inr h)))) (hfz p h)
      · have e' : lk (setC y a ρ.cells) z = some oa := e'
        rw [lk_setC ⟨_, e⟩] at e'
        by_cases w : z = y
        · subst w
          rw [if_pos rfl] at e'
          cases e'
          exact ⟨ca, o', some v, h1, .inr (List.mem_map.mpr ⟨_, hm, if_pos rfl⟩), hd', fun b hb => by cases hb; exact ⟨v, rfl, hv⟩⟩
        · rw [if_neg w] at e'
          obtain ⟨ca', o2, ov2, q1, q2, q3, q4⟩ := D.cel z oa e'
          refine ⟨ca', o2, ov2, q1, q2.imp id fun q => keep _ q fun (r : ca' = ca) => ?_, q3, q4⟩
          subst r
          exact w (O.cinj _ _ _ q1 h1)
      · rw [List.map_append, hmap, ← List.map_append]; exact D.nd
      · rcases List.mem_append.mp hp with h | h
        · exact D.dj p (List.mem_append.mpr (.inl h)) r hr
        · rcases hin p h with rfl | ⟨h, w⟩
          · exact (hfz r hr).symm
          · exact D.dj p (List.mem_append.mpr (.inr h)) r hr
      · rcases List.mem_append.mp hp with h | h
        · exact D.lo p (List.mem_append.mpr (.inl h))
        · rcases List.mem_append.mp h with h | h
          · rcases hin p h with rfl | ⟨h, w⟩
            · exact D.lo (ca, o) (List.mem_append.mpr (.inr (List.mem_append.mpr (.inl hm))))
            · exact D.lo p (List.mem_append.mpr (.inr (List.mem_append.mpr (.inl h))))
          · exact D.lo p (List.mem_append.mpr (.inr (List.mem_append.mpr (.inr h))))
      · have z := D.ex p hp
        refine ⟨keep p z.1 fun w => ?_, z.2⟩
        have := hu p z.1 w
        rw [this] at z
        exact z.2 _ h3
  | _ => exact none_p hp
theorem name_e {P : Expr → Prop} {t : Expr} {y : PySem.Str} (h : nameOf t = some y) (k : ∀ p, P (.Name y p)) : P t := by
  cases t with
  | Name z p => cases (show some z = some y from h); exact k p
  | _ => exact none_p h
theorem name_of {t : Expr} {y : PySem.Str} (h : nameOf t = some y) : ∃ p, t = .Name y p := name_e h (P := fun t => ∃ p, t = .Name y p) fun p => ⟨p, rfl⟩
theorem binds_len : ∀ (ts : List Expr) (as : List AV) (ρ ρ' : Loc) (env : Env), binds c ts as ρ = some ρ' → (assignEach ts env).length = as.length ∧ (assignEach ts env).findIdx? (·.1) = none := by
  intro ts
  induction ts with
  | nil => intro as ρ ρ' env h; cases as with
    | nil => exact ⟨rfl, rfl⟩
    | cons _ _ => exact none_p h
  | cons t ts ih =>
    intro as ρ ρ' env h
    cases as with
    | nil => exact none_p h
    | cons a as =>
      refine oB_e h fun y e h1 => oB_e h1 fun ρ1 e1 h2 => ?_
      refine name_e e (P := fun t => (assignEach (t :: ts) env).length = (a :: as).length ∧ (assignEach (t :: ts) env).findIdx? (·.1) = none) fun p => ?_
      obtain ⟨h1, h2⟩ := ih as ρ1 ρ' env h2
      show (((false, assign (.Name y p) env) :: assignEach ts env).length = _) ∧ ((false, assign (.Name y p) env) :: assignEach ts env).findIdx? (·.1) = none
      refine ⟨by rw [List.length_cons, List.length_cons, h1], ?_⟩
      rw [List.findIdx?_cons, h2]; rfl
theorem s_binds (O : CxOk g c x) : ∀ (ts : List Expr) (as : List AV) (vs : List Value) (ρ ρ' : Loc) (sh : Shared) (Q : Unit → Shared → Prop), St g x W ρ σ sh → VA g W vs as → binds c ts as ρ = some ρ' → (∀ sh', St g x W ρ' σ sh' → Q () sh') →
    wpAny (Md g) A (assignInOrder ((assignEach ts x.env).map (·.2)) vs) Q E sh := by
  intro ts
  induction ts with
  | nil =>
    intro as vs ρ ρ' sh Q S hv h hQ
    cases as with
    | cons _ _ => exact none_p h
    | nil => cases h; exact hv.nil_e fun ee => ee ▸ (assignInOrder_nil (hQ _ S))
  | cons t ts ih =>
    intro as vs ρ ρ' sh Q S hv h hQ
    cases as with
    | nil => exact none_p h
    | cons a as =>
      refine oB_e h fun y e h1 => oB_e h1 fun ρ1 e1 h2 => hv.cons_e fun v vs hv hr ee => ee ▸ ?_
      exact name_e e (P := fun t => wpAny (Md g) A (assignInOrder ((assignEach (t :: ts) x.env).map (·.2)) (v :: vs)) Q E sh) fun p => assignInOrder_cons (wpAny_assign_Name (s_put O S hv e1 fun sh' S' => ih as _ ρ1 ρ' sh' Q S' hr h2 hQ))
/-- a target is set -/
theorem s_bindT (O : CxOk g c x) (hh : A.handled = none) (S : St g x W ρ σ sh) {t : Expr} {a : AV} {v : Value} {ρ' : Loc} {Q : Unit → Shared → Prop} (hv : V g W v a) (h : bindT c t a ρ = some ρ') (hQ : ∀ sh', St g x W ρ' σ sh' → Q () sh') :
    wpAny (Md g) A (assign t x.env v) Q E sh := by
  cases t with
  | Name y p => exact wpAny_assign_Name (s_put O S hv h hQ)
  | Tuple ts u p => cases a with
    | tup l =>
      refine hv.tup_e fun ad vs n k1 k2 ee => ee ▸ ?_
      obtain ⟨h1, h2⟩ := binds_len (c := c) _ _ _ _ x.env h
      refine wpAny_assign_Tuple hh ⟨_, S.kn O k1, rfl, _, rfl⟩ (by rw [h1, List.size_toArray, k2.length]) h2 fun h' hs => ?_
      exact s_binds O _ _ _ _ _ _ _ (S.grow (fun b o e => hs b o (Nat.ne_of_lt (Heap.lt_size e)) e) sh.toks) k2 h hQ
    | _ => exact none_p h
  | _ => exact none_p h
/-! ## what is gone through -/
structure IterOk (g : Glb) (A : Around) (W : Wd) (I : Addr) (items : List AV) (fp : List Addr) (P : Nat → Value → Prop) (Stt : Nat → Heap → Prop) : Prop where
  wk : Walks g.prog g.w A I fp [I] items.length P Stt
  foot : ∀ b ∈ fp, b = I ∨ ∃ o, Kn g W b o
  val : ∀ i v, i < items.length → P i v → ∃ a, items[i]? = some a ∧ V g W v a
  obj : ∀ i h, Stt i h → ∃ o, h.get? I = some o ∧ ItObj o
theorem ItObj.noCell {o : Obj} (h : ItObj o) (ov : Option Value) : o.data ≠ .cell ov := by
  obtain ⟨n, vs, _, h, _⟩ := h
  rw [h]; intro q; cases q
theorem ItObj.go {I : Addr} {o : Obj} {M : Model} {t : Expr} {v : Value} {Q : Unit → Shared → Prop} (h : ItObj o) (ho : sh.heap.get? I = some o) (hQ : Q () sh) : wpAny M A (letOwnedTupleGo t (.ref I) v) Q E sh := by
  obtain ⟨n, vs, h1, h2, h3⟩ := h
  have key : wpAny M A (do
    let (.ref r, .ref a) := ((.ref I : Value), v) | return
    let o ← load r
    match o.cls, o.data with
    | .type n, .fields vs =>
      if ["enumerate", "zip", "dict_itemiterator", "dict_reverseitemiterator", "odict_iterator", "itertools.zip_longest", "itertools.pairwise"].contains n && vs[0]? == some (rawInt a) then
        rule "for.unpacks-the-owned-tuple"
        updateField r 0 .none
    | _, _ => pure () : Sem Unit) Q E sh := by
    cases v with
    | ref a =>
      dsimp only
      refine wpAny_bind (wpAny_load ho ?_)
      rw [h1, h2]
      dsimp only
      rw [h3]
      exact wpAny_pure hQ
    | _ => exact wpAny_pure hQ
  cases t with
  | Tuple _ _ _ => exact key
  | List _ _ => exact key
  | _ => exact wpAny_pure hQ
theorem intsF_get {a : Int} {n i : Nat} (h : i < n) : (intsF a n)[i]? = some (.int (a + i)) := by
  unfold intsF
  rw [List.getElem?_map, List.getElem?_range h]; rfl
theorem intsF_len {a : Int} {n : Nat} : (intsF a n).length = n := by unfold intsF; simp
noncomputable def IQ (g : Glb) (x : Cx) (A : Around) (W : Wd) (ρ : Loc) (σ : List MO) (os : List (Addr × Obj)) (Q : Value → Shared → Prop) (items : List AV) : Prop :=
  ∀ I o fp P Stt sh', IterOk g A W I items fp P Stt → ItObj o → StO g x W ρ σ sh' ((I, o) :: os) → Stt 0 sh'.heap → Q (.ref I) sh'
theorem StO.it {os : List (Addr × Obj)} (O : CxOk g c x) (S : StO g x W ρ σ sh os) (o : Obj) (t : Nat) (ho : ItObj o) (hf : o.isFreed = false) : StO g x W ρ σ { sh with heap := sh.heap.push o, toks := t } ((sh.heap.objs.size, o) :: os) := by
  have nn : sh.heap.get? sh.heap.objs.size = none := by
    cases q : sh.heap.get? sh.heap.objs.size with
    | none => rfl
    | some o => exact absurd (Heap.lt_size q) (Nat.lt_irrefl _)
  exact S.add (fun b o' e => Heap.get?_push_of_some _ e) nn (Heap.get?_push_size _ hf) (S.st.big O) ho.noCell t
theorem it_foot {a b : Addr} {P : Addr → Prop} (ha : P a) (hb : P b) : ∀ z ∈ [a, b], P z := fun z hz => by
  cases hz with
  | head => exact ha
  | tail _ hz => cases hz with
    | head => exact hb
    | tail _ hz => cases hz
theorem it_val {vs : List Value} {items : List AV} (k : VA g W vs items) (i : Nat) (v : Value) (hi : i < items.length) (hP : vs.toArray[i]? = some v) : ∃ a, items[i]? = some a ∧ V g W v a := by
  rw [List.getElem?_toArray] at hP
  obtain ⟨v', e1, e2⟩ := k.get (List.getElem?_eq_getElem hi)
  rw [hP] at e1
  exact ⟨_, List.getElem?_eq_getElem hi, Option.some.inj e1 ▸ e2⟩
theorem it_tup {os : List (Addr × Obj)} (O : CxOk g c x) (hh : A.handled = none) (S : StO g x W ρ σ sh os) {v : Value} {items : List AV} {Q : Value → Shared → Prop} (hv : V g W v (.tup items)) (hQ : IQ g x A W ρ σ os Q items) : wpAny (Md g) A (pyIter v) Q E sh := by
  refine hv.tup_e fun ad vs n k1 k2 ee => ee ▸ ?_
  have hk := S.st.kn O k1
  have hne : @Ne Nat ad sh.heap.objs.size := Nat.ne_of_lt (Heap.lt_size hk)
  have IT : (sh.heap.push { cls := .type "tuple_iterator", data := .fields #[.ref ad, .int 0 0] }).IsTuple ad vs.toArray := ⟨_, Heap.get?_push_of_some _ hk, rfl, _, rfl⟩
  have io : ItObj { cls := .type "tuple_iterator", data := .fields #[.ref ad, .int 0 0] } := ⟨_, _, rfl, rfl, by decide⟩
  refine wpAny_pyIter_tuple ⟨_, hk, rfl, _, rfl⟩ (hQ _ _ [sh.heap.objs.size, ad] (fun i v => vs.toArray[i]? = some v) (fun i h => h.IsTupleIter sh.heap.objs.size ad i ∧ h.IsTuple ad vs.toArray) _ ⟨?_, it_foot (.inl rfl) (.inr ⟨_, k1⟩), it_val k2, ?_⟩ io (S.it O _ _ io rfl) ⟨⟨_, Heap.get?_push_size _ rfl, rfl, rfl⟩, IT⟩)
  · have := Walks.tuple (prog := g.prog) (w := g.w) (A := A) hh sh.heap.objs.size ad hne vs.toArray
    rw [show vs.toArray.size = items.length by rw [List.size_toArray, k2.length]] at this
    exact this
  · exact fun i h hq => hq.1.imp fun o h => ⟨h.1, _, _, h.2.1, h.2.2, by decide⟩
theorem it_lst {os : List (Addr × Obj)} (O : CxOk g c x) (hh : A.handled = none) (S : StO g x W ρ σ sh os) {v : Value} {items : List AV} {Q : Value → Shared → Prop} (hv : V g W v (.lst items)) (hQ : IQ g x A W ρ σ os Q items) : wpAny (Md g) A (pyIter v) Q E sh := by
  refine hv.lst_e fun ad vs n k1 k2 ee => ee ▸ ?_
  have hk := S.st.fzAt k1
  have hne : @Ne Nat ad sh.heap.objs.size := Nat.ne_of_lt (Heap.lt_size hk)
  have IT : (sh.heap.push { cls := .type "list_iterator", data := .fields #[.ref ad, .int 0 0] }).IsList ad vs.toArray := ⟨_, Heap.get?_push_of_some _ hk, rfl, _, rfl⟩
  have io : ItObj { cls := .type "list_iterator", data := .fields #[.ref ad, .int 0 0] } := ⟨_, _, rfl, rfl, by decide⟩
  refine wpAny_pyIter_list ⟨_, hk, rfl, _, rfl⟩ (hQ _ _ [sh.heap.objs.size, ad] (fun i v => vs.toArray[i]? = some v) (fun i h => h.IsListIter sh.heap.objs.size ad i ∧ h.IsList ad vs.toArray) _ ⟨?_, it_foot (.inl rfl) (.inr ⟨_, .inr k1⟩), it_val k2, ?_⟩ io (S.it O _ _ io rfl) ⟨⟨_, Heap.get?_push_size _ rfl, rfl, rfl⟩, IT⟩)
  · have := Walks.list (prog := g.prog) (w := g.w) (A := A) hh sh.heap.objs.size ad hne vs.toArray
    rw [show vs.toArray.size = items.length by rw [List.size_toArray, k2.length]] at this
    exact this
  · exact fun i h hq => hq.1.imp fun o h => ⟨h.1, _, _, h.2.1, h.2.2, by decide⟩
theorem it_rng {os : List (Addr × Obj)} (O : CxOk g c x) (hh : A.handled = none) (S : StO g x W ρ σ sh os) {v : Value} {i j : Int} {Q : Value → Shared → Prop} (hv : V g W v (.rng i j)) (h1 : okR i j = true) (hQ : IQ g x A W ρ σ os Q (intsF i (j - i).toNat)) : wpAny (Md g) A (pyIter v) Q E sh := by
  refine hv.rng_e fun ad t u w k1 ee => ee ▸ ?_
  refine wpAny_pyIter_range (S.st.fzAt k1) (okR_sm h1) ?_
  rw [rangeSize_1]
  have io : ItObj { cls := .type "range_iterator", data := .fields #[rawInt i, rawInt ((j - i).toNat : Int), rawInt 1] } := ⟨_, _, rfl, rfl, by decide⟩
  refine hQ _ _ [sh.heap.objs.size] (fun n v => ∃ t, v = .int (i + n * 1) t) (fun n h => IsRangeIter h sh.heap.objs.size (i + (n : Nat) * 1) (((j - i).toNat : Int) - (n : Nat)) 1) _ ⟨?_, ?_, ?_, ?_⟩ io (S.it O _ _ io rfl) ?_
  · have := Walks.range (prog := g.prog) (w := g.w) (A := A) hh sh.heap.objs.size i 1 (j - i).toNat
    rw [show (intsF i (j - i).toNat).length = (j - i).toNat from intsF_len]
    exact this
  · exact fun b hb => .inl (List.mem_singleton.mp hb)
  · intro n v hn ⟨t, ht⟩
    rw [intsF_len] at hn
    rw [ht]
    exact ⟨_, intsF_get hn, V.int' (by rw [Int.mul_one])⟩
  · exact fun n h ho => ⟨_, ho, _, _, rfl, rfl, by decide⟩
  · show IsRangeIter _ _ _ _ _
    rw [show i + ((0 : Nat) : Int) * 1 = i by simp, show (((j - i).toNat : Nat) : Int) - ((0 : Nat) : Int) = ((j - i).toNat : Int) by simp]
    exact Heap.get?_push_size _ rfl
theorem s_iter {os : List (Addr × Obj)} (O : CxOk g c x) (hh : A.handled = none) (S : StO g x W ρ σ sh os) {a : AV} {v : Value} {items : List AV} {Q : Value → Shared → Prop} (hv : V g W v a) (hi : itemsV a = some items)
    (hQ : ∀ I o fp P Stt sh', IterOk g A W I items fp P Stt → ItObj o → StO g x W ρ σ sh' ((I, o) :: os) → Stt 0 sh'.heap → Q (.ref I) sh') : wpAny (Md g) A (pyIter v) Q E sh := by
  cases a with
  | tup l => exact some_p hi (P := fun l => IQ g x A W ρ σ os Q l → _) (it_tup O hh S hv) hQ
  | lst l => exact some_p hi (P := fun l => IQ g x A W ρ σ os Q l → _) (it_lst O hh S hv) hQ
  | rng i j =>
    have hi : itR i j (okR i j) = some items := hi
    generalize e : okR i j = b at hi
    cases b with
    | true => exact some_p hi (P := fun l => IQ g x A W ρ σ os Q l → _) (it_rng O hh S hv e) hQ
    | false => exact none_p hi
  | _ => exact none_p hi
end
end Mine
end
section
set_option maxHeartbeats 4000000
open PySem PySem.W PySem.Spec PySem.Calls PyProof.Rows
namespace Mine
section
variable {g : Glb} {T : Tabs} {rec : Rec} {k : Nat} {c : Cfg} {x : Cx} {W : Wd} {ρ : Loc} {s : Stt} {σ : List MO} {sh : Shared} {A : Around} {K : AV → Stt → Prop} {KE : KX} {E : Value → Shared → Prop} {M : Model}
noncomputable def ExcH (g : Glb) (x : Cx) (ρ : Loc) (e : Value) (sh : Shared) : Prop := ∃ a a0 L, e = .ref a ∧ x.env.frame = some L ∧ g.base.StaysIn sh.heap ∧ g.base.get? a = none ∧ sh.heap.FunFrames g.base x.fr ∧ sh.heap.TracedAtW g.base a (.ref g.cf) a0 (rawInt L) ∧ x.h₀.UpToSlots sh.heap ∧
    (∃ m W, sh.heap.Ns x.env.locals m ∧ ∀ y av, lk ρ.vars y = some av → ∃ v, m y = some v ∧ V g W v av) ∧ sh.gens = g.gens ∧ sh.drawn = g.drawn ∧ sh.os = g.os
theorem ExcH.a {e : Value} (h : ExcH g x ρ e sh) : ExcA g x ρ e sh := by
  obtain ⟨a, a0, L, h1, h2, h3, h4, h5, h6, h7⟩ := h
  exact ⟨a, a0, h1, h3, h4, h5, .held h2 h6, h7⟩
theorem noteFrame_congr {e : Value} {env env' : Env} (h : env.frame = env'.frame) : noteFrame e env = noteFrame e env' := by
  unfold noteFrame PySem.frameOf
  rw [h]
theorem s_note {env : Env} {e : Value} {Q : Unit → Shared → Prop} (O : CxOk g c x) (a : AOk A x.fr) (hf : env.frame = x.env.frame) (X : ExcA g x ρ e sh) (hQ : ∀ sh', ExcH g x ρ e sh' → Q () sh') : wpAny M A (noteFrame e env) Q E sh := by
  obtain ⟨e0, rest, h1, h2⟩ := O.top
  obtain ⟨_, L, h3, _⟩ := O.ff e0 (h1 ▸ .head _)
  rw [noteFrame_congr (hf.trans h2)]
  obtain ⟨ad, a0, rfl, k1, k2, k3, k4, k5, k6, k7⟩ := X
  have hfr : A.frames = some (e0 :: rest) := by rw [a.f, h1]
  have hl : sh.heap.FunFrames g.base (e0 :: rest) := by rw [← h1]; exact k3
  have done : ∀ h', Heap.NotedW g.base (e0 :: rest) ad (.ref g.cf) a0 (rawInt L) sh.heap h' → Q () { sh with heap := h' } := fun h' ⟨q1, q2, q3, q4⟩ => by
    obtain ⟨m, W, q5, q6⟩ := k6
    exact hQ _ ⟨ad, a0, L, rfl, h2.trans h3, q1, k2, by rw [h1]; exact q2, q3, k5.trans q4, ⟨m, W, Heap.UpToSlots.ns q4 q5, q6⟩, k7⟩
  cases k4 with
  | fresh q1 q2 q3 q4 q5 =>
    unfold noteFrame
    simp only [h3]
    refine wpAny_bind (wpAny_field q1 q3 q5 ?_)
    rw [if_neg (by decide)]
    rw [← q2] at done
    exact wpAny_entryW hfr hl h3 q1 k1 k2 q3 (Array.getElem?_eq_some_iff.mp q5).1 q4 done
  | fly q => exact wpAny_noteFrame_onW hfr hl h3 q k1 k2 done
  | held q1 q2 =>
    rw [h2, h3] at q1
    cases q1
    exact wpAny_noteFrame_againW h3 q2 (hQ _ ⟨ad, a0, L, rfl, h2.trans h3, k1, k2, k3, q2, k5, k6, k7⟩)
theorem setFlight_at {base : Heap} {l : List Env} {e L : Addr} {cls a0 fl : Value} {s : Shared} {Q : Unit → Shared → Prop} (hkb : base.StaysIn s.heap) (hl : s.heap.FunFrames base l) (R : s.heap.TracedAtW base e cls a0 fl)
    (h : ∀ h', base.StaysIn h' → h'.FunFrames base l → h'.TracedAtW base e cls a0 (rawInt L) → s.heap.UpToSlots h' → Q () { s with heap := h' }) : wpAny M A (setFlight (.ref e) (some L)) Q E s := by
  obtain ⟨oe, vs, T, oT, ts, he, hcls, hd, h1, hnT, hTe, hT, hdT, h3⟩ := R
  have hsz3 : 3 < ts.size := (Array.getElem?_eq_some_iff.mp h3).1
  have other : ∀ b, b ≠ T → (s.heap.update T (Obj.mapFields (·.setIfInBounds 3 ((some L).elim Value.none fun f => rawInt f)))).get? b = s.heap.get? b :=
    fun b hb => Heap.get?_update_other _ _ (Ne.symm hb)
  have noRecord : ∀ b o, s.heap.get? b = some o → (∀ vs, o.data ≠ .fields vs) → b ≠ T := fun b o hb hnf q => by
    rw [q, hT] at hb; injection hb with hb; subst hb; exact hnf ts hdT
  unfold setFlight
  refine wpAny_bind (wpAny_field he hd h1 ?_)
  rw [if_pos (show (Value.ref T != Value.none) = true from by simp)]
  refine wpAny_setField hT hdT hsz3 (h _ (fun b o hbo => (other b fun q => by rw [q, hnT] at hbo; cases hbo).trans (hkb b o hbo))
    (hl.of_keeps fun b o hb hnf => ⟨o, (other b (noRecord b o hb hnf)).trans hb, rfl⟩) ?_ fun b o hb hnf => ⟨o.slots, (other b (noRecord b o hb hnf)).trans hb⟩)
  exact ⟨oe, vs, T, _, _, (other e (Ne.symm hTe)).trans he, hcls, hd, h1, hnT, hTe, Heap.get?_update_self _ hT (Obj.isFreed_of_fields (Obj.data_mapFields hdT _)), Obj.data_mapFields hdT _, by simp [hsz3]⟩
theorem s_flight {e : Value} {Q : Unit → Shared → Prop} {env : Env} (hf : env.frame = x.env.frame) (X : ExcH g x ρ e sh) (hQ : ∀ sh', ExcH g x ρ e sh' → Q () sh') : wpAny M A (setFlight e env.frame) Q E sh := by
  obtain ⟨ad, a0, L, rfl, h2, k1, k2, k3, k4, k5, k6, k7⟩ := X
  rw [hf, h2]
  refine setFlight_at k1 k3 k4 fun h' q1 q2 q3 q4 => ?_
  obtain ⟨m, W, q5, q6⟩ := k6
  exact hQ _ ⟨ad, a0, L, rfl, h2, q1, k2, q2, q3, k5.trans q4, ⟨m, W, Heap.UpToSlots.ns q4 q5, q6⟩, k7⟩
theorem s_field1 {e : Value} {Q : Value → Shared → Prop} (X : ExcH g x ρ e sh) (hQ : ∀ T : Addr, Q (.ref T) sh) : wpAny M A (field e 1) Q E sh := by
  obtain ⟨ad, a0, L, rfl, h2, k1, k2, k3, ⟨oe, vs, T, oT, ts, he, hcls, hd, h1, _⟩, _⟩ := X
  exact wpAny_field he hd h1 (hQ T)
/-- out of a loop's own activation -/
theorem s_cameBack {e : Value} {env : Env} (hf : env.frame = x.env.frame) (X : ExcH g x ρ e sh) (hE : ∀ sh', ExcA g x ρ e sh' → E e sh') : cameBackBy M A env E e sh := by
  unfold cameBackBy
  refine wpAny_bind (s_field1 X fun T => ?_)
  rw [if_neg (show ¬ ((Value.ref T == Value.none) = true) from by simp)]
  exact s_flight hf X fun sh' X' => hE sh' X'.a
theorem s_passOn {α : Type} {w : String} {e : Value} {env : Env} {Q : α → Shared → Prop} (hf : env.frame = x.env.frame) (X : ExcH g x ρ e sh) (hE : ∀ sh', ExcA g x ρ e sh' → E e sh') : wpAny M A (PySem.passOn w e env : Sem α) Q E sh := by
  unfold PySem.passOn
  refine wpAny_bind (s_field1 X fun T => ?_)
  rw [if_neg (show ¬ ((Value.ref T == Value.none) = true) from by simp)]
  exact wpAny_bind (s_flight hf X fun sh' X' => wpAny_throw (hE sh' X'.a))
end
end Mine
end
section
set_option maxHeartbeats 4000000
open PySem PySem.W PySem.Spec PySem.Calls PyProof.Rows
namespace Mine
section
variable {g : Glb} {T : Tabs} {rec : Rec} {k : Nat} {c : Cfg} {x : Cx} {W : Wd} {ρ : Loc} {s : Stt} {σ : List MO} {sh : Shared} {A : Around} {K : Fl → Loc → Stt → Prop} {KE : KX} {Q : Flow → Shared → Prop} {E : Value → Shared → Prop} {M : Model}
theorem StO.tail {p : Addr × Obj} {os : List (Addr × Obj)} (S : StO g x W ρ σ sh (p :: os)) : StO g x W ρ σ sh os := by
  obtain ⟨m, ms, cs, D, Z⟩ := S
  exact ⟨m, ms, cs, D, fun q hq => Z.at_ q (.tail _ hq), fun q hq => Z.ap q (.tail _ hq), (List.nodup_cons.mp Z.nd).2⟩
/-- an other that is no longer told of -/
theorem StO.drop {p : Addr × Obj} {os : List (Addr × Obj)} {h' : Heap} (S : StO g x W ρ σ sh (p :: os)) (hk : ∀ b o, b ≠ p.1 → sh.heap.get? b = some o → h'.get? b = some o) (t : Nat) : StO g x W ρ σ { sh with heap := h', toks := t } os := by
  obtain ⟨m, ms, cs, D, Z⟩ := S
  obtain ⟨oL, es, ep, h1, h2⟩ := id D.F.ns
  have zp := Z.at_ p (.head _)
  have n0 : ∀ b o, x.h₀.get? b = some o → b ≠ p.1 := fun b o e q => by rw [q, zp.2.2.1] at e; cases e
  refine ⟨m, ms, cs, ⟨⟨⟨oL, es, ep, hk _ _ (fun q => zp.2.1 q.symm) h1, h2⟩, fun b o e => hk b o (n0 b o e) (D.F.keep b o e), D.F.above⟩, fun q hq => ⟨hk _ _ (Z.ap p (.head _) q hq) (D.N q hq).1, (D.N q hq).2⟩, D.vars, D.as, D.mo, D.cel, D.nd, D.dj, D.lo, D.ge, D.dr, D.os, D.ex⟩, ⟨fun q hq => ?_, fun q hq => Z.ap q (.tail _ hq), (List.nodup_cons.mp Z.nd).2⟩⟩
  have z := Z.at_ q (.tail _ hq)
  refine ⟨hk _ _ (fun e => ?_) z.1, z.2⟩
  have e : q.1 = p.1 := e
  exact (List.nodup_cons.mp Z.nd).1 (by show p.1 ∈ _; rw [← e]; exact List.mem_map_of_mem (f := (·.1)) hq)
theorem StO.hx {os : List (Addr × Obj)} (S : StO g x W ρ σ sh os) : ∀ p ∈ x.ex, ∀ q ∈ os, p.1 ≠ q.1 := by
  obtain ⟨m, ms, cs, D, Z⟩ := S
  exact fun p hp q hq => Z.ap q hq p (List.mem_append.mpr (.inr (List.mem_append.mpr (.inl (D.ex p hp).1))))
theorem StO.nc {os : List (Addr × Obj)} (S : StO g x W ρ σ sh os) : ∀ p ∈ os, ∀ ov, p.2.data ≠ .cell ov := by
  obtain ⟨m, ms, cs, D, Z⟩ := S
  exact fun p hp => (Z.at_ p hp).2.2.2.2
theorem StO.ndo {os : List (Addr × Obj)} (S : StO g x W ρ σ sh os) : (os.map (·.1)).Nodup := by
  obtain ⟨m, ms, cs, D, Z⟩ := S
  exact Z.nd
/-- an iterator stands where it stood -/
theorem IterOk.stay {I : Addr} {o : Obj} {os os' : List (Addr × Obj)} {items : List AV} {fp : List Addr} {P : Nat → Value → Prop} {Stt : Nat → Heap → Prop} {i : Nat} {W₁ W₂ : Wd} {ρ₁ ρ₂ : Loc} {σ₁ σ₂ : List MO} {sh₁ sh₂ : Shared} (IO : IterOk g A W I items fp P Stt) (O : CxOk g c x) (le₁ : W.Le W₁) (le₂ : W.Le W₂)
    (S₁ : StO g x W₁ ρ₁ σ₁ sh₁ ((I, o) :: os)) (S₂ : StO g x W₂ ρ₂ σ₂ sh₂ ((I, o) :: os')) (h : Stt i sh₁.heap) : Stt i sh₂.heap := by
  refine IO.wk.frame i _ _ h fun b hb o' e => ?_
  rcases IO.foot b hb with rfl | ⟨ob, hk⟩
  · have z := S₁.at (.head _)
    rw [e] at z
    cases z
    exact S₂.at (.head _)
  · have z := S₁.st.kn O (hk.mono le₁)
    rw [e] at z
    cases z
    exact S₂.st.kn O (hk.mono le₂)
theorem folded {it : Expr} {env : Env} (h : notSet it = true) (v : Value) : foldedSetIterable it env v = pure v := by
  cases it <;> first | rfl | exact ff_p h
theorem Room.le {n k k' : Nat} (R : Room A n k) (h : k' ≤ k) : Room A n k' := ⟨R.d, Nat.lt_of_le_of_lt (Nat.add_le_add_right (Nat.add_le_add_left h _) 90) R.u⟩
theorem turn_n {n i len : Nat} (h : n + i = len + 1) (hl : i < len) : n - 1 < n ∧ n - 1 + (i + 1) = len + 1 := by omega
theorem one_mem {Z : Addr × Obj → Prop} {p : Addr × Obj} (h1 : Z p) : ∀ r ∈ [p], Z r := fun r hr => by rw [List.mem_singleton.mp hr]; exact h1
/-- what holds between the turns of a for -/
inductive FI (g : Glb) (x : Cx) (W1 : Wd) (I : Addr) (St' : Nat → Heap → Prop) (len : Nat) (TT : Nat → Loc → Mine.Stt → Prop) (n : Nat) (s' : Shared) : Prop
  | mk {i : Nat} {ρi : Loc} {si : Mine.Stt} {Wi : Wd} {oi : Obj} : n + i = len + 1 → i ≤ len → W1.Le Wi → StO g x Wi ρi si.σ s' [(I, oi)] → St' i s'.heap → ItObj oi → TT i ρi si → FI g x W1 I St' len TT n s'
theorem for_turn {t : Expr} {body : List PySem.Stmt} {k' n i : Nat} {W1 Wi : Wd} {I : Addr} {o' : Obj} {items : List AV} {fp : List Addr} {P : Nat → Value → Prop} {St' : Nat → Heap → Prop} {ρi : Loc} {si : Mine.Stt} {v : Value} {a : AV} {N : Value → Shared → Prop} {Z : Flow → Shared → Prop} {s6 : Shared} (C : Ctx g T rec (k' + 1) c x A) (IO : IterOk g A W1 I items fp P St') (hn : n + i = items.length + 1) (hlt : i < items.length) (le : W1.Le Wi)
    (S4 : StO g x Wi ρi si.σ s6 [(I, o')]) (hst' : St' (i + 1) s6.heap) (io' : ItObj o') (hva : V g Wi v a) (noted : ∀ (ρ' : Loc) (s'' : Mine.Stt) (e : Value) (sh' : Shared), ExcA g x ρ' e sh' → KE ρ' s'' → N e sh')
    (ht : oK (bindT c t a ρi) fun ρ => rec k' c (.sts body) ρ si (fun o s => fK o fun f ρ => match f with
    | .next => turns rec k' c t body KE (items.drop (i + 1)) ρ s K
    | .ret v => K (.ret v) ρ s) KE)
    (h1 : ∀ s', (∃ m, m < n ∧ FI g x W1 I St' items.length (fun i ρ s => turns rec k' c t body KE (items.drop i) ρ s K) m s') → Z .next s') (h2 : ∀ ρ s W v a sh, W1.Le W → St g x W ρ s.σ sh → V g W v a → K (.ret a) ρ s → Z (.ret v) sh) :
    wpAny (Md g) A (assign t x.env v) (fun _ s₂ => wpAny (Md g) A (execs body x.env) Z N s₂) N s6 := by
  refine oK_e ht fun ρ' hb ht => ?_
  refine s_bindT (x := x.plus [(I, o')]) C.O.plus C.a.h S4.put hva hb fun sh5 S5 => ?_
  refine C.snd _ _ _ _ _ _ _ ht (x.plus [(I, o')]) Wi A sh5 C.O.plus (C.R.le (Nat.le_succ _)) C.a S5 _ _ ?_ fun ρ' s'' e sh' X hk => noted ρ' s'' e sh' X.unplus hk
  intro f ρ6 s6 W6 fl sh6 le6 S6 hfl h6
  have S7 : StO g x W6 ρ6 s6.σ sh6 [(I, o')] := StO.back S4.nc S4.hx S4.ndo S6
  cases hfl with
  | next => exact h1 _ ⟨n - 1, (turn_n hn hlt).1, .mk (turn_n hn hlt).2 hlt (le.trans le6) S7 (IO.stay C.O le (le.trans le6) S4 S7 hst') io' h6⟩
  | ret hv6 => exact h2 _ _ _ _ _ _ (le.trans le6) S7.st hv6 h6
theorem s_For {t it : Expr} {body : List PySem.Stmt} {p : Pos} (C : Ctx g T rec k c x A) (S : St g x W ρ s.σ sh) (h : stepS T rec k c (.For t it body [] p) ρ s K KE) (hQ : PF g x W K Q) (hE : PX g x KE E) : wpAny (Md g) A (exec (.For t it body [] p) x.env) Q E sh := by
  cases k with
  | zero => exact h.elim
  | succ k' =>
  refine cnd_e h fun hs h => wpAny_For (C.e h S hE fun a s1 W1 v sh1 le1 S1 hv h1 => ?_) (fun v => folded hs v)
  refine oK_e h1 fun items hi h1 => cnd_e h1 fun _ h1 => s_iter C.O C.a.h S1.toO hv hi fun I o fp P Stt sh2 IO io S2 hst => ?_
  refine codeAny_forLoop_any (FI g x W1 I Stt items.length fun i ρ s => turns rec k' c t body KE (items.drop i) ρ s K) ?_ (items.length + 1) (.mk rfl (Nat.zero_le _) (.refl _) S2 hst io h1)
  intro n s' fi
  cases fi with
  | @mk i ρi si Wi oi hn hi' le S3 hst3 io3 ht =>
  have noted : ∀ (ρ' : Loc) (s'' : Mine.Stt) (e : Value) (sh' : Shared), ExcA g x ρ' e sh' → KE ρ' s'' → notedBy (Md g) A x.env (fun e s' => cameBackBy (Md g) A x.env E e s') e sh' := fun ρ' s'' e sh' X hk =>
    s_note C.O C.a rfl X fun sh4 X4 => s_cameBack rfl X4 fun sh5 X5 => hE ρ' s'' e sh5 X5 hk
  rcases Nat.lt_or_ge i items.length with hlt | hge
  · refine IO.wk.item i s' _ _ hlt hst3 fun v h' tk hP hst' hk => ?_
    obtain ⟨a, ha, hva⟩ := IO.val i v hlt hP
    obtain ⟨o', ho', io'⟩ := IO.obj _ _ hst'
    have S4 : StO g x Wi ρi si.σ { s' with heap := h', toks := tk } [(I, o')] := S3.change (os' := [(I, o')]) (fun b o hb e => hk b o hb e) rfl (one_mem ⟨ho', io'.noCell⟩) tk
    rw [List.drop_eq_getElem_cons hlt] at ht
    rw [List.getElem?_eq_getElem hlt] at ha
    cases ha
    refine io'.go (sh := { s' with heap := h', toks := tk }) ho' ?_
    exact for_turn C IO hn hlt le S4 hst' io' (hva.mono le) noted ht (fun _ h => h) fun ρ s W v a sh le2 S hv h => hQ _ _ _ _ _ _ (le1.trans le2) S (.ret hv) h
  · have hi2 : i = items.length := Nat.le_antisymm hi' hge
    subst hi2
    refine IO.wk.done s' _ _ hst3 fun h' tk hk => ?_
    rw [List.drop_length] at ht
    refine wpAny_execs_nil ?_
    exact hQ _ _ _ _ _ _ (le1.trans le) (S3.drop (fun b o hb e => hk b o (by simpa using hb) e) tk).st .next ht
theorem s_While {t : Expr} {body : List PySem.Stmt} {p : Pos} (C : Ctx g T rec k c x A) (S : St g x W ρ s.σ sh) (h : stepS T rec k c (.While t body [] p) ρ s K KE) (hQ : PF g x W K Q) (hE : PX g x KE E) : wpAny (Md g) A (exec (.While t body [] p) x.env) Q E sh := by
  cases k with
  | zero => exact h.elim
  | succ k' =>
  refine wpAny_While ?_
  refine codeAny_whileLoop (fun n s' => ∃ ρi si Wi, W.Le Wi ∧ St g x Wi ρi (Mine.Stt.σ si) s' ∧ wloop rec k' c t body KE n ρi si K) ?_ 40 ⟨ρ, s, W, .refl _, S, h⟩
  rintro n s' ⟨ρi, si, Wi, le, S3, ht⟩
  have noted : ∀ (ρ' : Loc) (s'' : Mine.Stt) (e : Value) (sh' : Shared), ExcA g x ρ' e sh' → KE ρ' s'' → notedBy (Md g) A x.env (fun e s' => cameBackBy (Md g) A x.env E e s') e sh' := fun ρ' s'' e sh' X hk =>
    s_note C.O C.a rfl X fun sh4 X4 => s_cameBack rfl X4 fun sh5 X5 => hE ρ' s'' e sh5 X5 hk
  cases n with
  | zero => exact ht.elim
  | succ n =>
  unfold wloop at ht
  refine C.snd _ _ _ _ _ _ _ ht x Wi A s' C.O (C.R.le (Nat.le_succ _)) C.a S3 _ _ (fun b s4 W4 sh4 le4 S4 h4 => ?_) noted
  cases b with
  | true =>
    refine C.snd _ _ _ _ _ _ _ h4 x W4 A sh4 C.O (C.R.le (Nat.le_succ _)) C.a S4 _ _ (fun f ρ5 s5 W5 fl sh5 le5 S5 hfl h5 => ?_) noted
    cases hfl with
    | next => exact ⟨n, Nat.lt_succ_self _, ρ5, s5, W5, le.trans (le4.trans le5), S5, h5⟩
    | ret hv5 => exact hQ _ _ _ _ _ _ (le.trans (le4.trans le5)) S5 (.ret hv5) h5
  | false => exact wpAny_execs_nil (hQ _ _ _ _ _ _ (le.trans le4) S4 .next h4)
end
end Mine
end
section
set_option maxHeartbeats 4000000
open PySem PySem.W PySem.Spec PySem.Calls PyProof.Rows
namespace Mine
noncomputable def clo (cells : List (PySem.Str × Addr)) : List (PySem.Str × NameKind) → List (PySem.Str × Addr) → List (PySem.Str × Addr)
  | [], acc => acc
  | p :: r, acc => match p.2 with
    | .free => match cells.lookup p.1 with
      | some a => clo cells r ((p.1, a) :: acc)
      | none => clo cells r acc
    | _ => clo cells r acc
theorem closure_eq {scope : Scope} {env : Env} (hf : ∀ p ∈ scope.names, p.2 = .free → ∃ a, env.cells.lookup p.1 = some a) : closureFor scope env = pure (clo env.cells scope.names []) := by
  have key : ∀ (l : List (PySem.Str × NameKind)) (acc : List (PySem.Str × Addr)), (∀ p ∈ l, p.2 = .free → ∃ a, env.cells.lookup p.1 = some a) →
      (forIn l acc fun (x : PySem.Str × NameKind) (r : List (PySem.Str × Addr)) => (if (x.2 == NameKind.free) = true then do let a ← cellOf env x.1; pure (ForInStep.yield ((x.1, a) :: r)) else pure (ForInStep.yield r) : Sem (ForInStep (List (PySem.Str × Addr))))) = pure (clo env.cells l acc) := by
    intro l
    induction l with
    | nil => intro acc _; rw [List.forIn_nil]; rfl
    | cons p r ih =>
      intro acc h
      obtain ⟨n, kd⟩ := p
      rw [List.forIn_cons]
      have hr := fun acc => ih acc fun q hq => h q (.tail _ hq)
      cases kd with
      | free =>
        obtain ⟨a, ha⟩ := h _ (.head _) rfl
        have ha : env.cells.lookup n = some a := ha
        have e : cellOf env n = pure a := by unfold cellOf; rw [ha]
        rw [if_pos (show (((n, NameKind.free) : PySem.Str × NameKind).snd == NameKind.free) = true from rfl)]
        dsimp only
        rw [e, pure_bind, pure_bind]
        dsimp only
        rw [hr]
        conv => rhs; unfold clo
        dsimp only
        rw [ha]
      | _ =>
        rw [if_neg (show ¬ ((_ == NameKind.free) = true) from by intro q; cases q), pure_bind]
        dsimp only
        rw [hr]
        rfl
  have := key _ [] hf
  have e : closureFor scope env = (forIn scope.names [] fun (x : PySem.Str × NameKind) (r : List (PySem.Str × Addr)) => (if (x.2 == NameKind.free) = true then do let a ← cellOf env x.1; pure (ForInStep.yield ((x.1, a) :: r)) else pure (ForInStep.yield r) : Sem (ForInStep (List (PySem.Str × Addr))))) := by
    show (forIn scope.names [] _ >>= fun cs => pure cs) = _
    rw [bind_pure]
  rw [e, this]
end Mine
end
section
set_option maxHeartbeats 4000000
open PySem PySem.W PySem.Spec PySem.Calls PyProof.Rows
namespace Mine
theorem relS_eq {sc scope : Scope} {env : Env} (hs : env.scope = sc) (hk : sc.kind = .function) : relabel scope env = relS sc scope := by
  unfold relabel relS
  congr 1
  refine List.map_congr_left fun p _ => ?_
  obtain ⟨n, kd⟩ := p
  have ko : env.kindOf n = lk sc.names n := by unfold Env.kindOf; rw [hs, lk_eq]
  unfold relN
  dsimp only
  cases kd with
  | free =>
    dsimp only
    rw [ko, hs, hk]
    cases e : lk sc.names n with
    | none => rfl
    | some k' => cases k' <;> rfl
  | _ => rfl
noncomputable def cPost (M : Model) (A : Around) (E : Value → Shared → Prop) (use : Option (Value → Sem Unit)) (Q : Value → Shared → Prop) (acc : Value) (cenv : Env) (r : Result) (s' : Shared) : Prop :=
  match r, use with
  | .ok _, none => ∃ m, s'.heap.Ns cenv.locals m ∧ ∀ h', Heap.SameBut cenv.locals s'.heap h' → Q acc { s' with heap := h' }
  | .ok _, some u => wpAny M A (u acc) (fun _ s'' => ∃ m, s''.heap.Ns cenv.locals m ∧ ∀ h', Heap.SameBut cenv.locals s''.heap h' → Q .none { s'' with heap := h' }) E s'
  | .error x, _ => ∃ m, s'.heap.Ns cenv.locals m ∧ ∀ h', Heap.SameBut cenv.locals s'.heap h' → wpAny M A (PySem.passOn "comprehension.variables-let-go" x cenv : Sem Value) (fun _ _ => False) E { s' with heap := h' }
theorem comp_head {M : Model} {A : Around} {E : Value → Shared → Prop} {s : Shared} {env : Env} {e : Expr} {scope : Scope} {pos : Pos} {newAcc first : Sem Value} {g : Comprehension} {gs : List Comprehension} {cl : List (PySem.Str × Addr)} {use : Option (Value → Sem Unit)}
    {Q : Value → Shared → Prop}
    (hcl : clausesOf e = g :: gs) (hs : ∀ x, foldedSetIterable g.iter env x = pure x) (hclos : closureFor scope env = pure cl)
    (hkind : scope.kind = .function) (hnames : ∀ x ∈ scope.names, x.2 = .local → scope.names.lookup x.1 = some .local)
    (h : wpAny M A first (fun x s₁ => wpAny M A (pyIter x) (fun it s₂ => wpAny M A newAcc (fun acc s₃ =>
      wpAny M A (newFunctionEnv scope env.globals cl [] env.qual none .none (some env)) (fun cenv s₄ =>
        codeAny M A (.compStart e 0 it acc { cenv with scope := relabel scope env }) (cPost M A E use Q acc { cenv with scope := relabel scope env }) s₄) E s₃) E s₂) E s₁) E s) :
    wpAny M A (comprehension e scope env pos newAcc false first use) Q E s := by
  unfold comprehension
  rw [hclos, hcl]
  refine wpAny_bind (wpAny_mono h (fun x s₁ h₁ => wpAny_bind (wpAny_standAt (wpAny_bind (wpAny_of_eq (hs x) (wpAny_bind (wpAny_holding (wpAny_mono h₁ (fun it s₂ h₂ =>
    wpAny_standIf (wpAny_bind (wpAny_mono h₂ (fun acc s₃ h₃ => wpAny_bind (wpAny_pure (wpAny_bind (wpAny_mono h₃ (fun cenv s₄ h₄ => ?_) fun _ _ h' => h')))) fun _ _ h' => h')))
      fun _ _ h' => h'))))))) fun _ _ h' => h')
  dsimp only
  have hv : ∀ x ∈ (scope.names.filter fun x => (x.2 == .local || x.2 == .cell) && x.1 != (".0" : PySem.Str)).reverse, x.2 = .local →
      Env.kindOf { cenv with scope := relabel scope env } x.1 = some .local := fun x hx hl => lookup_relabel_local (hnames x (List.mem_filter.mp (List.mem_reverse.mp hx)).1 hl)
  have hv' : ∀ x ∈ (scope.names.filter fun x => (x.2 == .local || x.2 == .cell) && x.1 != (".0" : PySem.Str)).reverse.drop 1 ++ (scope.names.filter fun x => (x.2 == .local || x.2 == .cell) && x.1 != (".0" : PySem.Str)).reverse.take 1,
      x.2 = .local → Env.kindOf { cenv with scope := relabel scope env } x.1 = some .local := fun x hx hl => by
    rcases List.mem_append.mp hx with h1 | h1
    · exact hv x (List.mem_of_mem_drop h1) hl
    · exact hv x (List.mem_of_mem_take h1) hl
  refine wpAny_holding (wpAny_bind (wpAny_attempt (wpAny_holding (wpAny_run (codeAny_mono h₄ fun r s' hr => ?_)))))
  cases r with
  | ok f =>
    cases use with
    | none =>
      obtain ⟨m, hn, hr⟩ := hr
      exact wpAny_bind (wpAny_holding (wpAny_comp_letGo (cenv := { cenv with scope := relabel scope env }) hkind _ s' m hv hn fun h' m' _ hs' => wpAny_pure (hr h' hs')))
    | some u =>
      refine wpAny_bind (wpAny_rule (wpAny_bind (wpAny_holding (wpAny_mono hr (fun _ s'' hr' => ?_) fun _ _ h' => h'))))
      obtain ⟨m, hn, hr'⟩ := hr'
      exact wpAny_bind (wpAny_comp_letGo (cenv := { cenv with scope := relabel scope env }) hkind _ s'' m hv' hn fun h' m' _ hs' => wpAny_pure (hr' h' hs'))
  | error x =>
    have hr' : ∃ m, s'.heap.Ns cenv.locals m ∧ ∀ h', Heap.SameBut cenv.locals s'.heap h' → wpAny M A (PySem.passOn "comprehension.variables-let-go" x { cenv with scope := relabel scope env } : Sem Value) (fun _ _ => False) E { s' with heap := h' } := by cases use <;> exact hr
    obtain ⟨m, hn, hr⟩ := hr'
    exact wpAny_bind (wpAny_holding (wpAny_comp_letGo (cenv := { cenv with scope := relabel scope env }) hkind _ s' m hv hn fun h' m' _ hs' => wpAny_mono (hr h' hs') (fun _ _ f => f.elim) fun _ _ y => y))
/-! ## what a comprehension captures -/
theorem freeOk_iff {ρ : Loc} {all : List (PySem.Str × NameKind)} : ∀ {l : List (PySem.Str × NameKind)}, freeOk ρ all l = true → ∀ p ∈ l, p.2 ≠ .cell ∧ (p.2 = .local → all.lookup p.1 = some .local) ∧ (p.2 = .free → ∃ a, lk ρ.cells p.1 = some (some a))
  | [], _, p, hp => (List.not_mem_nil hp).elim
  | q :: r, h, p, hp => by
    unfold freeOk at h
    split at h
    · rename_i e
      split at h
      · rename_i a e2
        cases hp with
        | head => exact ⟨(by rw [e]; intro w; cases w), (by rw [e]; intro w; cases w), fun _ => ⟨a, e2⟩⟩
        | tail _ hp => exact freeOk_iff h p hp
      · cases h
    · cases h
    · rename_i e
      split at h
      · rename_i e2
        cases hp with
        | head => exact ⟨(by rw [e]; intro w; cases w), (fun _ => by rw [← lk_eq]; exact e2), (by rw [e]; intro w; cases w)⟩
        | tail _ hp => exact freeOk_iff h p hp
      · cases h
    · rename_i e1 e2 e3
      cases hp with
      | head => exact ⟨e2, fun w => absurd w e3, fun w => absurd w e1⟩
      | tail _ hp => exact freeOk_iff h p hp
theorem capt_some {ρ : Loc} : ∀ {l : List (PySem.Str × NameKind)} {y : PySem.Str} {oa : Option AV}, lk (capt ρ l) y = some oa → lk ρ.cells y = some oa ∧ (y, NameKind.free) ∈ l
  | [], _, _, h => by cases h
  | q :: r, y, oa, h => by
    unfold capt at h
    split at h
    · rename_i e
      split at h
      · rename_i a e2
        rw [lk_cons] at h
        split at h
        · rename_i w
          subst w
          cases h
          exact ⟨e2, by rw [← e]; exact .head _⟩
        · have := capt_some h
          exact ⟨this.1, .tail _ this.2⟩
      · have := capt_some h
        exact ⟨this.1, .tail _ this.2⟩
    · have := capt_some h
      exact ⟨this.1, .tail _ this.2⟩
theorem clo_some {cells : List (PySem.Str × Addr)} : ∀ {l : List (PySem.Str × NameKind)} {acc : List (PySem.Str × Addr)} {y : PySem.Str}, (∀ z ca, acc.lookup z = some ca → cells.lookup z = some ca) →
    (∀ ca, (clo cells l acc).lookup y = some ca → cells.lookup y = some ca) ∧ (((y, NameKind.free) ∈ l ∨ ∃ ca, acc.lookup y = some ca) → ∀ ca, cells.lookup y = some ca → (clo cells l acc).lookup y = some ca)
  | [], acc, y, ha => ⟨fun ca h => ha y ca h, fun h ca e => by
      rcases h with h | ⟨ca', h⟩
      · cases h
      · rw [ha y ca' h] at e; cases e; exact h⟩
  | q :: r, acc, y, ha => by
    have step : ∀ a, cells.lookup q.1 = some a → ∀ z ca, ((q.1, a) :: acc).lookup z = some ca → cells.lookup z = some ca := fun a e z ca h => by
      rw [← lk_eq, lk_cons] at h
      split at h
      · rename_i w; subst w; cases h; exact e
      · rw [lk_eq] at h; exact ha z ca h
    unfold clo
    split
    · rename_i e
      split
      · rename_i a e2
        have ih := clo_some (l := r) (y := y) (step a e2)
        refine ⟨ih.1, fun h => ih.2 ?_⟩
        rcases h with h | ⟨ca', h⟩
        · cases h with
          | head => exact .inr ⟨a, by rw [← lk_eq, lk_cons_self]⟩
          | tail _ h => exact .inl h
        · refine .inr ?_
          by_cases w : q.1 = y
          · subst w; exact ⟨a, by rw [← lk_eq, lk_cons_self]⟩
          · exact ⟨ca', by rw [← lk_eq, lk_cons, if_neg w, lk_eq]; exact h⟩
      · rename_i e2
        have ih := clo_some (l := r) (y := y) ha
        refine ⟨ih.1, fun h ca ec => ?_⟩
        rcases h with h | h
        · cases h with
          | head => rw [e2] at ec; cases ec
          | tail _ h => exact ih.2 (.inl h) ca ec
        · exact ih.2 (.inr h) ca ec
    · rename_i e
      have ih := clo_some (l := r) (y := y) ha
      refine ⟨ih.1, fun h => ih.2 (h.imp (fun h => ?_) id)⟩
      cases h with
      | head => exact absurd rfl e
      | tail _ h => exact h
end Mine
end
section
set_option maxHeartbeats 4000000
open PySem PySem.W PySem.Spec PySem.Calls PyProof.Rows
namespace Mine
theorem funFrames_but {h h' base : Heap} {C : Addr} (hs : Heap.SameBut C h h') : ∀ {l : List Env}, (∀ e ∈ l, ∀ L, e.frame = some L → L ≠ C) → h.FunFrames base l → h'.FunFrames base l
  | [], _, _ => trivial
  | e :: _, hl, ⟨h1, ⟨L, o, h2, h3, h4, h5⟩, h6⟩ => ⟨h1, ⟨L, o, h2, h3, (hs.2 L (hl e (.head _) L h2)).trans h4, h5⟩, funFrames_but hs (fun e he => hl e (.tail _ he)) h6⟩
section
variable {g : Glb} {T : Tabs} {rec : Rec} {k : Nat} {c : Cfg} {x : Cx} {W : Wd} {ρ : Loc} {s : Stt} {σ : List MO} {sh : Shared} {A : Around} {KE : KX} {E : Value → Shared → Prop} {M : Model}
theorem StO.enterC {os : List (Addr × Obj)} (O : CxOk g c x) (S : StO g x W ρ σ sh os) {scope : Scope} (hkind : scope.kind = .function) (hf : freeOk ρ scope.names scope.names = true) {h₁ : Heap} {m₀ : PySem.Str → Option Value}
    (hn : h₁.Ns sh.heap.objs.size m₀) (hs : ∀ b o, sh.heap.get? b = some o → h₁.get? b = some o) (t : Nat) :
    ∃ x' : Cx, x'.env = compEnvC scope (clo x.env.cells scope.names []) sh.heap.objs.size x.env ∧ x'.fr = x.fr ∧ CxOk g { c with sc := relS c.sc scope } x' ∧ StO g x' W ⟨[], capt ρ scope.names⟩ σ { sh with heap := h₁, toks := t } os ∧
      (∀ W' ρ' σ' sh' os', W.Le W' → StO g x' W' ρ' σ' sh' os' → ∃ oC m, sh'.heap.Ns sh.heap.objs.size m ∧ StO g x W' ρ σ' sh' (os' ++ [(sh.heap.objs.size, oC)])) ∧
      (∀ ρ' e sh', ExcH g x' ρ' e sh' → ∃ m, sh'.heap.Ns sh.heap.objs.size m ∧ ∀ h', Heap.SameBut sh.heap.objs.size sh'.heap h' → ExcH g x ρ e { sh' with heap := h' }) := by
  have big := S.st.big O
  obtain ⟨m, ms, cs, D, Z⟩ := S
  obtain ⟨oL, esL, epL, hoL, hdL, hrL⟩ := id D.F.ns
  have hid : ∀ b, b ∈ ((ms ++ W.fz) ++ os).map (·.1) → (∃ p ∈ ms ++ (cs ++ W.fz), p ∉ cs ∧ p.1 = b ∧ (p ∈ ms ∨ p ∈ W.fz)) ∨ ∃ p ∈ os, p.1 = b := fun b hb => by
    obtain ⟨p, hp, e⟩ := List.mem_map.mp hb
    rcases List.mem_append.mp hp with h | h
    · refine .inl ⟨p, ?_, ?_, e, List.mem_append.mp h⟩
      · rcases List.mem_append.mp h with h | h
        · exact List.mem_append.mpr (.inl h)
        · exact List.mem_append.mpr (.inr (List.mem_append.mpr (.inr h)))
      · intro hc
        have hnd := D.nd
        rw [List.map_append] at hnd
        obtain ⟨_, _, n3⟩ := List.nodup_append.mp hnd
        rcases List.mem_append.mp h with h | h
        · exact n3 p.1 (List.mem_map_of_mem h) p.1 (List.mem_map_of_mem hc) rfl
        · exact D.dj p (List.mem_append.mpr (.inr hc)) p h rfl
    · exact .inr ⟨p, h, e⟩
  have n0 : ∀ b o, x.h₀.get? b = some o → b ∉ ((ms ++ W.fz) ++ os).map (·.1) := fun b o e q => by
    rcases hid b q with ⟨p, hp, _, rfl, _⟩ | ⟨p, hp, rfl⟩
    · rw [(D.N p hp).2.2] at e; cases e
    · rw [(Z.at_ p hp).2.2.1] at e; cases e
  have nL : x.env.locals ∉ ((ms ++ W.fz) ++ os).map (·.1) := fun q => by
    rcases hid _ q with ⟨p, hp, _, e, _⟩ | ⟨p, hp, e⟩
    · exact (D.N p hp).2.1 e
    · exact (Z.at_ p hp).2.1 e
  have ncs : ∀ p ∈ cs, p.1 ∉ ((ms ++ W.fz) ++ os).map (·.1) := fun p hp q => by
    have hnd := D.nd
    rw [List.map_append] at hnd
    obtain ⟨_, _, n3⟩ := List.nodup_append.mp hnd
    rcases hid _ q with ⟨r, hr, hrc, e, hm | hm⟩ | ⟨r, hr, e⟩
    · exact n3 r.1 (List.mem_map_of_mem hm) p.1 (List.mem_map_of_mem hp) e
    · exact D.dj p (List.mem_append.mpr (.inr hp)) r hm e.symm
    · exact Z.ap r hr p (List.mem_append.mpr (.inr (List.mem_append.mpr (.inl hp)))) e.symm
  generalize hB : hideAll sh.heap (((ms ++ W.fz) ++ os).map (·.1)) = B
  have bsz : B.objs.size = sh.heap.objs.size := by rw [← hB]; exact hideAll_size _ _
  have st : ∀ b o, x.h₀.get? b = some o → B.get? b = some o := fun b o e => by rw [← hB]; exact hideAll_get _ (D.F.keep b o e) (n0 b o e)
  have bL : B.get? x.env.locals = some oL := by rw [← hB]; exact hideAll_get _ hoL nL
  have bcs : ∀ p ∈ cs, B.get? p.1 = some p.2 := fun p hp => by rw [← hB]; exact hideAll_get _ (D.N p (List.mem_append.mpr (.inr (List.mem_append.mpr (.inl hp))))).1 (ncs p hp)
  have bnone : ∀ b, b ∈ ((ms ++ W.fz) ++ os).map (·.1) → B.get? b = none := fun b hb => by rw [← hB]; exact hideAll_none _ hb
  have keepB : ∀ b o, B.get? b = some o → h₁.get? b = some o := fun b o e => hs b o (of_hideAll (((ms ++ W.fz) ++ os).map (·.1)) (by rw [hB]; exact e))
  have nC : ∀ b o, B.get? b = some o → b ≠ sh.heap.objs.size := fun b o e => by rw [← bsz]; exact Nat.ne_of_lt (Heap.lt_size e)
  have bC : B.get? sh.heap.objs.size = none := by
    cases q : B.get? sh.heap.objs.size with
    | none => rfl
    | some o => exact absurd rfl (nC _ _ q)
  have nb : ∀ a b o, B.get? a = none → B.get? b = some o → a ≠ b := fun a b o h1 h2 e => by rw [e, h2] at h1; cases h1
  have fo := freeOk_iff hf
  have cinit : ∀ z ca, ([] : List (PySem.Str × Addr)).lookup z = some ca → x.env.cells.lookup z = some ca := fun z ca e => by cases e
  have frB : ∀ e ∈ x.fr, ∀ L, e.frame = some L → ∃ o, B.get? L = some o := fun e he L hL => by
    obtain ⟨h1, L', h2, h3, h4⟩ := O.ff e he
    rw [hL] at h2; cases h2
    rcases h4 with rfl | ⟨o, h5, h6⟩
    · exact ⟨oL, bL⟩
    · exact ⟨o, st _ o h5⟩
  refine ⟨⟨compEnvC scope (clo x.env.cells scope.names []) sh.heap.objs.size x.env, x.fr, B, []⟩, rfl, rfl, ?_, ⟨m₀, ms, [], ?_, ?_⟩, fun W' ρ' σ' sh' os' le S' => ?_, fun ρ' e sh' X => ?_⟩
  · refine ⟨relS_eq O.sc O.kind, hkind, O.gl, O.bi, O.X.keeps st, O.T.keeps st, fun b o e => st b o (O.bs b o e), fun e he => ?_, ?_, fun a b ca h1 h2 => ?_⟩
    · obtain ⟨h1, L, h2, h3, h4⟩ := O.ff e he
      refine ⟨h1, L, h2, h3, .inr ?_⟩
      rcases h4 with rfl | ⟨o, h5, h6⟩
      · exact ⟨oL, bL, fun vs q => by rw [hdL] at q; cases q⟩
      · exact ⟨o, st L o h5, h6⟩
    · obtain ⟨e0, rest, h1, h2⟩ := O.top
      exact ⟨e0, rest, h1, h2⟩
    · exact O.cinj a b ca ((clo_some cinit).1 ca h1) ((clo_some cinit).1 ca h2)
  · refine ⟨⟨hn, keepB, Nat.le_of_eq bsz⟩, fun p hp => ?_, fun y a e => (by cases e), D.as, D.mo, fun y oa e => ?_, ?_, fun p hp q hq => ?_, fun p hp => ?_, D.ge, D.dr, D.os, fun p hp => (List.not_mem_nil hp).elim⟩
    · have hp' : p ∈ ms ∨ p ∈ W.fz := by
        rcases List.mem_append.mp hp with h | h
        · exact .inl h
        · rcases List.mem_append.mp h with h | h
          · cases h
          · exact .inr h
      have hq : p ∈ ms ++ (cs ++ W.fz) := by
        rcases hp' with h | h
        · exact List.mem_append.mpr (.inl h)
        · exact List.mem_append.mpr (.inr (List.mem_append.mpr (.inr h)))
      refine ⟨hs _ _ (D.N p hq).1, Nat.ne_of_lt (Heap.lt_size (D.N p hq).1), bnone _ (List.mem_map_of_mem (List.mem_append.mpr (.inl (List.mem_append.mpr hp'))))⟩
    · obtain ⟨e1, e2⟩ := capt_some e
      obtain ⟨a, e3⟩ := (fo _ e2).2.2 rfl
      have e3 : lk ρ.cells y = some (some a) := e3
      rw [e1] at e3
      cases e3
      obtain ⟨ca, o, ov, h1, h2, h3, h4⟩ := D.cel y _ e1
      refine ⟨ca, o, ov, (clo_some cinit).2 (.inl e2) ca h1, .inl ⟨?_, rfl⟩, h3, h4⟩
      rcases h2 with h2 | h2
      · exact st _ _ h2.1
      · exact bcs _ h2
    · have hnd := D.nd
      rw [List.map_append] at hnd
      rw [List.append_nil]
      exact (List.nodup_append.mp hnd).1
    · rcases List.mem_append.mp hp with h | h
      · exact D.dj p (List.mem_append.mpr (.inl h)) q hq
      · cases h
    · rcases List.mem_append.mp hp with h | h
      · exact D.lo p (List.mem_append.mpr (.inl h))
      · rcases List.mem_append.mp h with h | h
        · cases h
        · exact D.lo p (List.mem_append.mpr (.inr (List.mem_append.mpr (.inr h))))
  · refine ⟨fun p hp => ?_, fun p hp q hq => Z.ap p hp q ?_, Z.nd⟩
    · have z := Z.at_ p hp
      exact ⟨hs _ _ z.1, Nat.ne_of_lt (Heap.lt_size z.1), bnone _ (List.mem_map_of_mem (List.mem_append.mpr (.inr hp))), z.2.2.2⟩
    · rcases List.mem_append.mp hq with h | h
      · exact List.mem_append.mpr (.inl h)
      · rcases List.mem_append.mp h with h | h
        · cases h
        · exact List.mem_append.mpr (.inr (List.mem_append.mpr (.inr h)))
  · obtain ⟨m', ms', cs', D', Z'⟩ := S'
    obtain ⟨oC, esC, epC, hoC, hdC, _⟩ := id D'.F.ns
    have hnd := D.nd
    rw [List.map_append] at hnd
    obtain ⟨n1, n2, n3⟩ := List.nodup_append.mp hnd
    have hnd' := D'.nd
    rw [List.map_append] at hnd'
    have in' : ∀ p, p ∈ ms' ∨ p ∈ W'.fz → p ∈ ms' ++ (cs' ++ W'.fz) := fun p hp => hp.elim (fun h => List.mem_append.mpr (.inl h)) fun h => List.mem_append.mpr (.inr (List.mem_append.mpr (.inr h)))
    have N' : ∀ p, p ∈ ms' ∨ p ∈ W'.fz → sh'.heap.get? p.1 = some p.2 ∧ p.1 ≠ sh.heap.objs.size ∧ B.get? p.1 = none := fun p hp => D'.N p (in' p hp)
    have h0n : ∀ b, B.get? b = none → x.h₀.get? b = none := fun b e => by
      cases q : x.h₀.get? b with
      | none => rfl
      | some o => rw [st _ _ q] at e; cases e
    refine ⟨oC, m', D'.F.ns, m, ms', cs, ⟨⟨⟨oL, esL, epL, D'.F.keep _ _ bL, hdL, hrL⟩, fun b o e => D'.F.keep b o (st b o e), D.F.above⟩, fun p hp => ?_, fun y a e => ?_, D'.as, D'.mo, fun y oa e => ?_, ?_, fun p hp q hq => ?_, fun p hp => ?_, D'.ge, D'.dr, D'.os, D.ex⟩, ⟨fun p hp => ?_, fun p hp q hq => ?_, ?_⟩⟩
    · have new : p ∈ ms' ∨ p ∈ W'.fz → sh'.heap.get? p.1 = some p.2 ∧ p.1 ≠ x.env.locals ∧ x.h₀.get? p.1 = none := fun h => ⟨(N' p h).1, nb _ _ _ (N' p h).2.2 bL, h0n _ (N' p h).2.2⟩
      rcases List.mem_append.mp hp with h | h
      · exact new (.inl h)
      · rcases List.mem_append.mp h with h | h
        · exact ⟨D'.F.keep _ _ (bcs p h), (D.N p (List.mem_append.mpr (.inr (List.mem_append.mpr (.inl h))))).2⟩
        · exact new (.inr h)
    · obtain ⟨v, h1, h2⟩ := D.vars y a e
      exact ⟨v, h1, h2.mono le⟩
    · obtain ⟨ca, oo, ov, h1, h2, h3, h4⟩ := D.cel y oa e
      exact ⟨ca, oo, ov, h1, h2, h3, fun a ha => let ⟨v, q1, q2⟩ := h4 a ha; ⟨v, q1, q2.mono le⟩⟩
    · rw [List.map_append]
      refine List.nodup_append.mpr ⟨(List.nodup_append.mp hnd').1, n2, fun a ha b hb e => ?_⟩
      obtain ⟨p, hp, rfl⟩ := List.mem_map.mp ha
      obtain ⟨q, hq, rfl⟩ := List.mem_map.mp hb
      exact nb _ _ _ (N' p (.inl hp)).2.2 (bcs q hq) e
    · rcases List.mem_append.mp hp with h | h
      · exact D'.dj p (List.mem_append.mpr (.inl h)) q hq
      · exact Ne.symm (nb _ _ _ (N' q (.inr hq)).2.2 (bcs p h))
    · rcases List.mem_append.mp hp with h | h
      · exact D'.lo p (in' p (.inl h))
      · rcases List.mem_append.mp h with h | h
        · exact D.lo p (List.mem_append.mpr (.inr (List.mem_append.mpr (.inl h))))
        · exact D'.lo p (in' p (.inr h))
    · rcases List.mem_append.mp hp with h | h
      · have z := Z'.at_ p h
        exact ⟨z.1, nb _ _ _ z.2.2.1 bL, h0n _ z.2.2.1, z.2.2.2⟩
      · rw [List.mem_singleton.mp h]
        exact ⟨hoC, nb _ _ _ bC bL, h0n _ bC, big, fun ov q => by rw [hdC] at q; cases q⟩
    · rcases List.mem_append.mp hp with h | h
      · rcases List.mem_append.mp hq with h' | h'
        · exact Z'.ap p h q (in' q (.inl h'))
        · rcases List.mem_append.mp h' with h' | h'
          · exact Ne.symm (nb _ _ _ (Z'.at_ p h).2.2.1 (bcs q h'))
          · exact Z'.ap p h q (in' q (.inr h'))
      · rw [List.mem_singleton.mp h]
        rcases List.mem_append.mp hq with h' | h'
        · exact (N' q (.inl h')).2.1
        · rcases List.mem_append.mp h' with h' | h'
          · exact nC _ _ (bcs q h')
          · exact (N' q (.inr h')).2.1
    · rw [List.map_append]
      refine List.nodup_append.mpr ⟨Z'.nd, by simp, fun a ha b hb => ?_⟩
      obtain ⟨p, hp, rfl⟩ := List.mem_map.mp ha
      rw [List.mem_singleton.mp hb]
      exact (Z'.at_ p hp).2.1
  · obtain ⟨a, a0, L0, rfl, f1, f2, f3, f4, f5, f6, ⟨mC, W', hnC, _⟩, f8⟩ := X
    refine ⟨mC, hnC, fun h' hs' => ?_⟩
    obtain ⟨oC, esC, epC, hoC, hdC, _⟩ := id hnC
    have keepC : ∀ b o, sh'.heap.get? b = some o → b ≠ sh.heap.objs.size → h'.get? b = some o := fun b o e w => (hs'.2 b w).trans e
    have hns := Heap.UpToSlots.ns f6 (⟨oL, esL, epL, bL, hdL, hrL⟩ : B.Ns x.env.locals m)
    obtain ⟨oe, vs, Tb, oT, ts, he, hcls, hd, h1, hnT, hTe, hT, hdT, h3⟩ := f5
    have dC : ∀ b o vs, sh'.heap.get? b = some o → o.data = .fields vs → b ≠ sh.heap.objs.size := fun b o vs e hd q => by
      rw [q] at e
      have hoC : sh'.heap.get? sh.heap.objs.size = some oC := hoC
      rw [hoC] at e; cases e; rw [hdC] at hd; cases hd
    refine ⟨a, a0, L0, rfl, f1, fun b o e => keepC b o (f2 b o e) (nC b o (st b o (O.bs b o e))), f3, funFrames_but hs' (fun e he L hL => ?_) f4, ⟨oe, vs, Tb, oT, ts, keepC _ _ he (dC _ _ _ he hd), hcls, hd, h1, hnT, hTe, keepC _ _ hT (dC _ _ _ hT hdT), hdT, h3⟩, fun b o e hnf => ?_, ⟨m, W, ?_, D.vars⟩, f8⟩
    · obtain ⟨o, ho⟩ := frB e he L hL
      exact nC _ _ ho
    · obtain ⟨sl, q⟩ := f6 b o (st b o e) hnf
      exact ⟨sl, keepC _ _ q (nC b o (st b o e))⟩
    · obtain ⟨o, es, ep, q1, q2⟩ := hns
      exact ⟨o, es, ep, keepC _ _ q1 (nC _ _ bL), q2⟩
end
end Mine
end
section
set_option maxHeartbeats 4000000
open PySem PySem.W PySem.Spec PySem.Calls PyProof.Rows
namespace Mine
section
variable {g : Glb} {T : Tabs} {rec : Rec} {k : Nat} {c : Cfg} {x : Cx} {W : Wd} {ρ : Loc} {s : Stt} {σ : List MO} {sh : Shared} {A : Around} {KE : KX} {E : Value → Shared → Prop} {M : Model}
theorem StO.forget {vars : List (PySem.Str × AV)} {cs : List (PySem.Str × Option AV)} {os : List (Addr × Obj)} (S : StO g x W ⟨vars, cs⟩ σ sh os) : StO g x W ⟨[], cs⟩ σ sh os := by
  obtain ⟨m, ms, cs', D, Z⟩ := S
  exact ⟨m, ms, cs', ⟨D.F, D.N, fun y a e => (by cases e), D.as, D.mo, D.cel, D.nd, D.dj, D.lo, D.ge, D.dr, D.os, D.ex⟩, Z⟩
theorem StO.swap {p q : Addr × Obj} (S : StO g x W ρ σ sh [p, q]) : StO g x W ρ σ sh [q, p] := by
  obtain ⟨m, ms, cs', D, Z⟩ := S
  have hm : ∀ r, r ∈ [q, p] → r ∈ [p, q] := fun r hr => by
    cases hr with
    | head => exact .tail _ (.head _)
    | tail _ hr => cases hr with
      | head => exact .head _
      | tail _ hr => cases hr
  refine ⟨m, ms, cs', D, ⟨fun r hr => Z.at_ r (hm r hr), fun r hr => Z.ap r (hm r hr), ?_⟩⟩
  have := Z.nd
  simp only [List.map_cons, List.map_nil, List.nodup_cons, List.mem_singleton, List.not_mem_nil, not_false_eq_true, List.nodup_nil, and_true] at this ⊢
  exact fun e => this e.symm
theorem isLoc_iff {o : Option NameKind} (h : isLoc o = true) : o = some .local := by
  cases o with
  | none => cases h
  | some k => cases k <;> first | rfl | cases h
theorem isFun_iff {k : ScopeKind} (h : isFun k = true) : k = .function := by
  cases k <;> first | rfl | exact ff_p h
theorem compE_e {P : List Comprehension → Nat → Prop} {elt : Expr} {gens : List Comprehension} {scope : Scope} {K : List AV → Stt → Prop} (h : compE rec k c ρ elt gens scope s K KE)
    (f : ∀ t tp iter ifs k', freeOk ρ scope.names scope.names = true → lk scope.names t = some .local → scope.kind = .function → notSet iter = true →
      rec (k' + 1) c (.e iter) ρ s (fun o s => vK o fun src => oK (itemsV src) fun items => cnd (small items) (comp rec k' { c with sc := relS c.sc scope } ρ (capt ρ scope.names) t elt ifs KE items [] s K) False) KE → P [⟨.Name t tp, iter, ifs, 0⟩] (k' + 1)) : P gens k := by
  cases gens with
  | nil => exact h.elim
  | cons gn r => cases r with
    | cons _ _ => exact h.elim
    | nil => cases k with
      | zero => exact h.elim
      | succ k' =>
        refine cnd_e h fun h0 h => oK_e h fun t ht h => cnd_e h fun h1 h => cnd_e h fun h2 h => cnd_e h fun h3 h => cnd_e h fun h4 h => ?_
        obtain ⟨tg, iter, ifs, asy⟩ := gn
        have h0 : asy = 0 := of_decide_eq_true h0
        subst h0
        obtain ⟨tp, rfl⟩ := name_of ht
        exact f t tp iter ifs k' h1 (isLoc_iff h2) (isFun_iff h3) h4 h
theorem put_comp {sc scope : Scope} {cs : List (PySem.Str × Option AV)} {t : PySem.Str} {a : AV} (ht : lk scope.names t = some .local) : put { c with sc := relS sc scope } ⟨[], cs⟩ t a = some ⟨[(t, a)], cs⟩ := by
  have : ∀ l : List (PySem.Str × NameKind), lk l t = some .local → lk (l.map (relN sc.names)) t = some .local := by
    intro l
    induction l with
    | nil => intro h; cases h
    | cons p r ih =>
      obtain ⟨n, kd⟩ := p
      intro h
      rw [lk_cons] at h
      have hr : ∃ kd', relN sc.names (n, kd) = (n, kd') ∧ (kd = .local → kd' = .local) := by
        unfold relN
        cases kd with
        | free =>
          dsimp only
          split
          · exact ⟨_, rfl, fun q => by cases q⟩
          · exact ⟨_, rfl, fun q => by cases q⟩
        | _ => exact ⟨_, rfl, fun q => q⟩
      obtain ⟨kd', e1, e2⟩ := hr
      rw [List.map_cons, e1, lk_cons]
      split at h
      · rename_i w
        rw [if_pos w]
        cases h
        rw [e2 rfl]
      · rename_i w
        rw [if_neg w]
        exact ih h
  have e : lk (relS sc scope).names t = some .local := this _ ht
  unfold put
  dsimp only
  rw [e]
  rfl
/-- what holds between the turns -/
inductive CI (g : Glb) (x' : Cx) (W1 : Wd) (cs : List (PySem.Str × Option AV)) (D I : Addr) (St' : Nat → Heap → Prop) (len : Nat) (PP : Nat → List AV → Mine.Stt → Prop) (n : Nat) (s' : Shared) : Prop
  | mk {i : Nat} {si : Mine.Stt} {Wi : Wd} {vs : List Value} {nn : Nat} {oi : Obj} {acc : List AV} : n + i = len + 1 → i ≤ len → W1.Le Wi → StO g x' Wi ⟨[], cs⟩ si.σ s' [(D, listOf vs.toArray nn), (I, oi)] → St' i s'.heap → ItObj oi → VA g Wi vs acc → acc.length ≤ i → PP i acc si → CI g x' W1 cs D I St' len PP n s'
structure CT (g : Glb) (x' : Cx) (W1 : Wd) (cs : List (PySem.Str × Option AV)) (D I : Addr) (St' : Nat → Heap → Prop) (len n i : Nat) (Wi : Wd) (σ : List MO) (vs : List Value) (nv : Nat) (o' : Obj) (acc : List AV) (s6 : Shared) : Prop where
  le : W1.Le Wi
  S : StO g x' Wi ⟨[], cs⟩ σ s6 [(D, listOf vs.toArray nv), (I, o')]
  st : St' (i + 1) s6.heap
  io : ItObj o'
  hacc : VA g Wi vs acc
  hal : acc.length ≤ i
  hn : n + i = len + 1
  hlt : i < len
  sm : len ≤ 100000
section
variable {c' : Cfg} {x' : Cx} {W1 Wi : Wd} {cs : List (PySem.Str × Option AV)} {D I : Addr} {items : List AV} {fp : List Addr} {P : Nat → Value → Prop} {St' : Nat → Heap → Prop} {PP : Nat → List AV → Mine.Stt → Prop} {n i nv : Nat} {vs : List Value} {o' : Obj} {acc : List AV} {s6 : Shared} {N : Value → Shared → Prop} {t : PySem.Str} {a : AV} {elt : Expr} {ifs : List Expr}
theorem two_mem {Z : Addr × Obj → Prop} {p q : Addr × Obj} (h1 : Z p) (h2 : Z q) : ∀ r ∈ [p, q], Z r := fun r hr => by
  cases hr with
  | head => exact h1
  | tail _ hr => rw [List.mem_singleton.mp hr]; exact h2
theorem StO.two_ne {p q : Addr × Obj} (S : StO g x' Wi ρ σ sh [p, q]) : p.1 ≠ q.1 := by
  have := S.ndo
  simp only [List.map_cons, List.map_nil, List.nodup_cons, List.mem_singleton, List.not_mem_nil, not_false_eq_true, List.nodup_nil, and_true] at this
  exact this
theorem CT.next {W8 : Wd} {vr : List (PySem.Str × AV)} {s8 : Mine.Stt} {sh8 : Shared} {ws : List Value} {n9 : Nat} {acc' : List AV} (O' : CxOk g c' x') (IO : IterOk g A W1 I items fp P St') (Z : CT g x' W1 cs D I St' items.length n i Wi σ vs nv o' acc s6) (le8 : Wi.Le W8)
    (S9 : StO g x' W8 ⟨vr, cs⟩ s8.σ sh8 [(D, listOf ws.toArray n9), (I, o')]) (hacc : VA g W8 ws acc') (hal : acc'.length ≤ i + 1) (h8 : PP (i + 1) acc' s8) : ∃ m, m < n ∧ CI g x' W1 cs D I St' items.length PP m sh8 :=
  ⟨n - 1, (turn_n Z.hn Z.hlt).1, .mk (i := i + 1) (turn_n Z.hn Z.hlt).2 Z.hlt (Z.le.trans le8) S9.forget (IO.stay O' Z.le (Z.le.trans le8) Z.S.swap S9.swap Z.st) Z.io hacc hal h8⟩
theorem CT.elem {k' : Nat} {s7 : Mine.Stt} {W7 : Wd} {sh7 : Shared} (C : Ctx g T rec (k' + 1) c x A) (R' : Room A c'.n k') (a' : AOk A x'.fr) (O' : CxOk g c' x') (IO : IterOk g A W1 I items fp P St') (Z : CT g x' W1 cs D I St' items.length n i Wi σ vs nv o' acc s6)
    (noted : ∀ (ρ' : Loc) (s'' : Mine.Stt) (e : Value) (sh' : Shared), ExcA g x' ρ' e sh' → KE ρ s'' → N e sh') (le7 : Wi.Le W7) (S7 : St g (x'.plus [(D, listOf vs.toArray nv), (I, o')]) W7 ⟨[(t, a)], cs⟩ s7.σ sh7)
    (h7 : rec k' c' (.e elt) ⟨[(t, a)], cs⟩ s7 (fun o s => vK o fun v => PP (i + 1) (acc ++ [v]) s) (fun _ s => KE ρ s)) :
    wpAny (Md g) A (eval elt x'.env) (fun v s₄ => wpAny (Md g) A (call (.builtin "list.append") [.ref D, v]) (fun _ s₅ => ∃ m, m < n ∧ CI g x' W1 cs D I St' items.length PP m s₅) N s₄) N sh7 := by
  refine C.snd _ _ _ _ _ _ _ h7 (x'.plus [(D, listOf vs.toArray nv), (I, o')]) W7 A sh7 O'.plus R' a' S7 _ _ (fun a8 s8 W8 v8 sh8 le8 S8 hv8 h8 => ?_) fun ρ' s'' e sh' X hk => noted ρ' s'' e sh' X.unplus hk
  have S9 := StO.back Z.S.nc Z.S.hx Z.S.ndo S8
  have hz : vs.toArray.size ≤ sizeLine := by
    rw [List.size_toArray, Z.hacc.length]
    exact Nat.le_trans (Nat.le_trans (Nat.le_trans Z.hal (Nat.le_of_lt Z.hlt)) Z.sm) (by decide)
  refine wpAny_list_append_plain ⟨nv, S9.at (.head _)⟩ (fun h9 ⟨n9, ho9⟩ hs9 => ?_) hz
  rw [List.push_toArray] at ho9
  have S10 : StO g x' W8 ⟨[(t, a)], cs⟩ s8.σ { sh8 with heap := h9 } [(D, listOf (vs ++ [v8]).toArray n9), (I, o')] := S9.change (os' := [(D, listOf (vs ++ [v8]).toArray n9), (I, o')]) (fun b o hb e => (hs9.2 b fun q => hb (q ▸ .head _)).trans e) rfl
    (two_mem ⟨ho9, fun ov q => by cases q⟩ ⟨(hs9.2 _ (Ne.symm S9.two_ne)).trans (S9.at (.tail _ (.head _))), Z.io.noCell⟩) sh8.toks
  exact Z.next O' IO (le7.trans le8) S10 ((Z.hacc.mono (le7.trans le8)).snoc hv8) (by rw [List.length_append]; exact Nat.succ_le_succ Z.hal) h8
theorem CT.turn {k' : Nat} {si : Mine.Stt} {sh5 : Shared} (C : Ctx g T rec (k' + 1) c x A) (R' : Room A c'.n k') (a' : AOk A x'.fr) (O' : CxOk g c' x') (IO : IterOk g A W1 I items fp P St') (Z : CT g x' W1 cs D I St' items.length n i Wi si.σ vs nv o' acc s6)
    (noted : ∀ (ρ' : Loc) (s'' : Mine.Stt) (e : Value) (sh' : Shared), ExcA g x' ρ' e sh' → KE ρ s'' → N e sh') (S7 : St g (x'.plus [(D, listOf vs.toArray nv), (I, o')]) Wi ⟨[(t, a)], cs⟩ si.σ sh5)
    (ht : compT rec k' c' ρ ⟨[(t, a)], cs⟩ elt ifs KE acc si fun acc s => PP (i + 1) acc s) :
    wpAny (Md g) A (forIn ifs true fun c r => if r = true then do let ok ← isTrue c x'.env (eval c x'.env); pure (ForInStep.yield ok) else pure (ForInStep.yield r)) (fun ok s₃ =>
      if ok = true then wpAny (Md g) A (eval elt x'.env) (fun v s₄ => wpAny (Md g) A (call (.builtin "list.append") [.ref D, v]) (fun _ s₅ => ∃ m, m < n ∧ CI g x' W1 cs D I St' items.length PP m s₅) N s₄) N s₃
      else ∃ m, m < n ∧ CI g x' W1 cs D I St' items.length PP m s₃) N sh5 := by
  cases ifs with
  | nil =>
    rw [List.forIn_nil]
    refine wpAny_pure ?_
    rw [if_pos rfl]
    exact Z.elem C R' a' O' IO noted (.refl _) S7 ht
  | cons cnd1 r =>
    cases r with
    | cons _ _ => exact ht.elim
    | nil =>
      rw [List.forIn_cons]
      refine wpAny_bind ?_
      rw [if_pos rfl]
      refine wpAny_bind ?_
      refine C.snd _ _ _ _ _ _ _ ht (x'.plus [(D, listOf vs.toArray nv), (I, o')]) Wi A sh5 O'.plus R' a' S7 _ _ (fun b s8 W8 sh8 le8 S8 h8 => ?_) fun ρ' s'' e sh' X hk => noted ρ' s'' e sh' X.unplus hk
      refine wpAny_pure ?_
      dsimp only
      rw [List.forIn_nil]
      refine wpAny_pure ?_
      cases b with
      | true =>
        rw [if_pos rfl]
        exact Z.elem C R' a' O' IO noted le8 S8 h8
      | false =>
        rw [if_neg Bool.false_ne_true]
        exact Z.next O' IO le8 (StO.back Z.S.nc Z.S.hx Z.S.ndo S8) (Z.hacc.mono le8) (Nat.le_succ_of_le Z.hal) h8
/-- the loop of a comprehension -/
theorem comp_loop {R : Result → Shared → Prop} {k' : Nat} {tp p : Pos} {iter : Expr} {scope : Scope} (C : Ctx g T rec (k' + 1) c x A) (hlt : lk scope.names t = some .local) (R' : Room A c.n k') (a' : AOk A x'.fr) (O' : CxOk g { c with sc := relS c.sc scope } x') (IO : IterOk g A W1 I items fp P St') (sm : items.length ≤ 100000)
    (noted : ∀ (ρ' : Loc) (s'' : Mine.Stt) (e : Value) (sh' : Shared), ExcA g x' ρ' e sh' → KE ρ s'' → notedBy (Md g) A x'.env (fun e s' => R (.error e) s') e sh')
    {K : List AV → Mine.Stt → Prop} (fin : ∀ (Wi : Wd) (si : Mine.Stt) (vs : List Value) (nn : Nat) (acc : List AV) (s' : Shared), W1.Le Wi → StO g x' Wi ⟨[], cs⟩ si.σ s' [(D, listOf vs.toArray nn)] → VA g Wi vs acc → K acc si → R (.ok .next) s')
    {s1 : Mine.Stt} {o : Obj} (S4 : StO g x' W1 ⟨[], cs⟩ s1.σ sh [(D, listOf ([] : List Value).toArray 0), (I, o)]) (hst : St' 0 sh.heap) (io : ItObj o) (h1 : comp rec k' { c with sc := relS c.sc scope } ρ cs t elt ifs KE items [] s1 K) :
    codeAny (Md g) A (.compLoop (.ListComp elt [⟨.Name t tp, iter, ifs, 0⟩] scope p) 0 (.ref I) (.ref D) x'.env) R sh := by
  refine codeAny_compLoop_tests (CI g x' W1 cs D I St' items.length fun i acc s => comp rec k' { c with sc := relS c.sc scope } ρ cs t elt ifs KE (items.drop i) acc s K) ?_ (items.length + 1) (.mk (vs := []) (acc := []) rfl (Nat.zero_le _) (.refl _) S4 hst io .nil (Nat.le_refl _) h1)
  intro n s' ci
  cases ci with
  | @mk i si Wi vs nv oi acc hn hi' le S5 hst5 io5 hacc hal ht =>
  rcases Nat.lt_or_ge i items.length with hlt2 | hge
  · refine IO.wk.item i s' _ _ hlt2 hst5 fun v h' tk hP hst' hk => ?_
    obtain ⟨a, ha, hva⟩ := IO.val i v hlt2 hP
    obtain ⟨o', ho', io'⟩ := IO.obj _ _ hst'
    have S6 : StO g x' Wi ⟨[], cs⟩ si.σ { s' with heap := h', toks := tk } [(D, listOf vs.toArray nv), (I, o')] := S5.change (os' := [(D, listOf vs.toArray nv), (I, o')]) (fun b o hb e => hk b o (fun q => hb (.tail _ q)) e) rfl
      (two_mem ⟨hk _ _ (fun q => S5.two_ne (List.mem_singleton.mp q)) (S5.at (.head _)), fun ov q => by cases q⟩ ⟨ho', io'.noCell⟩) tk
    rw [List.drop_eq_getElem_cons hlt2] at ht
    rw [List.getElem?_eq_getElem hlt2] at ha
    cases ha
    refine s_bindT (x := x'.plus [(D, listOf vs.toArray nv), (I, o')]) (t := .Name t tp) O'.plus C.a.h S6.put (hva.mono le) (put_comp hlt) fun sh5 S7 => ?_
    exact CT.turn (c' := { c with sc := relS c.sc scope }) (PP := fun i acc s => comp rec k' { c with sc := relS c.sc scope } ρ cs t elt ifs KE (items.drop i) acc s K) C R' a' O' IO ⟨le, S6, hst', io', hacc, hal, hn, hlt2, sm⟩ noted S7 ht
  · have hi2 : i = items.length := Nat.le_antisymm hi' hge
    subst hi2
    refine IO.wk.done s' _ _ hst5 fun h' tk hk => ?_
    rw [List.drop_length] at ht
    exact fin Wi si vs nv acc _ le (S5.swap.drop (h' := h') (fun b o hb e => hk b o (fun q => hb (List.mem_singleton.mp q)) e) tk) hacc ht
end
theorem s_comp {elt iter : Expr} {ifs : List Expr} {t : PySem.Str} {tp p p2 : Pos} {scope : Scope} {k' : Nat} {use : Option (Value → Sem Unit)} {K : List AV → Stt → Prop} {Q : Value → Shared → Prop} (C : Ctx g T rec (k' + 1) c x A) (S : St g x W ρ s.σ sh)
    (hfo : freeOk ρ scope.names scope.names = true) (hlt : lk scope.names t = some .local) (hkd : scope.kind = .function) (hset : notSet iter = true)
    (h : rec (k' + 1) c (.e iter) ρ s (fun o s => vK o fun src => oK (itemsV src) fun items => cnd (small items) (comp rec k' { c with sc := relS c.sc scope } ρ (capt ρ scope.names) t elt ifs KE items [] s K) False) KE) (hE : PX g x KE E)
    (hQ : ∀ l s' W' vs n D Cc oC m sh', W.Le W' → StO g x W' ρ (Mine.Stt.σ s') sh' [(D, listOf (List.toArray vs) n), (Cc, oC)] → sh'.heap.Ns Cc m → VA g W' vs l → K l s' →
      match use with
      | none => ∃ m, sh'.heap.Ns Cc m ∧ ∀ h', Heap.SameBut Cc sh'.heap h' → Q (.ref D) { sh' with heap := h' }
      | some u => wpAny (Md g) A (u (.ref D)) (fun _ s'' => ∃ m, s''.heap.Ns Cc m ∧ ∀ h', Heap.SameBut Cc s''.heap h' → Q .none { s'' with heap := h' }) E sh') :
    wpAny (Md g) A (comprehension (.ListComp elt [⟨.Name t tp, iter, ifs, 0⟩] scope p) scope x.env p2 (newList []) false (eval iter x.env) use) Q E sh := by
  have fo := freeOk_iff hfo
  have hcells : ∀ q ∈ scope.names, q.2 = .free → ∃ a, x.env.cells.lookup q.1 = some a := fun q hq e => by
    obtain ⟨a, ha⟩ := (fo q hq).2.2 e
    refine S.e fun m ms cs D => ?_
    obtain ⟨ca, o, ov, h1, _⟩ := D.cel _ _ ha
    exact ⟨ca, h1⟩
  refine comp_head rfl (fun v => folded hset v) (closure_eq hcells) hkd (fun q hq e => (fo q hq).2.1 e) (C.e h S hE fun a s1 W1 v sh1 le1 S1 hv h1 => oK_e h1 fun items hi h1 => cnd_e h1 fun hsm h1 => ?_)
  refine s_iter C.O C.a.h S1.toO hv hi fun I o fp P Stt sh2 IO io S2 hst => wpAny_newObj_type ?_
  have nn : ∀ h : Heap, h.get? h.objs.size = none := fun h => by
    cases q : h.get? h.objs.size with
    | none => rfl
    | some o => exact absurd (Heap.lt_size q) (Nat.lt_irrefl _)
  have S3 : StO g x W1 ρ s1.σ { sh2 with heap := sh2.heap.push (listOf ([] : List Value).toArray 0) } [(sh2.heap.objs.size, listOf ([] : List Value).toArray 0), (I, o)] :=
    S2.add (fun b o' e => Heap.get?_push_of_some _ e) (nn _) (Heap.get?_push_size _ rfl) (S2.st.big C.O) (fun ov q => by cases q) _
  refine wpAny_newFunctionEnv (fun q hq => (fo q hq).1) (fun q hq => (List.not_mem_nil hq).elim) (fun h₁ hns hsb => ?_) hkd
  have keep1 : ∀ b o, (sh2.heap.push (listOf ([] : List Value).toArray 0)).get? b = some o → h₁.get? b = some o := fun b o e => (hsb.2 b (Nat.ne_of_lt (Heap.lt_size e))).trans (Heap.get?_push_of_some _ e)
  obtain ⟨x', hx1, hx2, O', S4, hback, hexc⟩ := S3.enterC C.O hkd hfo hns keep1 (sh2.toks + 0)
  have hst4 : Stt 0 h₁ := IO.wk.frame 0 _ _ hst fun b _ o e => keep1 b o (Heap.get?_push_of_some _ e)
  generalize hD : sh2.heap.objs.size = D at *
  generalize hH : (sh2.heap.push (listOf ([] : List Value).toArray 0)).objs.size = Cc at *
  show codeAny (Md g) A (.compStart _ 0 (.ref I) (.ref D) (compEnvC scope (clo x.env.cells scope.names []) Cc x.env)) (cPost (Md g) A E use Q (.ref D) (compEnvC scope (clo x.env.cells scope.names []) Cc x.env)) _
  rw [← hx1]
  have fr' : x'.env.frame = x.env.frame := by rw [hx1]; rfl
  have lc' : x'.env.locals = Cc := by rw [hx1]; rfl
  have a' : AOk A x'.fr := by rw [hx2]; exact C.a
  have loop : codeAny (Md g) A (.compLoop (.ListComp elt [⟨.Name t tp, iter, ifs, 0⟩] scope p) 0 (.ref I) (.ref D) x'.env) (cPost (Md g) A E use Q (.ref D) x'.env) { sh2 with heap := h₁, toks := sh2.toks + 0 } := by
    refine comp_loop C hlt (C.R.le (Nat.le_succ k')) a' O' IO (small_le hsm) (fun ρ' s'' e sh' X hk => ?_) (fun Wi si vs nv acc s' le S6 hacc ht => ?_) S4 hst4 io h1
    · refine s_note O' a' rfl X fun sh4 X4 => ?_
      obtain ⟨m, hm, hh⟩ := hexc _ _ _ X4
      have goal : ∃ m, sh4.heap.Ns x'.env.locals m ∧ ∀ h', Heap.SameBut x'.env.locals sh4.heap h' → wpAny (Md g) A (PySem.passOn "comprehension.variables-let-go" e x'.env : Sem Value) (fun _ _ => False) E { sh4 with heap := h' } := by
        rw [lc']
        exact ⟨m, hm, fun h' hs' => s_passOn fr' (hh h' hs') fun sh5 X5 => hE ρ s'' e sh5 X5 hk⟩
      cases use <;> exact goal
    · obtain ⟨oC, mC, hnC, S7⟩ := hback _ _ _ _ _ le S6
      have fin := hQ acc si Wi vs nv D Cc oC mC _ (le1.trans le) S7 hnC hacc ht
      cases use with
      | none =>
        show ∃ m, _
        rw [lc']
        exact fin
      | some u =>
        show wpAny _ _ _ _ _ _
        rw [lc']
        exact fin
  exact codeAny_compStart_list loop (IO.wk.self 0 _ _ _ hst4 loop)
end
end Mine
end
section
set_option maxHeartbeats 200000
open PySem PySem.W PySem.Spec PySem.Calls PyProof.Rows
namespace Mine
section
variable {g : Glb} {T : Tabs} {rec : Rec} {k : Nat} {c : Cfg} {x : Cx} {W : Wd} {ρ : Loc} {s : Stt} {σ : List MO} {sh : Shared} {A : Around} {KE : KX} {E : Value → Shared → Prop} {M : Model}
/-- an other that stays as it is from here on -/
theorem StO.freeze {p : Addr × Obj} {os : List (Addr × Obj)} (S : StO g x W ρ σ sh (p :: os)) : StO g x ⟨W.As, p :: W.fz⟩ ρ σ sh os := by
  obtain ⟨m, ms, cs, D, Z⟩ := S
  have le := le_push p W
  have z := Z.at_ p (.head _)
  refine ⟨m, ms, cs, ⟨D.F, fun q hq => ?_, fun y a e => ?_, D.as, D.mo.mono le, fun y oa e => ?_, D.nd, fun q hq r hr => ?_, fun q hq => ?_, D.ge, D.dr, D.os, D.ex⟩, ⟨fun q hq => Z.at_ q (.tail _ hq), fun q hq r hr => ?_, (List.nodup_cons.mp Z.nd).2⟩⟩
  · rcases List.mem_append.mp hq with h | h
    · exact D.N q (List.mem_append.mpr (.inl h))
    · rcases List.mem_append.mp h with h | h
      · exact D.N q (List.mem_append.mpr (.inr (List.mem_append.mpr (.inl h))))
      · cases h with
        | head => exact ⟨z.1, z.2.1, z.2.2.1⟩
        | tail _ h => exact D.N q (List.mem_append.mpr (.inr (List.mem_append.mpr (.inr h))))
  · obtain ⟨v, h1, h2⟩ := D.vars y a e
    exact ⟨v, h1, h2.mono le⟩
  · obtain ⟨ca, oo, ov, h1, h2, h3, h4⟩ := D.cel y oa e
    exact ⟨ca, oo, ov, h1, h2, h3, fun a ha => let ⟨v, q1, q2⟩ := h4 a ha; ⟨v, q1, q2.mono le⟩⟩
  · cases hr with
    | head =>
      refine Z.ap p (.head _) q ?_
      rcases List.mem_append.mp hq with h | h
      · exact List.mem_append.mpr (.inl h)
      · exact List.mem_append.mpr (.inr (List.mem_append.mpr (.inl h)))
    | tail _ hr => exact D.dj q hq r hr
  · rcases List.mem_append.mp hq with h | h
    · exact D.lo q (List.mem_append.mpr (.inl h))
    · rcases List.mem_append.mp h with h | h
      · exact D.lo q (List.mem_append.mpr (.inr (List.mem_append.mpr (.inl h))))
      · cases h with
        | head => exact z.2.2.2.1
        | tail _ h => exact D.lo q (List.mem_append.mpr (.inr (List.mem_append.mpr (.inr h))))
  · have old := Z.ap q (.tail _ hq)
    rcases List.mem_append.mp hr with h | h
    · exact old r (List.mem_append.mpr (.inl h))
    · rcases List.mem_append.mp h with h | h
      · exact old r (List.mem_append.mpr (.inr (List.mem_append.mpr (.inl h))))
      · cases h with
        | head => exact fun e => (List.nodup_cons.mp Z.nd).1 (by show p.1 ∈ _; rw [e]; exact List.mem_map_of_mem (f := (·.1)) hq)
        | tail _ h => exact old r (List.mem_append.mpr (.inr (List.mem_append.mpr (.inr h))))
/-- an other that is a mutable place from here on -/
theorem StO.slot {a : Addr} {o : Obj} {os : List (Addr × Obj)} {mo : MO} (S : StO g x W ρ σ sh ((a, o) :: os)) (hr : MoR g ⟨W.As ++ [a], W.fz⟩ o mo) : StO g x ⟨W.As ++ [a], W.fz⟩ ρ (σ ++ [mo]) sh os := by
  obtain ⟨m, ms, cs, D, Z⟩ := S
  have le := le_new a W
  have z := Z.at_ _ (.head _)
  have apz := Z.ap _ (.head _)
  refine ⟨m, ms ++ [(a, o)], cs, ⟨D.F, fun q hq => ?_, fun y b e => ?_, by rw [List.map_append, D.as]; rfl, MOs.append (show MOs g _ [(a, o)] [mo] from ⟨hr, trivial⟩) _ _ (MOs.mono le D.mo), fun y oa e => ?_, ?_, fun q hq r hr => ?_, fun q hq => ?_, D.ge, D.dr, D.os, D.ex⟩, ⟨fun q hq => Z.at_ q (.tail _ hq), fun q hq r hr => ?_, (List.nodup_cons.mp Z.nd).2⟩⟩
  · rcases List.mem_append.mp hq with h | h
    · rcases List.mem_append.mp h with h | h
      · exact D.N q (List.mem_append.mpr (.inl h))
      · rw [List.mem_singleton.mp h]; exact ⟨z.1, z.2.1, z.2.2.1⟩
    · exact D.N q (List.mem_append.mpr (.inr h))
  · obtain ⟨v, h1, h2⟩ := D.vars y b e
    exact ⟨v, h1, h2.mono le⟩
  · obtain ⟨ca, oo, ov, h1, h2, h3, h4⟩ := D.cel y oa e
    exact ⟨ca, oo, ov, h1, h2, h3, fun a ha => let ⟨v, q1, q2⟩ := h4 a ha; ⟨v, q1, q2.mono le⟩⟩
  · rw [List.map_append, List.map_append, List.append_assoc]
    have h := D.nd
    rw [List.map_append] at h
    obtain ⟨h1, h2, h3⟩ := List.nodup_append.mp h
    refine List.nodup_append.mpr ⟨h1, ?_, fun b hb d hd => ?_⟩
    · refine List.nodup_cons.mpr ⟨fun q => ?_, h2⟩
      obtain ⟨p, hp, e⟩ := List.mem_map.mp q
      exact apz p (List.mem_append.mpr (.inr (List.mem_append.mpr (.inl hp)))) e
    · rcases List.mem_append.mp hd with hb' | hb'
      · rw [List.mem_singleton.mp hb']
        obtain ⟨p, hp, rfl⟩ := List.mem_map.mp hb
        exact apz p (List.mem_append.mpr (.inl hp))
      · exact h3 b hb d hb'
  · rcases List.mem_append.mp hq with h | h
    · rcases List.mem_append.mp h with h | h
      · exact D.dj q (List.mem_append.mpr (.inl h)) r hr
      · rw [List.mem_singleton.mp h]
        exact Ne.symm (apz r (List.mem_append.mpr (.inr (List.mem_append.mpr (.inr hr)))))
    · exact D.dj q (List.mem_append.mpr (.inr h)) r hr
  · rcases List.mem_append.mp hq with h | h
    · rcases List.mem_append.mp h with h | h
      · exact D.lo q (List.mem_append.mpr (.inl h))
      · rw [List.mem_singleton.mp h]; exact z.2.2.2.1
    · exact D.lo q (List.mem_append.mpr (.inr h))
  · have old := Z.ap q (.tail _ hq)
    rcases List.mem_append.mp hr with h | h
    · rcases List.mem_append.mp h with h | h
      · exact old r (List.mem_append.mpr (.inl h))
      · rw [List.mem_singleton.mp h]
        exact fun e => (List.nodup_cons.mp Z.nd).1 (by rw [show a = q.1 from e]; exact List.mem_map_of_mem (f := (·.1)) hq)
    · exact old r (List.mem_append.mpr (.inr h))
theorem StO.last {p : Addr × Obj} {h' : Heap} (S : StO g x W ρ σ sh [p]) (hs : Heap.SameBut p.1 sh.heap h') : St g x W ρ σ { sh with heap := h' } :=
  (S.drop (fun b o hb e => (hs.2 b hb).trans e) sh.toks).st
theorem ns_at {h h' : Heap} {a : Addr} {o : Obj} {m : PySem.Str → Option Value} (hn : h.Ns a m) (h1 : h.get? a = some o) (h2 : h'.get? a = some o) : h'.Ns a m := by
  obtain ⟨o', es, ep, e, r⟩ := hn
  rw [h1] at e
  cases e
  exact ⟨o, es, ep, h2, r⟩
theorem s_ListComp {elt : Expr} {gens : List Comprehension} {scope : Scope} {p : Pos} {K : List AV → Stt → Prop} {Q : Value → Shared → Prop} (C : Ctx g T rec k c x A) (S : St g x W ρ s.σ sh) (h : compE rec k c ρ elt gens scope s K KE) (hE : PX g x KE E)
    (hQ : ∀ l s' W' vs n D Cc oC sh', W.Le W' → StO g x W' ρ (Mine.Stt.σ s') sh' [(D, listOf (List.toArray vs) n), (Cc, oC)] → VA g W' vs l → K l s' → ∀ h', Heap.SameBut Cc sh'.heap h' → Q (.ref D) { sh' with heap := h' }) :
    wpAny (Md g) A (eval (.ListComp elt gens scope p) x.env) Q E sh := by
  refine compE_e (P := fun gens k => Ctx g T rec k c x A → wpAny (Md g) A (eval (.ListComp elt gens scope p) x.env) Q E sh) h (fun t tp iter ifs k' h1 h2 h3 h4 h5 C => ?_) C
  rw [eval_ListComp]
  refine s_comp (use := none) (K := K) C S h1 h2 h3 h4 h5 hE fun l s' W' vs n D Cc oC m sh' le S' hn hv hk => ?_
  have z := hQ l s' W' vs n D Cc oC sh' le S' hv hk
  show ∃ m, sh'.heap.Ns Cc m ∧ ∀ h', Heap.SameBut Cc sh'.heap h' → Q (.ref D) { sh' with heap := h' }
  exact ⟨m, hn, z⟩
theorem s_ListCompE {elt : Expr} {gens : List Comprehension} {scope : Scope} {p : Pos} {K : AV → Stt → Prop} {Q : Value → Shared → Prop} (C : Ctx g T rec k c x A) (S : St g x W ρ s.σ sh) (h : stepE T rec k c (.ListComp elt gens scope p) ρ s K KE) (hQ : PV g x W ρ K Q) (hE : PX g x KE E) :
    wpAny (Md g) A (eval (.ListComp elt gens scope p) x.env) Q E sh :=
  s_ListComp (K := fun l s => K (.lst l) s) C S h hE fun l s' W' vs n D Cc oC sh' le S' hv hk h' hs =>
    hQ _ _ _ _ _ (le.trans (le_push _ _)) (S'.freeze.last hs) (.lst (.head _) (hv.mono (le_push _ _))) hk
theorem s_ListCompM {elt : Expr} {gens : List Comprehension} {scope : Scope} {p : Pos} {K : AV → Stt → Prop} {Q : Value → Shared → Prop} (C : Ctx g T rec k c x A) (S : St g x W ρ s.σ sh) (h : stepM rec k c (.ListComp elt gens scope p) ρ s K KE) (hQ : PV g x W ρ K Q) (hE : PX g x KE E) :
    wpAny (Md g) A (eval (.ListComp elt gens scope p) x.env) Q E sh :=
  s_ListComp (K := fun l s => K (.ref s.σ.length) ⟨s.σ ++ [MO.lst l], s.ans⟩) C S (show compE rec k c ρ elt gens scope s (fun l s => K (.ref s.σ.length) ⟨s.σ ++ [MO.lst l], s.ans⟩) KE from h) hE fun l s' W' vs n D Cc oC sh' le S' hv hk h' hs =>
    hQ _ ⟨_, s'.ans⟩ _ _ _ (le.trans (le_new D _)) ((S'.slot (mo := .lst l) (.lst (hv.mono (le_new D _)))).last hs) (.ref (by rw [← S'.st.lenAs]; simp)) hk
end
end Mine
end
section
set_option maxHeartbeats 400000
open PySem PySem.W PySem.Spec PySem.Calls PyProof.Rows
namespace Mine
section
variable {g : Glb} {T : Tabs} {rec : Rec} {k : Nat} {c : Cfg} {x : Cx} {W : Wd} {ρ : Loc} {s : Stt} {σ : List MO} {sh : Shared} {A : Around} {K : AV → Stt → Prop} {KE : KX} {Q E : Value → Shared → Prop}
theorem s_Dict {k1 : Option Expr} {ks : List (Option Expr)} {vs : List Expr} {p : Pos} (C : Ctx g T rec k c x A) (S : St g x W ρ s.σ sh) (h : dictE (k1 :: ks) vs s K (jdT (k1 :: ks) vs joinL) (Nat.ble ks.length 14)) (hQ : PV g x W ρ K Q) : wpAny (Md g) A (eval (.Dict (k1 :: ks) vs p) x.env) Q E sh := by
  generalize hj : jdT (k1 :: ks) vs joinL = j at h
  cases j with
  | true => exact s_DictJ C S hj fun W' v sh' le S' hv => hQ _ _ _ _ _ le S' hv h
  | false => exact cnd_e h fun hl h => oK_e h fun d hd h => s_DictC C S (by simp) (Nat.succ_le_succ (Nat.le_of_ble_eq_true hl)) hd fun W' v sh' le S' hv => hQ _ _ _ _ _ le S' hv h
theorem s_CallE {f : Expr} {as : List Expr} {p : Pos} (C : Ctx g T rec k c x A) (Z : TOk g T) (S : St g x W ρ s.σ sh) (hn : allNS as = true) (h : callE T rec k c f as p ρ s K KE) (hQ : PV g x W ρ K Q) (hE : PX g x KE E) : wpAny (Md g) A (eval (.Call f as [] p) x.env) Q E sh := by
  cases f with
  | Attribute o n ap => exact cnd_e h fun h1 h => cnd_e h fun h2 h => cnd_e h fun h3 h => s_CallM C Z S h1 h2 h3 hn h hQ hE
  | _ => exact s_CallN rfl C Z S hn h hQ hE
theorem s_E {y : Expr} (C : Ctx g T rec k c x A) (Z : TOk g T) (S : St g x W ρ s.σ sh) (h : stepE T rec k c y ρ s K KE) (hQ : PV g x W ρ K Q) (hE : PX g x KE E) : wpAny (Md g) A (eval y x.env) Q E sh := by
  cases y with
  | Constant v u p => exact s_Constant S h hQ
  | Name y p => exact s_Name C S h hQ
  | Tuple l u p => exact s_Tuple C S h hQ hE
  | List l p => exact s_List C S h hQ hE
  | Dict ks vs p =>
    cases ks with
    | nil => exact h.elim
    | cons k1 ks => exact s_Dict C S h hQ
  | BinOp l op r p => exact s_BinOp C S h hQ hE
  | UnaryOp op y p => exact s_UnaryOp C S h hQ hE
  | IfExp t b e p => exact s_IfExp C S h hQ hE
  | Compare l ops cs p => exact s_Compare C S h hQ hE
  | Attribute y n p => exact s_Attribute C Z.fld S h hQ hE
  | Subscript y i p =>
    cases i with
    | Slice lo hi st q =>
      cases st with
      | none => exact s_Slice C S h hQ hE
      | some _ => exact h.elim
    | _ => exact s_Subscript C S (fun _ _ => rfl) h hQ hE
  | Call f as kw p =>
    cases kw with
    | cons _ _ => exact h.elim
    | nil => exact cnd_e h fun hn h => s_CallE C Z S hn h hQ hE
  | ListComp elt gens scope p => exact s_ListCompE C S h hQ hE
  | _ => exact h.elim
theorem s_M {y : Expr} (C : Ctx g T rec k c x A) (S : St g x W ρ s.σ sh) (h : stepM rec k c y ρ s K KE) (hQ : PV g x W ρ K Q) (hE : PX g x KE E) : wpAny (Md g) A (eval y x.env) Q E sh := by
  cases y with
  | List l p => exact s_ListM C S h hQ hE
  | Dict ks vs p =>
    cases ks with
    | nil => cases vs with
      | nil => exact s_DictM C S h hQ
      | cons _ _ => exact h.elim
    | cons _ _ => exact h.elim
  | BinOp l op r p => exact s_BinOpM C S h hQ hE
  | ListComp elt gens scope p => exact s_ListCompM C S h hQ hE
  | _ => exact h.elim
end
end Mine
end
section
set_option maxHeartbeats 400000
open PySem PySem.W PySem.Spec PySem.Calls PyProof.Rows
namespace Mine
noncomputable def pk (k : PySem.Str) (v : Value) : List (PySem.Str × Value) → List (PySem.Str × Value)
  | [] => [(k, v)]
  | p :: r => if p.1 = k then (p.1, v) :: r else p :: pk k v r
theorem valueAt_cons (p : PySem.Str × Value) (r : List (PySem.Str × Value)) (y : PySem.Str) : valueAt (p :: r) y = if p.1 = y then some p.2 else valueAt r y := by
  unfold valueAt
  rw [List.find?_cons]
  by_cases h : p.1 = y
  · rw [decide_eq_true h, if_pos h]; rfl
  · rw [decide_eq_false h, if_neg h]
theorem valueAt_pk (k : PySem.Str) (v : Value) : ∀ (l : List (PySem.Str × Value)) (y : PySem.Str), valueAt (pk k v l) y = if y = k then some v else valueAt l y
  | [], y => by
    unfold pk
    rw [valueAt_cons]
    by_cases h : k = y
    · rw [if_pos h, if_pos h.symm]
    · rw [if_neg h, if_neg fun e => h e.symm]
  | p :: r, y => by
    unfold pk
    by_cases h : p.1 = k
    · rw [if_pos h, valueAt_cons, valueAt_cons]
      by_cases h2 : y = k
      · rw [if_pos h2]; dsimp only; rw [if_pos (h.trans h2.symm)]
      · rw [if_neg h2]; dsimp only; rw [if_neg fun e => h2 (e.symm.trans h), if_neg fun e => h2 (e.symm.trans h)]
    · rw [if_neg h, valueAt_cons, valueAt_cons, valueAt_pk k v r y]
      by_cases h2 : p.1 = y
      · rw [if_pos h2, if_pos h2, if_neg fun e => h (h2.trans e)]
      · rw [if_neg h2, if_neg h2]
theorem pk_keys (k : PySem.Str) (v : Value) : ∀ (l : List (PySem.Str × Value)) (y : PySem.Str), y ∈ (pk k v l).map (·.1) ↔ y = k ∨ y ∈ l.map (·.1)
  | [], y => by simp [pk]
  | p :: r, y => by
    unfold pk
    by_cases h : p.1 = k
    · rw [if_pos h]
      simp only [List.map_cons, List.mem_cons]
      constructor
      · rintro (e | e)
        · exact .inr (.inl e)
        · exact .inr (.inr e)
      · rintro (e | e | e)
        · exact .inl (e.trans h.symm)
        · exact .inl e
        · exact .inr e
    · rw [if_neg h]
      simp only [List.map_cons, List.mem_cons]
      rw [pk_keys k v r y]
      constructor
      · rintro (e | e | e)
        · exact .inr (.inl e)
        · exact .inl e
        · exact .inr (.inr e)
      · rintro (e | e | e)
        · exact .inr (.inl e)
        · exact .inl e
        · exact .inr (.inr e)
theorem pk_nodup (k : PySem.Str) (v : Value) : ∀ {l : List (PySem.Str × Value)}, (l.map (·.1)).Nodup → ((pk k v l).map (·.1)).Nodup
  | [], _ => by simp [pk]
  | p :: r, hn => by
    rw [List.map_cons, List.nodup_cons] at hn
    unfold pk
    by_cases h : p.1 = k
    · rw [if_pos h, List.map_cons, List.nodup_cons]; exact hn
    · rw [if_neg h, List.map_cons, List.nodup_cons]
      refine ⟨fun q => ?_, pk_nodup k v hn.2⟩
      rcases (pk_keys k v r p.1).mp q with e | e
      · exact h e
      · exact hn.1 e
theorem pk_len (k : PySem.Str) (v : Value) : ∀ (l : List (PySem.Str × Value)), (pk k v l).length ≤ l.length + 1 ∧ (valueAt l k ≠ none → (pk k v l).length = l.length)
  | [] => ⟨by simp [pk], fun h => absurd rfl h⟩
  | p :: r => by
    unfold pk
    by_cases h : p.1 = k
    · rw [if_pos h]; exact ⟨by simp, fun _ => by simp⟩
    · rw [if_neg h]
      have ih := pk_len k v r
      refine ⟨by simp only [List.length_cons]; omega, fun q => ?_⟩
      rw [valueAt_cons, if_neg h] at q
      simp only [List.length_cons]
      rw [ih.2 q]
theorem stored_pk (k : PySem.Str) (v : Value) : ∀ {l : List (PySem.Str × Value)}, (l.map (·.1)).Nodup → stored l k v = pk k v l
  | [], _ => by simp [stored, pk]
  | p :: r, hn => by
    rw [List.map_cons, List.nodup_cons] at hn
    have ih := stored_pk k v hn.2
    unfold pk
    unfold stored at ih ⊢
    by_cases h : p.1 = k
    · rw [if_pos h]
      have : (p :: r).any (fun kv => decide (kv.1 = k)) = true := by rw [List.any_cons, decide_eq_true h]; rfl
      rw [if_pos this, List.map_cons, if_pos h, map_store_of_not_mem r k v (h ▸ hn.1)]
    · rw [if_neg h]
      have : (p :: r).any (fun kv => decide (kv.1 = k)) = r.any (fun kv => decide (kv.1 = k)) := by rw [List.any_cons, decide_eq_false h]; rfl
      rw [this]
      cases hr : r.any (fun kv => decide (kv.1 = k)) with
      | true =>
        rw [hr, if_pos rfl] at ih
        rw [if_pos rfl, List.map_cons, if_neg h, ih]
      | false =>
        rw [hr, if_neg Bool.false_ne_true] at ih
        rw [if_neg Bool.false_ne_true, List.cons_append, ih]
theorem putD_len (y : PySem.Str) (a : AV) : ∀ (d : List (PySem.Str × AV)), d.length ≤ (putD y a d).length ∧ (lk d y = none → (putD y a d).length = d.length + 1)
  | [] => ⟨by simp [putD], fun _ => rfl⟩
  | p :: r => by
    unfold putD
    cases e : seq p.1 y with
    | true =>
      refine ⟨by simp, fun h => ?_⟩
      obtain ⟨n, b⟩ := p
      rw [lk_cons, if_pos (seq_iff.mp e)] at h
      cases h
    | false =>
      have ih := putD_len y a r
      obtain ⟨n, b⟩ := p
      have e' : n ≠ y := fun q => by rw [seq_iff.mpr q] at e; cases e
      refine ⟨by simp only [List.length_cons]; omega, fun h => ?_⟩
      rw [lk_cons, if_neg e'] at h
      simp only [List.length_cons]
      rw [ih.2 h]
section
variable {g : Glb} {T : Tabs} {rec : Rec} {k : Nat} {c : Cfg} {x : Cx} {W : Wd} {ρ : Loc} {s : Stt} {σ : List MO} {sh : Shared} {A : Around} {K : AV → Stt → Prop} {KE : KX} {Q : Unit → Shared → Prop} {E : Value → Shared → Prop}
/-- one more key of a place that is a dict -/
theorem MoR.put {o o' : Obj} {d : List (PySem.Str × AV)} {y : PySem.Str} {a : AV} {v : Value} {f : PySem.Str → Option Value} {es : Array DictEntry} {ep : Nat} {kvs : List (PySem.Str × Value)} (hf : ∀ k, valueAt kvs k = f k) (hl : kvs.length ≤ d.length)
    (h1 : ∀ x a, lk d x = some a → ∃ v, f x = some v ∧ V g W v a) (h2 : ∀ x, lk d x = none → f x = none) (hv : V g W v a)
    (hx : o'.ExactDict) (hd : o'.data = .dict es ep) (hk : KeysOf (strKind g.prog g.w) es) (hp : Pairs (strKind g.prog g.w) es.toList (pk y v kvs)) (hn : (kvs.map (·.1)).Nodup) : MoR g W o' (.dct (putD y a d)) := by
  refine .dct (f := valueAt (pk y v kvs)) ⟨hx, es, ep, _, hd, hk, hp, pk_nodup y v hn, ?_, fun _ => rfl⟩ (fun z b e => ?_) fun z e => ?_
  · have p1 := pk_len y v kvs
    have p2 := putD_len y a d
    cases q : lk d y with
    | none => rw [p2.2 q]; omega
    | some b =>
      obtain ⟨u, e1, _⟩ := h1 y b q
      have : (pk y v kvs).length = kvs.length := p1.2 (by rw [hf, e1]; simp)
      rw [this]; omega
  · rw [lk_putD] at e
    rw [valueAt_pk]
    by_cases q : z = y
    · rw [if_pos q] at e ⊢
      cases e
      exact ⟨v, rfl, hv⟩
    · rw [if_neg q] at e ⊢
      obtain ⟨u, e1, e2⟩ := h1 z b e
      exact ⟨u, by rw [hf, e1], e2⟩
  · rw [lk_putD] at e
    rw [valueAt_pk]
    by_cases q : z = y
    · rw [if_pos q] at e; cases e
    · rw [if_neg q] at e ⊢
      rw [hf, h2 z e]
theorem s_setAt {o i v : AV} {ov iv vv : Value} {σ' : List MO} (S : St g x W ρ σ sh) (ho : V g W ov o) (hi : V g W iv i) (hv : V g W vv v) (h : setAt σ o i v = some σ') (hQ : ∀ sh', St g x W ρ σ' sh' → Q () sh') : wpAny (Md g) A (setItem ov iv vv) Q E sh := by
  cases o with
  | ref j =>
    have h : setL σ j i v σ[j]? = some σ' := h
    generalize e : σ[j]? = m at h
    cases m with
    | none => exact none_p h
    | some m => cases m with
      | dct _ => exact none_p h
      | lst l => cases i with
        | int i =>
          have h2 : setN σ j l v (idx? i l.length) = some σ' := h
          generalize e1 : idx? i l.length = q at h2
          cases q with
          | none => exact none_p h2
          | some n =>
            refine some_p h2 (P := fun σ' => (∀ sh', St g x W ρ σ' sh' → Q () sh') → _) (fun hQ => ?_) hQ
            obtain ⟨h0, h1, rfl, h63⟩ := idx_some e1
            refine ho.ref_e fun a k1 ee => ee ▸ hi.int_e fun t ee => ee ▸ S.atL k1 e fun vs m hob hl => ?_
            refine ki_setAt (items := vs.toArray) hob h0 (Int.lt_trans h63 (show (1000000 : Int) < 2 ^ 63 by decide)) (by rw [List.size_toArray, hl.length]; exact h1) (hQ _ (S.upd k1 (Heap.SameBut.update ..) (Heap.get?_update_self _ hob rfl) ?_))
            have e2 : Obj.mapSeq (fun a => a.setIfInBounds i.toNat vv) (listOf vs.toArray m) = listOf (vs.toArray.setIfInBounds i.toNat vv) (if (vs.toArray.setIfInBounds i.toNat vv).size == vs.toArray.size then m else m + 1) := rfl
            rw [e2, List.setIfInBounds_toArray]
            exact .lst (hl.set _ hv)
        | _ => exact none_p h
  | _ => exact none_p h
theorem setP_e {P : List MO → Prop} {j : Nat} {y : PySem.Str} {v : AV} {σ' : List MO} (h : setP σ j y v σ[j]? = some σ') (k : ∀ d, σ[j]? = some (.dct d) → d.length ≤ 900 → P (σ.set j (.dct (putD y v d)))) : P σ' := by
  generalize e : σ[j]? = m at h k
  cases m with
  | none => exact none_p h
  | some m => cases m with
    | lst _ => exact none_p h
    | dct d =>
      unfold setP at h
      dsimp only at h
      generalize hz : Nat.ble d.length 900 = b at h
      cases b with
      | false => exact none_p h
      | true => exact some_p h (k d rfl (Nat.le_of_ble_eq_true hz))
theorem s_setKey {o v : AV} {y : PySem.Str} {ov vv : Value} {t : Tok} {σ' : List MO} (S : St g x W ρ σ sh) (ho : V g W ov o) (hv : V g W vv v) (h : setK σ y o v = some σ') (hQ : ∀ sh', St g x W ρ σ' sh' → Q () sh') : wpAny (Md g) A (setItem ov (.str y t) vv) Q E sh := by
  cases o with
  | ref j =>
    refine setP_e h (P := fun σ' => (∀ sh', St g x W ρ σ' sh' → Q () sh') → _) (fun d e hz hQ => ?_) hQ
    refine ho.ref_e fun a k1 ee => ee ▸ S.atD k1 e fun ob f hob hm h1 h2 => ?_
    obtain ⟨hx, es, ep, kvs, hd, hk, hp, hn, hl, hf⟩ := hm
    refine wpAny_setItem_pairs (knd := strKind g.prog g.w) (str_is y t) ⟨ob, es, ep, hob, hx, hd, hk, hp, hn⟩ (fun h' ⟨o', es', ep', ho', hx', hd', hk', hp', hn'⟩ hs' => hQ _ ?_) (by have := Nat.le_trans hl hz; clear hQ; rw [PySem.sizeLine_eq]; omega)
    rw [stored_pk y vv hn] at hp'
    exact (S.upd k1 hs' ho' (MoR.put (o := ob) hf hl h1 h2 hv hx' hd' hk' hp' hn)).toks _
  | _ => exact none_p h
theorem s_setI {o i v : AV} {ov iv vv : Value} {σ' : List MO} (S : St g x W ρ σ sh) (ho : V g W ov o) (hi : V g W iv i) (hv : V g W vv v) (h : setI σ o i v = some σ') (hQ : ∀ sh', St g x W ρ σ' sh' → Q () sh') : wpAny (Md g) A (setItem ov iv vv) Q E sh := by
  cases i with
  | str y => exact hi.str_e fun t ee => ee ▸ s_setKey S ho hv h hQ
  | _ => exact s_setAt S ho hi hv h hQ
end
end Mine
end
section
set_option maxHeartbeats 400000
open PySem PySem.W PySem.Spec PySem.Calls PyProof.Rows
namespace Mine
theorem keyStr {e : DictEntry} {prog : Program} {w : World} {z : PySem.Str} (h : (strKind prog w).is z e.key = true) (y : PySem.Str) : e.key.isStr y = decide (z = y) := by
  have e1 : e.key.isStr y = (strKind prog w).is y e.key := (((strKind prog w).strs y y 0 e.key (by show Value.isStrOf y (.str y 0) = true; simp [Value.isStrOf])).symm)
  rw [e1, KeyKind.is_eq_decide h y]
  by_cases q : y = z
  · rw [decide_eq_true q, decide_eq_true q.symm]
  · rw [decide_eq_false q, decide_eq_false fun e => q e.symm]
theorem pairs_putL {prog : Program} {w : World} {y : PySem.Str} {hsh : Int} {t : Tok} {v : Value} : ∀ {es : List DictEntry} {kvs : List (PySem.Str × Value)}, Pairs (strKind prog w) es kvs → Pairs (strKind prog w) (putL y hsh (.str y t) v es) (pk y v kvs)
  | _, _, .nil => .cons (by show Value.isStrOf y (.str y t) = true; simp [Value.isStrOf]) rfl .nil
  | _, _, .cons (e := e) (kv := kv) h1 h2 h3 => by
    unfold putL pk
    rw [keyStr h1 y]
    by_cases q : kv.1 = y
    · rw [decide_eq_true q, if_pos rfl, if_pos q]
      exact .cons h1 rfl h3
    · rw [decide_eq_false q, if_neg Bool.false_ne_true, if_neg q]
      exact .cons h1 h2 (pairs_putL h3)
theorem keys_putL {prog : Program} {w : World} {y : PySem.Str} {t : Tok} {v : Value} : ∀ {es : List DictEntry}, (∀ e ∈ es, ∃ k, (strKind prog w).is k e.key = true ∧ e.hash = (strKind prog w).hash k) →
    ∀ e ∈ putL y (PyData.keyHash w.params y) (.str y t) v es, ∃ k, (strKind prog w).is k e.key = true ∧ e.hash = (strKind prog w).hash k
  | [], _, e, he => by
    rw [List.mem_singleton.mp he]
    exact ⟨y, by show Value.isStrOf y (.str y t) = true; simp [Value.isStrOf], rfl⟩
  | e0 :: r, h, e, he => by
    unfold putL at he
    split at he
    · cases he with
      | head => exact h e0 (.head _)
      | tail _ he => exact h e (.tail _ he)
    · cases he with
      | head => exact h _ (.head _)
      | tail _ he => exact keys_putL (fun e he => h e (.tail _ he)) e he
theorem putL_len {y : PySem.Str} {hsh : Int} {key v : Value} : ∀ (es : List DictEntry), (putL y hsh key v es).length ≤ es.length + 1
  | [] => Nat.le_refl _
  | e :: r => by
    unfold putL
    split
    · simp
    · simp only [List.length_cons]
      have := putL_len (y := y) (hsh := hsh) (key := key) (v := v) r
      omega
section
variable {g : Glb} {T : Tabs} {rec : Rec} {k : Nat} {c : Cfg} {x : Cx} {W : Wd} {ρ : Loc} {s : Stt} {σ : List MO} {sh : Shared} {A : Around}
theorem upd_at {l1 l2 : List (Addr × Obj)} {d : Addr} {o o' : Obj} (h1 : ∀ p ∈ l1, p.1 ≠ d) (h2 : ∀ p ∈ l2, p.1 ≠ d) : Upd d o o' (l1 ++ (d, o) :: l2) (l1 ++ (d, o') :: l2) := by
  induction l1 with
  | nil => exact .head h2
  | cons p r ih => exact .tail (h1 p (.head _)) (ih fun q hq => h1 q (.tail _ hq))
theorem s_setA {o v : AV} {n : PySem.Str} {ov vv : Value} {σ' : List MO} {Q : Unit → Shared → Prop} {E : Value → Shared → Prop} (O : CxOk g c x) (Z : TOk g T) (S : St g x W ρ σ sh) (ho : V g W ov o) (hv : V g W vv v) (h : setA T σ o n v = some σ') (hQ : ∀ sh', St g x W ρ σ' sh' → Q () sh') : wpAny (Md g) A (setAttr ov n vv) Q E sh := by
  cases o with
  | obj C j =>
    have h : setF σ j n v (T.fld C n) = some σ' := h
    generalize hT : T.fld C n = b at h
    cases b with
    | false => exact none_p h
    | true =>
          refine setP_e h (P := fun σ' => (∀ sh', St g x W ρ σ' sh' → Q () sh') → _) (fun d e hz hQ => ?_) hQ
          have F := Z.set C n hT
          refine ho.obj_e fun ad dx k1 k2 ee => ee ▸ S.atD k2 e fun ob f hob hm h1 h2 => ?_
          have hm0 := hm
          obtain ⟨⟨x1, x2, x3⟩, es, ep, kvs, hd, hk, hp, hn, hl, hf⟩ := hm
          obtain ⟨cls, dict, data, slots⟩ := ob
          simp only at x1 x2 x3 hd
          subst x1 x2 x3 hd
          have hob' : sh.heap.get? dx = some (dictOf es.toList ep) := by rw [hob]
          obtain ⟨es', ep', e1, hlen, hg⟩ := hm0.dictOf
          have hgs : (getL n es.toList).isSome = true := by
            have e2 : es' = es.toList := by
              have := congrArg Obj.data e1
              simp only [Data.dict.injEq] at this
              rw [this.1]
            rw [← e2, hg]; rfl
          obtain ⟨m, ms, cs, D⟩ := id S
          have hl2 : j < ms.length := by
            have := k2
            rw [← D.as] at this
            obtain ⟨hl, _⟩ := List.getElem?_eq_some_iff.mp this
            simpa using hl
          have ea : ms[j] = (dx, dictOf es.toList ep) := by
            have := k2
            rw [← D.as, List.getElem?_map, List.getElem?_eq_getElem hl2] at this
            have e3 : ms[j].1 = dx := by simpa using this
            have e4 := (D.N ms[j] (List.mem_append.mpr (.inl (List.getElem_mem hl2)))).1
            rw [e3, hob'] at e4
            exact Prod.ext e3 (Option.some.inj e4).symm
          have hsplit : ms = ms.take j ++ (dx, dictOf es.toList ep) :: ms.drop (j + 1) := by
            rw [← ea, ← List.drop_eq_getElem_cons hl2, List.take_append_drop]
          have hset : ∀ o', ms.set j (dx, o') = ms.take j ++ (dx, o') :: ms.drop (j + 1) := fun o' => by
            rw [List.set_eq_take_append_cons_drop, if_pos hl2]
          have nd := D.nd
          rw [List.map_append] at nd
          obtain ⟨n1, n2, n3⟩ := List.nodup_append.mp nd
          rw [hsplit, List.map_append, List.map_cons] at n1
          obtain ⟨q1, q2, q3⟩ := List.nodup_append.mp n1
          have hpre : ∀ p ∈ ms.take j, p.1 ≠ dx := fun p hp => q3 p.1 (List.mem_map_of_mem hp) dx (.head _)
          have hpost : ∀ p ∈ ms.drop (j + 1) ++ (cs ++ W.fz), p.1 ≠ dx := fun p hp => by
            have hm : (dx, dictOf es.toList ep) ∈ ms := by rw [← ea]; exact List.getElem_mem hl2
            rcases List.mem_append.mp hp with h | h
            · exact fun w => (List.nodup_cons.mp q2).1 (by show dx ∈ _; rw [← w]; exact List.mem_map_of_mem h)
            · rcases List.mem_append.mp h with h | h
              · exact fun w => n3 dx (List.mem_map_of_mem (f := (·.1)) hm) p.1 (List.mem_map_of_mem h) w.symm
              · exact fun w => D.dj (dx, dictOf es.toList ep) (List.mem_append.mpr (.inl hm)) p h w.symm
          have I : InstAt sh.heap ad (instObj C dx) C (some (dictOf es.toList ep)) := ⟨S.fzAt k1, rfl, rfl, hob'⟩
          have N0 : News x.h₀ x.env.locals sh.heap (ms.take j ++ (dx, dictOf es.toList ep) :: (ms.drop (j + 1) ++ (cs ++ W.fz))) := by
            have := D.N
            rw [hsplit] at this
            simpa using this
          refine set_dict D.F O.X N0 I rfl F.sa F.po F.tk F.hd hgs rfl (upd_at hpre hpost) ?_ fun h' F' N' => hQ _ ?_
          · have := putL_len (y := n) (hsh := PyData.keyHash g.w.params n) (key := .str n (sh.toks + 1)) (v := vv) es.toList
            have e5 : es.toList.length = kvs.length := hp.length
            omega
          · have hr' : MoR g W (dictOf (putL n (PyData.keyHash g.w.params n) (.str n (sh.toks + 1)) vv es.toList) (putN n es.toList ep)) (.dct (putD n v d)) :=
              MoR.put (o := dictOf es.toList ep) hf hl h1 h2 hv ⟨rfl, rfl, rfl⟩ rfl (fun e he => keys_putL (fun e he => hk e (Array.mem_toList_iff.mp he)) e (by simpa using he)) (by simpa using pairs_putL hp) hn
            have hmap : (ms.set j (dx, dictOf (putL n (PyData.keyHash g.w.params n) (.str n (sh.toks + 1)) vv es.toList) (putN n es.toList ep))).map (·.1) = ms.map (·.1) := by
              conv => rhs; rw [hsplit]
              rw [hset]
              simp only [List.map_append, List.map_cons]
            have hin : ∀ p ∈ ms.set j (dx, dictOf (putL n (PyData.keyHash g.w.params n) (.str n (sh.toks + 1)) vv es.toList) (putN n es.toList ep)), ∃ q ∈ ms, q.1 = p.1 := fun p hp => by
              have : p.1 ∈ (ms.set j (dx, dictOf (putL n (PyData.keyHash g.w.params n) (.str n (sh.toks + 1)) vv es.toList) (putN n es.toList ep))).map (·.1) := List.mem_map_of_mem hp
              rw [hmap] at this
              obtain ⟨q, hq, e⟩ := List.mem_map.mp this
              exact ⟨q, hq, e⟩
            refine ⟨m, ms.set j (dx, _), cs, F', ?_, D.vars, hmap.trans D.as, MOs.set hr' ms σ D.mo (a := dx) (o := dictOf es.toList ep) ((List.getElem?_eq_getElem hl2).trans (congrArg some ea)), D.cel, ?_, fun p hp q hq => ?_, fun p hp => ?_, D.ge, D.dr, D.os, D.ex⟩
            · rw [hset]
              simpa using N'
            · rw [List.map_append, hmap, ← List.map_append]; exact D.nd
            · rcases List.mem_append.mp hp with h | h
              · obtain ⟨r, hr, e⟩ := hin p h
                rw [← e]
                exact D.dj r (List.mem_append.mpr (.inl hr)) q hq
              · exact D.dj p (List.mem_append.mpr (.inr h)) q hq
            · rcases List.mem_append.mp hp with h | h
              · obtain ⟨r, hr, e⟩ := hin p h
                rw [← e]
                exact D.lo r (List.mem_append.mpr (.inl hr))
              · exact D.lo p (List.mem_append.mpr (.inr h))
  | _ => exact none_p h
end
end Mine
end
section
set_option maxHeartbeats 400000
open PySem PySem.W PySem.Spec PySem.Calls PyProof.Rows
namespace Mine
theorem swaps_no {v : Expr} {t : Option Expr} {l : Nat} {env : Env} (h : notComp v = true) : swapsWith v t l env = pure false := by
  cases v <;> first | rfl | cases h
theorem swaps_attr {v o : Expr} {n : PySem.Str} {p : Pos} {l : Nat} {env : Env} : swapsWith v (some (.Attribute o n p)) l env = pure false := by cases v <;> rfl
theorem swaps_sub {v o i : Expr} {p : Pos} {l : Nat} {env : Env} : swapsWith v (some (.Subscript o i p)) l env = pure false := by cases v <;> rfl
theorem swaps_tup {v : Expr} {es : List Expr} {u : Nat} {p : Pos} {l : Nat} {env : Env} : swapsWithSole [.Tuple es u p] v l env = pure false := by
  show swapsWith v (some (.Tuple es u p)) l env = pure false
  cases v <;> rfl
theorem swapped_no {v : Expr} {es : List Expr} {u : Nat} {p : Pos} {env : Env} (h : plainV v = true) : swappedStores [.Tuple es u p] v env = pure none := by
  cases v <;> first | rfl | cases h
theorem inter_no {env : Env} (h : env.scope.kind = .function) : interactive env = false := by unfold interactive; rw [h]; rfl
section
variable {g : Glb} {T : Tabs} {rec : Rec} {k : Nat} {c : Cfg} {x : Cx} {W : Wd} {ρ : Loc} {s : Stt} {σ : List MO} {sh : Shared} {A : Around} {K : Fl → Loc → Stt → Prop} {KE : KX} {Q : Flow → Shared → Prop} {E : Value → Shared → Prop}
theorem CxOk.fn (O : CxOk g c x) : x.env.scope.kind = .function := by rw [O.sc]; exact O.kind
theorem s_use {D Cc : Addr} {oC : Obj} {W2 : Wd} {ρ2 : Loc} {σ2 : List MO} {m : PySem.Str → Option Value} {y : PySem.Str} {py : Pos} {a : AV} (O : CxOk g c x) (S : StO g x W2 ρ σ2 sh [(Cc, oC)]) (hn : sh.heap.Ns Cc m) (hv : V g W2 (.ref D) a) (hp : put c ρ y a = some ρ2)
    (hQ : ∀ sh2, St g x W2 ρ2 σ2 sh2 → Q .next sh2) : wpAny (Md g) A (assign (.Name y py) x.env (.ref D)) (fun _ s'' => ∃ m, s''.heap.Ns Cc m ∧ ∀ h', Heap.SameBut Cc s''.heap h' → Q .next { s'' with heap := h' }) E sh := by
  refine wpAny_assign_Name (s_put (x := x.plus [(Cc, oC)]) O.plus S.put hv hp fun sh2 S2 => ?_)
  have S3 := StO.back S.nc S.hx S.ndo S2
  exact ⟨m, ns_at hn (S.at (.head _)) (S3.at (.head _)), fun h' hs => hQ _ (S3.last hs)⟩
/-- a comprehension that is named -/
theorem s_AsgComp {elt : Expr} {gens : List Comprehension} {scope : Scope} {p py pos : Pos} {y : PySem.Str} {K' : List AV → Stt → Prop} (C : Ctx g T rec k c x A) (S : St g x W ρ s.σ sh) (h : compE rec k c ρ elt gens scope s K' KE) (hE : PX g x KE E)
    (hQ : ∀ l s' W' vs n D Cc oC sh', W.Le W' → StO g x W' ρ (Mine.Stt.σ s') sh' [(D, listOf (List.toArray vs) n), (Cc, oC)] → VA g W' vs l → K' l s' →
      ∃ W2 σ2 a ρ2, StO g x W2 ρ σ2 sh' [(Cc, oC)] ∧ V g W2 (.ref D) a ∧ put c ρ y a = some ρ2 ∧ ∀ sh2, St g x W2 ρ2 σ2 sh2 → Q .next sh2) :
    wpAny (Md g) A (exec (.Assign [.Name y py] (.ListComp elt gens scope p) pos) x.env) Q E sh := by
  refine compE_e (P := fun gens k => Ctx g T rec k c x A → wpAny (Md g) A (exec (.Assign [.Name y py] (.ListComp elt gens scope p) pos) x.env) Q E sh) h (fun t tp iter ifs k' h1 h2 h3 h4 h5 C => ?_) C
  obtain ⟨b, hb⟩ : ∃ b, swapsWith (.ListComp elt [⟨.Name t tp, iter, ifs, 0⟩] scope p) (some (.Name y py)) pos.line x.env = pure b := ⟨_, rfl⟩
  cases b with
  | false =>
    refine wpAny_Assign_Name ?_ hb
    rw [eval_ListComp]
    refine s_comp (use := none) (K := K') C S h1 h2 h3 h4 h5 hE fun l s' W' vs n D Cc oC m sh' le S' hn hv hk => ?_
    show ∃ m, sh'.heap.Ns Cc m ∧ ∀ h', Heap.SameBut Cc sh'.heap h' → wpAny (Md g) A (storeName x.env y (.ref D)) (fun _ => Q .next) E { sh' with heap := h' }
    obtain ⟨W2, σ2, a, ρ2, S2, hva, hp, hq⟩ := hQ l s' W' vs n D Cc oC sh' le S' hv hk
    exact ⟨m, hn, fun h' hs => s_put C.O (S2.last hs) hva hp fun sh2 S3 => hq sh2 S3⟩
  | true =>
    rw [exec_Assign_Name_used _ _ _ _ hb]
    refine wpAny_bind (wpAny_standAt (wpAny_bind ?_))
    show wpAny _ A (do let _ ← comprehension (.ListComp elt [⟨.Name t tp, iter, ifs, 0⟩] scope p) scope x.env _ (newList []) false (eval iter x.env) (some (assign (.Name y py) x.env))) _ _ sh
    refine wpAny_bind (wpAny_mono (s_comp (use := some (assign (.Name y py) x.env)) (K := K') (Q := fun _ s' => Q .next s') C S h1 h2 h3 h4 h5 hE fun l s' W' vs n D Cc oC m sh' le S' hn hv hk => ?_) (fun _ s' hq => wpAny_pure (wpAny_pure hq)) fun _ _ e => e)
    obtain ⟨W2, σ2, a, ρ2, S2, hva, hp, hq⟩ := hQ l s' W' vs n D Cc oC sh' le S' hv hk
    show wpAny (Md g) A (assign (.Name y py) x.env (.ref D)) (fun _ s'' => ∃ m, s''.heap.Ns Cc m ∧ ∀ h', Heap.SameBut Cc s''.heap h' → Q .next { s'' with heap := h' }) E sh'
    exact s_use C.O S2 hn hva hp hq
theorem Ctx.tm {Q : Value → Shared → Prop} (C : Ctx g T rec k c x A) {y : Expr} {K : KO} {b : Bool} (h : rec k c (tm b y) ρ s K KE) (S : St g x W ρ s.σ sh) {E : Value → Shared → Prop} (hE : PX g x KE E) (hQ : PV g x W ρ (fun a s => K (.v a) s) Q) :
    wpAny (Md g) A (eval y x.env) Q E sh := by
  cases b with
  | true => exact C.snd _ _ _ _ _ _ _ h _ _ _ _ C.O C.R C.a S _ _ hQ hE
  | false => exact C.e h S hE hQ
theorem s_asgC {elt : Expr} {gens : List Comprehension} {scope : Scope} {p py pos : Pos} {y : PySem.Str} {b : Bool} (C : Ctx g T rec k c x A) (S : St g x W ρ s.σ sh) (h : asgC rec k c y elt gens scope ρ s K KE b) (hQ : PF g x W K Q) (hE : PX g x KE E) : wpAny (Md g) A (exec (.Assign [.Name y py] (.ListComp elt gens scope p) pos) x.env) Q E sh := by
  cases b with
  | true =>
    unfold asgC at h
    dsimp only at h
    refine s_AsgComp (Q := Q) C S h hE fun l s' W' vs n D Cc oC sh' le S' hv hk => oK_e hk fun ρ2 hp hk => ?_
    exact ⟨⟨W'.As ++ [D], W'.fz⟩, s'.σ ++ [.lst l], _, ρ2, S'.slot (mo := .lst l) (.lst (hv.mono (le_new D _))), .ref (by rw [← S'.st.lenAs]; simp), hp, fun sh2 S2 => hQ _ _ ⟨s'.σ ++ [.lst l], s'.ans⟩ _ _ _ (le.trans (le_new D _)) S2 .next hk⟩
  | false =>
    unfold asgC at h
    dsimp only at h
    refine s_AsgComp (Q := Q) C S h hE fun l s' W' vs n D Cc oC sh' le S' hv hk => oK_e hk fun ρ2 hp hk => ?_
    exact ⟨_, s'.σ, _, ρ2, S'.freeze, .lst (.head _) (hv.mono (le_push _ _)), hp, fun sh2 S2 => hQ _ _ _ _ _ _ (le.trans (le_push _ _)) S2 .next hk⟩
theorem s_asgP {v : Expr} {py pos : Pos} {y : PySem.Str} {b : Bool} (C : Ctx g T rec k c x A) (S : St g x W ρ s.σ sh) (h : cnd (notComp v) (rec k c (tm b v) ρ s (fun o s => vK o fun a => oK (put c ρ y a) fun ρ => K .next ρ s) KE) False) (hQ : PF g x W K Q) (hE : PX g x KE E) : wpAny (Md g) A (exec (.Assign [.Name y py] v pos) x.env) Q E sh :=
  cnd_e h fun hn h => wpAny_Assign_Name (C.tm h S hE fun _ _ _ _ _ le S' hv h' => oK_e h' fun _ hp h' => s_put C.O S' hv hp fun _ S2 => hQ _ _ _ _ _ _ le S2 .next h') (swaps_no hn)
theorem s_AsgName {y : PySem.Str} {py pos : Pos} {v : Expr} (C : Ctx g T rec k c x A) (S : St g x W ρ s.σ sh) (h : asgN rec k c y v ρ s K KE) (hQ : PF g x W K Q) (hE : PX g x KE E) : wpAny (Md g) A (exec (.Assign [.Name y py] v pos) x.env) Q E sh := by
  cases v with
  | ListComp elt gens scope p => exact s_asgC C S h hQ hE
  | _ => exact s_asgP (b := inMu c y) C S h hQ hE
theorem s_asgT {t v : Expr} {pos : Pos} (C : Ctx g T rec k c x A) (Z : TOk g T) (S : St g x W ρ s.σ sh) (h : asgT T rec k c t v ρ s K KE) (hQ : PF g x W K Q) (hE : PX g x KE E) : wpAny (Md g) A (exec (.Assign [t] v pos) x.env) Q E sh := by
  cases t with
  | Name y py => exact s_AsgName C S h hQ hE
  | Tuple xs m tp =>
    exact cnd_e h fun hn h => Assign_Tuple (C.e h S hE fun _ _ _ _ _ le S' hv h' => oK_e h' fun _ hb h' => s_bindT C.O C.a.h S' hv hb fun _ S2 => hQ _ _ _ _ _ _ le S2 .next h') swaps_tup (swapped_no hn)
  | Attribute o n tp =>
    exact plainObj_wpAny_Assign_Attribute (C.tm h S hE fun _ _ _ _ _ le S' hv h' => C.e h' S' hE fun _ s2 _ _ _ le2 S2 ho h2 => oK_e h2 fun σ' hs h2 => s_setA C.O Z S2 ho (hv.mono le2) hs fun _ S3 => hQ _ _ ⟨σ', s2.ans⟩ _ _ _ (le.trans le2) S3 .next h2) swaps_attr
  | Subscript o i tp =>
    refine wpAny_Assign_Subscript (C.e h S hE fun a s' W' v sh' le S' hv h' => C.e h' S' hE fun b s2 W2 ov sh2 le2 S2 ho h2 => C.e h2 S2 hE fun ix s3 W3 iv sh3 le3 S3 hi h3 => oK_e h3 fun σ' hs h3 => ?_) swaps_sub
    exact s_setI S3 (ho.mono le3) hi (hv.mono (le2.trans le3)) hs fun _ S4 => hQ _ _ ⟨σ', s3.ans⟩ _ _ _ (le.trans (le2.trans le3)) S4 .next h3
  | _ => exact h.elim
theorem isGI_iff {o : Option NameKind} (h : isGI o = true) : o = some .globalImplicit := by
  cases o with
  | none => cases h
  | some k => cases k <;> first | rfl | cases h
theorem s_augV {op : Operator} {a b r : AV} {av bv : Value} (S : St g x W ρ s.σ sh) (ha : V g W av a) (hb : V g W bv b) (h : augV op a b = some r) {Q : Value → Shared → Prop} (hQ : BQ g x W ρ s.σ Q r) : wpAny (Md g) A (inplaceOp op av bv) Q E sh := by
  have hi : ∀ {i : Int}, BQ g x W ρ s.σ Q (.int i) → ∀ t t', Q (.int i t) { sh with toks := t' } := fun h t t' => h.int S t t'
  cases op with
  | Add => exact ii_e h (P := fun a b => V g W av a → V g W bv b → wpAny (Md g) A (inplaceOp .Add av bv) Q E sh) (fun i j e ha hb => ha.int_e fun t ee => ee ▸ hb.int_e fun u ee => ee ▸ PyProof.Rows.iadd_int (hi (Option.some.inj e ▸ hQ) _ _)) ha hb
  | FloorDiv => exact ii_e h (P := fun a b => V g W av a → V g W bv b → wpAny (Md g) A (inplaceOp .FloorDiv av bv) Q E sh) (fun i j e ha hb => ha.int_e fun t ee => ee ▸ hb.int_e fun u ee => ee ▸ gd_e e fun h1 e => gd_e e fun h2 e => PyProof.Rows.ifloordiv_int (Ne.symm (Int.ne_of_lt (of_decide_eq_true h1))) (hi (Option.some.inj e ▸ hQ) _ _) (.inl (nopy (of_decide_eq_true h1) h2))) ha hb
  | _ => exact none_p h
theorem s_augN {t v : Expr} {op : Operator} {p : Pos} (C : Ctx g T rec k c x A) (S : St g x W ρ s.σ sh) (h : augN rec k c t op v ρ s K KE) (hQ : PF g x W K Q) (hE : PX g x KE E) : wpAny (Md g) A (exec (.AugAssign t op v p) x.env) Q E sh := by
  cases t with
  | Name y py =>
    refine cnd_e h fun hl h => oK_e h fun a ha h => ?_
    have ko : x.env.kindOf y = lk c.sc.names y := by unfold Env.kindOf; rw [C.O.sc, lk_eq]
    refine St.e S fun m ms cs D => ?_
    obtain ⟨v0, h1, h2⟩ := D.vars y a ha
    refine wpAny_AugAssign_Name (wpAny_loadName_local C.O.fn (ko.trans (isLoc_iff hl)) D.F.ns h1 (C.e h S hE fun b s' W' v sh' le S' hv h' => oK_e h' fun r hr h5 => oK_e h5 fun ρ' hp h6 => ?_))
    exact s_augV S' (h2.mono le) hv hr fun _ _ _ le2 S3 hv3 => s_put C.O S3 hv3 hp fun _ S2 => hQ _ _ _ _ _ _ (le.trans le2) S2 .next h6
  | _ => exact h.elim
theorem cfB_e {n : Option PySem.Str} {t : Option PySem.Str} (h : cfB n t = true) : n = some "CheckFault" ∧ ∃ z, t = some z := by
  cases n with
  | none => cases h
  | some f => cases t with
    | none => cases h
    | some z => exact ⟨congrArg some (seq_iff.mp h), z, rfl⟩
noncomputable def CfP (e : Expr) : Prop := ∃ np z u cp p, e = .Call (.Name "CheckFault" np) [.Constant (.str z) u cp] [] p
theorem cfA_e {f : Expr} {as : List Expr} {kw : List Keyword} {p : Pos} (h : cfA f as kw = true) : CfP (.Call f as kw p) := by
  cases kw with
  | cons _ _ => cases h
  | nil => cases as with
    | nil => cases h
    | cons a r => cases r with
      | cons _ _ => cases h
      | nil =>
        obtain ⟨h1, z, h2⟩ := cfB_e h
        obtain ⟨np, rfl⟩ := name_of h1
        obtain ⟨u, cp, rfl⟩ := cstE_iff (strO_e h2)
        exact ⟨np, z, u, cp, p, rfl⟩
theorem isCF_e {e : Expr} (h : isCF e = true) : CfP e := by
  cases e with
  | Call f as kw p => exact cfA_e h
  | _ => exact ff_p h
theorem Room.r3 {n k : Nat} (R : Room A n k) (h : Nat.ble 3 n = true) : Room A 3 0 := by
  have h := Nat.le_of_ble_eq_true h
  exact ⟨Nat.lt_of_le_of_lt (Nat.add_le_add_left h _) R.d, Nat.lt_of_le_of_lt (Nat.add_le_add_right (Nat.add_le_add (Nat.add_le_add_left (Nat.mul_le_mul_left 8 h) _) (Nat.zero_le k)) 90) R.u⟩
theorem s_raise {e : Expr} {p : Pos} (C : Ctx g T rec k c x A) (Z : TOk g T) (S : St g x W ρ s.σ sh) (h : cnd (isCF e) (cnd (Nat.ble 3 c.n) (cnd (isGI (lk c.sc.names "CheckFault")) (KE ρ s) False) False) False) (hE : PX g x KE E) : wpAny (Md g) A (exec (.Raise (some e) none p) x.env) Q E sh := by
  refine cnd_e h fun hcf h1 => cnd_e h1 fun hb h2 => cnd_e h2 fun hl h3 => ?_
  obtain ⟨np, z, u, cp, q, rfl⟩ := isCF_e hcf
  exact Z.rs _ _ _ _ _ _ _ _ _ _ _ _ _ _ _ C.O (C.R.r3 hb) C.a S (isGI_iff hl) fun e sh' X => hE _ _ _ _ X h3
theorem nnK_e {P : AV → Prop} {a : AV} {p : Prop} (h : nnK a p) (k : p → P .none) : P a := by
  cases a with
  | none => exact k h
  | _ => exact h.elim
theorem s_S {y : Stmt} (C : Ctx g T rec k c x A) (Z : TOk g T) (S : St g x W ρ s.σ sh) (h : stepS T rec k c y ρ s K KE) (hQ : PF g x W K Q) (hE : PX g x KE E) : wpAny (Md g) A (exec y x.env) Q E sh := by
  cases y with
  | Expr v p =>
    exact cnd_e h fun hn h => wpAny_Expr (C.e h S hE fun a s' W' v sh' le S' hv h' => nnK_e h' (P := fun a => V g W' v a → _) (fun h' hv => hv.none_e fun ee => ee ▸ (hQ _ _ _ _ _ _ le S' .next h')) hv) (inter_no C.O.fn) (swaps_no hn)
  | Return v p =>
    cases v with
    | none => exact wpAny_Return_none (hQ _ _ _ _ _ _ (.refl W) S (.ret .none) h)
    | some v => exact wpAny_Return_some (C.e h S hE fun a s' W' v sh' le S' hv h' => hQ _ _ _ _ _ _ le S' (.ret hv) h')
  | Assign ts v p =>
    cases ts with
    | nil => exact h.elim
    | cons t r => cases r with
      | cons _ _ => exact h.elim
      | nil => exact s_asgT C Z S h hQ hE
  | AugAssign t op v p => exact s_augN C S h hQ hE
  | If t b e p =>
    refine wpAny_If (C.t h S hE fun r s' W' sh' le S' h' => ?_)
    cases r with
    | true => exact C.snd _ _ _ _ _ _ _ h' _ _ _ _ C.O C.R C.a S' _ _ (hQ.le le) hE
    | false => exact C.snd _ _ _ _ _ _ _ h' _ _ _ _ C.O C.R C.a S' _ _ (hQ.le le) hE
  | Raise e ca p =>
    cases ca with
    | some _ => exact h.elim
    | none => cases e with
      | none => exact h.elim
      | some e => exact s_raise C Z S h hE
  | For t it body els p =>
    cases els with
    | cons _ _ => exact h.elim
    | nil => exact s_For C S h hQ hE
  | While t body els p =>
    cases els with
    | cons _ _ => exact h.elim
    | nil => exact s_While C S h hQ hE
  | _ => exact h.elim
theorem s_steps (C : Ctx g T rec k c x A) (hE : PX g x KE E) : ∀ (l : List Stmt) (W : Wd) (ρ : Loc) (s : Stt) (sh : Shared) (K : Fl → Loc → Stt → Prop) (Q : Flow → Shared → Prop), St g x W ρ s.σ sh → steps rec k c l ρ s K KE → PF g x W K Q → wpAny (Md g) A (execs l x.env) Q E sh := by
  intro l
  induction l with
  | nil => intro W ρ s sh K Q S h hQ; exact wpAny_execs_nil (hQ _ _ _ _ _ _ (.refl W) S .next h)
  | cons y r ih =>
    intro W ρ s sh K Q S h hQ
    refine wpAny_execs_cons (C.snd _ _ _ _ _ _ _ h _ _ _ _ C.O C.R C.a S _ _ (fun f ρ' s' W' fl sh' le S' hf h' => ?_) hE)
    cases hf with
    | next => exact ih W' ρ' s' sh' K Q S' h' (hQ.le le)
    | ret hv => exact hQ _ _ _ _ _ _ le S' (.ret hv) h'
end
/-- what `run` says holds -/
theorem run_sound {g : Glb} {T : Tabs} (Z : TOk g T) : ∀ n, Snd g (run T n)
  | 0 => fun _ _ _ _ _ _ _ h => h.elim
  | n + 1 => fun k c t ρ s K KE h x W A sh O R a S => by
    have C : Ctx g T (run T n) k c x A := ⟨run_sound Z n, Z.tab, O, R, a⟩
    cases t with
    | e y => exact fun Q E hQ hE => s_E (K := fun a s => K (.v a) s) C Z S h hQ hE
    | m y => exact fun Q E hQ hE => s_M (K := fun a s => K (.v a) s) C S h hQ hE
    | t y => exact fun Q E hQ hE => s_T (K := fun a s => K (.b a) s) C S h hQ hE
    | st y => exact fun Q E hQ hE => s_S (K := fun f ρ s => K (.fl f ρ) s) C Z S h hQ hE
    | sts l => exact fun Q E hQ hE => s_steps C hE l W ρ s sh (fun f ρ s => K (.fl f ρ) s) Q S h hQ
end Mine
end
section
set_option maxHeartbeats 400000
open PySem PySem.W PySem.Spec PySem.Calls PyProof.Rows
namespace Mine
/-! ## out of a call -/
mutual
noncomputable def below (n : Nat) : AV → Bool
  | .ref i => Nat.ble (i + 1) n
  | .obj _ i => Nat.ble (i + 1) n
  | .tup l => belowL n l
  | .lst l => belowL n l
  | .dct d => belowD n d
  | .none => true
  | .bool _ => true
  | .int _ => true
  | .str _ => true
  | .rng _ _ => true
  | .jd => true
  | .raw _ => true
noncomputable def belowL (n : Nat) : List AV → Bool
  | [] => true
  | a :: l => and2 (below n a) (belowL n l)
noncomputable def belowD (n : Nat) : List (PySem.Str × AV) → Bool
  | [] => true
  | p :: l => and2 (below n p.2) (belowD n l)
end
noncomputable def belowM (n : Nat) : MO → Bool
  | .lst l => belowL n l
  | .dct d => belowD n d
noncomputable def belowS (n : Nat) : List MO → Bool
  | [] => true
  | m :: l => and2 (belowM n m) (belowS n l)
inductive Exit (n : Nat) (τ : List MO) : AV → List MO → AV → Prop
  | same {a : AV} : Exit n τ a τ a
  | drop {a : AV} : belowS n (τ.take n) = true → below n a = true → Exit n τ a (τ.take n) a
  | list {i : Nat} {l : List AV} : belowS n (τ.take n) = true → n ≤ i → τ[i]? = some (.lst l) → belowL n l = true → Exit n τ (.ref i) (τ.take n) (.lst l)
theorem at_take {α : Type} {l : List α} {n i : Nat} {a : α} (h : l[i]? = some a) (hi : i < n) : (l.take n)[i]? = some a := by
  rw [List.getElem?_take, if_pos hi]; exact h
section
variable {g : Glb} {As : List Addr} {fz : List (Addr × Obj)} {n : Nat}
theorem V.down {v : Value} {a : AV} (x : V g ⟨As, fz⟩ v a) : Mine.below n a = true → V g ⟨As.take n, fz⟩ v a :=
  V.rec (W := ⟨As, fz⟩) (motive_1 := fun v a _ => Mine.below n a = true → V g ⟨As.take n, fz⟩ v a) (motive_2 := fun vs ds _ => belowL n ds = true → VA g ⟨As.take n, fz⟩ vs ds) (motive_3 := fun f d _ => belowD n d = true → VD g ⟨As.take n, fz⟩ f d)
    (fun _ => .none) (fun _ _ => .bool _) (fun _ _ _ => .int _ _) (fun _ _ _ => .str _ _) (fun k _ r h => .tup k (r h)) (fun k _ r h => .lst k (r h)) (fun k m _ q r h => .dct k m (r h) q)
    (fun k _ => .rng k) (fun k h => .ref (at_take k (Nat.le_of_ble_eq_true h))) (fun k i h => .obj k (at_take i (Nat.le_of_ble_eq_true h))) (fun k _ => .jd k) (fun _ _ => .raw _)
    (fun _ => .nil) (fun _ _ a b h => .cons (a (and2_iff h).1) (b (and2_iff h).2)) (fun _ => .nil) (fun e _ _ a b h => .cons e (a (and2_iff h).1) (b (and2_iff h).2)) x
theorem VA.down : ∀ {vs : List Value} {ds : List AV}, VA g ⟨As, fz⟩ vs ds → belowL n ds = true → VA g ⟨As.take n, fz⟩ vs ds := by
  intro vs
  induction vs with
  | nil => intro ds x _; exact x.nil_f fun ee => ee ▸ .nil
  | cons v vs ih => intro ds x; exact x.cons_f fun a r k l ee => ee ▸ fun h => .cons (k.down (and2_iff h).1) (ih l (and2_iff h).2)
end
theorem belowD_lk {n : Nat} {d : List (PySem.Str × AV)} (h : belowD n d = true) (y : PySem.Str) (a : AV) (e : lk d y = some a) : below n a = true := by
  induction d with
  | nil => exact none_p e
  | cons p r ih =>
    rw [lk_cons] at e
    split at e
    · cases e; exact (and2_iff h).1
    · exact ih (and2_iff h).2 e
theorem MoR.down {g : Glb} {As : List Addr} {fz : List (Addr × Obj)} {n : Nat} {o : Obj} {m : MO} (x : MoR g ⟨As, fz⟩ o m) (h : belowM n m = true) : MoR g ⟨As.take n, fz⟩ o m := by
  cases x with
  | lst k => exact .lst (k.down h)
  | dct a b c => exact .dct a (fun y v e => let ⟨u, e1, e2⟩ := b y v e; ⟨u, e1, e2.down (belowD_lk h y v e)⟩) c
theorem MOs.down {g : Glb} {As : List Addr} {fz : List (Addr × Obj)} {n : Nat} : ∀ (ms : List (Addr × Obj)) (σ : List MO), MOs g ⟨As, fz⟩ ms σ → belowS n σ = true → MOs g ⟨As.take n, fz⟩ ms σ := by
  intro ms
  induction ms with
  | nil => intro σ h _; cases σ with
    | nil => exact h
    | cons _ _ => exact h.elim
  | cons p r ih => intro σ h hb; cases σ with
    | nil => exact h.elim
    | cons m q =>
      exact ⟨h.1.down (and2_iff hb).1, ih q h.2 (and2_iff hb).2⟩
theorem MOs.take {g : Glb} {W : Wd} : ∀ (n : Nat) (ms : List (Addr × Obj)) (σ : List MO), MOs g W ms σ → MOs g W (ms.take n) (σ.take n) := by
  intro n
  induction n with
  | zero => intro ms σ _; exact trivial
  | succ n ih => intro ms σ h; cases ms with
    | nil => cases σ with
      | nil => exact trivial
      | cons _ _ => exact h.elim
    | cons p r => cases σ with
      | nil => exact h.elim
      | cons m q => exact ⟨h.1, ih r q h.2⟩
theorem Hp.exit {g : Glb} {B : Heap} {W W' : Wd} {σ τ σ' : List MO} {sh : Shared} {v : Value} {a a' : AV} (le : W.Le W') (hl : W.As.length = σ.length) (H : Hp g B W' τ sh) (hv : V g W' v a) (h : Exit σ.length τ a σ' a') :
    ∃ W'', W.Le W'' ∧ Hp g B W'' σ' sh ∧ V g W'' v a' := by
  obtain ⟨As', fz'⟩ := W'
  have hAs : As'.take σ.length = W.As := by
    obtain ⟨e, he⟩ := le.as
    rw [show As' = W.As ++ e from he, ← hl, List.take_left]
  have base : belowS σ.length (τ.take σ.length) = true → Hp g B ⟨W.As, fz'⟩ (τ.take σ.length) sh := fun hb => by
    obtain ⟨ms, D⟩ := H
    have inn : ∀ p, p ∈ ms.take σ.length ++ fz' → p ∈ ms ++ fz' := fun p hp => by
      rcases List.mem_append.mp hp with h | h
      · exact List.mem_append.mpr (.inl (List.mem_of_mem_take h))
      · exact List.mem_append.mpr (.inr h)
    refine ⟨ms.take σ.length, D.keep, D.size, fun p hp => D.N p (inn p hp), ?_, ?_, ?_, fun p hp q hq => D.dj p (List.mem_of_mem_take hp) q hq, fun p hp => D.lo p (inn p hp), D.ge, D.dr, D.os⟩
    · rw [List.map_take, D.as]; exact hAs
    · have := MOs.down (n := σ.length) _ _ (MOs.take σ.length ms τ D.mo) hb
      rw [hAs] at this
      exact this
    · rw [List.map_take]; exact (List.take_sublist _ _).nodup D.nd
  have lef : W.Le ⟨W.As, fz'⟩ := ⟨⟨[], by simp⟩, le.fz⟩
  cases h with
  | same => exact ⟨_, le, H, hv⟩
  | drop hb ha =>
    refine ⟨_, lef, base hb, ?_⟩
    have := V.down (n := σ.length) hv ha
    rw [hAs] at this
    exact this
  | list hb hi he hbl =>
    rename_i i l
    cases hv with
    | ref k1 =>
    rename_i ad
    have B0 := base hb
    obtain ⟨ms, D⟩ := H
    obtain ⟨p, hp, hr⟩ := MOs.get ms τ D.mo he
    have hpa : p.1 = ad := by
      have : (ms.map (·.1))[i]? = some p.1 := by rw [List.getElem?_map, hp]; rfl
      rw [D.as, k1] at this
      exact (Option.some.inj this).symm
    have hpm := List.mem_of_getElem? hp
    obtain ⟨pa, po⟩ := p
    dsimp only at hpa hr
    subst hpa
    cases hr with
    | lst hvs =>
    rename_i vs m
    have hvs' := VA.down (n := σ.length) hvs hbl
    rw [hAs] at hvs'
    have lef2 : Wd.Le ⟨W.As, fz'⟩ ⟨W.As, (pa, listOf vs.toArray m) :: fz'⟩ := le_push _ ⟨W.As, fz'⟩
    obtain ⟨ms0, D0⟩ := B0
    have hnot : ∀ q ∈ ms0, q.1 ≠ pa := fun q hq e => by
      have h1 : q.1 ∈ W.As := by rw [← D0.as]; exact List.mem_map_of_mem hq
      obtain ⟨j, hj⟩ := List.getElem?_of_mem h1
      have hj2 : j < σ.length := by rw [← hl]; exact (List.getElem?_eq_some_iff.mp hj).1
      have hj3 : As'[j]? = some pa := by
        obtain ⟨e0, he0⟩ := le.as
        have he0 : As' = W.As ++ e0 := he0
        rw [he0, List.getElem?_append_left (by rw [hl]; exact hj2), ← e]; exact hj
      have hnd := D.nd
      rw [D.as] at hnd
      obtain ⟨a1, a2⟩ := List.getElem?_eq_some_iff.mp hj3
      have k1 : As'[i]? = some pa := k1
      obtain ⟨b1, b2⟩ := List.getElem?_eq_some_iff.mp k1
      have := nodup_inj hnd a1 b1 (a2.trans b2.symm)
      omega
    refine ⟨⟨W.As, (pa, listOf vs.toArray m) :: fz'⟩, lef.trans lef2, ⟨ms0, D0.keep, D0.size, fun q hq => ?_, D0.as, D0.mo.mono lef2, D0.nd, fun q hq r hr => ?_, fun q hq => ?_, D0.ge, D0.dr, D0.os⟩, .lst (.head _) (hvs'.mono lef2)⟩
    · rcases List.mem_append.mp hq with h | h
      · exact D0.N q (List.mem_append.mpr (.inl h))
      · cases h with
        | head => exact D.N _ (List.mem_append.mpr (.inl hpm))
        | tail _ h => exact D0.N q (List.mem_append.mpr (.inr h))
    · cases hr with
      | head => exact hnot q hq
      | tail _ hr => exact D0.dj q hq r hr
    · rcases List.mem_append.mp hq with h | h
      · exact D0.lo q (List.mem_append.mpr (.inl h))
      · cases h with
        | head => exact D.lo _ (List.mem_append.mpr (.inl hpm))
        | tail _ h => exact D0.lo q (List.mem_append.mpr (.inr h))
end Mine
end
section
set_option maxHeartbeats 400000
open PySem PySem.W PySem.Spec PySem.Calls PyProof.Rows
namespace Mine
noncomputable def locVars (sc : Scope) : List (PySem.Str × AV) → List (PySem.Str × AV)
  | [] => []
  | p :: r => match lk sc.names p.1 with
    | some .local => p :: locVars sc r
    | _ => locVars sc r
noncomputable def locCells (pars : List (PySem.Str × AV)) : List (PySem.Str × NameKind) → List (PySem.Str × Option AV)
  | [] => []
  | p :: r => match p.2 with
    | .cell => (p.1, lk pars p.1) :: locCells pars r
    | _ => locCells pars r
noncomputable def pars : List PySem.Str → List AV → List (PySem.Str × AV)
  | x :: r, a :: l => (x, a) :: pars r l
  | _, _ => []
noncomputable def enterL (sc : Scope) (names : List PySem.Str) (as : List AV) : Loc := ⟨locVars sc (pars names as), locCells (pars names as) sc.names⟩
structure IsDef (g : Glb) (f : Addr) (names : List PySem.Str) (defs : List AV) (scope : Scope) (body : List Stmt) : Prop where
  keep : keepIn g.K (.ref f) = true
  obj : ∃ o fd, g.K.lookup f = some o ∧ o.data = .func fd ∧ fd.body = .stmts body ∧ fd.scope = scope ∧ fd.globals = mainGlobals ∧ fd.closure = [] ∧ fd.builtins = builtinsNs ∧ codeIn g.K fd.code fd.qualname = true ∧
    (∃ dv, VA g ⟨[], []⟩ dv defs ∧ ∀ (s : Shared) (vs : List Value), g.K.In s.heap → vs.length + dv.length = names.length → BindsTo s fd ⟨vs, []⟩ (names.zip (vs ++ dv)))
  kind : scope.kind = .function
  co : scope.isCoroutine = false
  gen : scope.isGenerator = false
  nd : names.Nodup
  par : ∀ y ∈ names, lk scope.names y = some .local ∨ lk scope.names y = some .cell
  cnd : ((cellsFrom 0 scope.names []).map (·.1)).Nodup
  ck : ∀ p ∈ scope.names, p.2 = .cell → lk scope.names p.1 = some .cell
theorem bindL_get {kd : PySem.Str → Option NameKind} : ∀ (l : List (PySem.Str × Value)) (m : PySem.Str → Option Value) (y : PySem.Str), (l.map (·.1)).Nodup → bindL kd l m y = match l.lookup y with | some v => (if kd y = some .local then some v else m y) | none => m y
  | [], _, _, _ => rfl
  | (n, v) :: r, m, y, hn => by
    rw [List.map_cons, List.nodup_cons] at hn
    unfold bindL
    rw [bindL_get r _ y hn.2, ← lk_eq, ← lk_eq, lk_cons]
    by_cases h : n = y
    · subst h
      have : lk r n = none := by
        cases e : lk r n with
        | none => rfl
        | some a =>
          exfalso
          rw [lk_eq] at e
          exact hn.1 (List.mem_map_of_mem (f := (·.1)) (mem_of_lookup e))
      rw [this, if_pos rfl]
      dsimp only
      by_cases q : kd n = some .local
      · rw [if_pos q, if_pos q, if_pos rfl]
      · rw [if_neg q, if_neg q]
    · rw [if_neg h]
      have e : (if kd n = some NameKind.local then fun y => if y = n then some v else m y else m) y = m y := by
        by_cases q : kd n = some .local
        · rw [if_pos q, if_neg fun e => h e.symm]
        · rw [if_neg q]
      rw [e]
theorem bindC_get {kd : PySem.Str → Option NameKind} : ∀ (l : List (PySem.Str × Value)) (m : PySem.Str → Option Value) (y : PySem.Str), (l.map (·.1)).Nodup → bindC kd l m y = match l.lookup y with | some v => (if kd y = some .local then m y else some v) | none => m y
  | [], _, _, _ => rfl
  | (n, v) :: r, m, y, hn => by
    rw [List.map_cons, List.nodup_cons] at hn
    unfold bindC
    rw [bindC_get r _ y hn.2, ← lk_eq, ← lk_eq, lk_cons]
    by_cases h : n = y
    · subst h
      have : lk r n = none := by
        cases e : lk r n with
        | none => rfl
        | some a =>
          exfalso
          rw [lk_eq] at e
          exact hn.1 (List.mem_map_of_mem (f := (·.1)) (mem_of_lookup e))
      rw [this, if_pos rfl]
      dsimp only
      by_cases q : kd n = some .local
      · rw [if_pos q, if_pos q]
      · rw [if_neg q, if_neg q, if_pos rfl]
    · rw [if_neg h]
      have e : (if kd n = some NameKind.local then m else fun y => if y = n then some v else m y) y = m y := by
        by_cases q : kd n = some .local
        · rw [if_pos q]
        · rw [if_neg q, if_neg fun e => h e.symm]
      rw [e]
theorem pars_get {g : Glb} {W : Wd} : ∀ {names : List PySem.Str} {vs : List Value} {as : List AV}, VA g W vs as → ∀ y a, lk (pars names as) y = some a → ∃ v, (names.zip vs).lookup y = some v ∧ V g W v a ∧ y ∈ names
  | [], _, _, _, _, _, e => by cases e
  | _ :: _, _, _, .nil, _, _, e => by cases e
  | x :: r, _, _, .cons (v := v) hv h, y, a, e => by
    unfold pars at e
    rw [lk_cons] at e
    rw [List.zip_cons_cons, ← lk_eq, lk_cons]
    split at e
    · rename_i q; subst q; cases e
      exact ⟨v, if_pos rfl, hv, .head _⟩
    · rename_i q
      obtain ⟨u, h1, h2, h3⟩ := pars_get (names := r) h y a e
      exact ⟨u, by rw [if_neg q, lk_eq]; exact h1, h2, .tail _ h3⟩
theorem pars_none : ∀ {names : List PySem.Str} {vs : List Value} {as : List AV}, vs.length = as.length → ∀ y, lk (pars names as) y = none → (names.zip vs).lookup y = none
  | [], _, _, _, _, _ => by simp
  | _ :: _, [], _, _, _, _ => by simp
  | _ :: _, _ :: _, [], h, _, _ => by simp at h
  | x :: r, v :: vs, a :: as, h, y, e => by
    unfold pars at e
    rw [lk_cons] at e
    rw [List.zip_cons_cons, ← lk_eq, lk_cons]
    split at e
    · cases e
    · rename_i q
      rw [if_neg q, lk_eq]
      exact pars_none (by simpa using h) y e
theorem locVars_some {sc : Scope} : ∀ {l : List (PySem.Str × AV)} {y : PySem.Str} {a : AV}, lk (locVars sc l) y = some a → lk sc.names y = some .local
  | [], _, _, e => by cases e
  | p :: r, y, a, e => by
    unfold locVars at e
    split at e
    · rename_i q
      rw [lk_cons] at e
      split at e
      · rename_i w; subst w; exact q
      · exact locVars_some e
    · exact locVars_some e
theorem locVars_lk {sc : Scope} : ∀ {l : List (PySem.Str × AV)} {y : PySem.Str} {a : AV}, lk (locVars sc l) y = some a → lk l y = some a
  | [], _, _, e => by cases e
  | (n, b) :: r, y, a, e => by
    have hl := locVars_some e
    unfold locVars at e
    rw [lk_cons]
    split at e
    · rw [lk_cons] at e
      split at e
      · rename_i w; rw [if_pos w]; exact e
      · rename_i w; rw [if_neg w]; exact locVars_lk e
    · rename_i q
      by_cases w : n = y
      · subst w; exact absurd hl q
      · rw [if_neg w]; exact locVars_lk e
theorem locCells_some {l : List (PySem.Str × AV)} : ∀ {ns : List (PySem.Str × NameKind)} {y : PySem.Str} {oa : Option AV}, lk (locCells l ns) y = some oa → (y, NameKind.cell) ∈ ns ∧ oa = lk l y
  | [], _, _, e => by cases e
  | p :: r, y, oa, e => by
    unfold locCells at e
    split at e
    · rename_i q
      rw [lk_cons] at e
      split at e
      · rename_i w; subst w; cases e; exact ⟨by rw [← q]; exact .head _, rfl⟩
      · have := locCells_some e; exact ⟨.tail _ this.1, this.2⟩
    · have := locCells_some e; exact ⟨.tail _ this.1, this.2⟩
theorem cellsFrom_has : ∀ (ns : List (PySem.Str × NameKind)) (n : Nat) (acc : List (PySem.Str × Addr)) (y : PySem.Str), ((y, NameKind.cell) ∈ ns ∨ ∃ c, acc.lookup y = some c) → ∃ c, (cellsFrom n ns acc).lookup y = some c
  | [], _, _, _, h => h.resolve_left (List.not_mem_nil)
  | (z, kd) :: r, n, acc, y, h => by
    unfold cellsFrom
    split
    · refine cellsFrom_has r _ _ y ?_
      by_cases w : z = y
      · subst w; exact .inr ⟨n, by rw [← lk_eq, lk_cons_self]⟩
      · rcases h with h | ⟨c, h⟩
        · cases h with
          | head => exact absurd rfl w
          | tail _ h => exact .inl h
        · exact .inr ⟨c, by rw [← lk_eq, lk_cons, if_neg w, lk_eq]; exact h⟩
    · rename_i q
      refine cellsFrom_has r _ _ y (h.imp (fun h => ?_) id)
      cases h with
      | head => exact absurd rfl q
      | tail _ h => exact h
theorem cellsAre_mem {cm : PySem.Str → Option Value} : ∀ {cs : List (PySem.Str × Addr)} {cells : List (Addr × Obj)}, CellsAre cm cs cells → cells.map (·.1) = cs.map (·.2) ∧ ∀ n c, (n, c) ∈ cs → ∃ o, (c, o) ∈ cells ∧ o.data = .cell (cm n)
  | _, _, .nil => ⟨rfl, fun _ _ h => (List.not_mem_nil h).elim⟩
  | _, _, .cons h r => by
    have ih := cellsAre_mem r
    refine ⟨by simp [ih.1], fun n c hm => ?_⟩
    cases hm with
    | head => exact ⟨_, .head _, h⟩
    | tail _ hm =>
      obtain ⟨o, h1, h2⟩ := ih.2 n c hm
      exact ⟨o, .tail _ h1, h2⟩
end Mine
end
section
set_option maxHeartbeats 400000
open PySem PySem.W PySem.Spec PySem.Calls PyProof.Rows
namespace Mine
noncomputable def retV (f : Fl) : AV := match f with
  | .ret a => a
  | .next => .none
noncomputable def floV (f : Flow) : Value := match f with
  | .ret v => v
  | _ => .none
noncomputable def Post (n : Nat) (r : Option AV) (σ' : List MO) (f : Fl) (τ : List MO) : Prop := ∃ a, r = some a ∧ Exit n τ (retV f) σ' a
theorem leaving_congr {e : Value} {env env' : Env} (h : env.frame = env'.frame) : leaving env e = leaving env' e := by
  unfold leaving
  rw [noteFrame_congr h]
theorem valid_def {g : Glb} {T : Tabs} (Z : TOk g T) {f : Addr} {names : List PySem.Str} {defs : List AV} {scope : Scope} {body : List Stmt} (D : IsDef g f names defs scope body) {need k fuel : Nat} {mu : List PySem.Str} {ans : List Ans} {as : List AV} {σ σ' : List MO} {r : Option AV}
    (hk : k ≤ 7) (hn : 1 ≤ need) (hl : as.length + defs.length = names.length)
    (h : run T fuel k ⟨scope, mu, need - 1⟩ (.sts body) (enterL scope names (as ++ defs)) ⟨σ, ans⟩ (fun o s => fK o fun fl _ => Post σ.length r σ' fl s.σ) (fun _ _ => r = none)) : Valid g need (.ref f) as σ r σ' := by
  refine ⟨D.keep, fun A fr B W vs0 sh Rr a R b H hv0 hq he => ?_⟩
  obtain ⟨o, fd, ho, hfd, hb, hsc, hgl, hcl, hbi, hcd, dv, hdv, hbind⟩ := D.obj
  have hv := hv0.append (hdv.mono (W' := W) ⟨⟨W.As, rfl⟩, fun p hp => (List.not_mem_nil hp).elim⟩)
  have hdl := hdv.length
  have hvl0 := hv0.length
  generalize hvs : vs0 ++ dv = vs at hv
  generalize has : as ++ defs = as' at hv h
  have hl : as'.length = names.length := by rw [← has, List.length_append]; exact hl
  obtain ⟨ms, HD⟩ := H
  have XB : g.K.In sh.heap := b.X.keeps HD.keep
  have hvl := hv.length
  have hroom : A.depth < recursionLimit := by have := R.d; omega
  have hzip : ((names.zip vs).map (·.1)).Nodup := by
    rw [List.map_fst_zip (by omega)]; exact D.nd
  refine codeAny_call_function hroom (XB _ _ ho) hfd (by rw [hsc]; exact D.co) (by rw [hsc]; exact D.gen) hb (codeRec_of XB hcd) (hbind sh vs0 XB (by omega) _ _ _ _ ?_)
  rw [hsc, hgl, hcl, hbi, hvs]
  refine wpAny_newFunctionEnv_cells D.kind (fun y hy => ?_) fun env he' s' x => ?_
  · obtain ⟨h1, _⟩ := List.of_mem_zip hy
    rw [← lk_eq]
    rcases D.par y.1 h1 with q | q
    · exact .inl q
    · refine .inr ⟨q, ?_⟩
      have : (y.1, NameKind.cell) ∈ scope.names := by rw [lk_eq] at q; exact mem_of_lookup q
      obtain ⟨c, hc⟩ := cellsFrom_has scope.names (sh.heap.objs.size + 1) [] y.1 (.inl this)
      rw [hc]; rfl
  have hke : env.scope = scope := by rw [he']; rfl
  have hkd : ∀ y, env.kindOf y = lk scope.names y := fun y => by unfold Env.kindOf; rw [hke, lk_eq]
  have hce : env.cells = cellsFrom (sh.heap.objs.size + 1) scope.names [] := by rw [he']; rfl
  have hlo : env.locals = sh.heap.objs.size := by rw [he']; rfl
  have hfr : env.frame = some sh.heap.objs.size := by rw [he']; rfl
  refine ⟨(b.T.nolimit.keeps HD.keep).keeps x.toInCall.keep, codeAny_func ?_⟩
  have keep1 := x.toInCall.keep
  obtain ⟨h₁, tk, hs'⟩ := x.toInCall.same
  obtain ⟨cells, NC, Y⟩ := Cl.news (h₀ := sh.heap) (L := env.locals) (by rw [hlo]; exact Nat.le_refl _) (h := s'.heap) (cm := bindC env.kindOf (names.zip vs) fun _ => none) (cs := env.cells) fun n c hm => ⟨x.cell n c (lookup_of_mem_nodup (by rw [hce]; exact cellsFrom_names scope.names 0 (sh.heap.objs.size + 1) [] [] rfl ▸ D.cnd) hm), x.above n c hm⟩
  obtain ⟨Y1, Y2⟩ := cellsAre_mem Y
  have hid : ∀ c, c ∈ (ms ++ W.fz).map (·.1) → ∃ p ∈ ms ++ W.fz, p.1 = c := fun c hc => List.mem_map.mp hc
  have stB : ∀ c o, B.get? c = some o → (hideAll sh.heap ((ms ++ W.fz).map (·.1))).get? c = some o := fun c o e => hideAll_get _ (HD.keep c o e) fun q => by
    obtain ⟨p, hp, rfl⟩ := hid _ q
    rw [(HD.N p hp).2] at e; cases e
  have hsz : (hideAll sh.heap ((ms ++ W.fz).map (·.1))).objs.size = sh.heap.objs.size := hideAll_size _ _
  have hbn : ∀ c, B.get? c = none ∨ @LT.lt Nat _ c sh.heap.objs.size := fun c => by
    cases q : B.get? c with
    | none => exact .inl rfl
    | some o => exact .inr (Nat.lt_of_lt_of_le (Heap.lt_size q) HD.size)
  have baseL : g.base.get? sh.heap.objs.size = none := by
    cases q : g.base.get? sh.heap.objs.size with
    | none => rfl
    | some o => exact absurd (Nat.lt_of_lt_of_le (Heap.lt_size (b.bs _ _ q)) HD.size) (Nat.lt_irrefl _)
  have big : @LT.lt Nat _ 3 sh.heap.objs.size := Nat.lt_of_lt_of_le b.T.g.lt HD.size
  have O : CxOk g ⟨scope, mu, need - 1⟩ ⟨env, env :: fr, hideAll sh.heap ((ms ++ W.fz).map (·.1)), []⟩ := by
    refine ⟨hke, D.kind, by rw [he']; rfl, by rw [he']; rfl, b.X.keeps stB, b.T.keeps stB, fun c o e => stB c o (b.bs c o e), fun e hm => ?_, ⟨env, fr, rfl, rfl⟩, fun n n' c h1 h2 => ?_⟩
    · cases hm with
      | head => exact ⟨by rw [hke, D.kind]; decide, _, hfr, baseL, .inl hlo.symm⟩
      | tail _ hm =>
        obtain ⟨h1, L, h2, h3, o, h4, h5⟩ := b.ff e hm
        exact ⟨h1, L, h2, h3, .inr ⟨o, stB _ _ h4, h5⟩⟩
    · exact name_of_addr x.apart (mem_of_lookup h1) (mem_of_lookup h2)
  have inms : ∀ p, p ∈ ms ++ (cells ++ W.fz) → p ∈ cells ∨ p ∈ ms ++ W.fz := fun p hp => by
    rcases List.mem_append.mp hp with h | h
    · exact .inr (List.mem_append.mpr (.inl h))
    · rcases List.mem_append.mp h with h | h
      · exact .inl h
      · exact .inr (List.mem_append.mpr (.inr h))
  have cell0 : ∀ p ∈ cells, @LT.lt Nat _ sh.heap.objs.size p.1 := fun p hp => by
    have : p.1 ∈ env.cells.map (·.2) := by rw [← Y1]; exact List.mem_map_of_mem hp
    obtain ⟨q, hq, e⟩ := List.mem_map.mp this
    rw [← e, ← hlo]
    exact x.above q.1 q.2 hq
  have S : St g ⟨env, env :: fr, hideAll sh.heap ((ms ++ W.fz).map (·.1)), []⟩ W (enterL scope names as') σ s' := by
    refine ⟨_, ms, cells, ⟨x.toInCall.ns, fun c o e => keep1 c o (of_hideAll _ e), by rw [hsz, hlo]; exact Nat.le_refl _⟩, fun p hp => ?_, fun y av e => ?_, HD.as, HD.mo, fun y oa e => ?_, ?_, fun p hp q hq => ?_, fun p hp => ?_, by rw [hs']; exact HD.ge, by rw [hs']; exact HD.dr, by rw [hs']; exact HD.os, fun p hp => (List.not_mem_nil hp).elim⟩
    · rcases inms p hp with h | h
      · refine ⟨(NC p h).1, (NC p h).2.1, ?_⟩
        cases q : (hideAll sh.heap ((ms ++ W.fz).map (·.1))).get? p.1 with
        | none => rfl
        | some o => have := of_hideAll _ q; rw [(NC p h).2.2] at this; cases this
      · exact ⟨keep1 _ _ (HD.N p h).1, by rw [hlo]; exact Nat.ne_of_lt (Heap.lt_size (HD.N p h).1), hideAll_none _ (List.mem_map_of_mem h)⟩
    · have hloc := locVars_some e
      obtain ⟨v, h1, h2, _⟩ := pars_get hv y av (locVars_lk e)
      refine ⟨v, ?_, h2⟩
      rw [bindL_get _ _ _ hzip, h1]
      dsimp only
      rw [hkd, hloc, if_pos rfl]
    · obtain ⟨h1, rfl⟩ := locCells_some e
      have hck := D.ck _ h1 rfl
      obtain ⟨c, hc⟩ := cellsFrom_has scope.names (sh.heap.objs.size + 1) [] y (.inl h1)
      rw [← hce] at hc
      obtain ⟨o, hm, hd⟩ := Y2 y c (mem_of_lookup hc)
      refine ⟨c, o, _, hc, .inr hm, hd, fun av hav => ?_⟩
      obtain ⟨v, h3, h4, _⟩ := pars_get hv y av hav
      refine ⟨v, ?_, h4⟩
      rw [bindC_get _ _ _ hzip, h3]
      dsimp only
      rw [hkd, hck, if_neg (by intro q; cases q)]
    · rw [List.map_append]
      refine List.nodup_append.mpr ⟨HD.nd, ?_, fun c hc d hd e => ?_⟩
      · rw [Y1]
        exact List.pairwise_map.mpr x.apart
      · obtain ⟨p, hp, rfl⟩ := List.mem_map.mp hc
        obtain ⟨q, hq, rfl⟩ := List.mem_map.mp hd
        have h1 := Heap.lt_size (HD.N p (List.mem_append.mpr (.inl hp))).1
        have h2 := cell0 q hq
        rw [e] at h1
        exact Nat.lt_irrefl _ (Nat.lt_trans h1 h2)
    · rcases List.mem_append.mp hp with h | h
      · exact HD.dj p h q hq
      · intro e
        have h1 := Heap.lt_size (HD.N q (List.mem_append.mpr (.inr hq))).1
        have h2 := cell0 p h
        rw [e] at h2
        exact Nat.lt_irrefl _ (Nat.lt_trans h1 h2)
    · rcases inms p hp with h | h
      · exact Nat.lt_trans big (cell0 p h)
      · exact HD.lo p h
  have R' : Room (A.deeper env) (need - 1) k := ⟨by show A.depth + 1 + (need - 1) < _; have := R.d; omega, by show A.units + 3 + 8 * (need - 1) + k + 90 < _; have := R.u; omega⟩
  have a' : AOk (A.deeper env) (env :: fr) := ⟨Around.frames_deeper a.f, a.h⟩
  refine run_sound Z fuel k ⟨scope, mu, need - 1⟩ (.sts body) (enterL scope names as') ⟨σ, ans⟩ _ _ h ⟨env, env :: fr, hideAll sh.heap ((ms ++ W.fz).map (·.1)), []⟩ W (A.deeper env) s' O R' a' S _ _ (fun fl ρ1 s1 W1 flo sh1 le1 S1 hf1 h1 => ?_) fun ρ1 s1 e sh1 X1 h1 => ?_
  · obtain ⟨av, rfl, hex⟩ := h1
    have hv1 : V g W1 (floV flo) (retV fl) := by
      cases hf1 with
      | next => exact .none
      | ret hv => exact hv
    refine S1.e fun m1 ms1 cs1 D1 => ?_
    have in1 : ∀ p, p ∈ ms1 ++ W1.fz → p ∈ ms1 ++ (cs1 ++ W1.fz) := fun p hp => (List.mem_append.mp hp).elim (fun h => List.mem_append.mpr (.inl h)) fun h => List.mem_append.mpr (.inr (List.mem_append.mpr (.inr h)))
    have hnd := D1.nd
    rw [List.map_append] at hnd
    have H1 : Hp g B W1 s1.σ sh1 := by
      refine ⟨ms1, fun c o e => D1.F.keep c o (stB c o e), ?_, fun p hp => ⟨(D1.N p (in1 p hp)).1, ?_⟩, D1.as, D1.mo, (List.nodup_append.mp hnd).1, fun p hp q hq => D1.dj p (List.mem_append.mpr (.inl hp)) q hq, fun p hp => D1.lo p (in1 p hp), D1.ge, D1.dr, D1.os⟩
      · have h2 := D1.F.ns.lt
        have h2 : @LT.lt Nat _ env.locals sh1.heap.objs.size := h2
        rw [hlo] at h2
        exact Nat.le_of_lt (Nat.lt_of_le_of_lt HD.size h2)
      · cases q : B.get? p.1 with
        | none => rfl
        | some o => have := (D1.N p (in1 p hp)).2.2; rw [show (hideAll sh.heap ((ms ++ W.fz).map (·.1))).get? p.1 = some o from stB _ _ q] at this; cases this
    have hlen : W.As.length = σ.length := by rw [← HD.as, List.length_map]; exact HD.mo.length
    obtain ⟨W2, le2, H2, hv2⟩ := Hp.exit le1 hlen H1 hv1 hex
    cases hf1 with
    | next => exact hq av _ W2 sh1 rfl le2 H2 hv2
    | ret hv => exact hq av _ W2 sh1 rfl le2 H2 hv2
  · refine wpAny_bind (m := noteFrame e env) (s_note (x := ⟨env, env :: fr, hideAll sh.heap ((ms ++ W.fz).map (·.1)), []⟩) O a' rfl X1 fun sh2 X2 => ?_)
    obtain ⟨ad, a0, L0, rfl, q1, q2, q3, q4, q5, q6, q7, q8⟩ := X2
    refine wpAny_setFlight_noneW q2 q4 q5 fun h' k1 k2 k3 k4 => he h1 _ _ ⟨ad, a0, rfl, ⟨k1, q3, k2.2.2, k3⟩, fun c o e hnf => ?_, q8⟩
    obtain ⟨sl, z⟩ := q6 c o (stB c o e) hnf
    exact ⟨sl, k4 c _ z hnf⟩
end Mine
end
section
set_option maxHeartbeats 400000
open PySem PySem.W PySem.Spec PySem.Calls PyProof.Rows
namespace Mine
theorem valid_cls {g : Glb} {C fI : Addr} (hk : keepIn g.K (.ref C) = true) (hm : makesIn g.K C = true) (hi : findIn g.K (.ref C) "__init__" = some (some (.ref fI))) (hf : typeIn g.K (.ref fI) = some (.type "function")) {need : Nat} {as : List AV} {σ σ' : List MO}
    (h : Valid g need (.ref fI) (.obj C σ.length :: as) (σ ++ [.dct []]) (some .none) σ') : Valid g (need + 1) (.ref C) as σ (some (.obj C σ.length)) σ' := by
  refine ⟨hk, fun A fr B W vs sh R a Rm b H hv hq _ => ?_⟩
  obtain ⟨ms, D⟩ := H
  have X : g.K.In sh.heap := b.X.keeps D.keep
  obtain ⟨hh, gg, dd, t, os⟩ := sh
  have lo : @LT.lt Nat _ 3 hh.objs.size := Nat.lt_of_lt_of_le b.T.g.lt D.size
  refine make_core (makes_of X hm) (looks_findIn X hi) (fun self => bind_fn X self hf) (.inl rfl) ?_
  have a' : AOk (A.under (.builtin "type.__call__" ⟨.ref C :: vs, []⟩)) fr := ⟨a.f, a.h⟩
  have R' : Room (A.under (.builtin "type.__call__" ⟨.ref C :: vs, []⟩)) need 2 := by
    refine ⟨?_, ?_⟩
    · rw [PyProof.Rows.depth_under_make]; have := Rm.d; omega
    · rw [PyProof.Rows.units_under_make]; have := Rm.u; omega
  have le : W.Le ⟨W.As ++ [hh.objs.size], (hh.objs.size + 1, instObj C hh.objs.size) :: W.fz⟩ := ⟨⟨[_], rfl⟩, fun p hp => .tail _ hp⟩
  have gk : ∀ c o, hh.get? c = some o → ((hh.push emptyDict).push (instObj C hh.objs.size)).get? c = some o := fun c o e => Heap.get?_push_of_some _ (Heap.get?_push_of_some _ e)
  have nB : ∀ c, @LE.le Nat _ hh.objs.size c → B.get? c = none := fun c hc => by
    cases q : B.get? c with
    | none => rfl
    | some o => exact absurd (Nat.lt_of_lt_of_le (Heap.lt_size q) (Nat.le_trans D.size hc)) (Nat.lt_irrefl _)
  have hlen : W.As.length = σ.length := by rw [← D.as, List.length_map]; exact D.mo.length
  have old : ∀ p ∈ ms ++ W.fz, @LT.lt Nat _ p.1 hh.objs.size := fun p hp => Heap.lt_size (D.N p hp).1
  refine h.2 _ fr B ⟨W.As ++ [hh.objs.size], (hh.objs.size + 1, instObj C hh.objs.size) :: W.fz⟩ (.ref (hh.objs.size + 1) :: vs) _ _ a' R' b ⟨ms ++ [(hh.objs.size, emptyDict)], fun c o e => gk c o (D.keep c o e), ?_, fun p hp => ?_, by rw [List.map_append, D.as]; rfl, ?_, ?_, fun p hp q hq => ?_, fun p hp => ?_, D.ge, D.dr, D.os⟩ (.cons (.obj (.head _) (by rw [← hlen]; simp)) (hv.mono le)) (fun av v W' sh' e le' H' hv' => ?_) fun e => by cases e
  · show B.objs.size ≤ ((hh.push emptyDict).push (instObj C hh.objs.size)).objs.size
    rw [Heap.size_push, Heap.size_push]; exact Nat.le_trans D.size (Nat.le_add_right _ 2)
  · rcases List.mem_append.mp hp with h | h
    · rcases List.mem_append.mp h with h | h
      · have z := D.N p (List.mem_append.mpr (.inl h)); exact ⟨gk _ _ z.1, z.2⟩
      · rw [List.mem_singleton.mp h]
        exact ⟨Heap.get?_push_of_some _ (Heap.get?_push_size _ rfl), nB _ (Nat.le_refl _)⟩
    · cases h with
      | head => exact ⟨by have := Heap.get?_push_size (hh.push emptyDict) (o := instObj C hh.objs.size) rfl; rw [Heap.size_push] at this; exact this, nB _ (Nat.le_succ _)⟩
      | tail _ h => have z := D.N p (List.mem_append.mpr (.inr h)); exact ⟨gk _ _ z.1, z.2⟩
  · refine MOs.append (show MOs g _ [(hh.objs.size, emptyDict)] [.dct []] from ⟨?_, trivial⟩) _ _ (D.mo.mono le)
    exact .dct (f := fun _ => none) ⟨⟨rfl, rfl, rfl⟩, #[], 0, [], rfl, fun e he => by simp at he, .nil, .nil, Nat.le_refl _, fun _ => rfl⟩ (fun _ _ e => by cases e) fun _ _ => rfl
  · rw [List.map_append]
    refine List.nodup_append.mpr ⟨D.nd, by simp, fun c hc d hd e => ?_⟩
    obtain ⟨p, hp, rfl⟩ := List.mem_map.mp hc
    rw [List.mem_singleton.mp hd] at e
    have := old p (List.mem_append.mpr (.inl hp))
    rw [e] at this
    exact Nat.lt_irrefl _ this
  · rcases List.mem_append.mp hp with h | h
    · cases hq with
      | head => exact Nat.ne_of_lt (Nat.lt_succ_of_lt (old p (List.mem_append.mpr (.inl h))))
      | tail _ hq => exact D.dj p h q hq
    · rw [List.mem_singleton.mp h]
      cases hq with
      | head => exact Nat.ne_of_lt (Nat.lt_succ_self _)
      | tail _ hq => exact Nat.ne_of_gt (old q (List.mem_append.mpr (.inr hq)))
  · rcases List.mem_append.mp hp with h | h
    · rcases List.mem_append.mp h with h | h
      · exact D.lo p (List.mem_append.mpr (.inl h))
      · rw [List.mem_singleton.mp h]; exact lo
    · cases h with
      | head => exact Nat.lt_succ_of_lt lo
      | tail _ h => exact D.lo p (List.mem_append.mpr (.inr h))
  · cases e
    cases hv'
    refine ⟨rfl, hq _ _ W' sh' rfl (le.trans le') H' ?_⟩
    exact V.mono le' (.obj (.head _) (by rw [← hlen]; simp))
end Mine
end
section
set_option maxHeartbeats 400000
open PySem PySem.W PySem.Spec PySem.Calls PyProof.Rows
namespace Mine
/-! ## constants of the text, by a check -/
noncomputable def rawEq (u v : Value) : Bool := match u with
  | .ref a => match v with
    | .ref b => Nat.beq a b
    | _ => false
  | .builtin s => match v with
    | .builtin t => decide (s = t)
    | _ => false
  | .type s => match v with
    | .type t => decide (s = t)
    | _ => false
  | _ => false
theorem rawEq_iff {u v : Value} (h : rawEq u v = true) : u = v := by
  cases u with
  | ref a => cases v with
    | ref b => exact congrArg Value.ref (Nat.eq_of_beq_eq_true h)
    | _ => exact ff_p h
  | builtin a => cases v with
    | builtin b => exact congrArg Value.builtin (of_decide_eq_true h)
    | _ => exact ff_p h
  | type a => cases v with
    | type b => exact congrArg Value.type (of_decide_eq_true h)
    | _ => exact ff_p h
  | _ => exact ff_p h
noncomputable def isTu (v : Value) : Bool := match v with
  | .type t => decide (t = "tuple")
  | _ => false
noncomputable def seqD (d : Data) : Option (List Value × Nat) := match d with
  | .seq its n => some (its.toList, n)
  | _ => none
noncomputable def tupIt (o : Obj) : Option (List Value × Nat) := match isTu o.cls with
  | true => match o.dict with
    | none => match o.slots.toList with
      | [] => seqD o.data
      | _ :: _ => none
    | some _ => none
  | false => none
theorem isTu_iff {v : Value} (h : isTu v = true) : v = .type "tuple" := by
  cases v with
  | type t => exact congrArg Value.type (of_decide_eq_true h)
  | _ => exact ff_p h
theorem seqD_iff {d : Data} {p : List Value × Nat} (h : seqD d = some p) : d = .seq p.1.toArray p.2 := by
  cases d with
  | seq its n => exact some_p h (P := fun p => Data.seq its n = .seq p.1.toArray p.2) (by simp)
  | _ => exact none_p h
theorem tupIt_iff {o : Obj} {p : List Value × Nat} (h : tupIt o = some p) : o = tupObj p.1 p.2 := by
  obtain ⟨cls, dict, data, slots⟩ := o
  unfold tupIt at h
  dsimp only at h
  generalize e1 : isTu cls = b at h
  generalize e3 : slots.toList = l at h
  cases b with
  | false => exact none_p h
  | true => cases dict with
    | some _ => exact none_p h
    | none => cases l with
      | cons _ _ => exact none_p h
      | nil =>
        have e4 : slots = #[] := Array.toList_inj.mp e3
        rw [isTu_iff e1, seqD_iff h, e4]
noncomputable def tupO (o : Option Obj) : Option (List Value × Nat) := match o with
  | some o => tupIt o
  | none => none
noncomputable def tupAt (K : Frag) (v : Value) : Option (List Value × Nat) := match v with
  | .ref a => tupO (K.lookup a)
  | _ => none
theorem tupAt_iff {K : Frag} {v : Value} {p : List Value × Nat} (h : tupAt K v = some p) : ∃ a, v = .ref a ∧ K.lookup a = some (tupObj p.1 p.2) := by
  cases v with
  | ref a =>
    have h : tupO (K.lookup a) = some p := h
    generalize e : K.lookup a = o at h
    cases o with
    | none => exact none_p h
    | some o => exact ⟨a, rfl, e.trans (congrArg some (tupIt_iff h))⟩
  | _ => exact none_p h
noncomputable def vN (v : Value) : Bool := match v with
  | .none => true
  | _ => false
noncomputable def vB (b : Bool) (v : Value) : Bool := match v with
  | .bool c => b == c
  | _ => false
noncomputable def vI (i : Int) (v : Value) : Bool := match v with
  | .int j _ => decide (i = j)
  | _ => false
noncomputable def vT (x : PySem.Str) (v : Value) : Bool := match v with
  | .str y _ => seq x y
  | _ => false
noncomputable def vTu (k : List Value → Bool) (o : Option (List Value × Nat)) : Bool := match o with
  | some p => k p.1
  | none => false
mutual
noncomputable def vChk (K : Frag) : AV → Value → Bool
  | .none, v => vN v
  | .bool b, v => vB b v
  | .int i, v => vI i v
  | .str x, v => vT x v
  | .tup ds, v => vTu (fun vs => vChkL K ds vs) (tupAt K v)
  | .raw u, v => rawEq u v
  | .lst _, _ => false
  | .dct _, _ => false
  | .rng _ _, _ => false
  | .ref _, _ => false
  | .obj _ _, _ => false
  | .jd, _ => false
noncomputable def vChkL (K : Frag) : List AV → List Value → Bool
  | [], r => isNil r
  | a :: l, r => match r with
    | [] => false
    | v :: r => and2 (vChk K a v) (vChkL K l r)
end
theorem vN_iff {g : Glb} {W : Wd} {v : Value} (h : vN v = true) : V g W v .none := by
  cases v with
  | none => exact .none
  | _ => exact ff_p h
theorem vB_iff {g : Glb} {W : Wd} {b : Bool} {v : Value} (h : vB b v = true) : V g W v (.bool b) := by
  cases v with
  | bool c => rw [eq_of_beq (show (b == c) = true from h)]; exact .bool _
  | _ => exact ff_p h
theorem vI_iff {g : Glb} {W : Wd} {i : Int} {v : Value} (h : vI i v = true) : V g W v (.int i) := by
  cases v with
  | int j t => rw [of_decide_eq_true (show decide (i = j) = true from h)]; exact .int _ _
  | _ => exact ff_p h
theorem vT_iff {g : Glb} {W : Wd} {x : PySem.Str} {v : Value} (h : vT x v = true) : V g W v (.str x) := by
  cases v with
  | str y t => rw [seq_iff.mp (show seq x y = true from h)]; exact .str _ _
  | _ => exact ff_p h
theorem vTu_iff {g : Glb} {W : Wd} {ds : List AV} {k : List Value → Bool} {v : Value} (h : vTu k (tupAt g.K v) = true) (f : ∀ r, k r = true → VA g W r ds) : V g W v (.tup ds) := by
  generalize e : tupAt g.K v = o at h
  cases o with
  | none => exact ff_p h
  | some p =>
    obtain ⟨a, rfl, ho⟩ := tupAt_iff e
    exact .tup (.inl ho) (f _ h)
theorem vChk_iff {g : Glb} {W : Wd} (a : AV) : ∀ (v : Value), vChk g.K a v = true → V g W v a :=
  AV.rec (motive_1 := fun a => ∀ v, vChk g.K a v = true → V g W v a) (motive_2 := fun l => ∀ r, vChkL g.K l r = true → VA g W r l) (motive_3 := fun _ => True) (motive_4 := fun _ => True)
    (fun _ h => vN_iff h) (fun _ _ h => vB_iff h) (fun _ _ h => vI_iff h) (fun _ _ h => vT_iff h) (fun _ ih _ h => vTu_iff h ih) (fun _ _ _ h => ff_p h) (fun _ _ _ h => ff_p h) (fun _ _ _ h => ff_p h) (fun _ _ h => ff_p h) (fun _ _ _ h => ff_p h) (fun _ h => ff_p h) (fun _ _ h => rawEq_iff h ▸ .raw _)
    (fun r h => by rw [isNil_t h]; exact .nil) (fun a l ia il r h => by
      cases r with
      | nil => exact ff_p h
      | cons v r => exact .cons (ia v (and2_iff h).1) (il r (and2_iff h).2)) trivial (fun _ _ _ _ => trivial) (fun _ _ _ => trivial) a
/-- a global of the text -/
noncomputable def gChk (K : Frag) (a : AV) (o : Option (Option Value)) : Bool := match o with
  | some o => match o with
    | some v => vChk K a v
    | none => false
  | none => false
/-- a built-in that the text does not hide -/
noncomputable def bChk (K : Frag) (x : PySem.Str) (a : AV) (o : Option (Option Value)) (b : Option Value) : Bool := match o with
  | some o => match o with
    | none => match b with
      | some v => and2 (vChk K a v) (!(seq x "__name__"))
      | none => false
    | some _ => false
  | none => false
noncomputable def or2 (a b : Bool) : Bool := match a with
  | true => true
  | false => b
noncomputable def gtChk (K : Frag) : List (PySem.Str × AV) → Bool
  | [] => true
  | p :: r => and2 (or2 (gChk K p.2 (nsIn K mainGlobals p.1)) (bChk K p.1 p.2 (nsIn K mainGlobals p.1) (bootBuiltins p.1))) (and2 (!(seq p.1 "__debug__")) (gtChk K r))
noncomputable def GtP (g : Glb) (x : PySem.Str) (a : AV) : Prop := (x == ("__debug__" : PySem.Str)) = false ∧ ∃ v, V g ⟨[], []⟩ v a ∧ (g.mg x = some v ∨ (g.mg x = none ∧ g.mb x = some v))
theorem seq_ff {a b : PySem.Str} (h : (!(seq a b)) = true) : a ≠ b := fun e => by
  rw [seq_iff.mpr e] at h
  exact ff_p h
theorem gChk_ok {g : Glb} {B : Heap} (X : g.K.In B) (T : Top g.p g.loose g.mean g.mg g.mb B) {x : PySem.Str} {a : AV} (hd : (x == ("__debug__" : PySem.Str)) = false) (h : gChk g.K a (nsIn g.K mainGlobals x) = true) : GtP g x a := by
  generalize e : nsIn g.K mainGlobals x = o at h
  cases o with
  | none => exact ff_p h
  | some o => cases o with
    | none => exact ff_p h
    | some v => exact ⟨hd, v, vChk_iff _ _ h, .inl (mg_of X T.g e)⟩
theorem bChk_ok {g : Glb} {B : Heap} (X : g.K.In B) (T : Top g.p g.loose g.mean g.mg g.mb B) {x : PySem.Str} {a : AV} (hd : (x == ("__debug__" : PySem.Str)) = false) (h : bChk g.K x a (nsIn g.K mainGlobals x) (bootBuiltins x) = true) : GtP g x a := by
  generalize e : nsIn g.K mainGlobals x = o at h
  generalize eb : bootBuiltins x = b at h
  cases o with
  | none => exact ff_p h
  | some o => cases o with
    | some v => exact ff_p h
    | none => cases b with
      | none => exact ff_p h
      | some v => exact ⟨hd, v, vChk_iff _ _ (and2_iff h).1, .inr ⟨mg_none_of X T.g e, (T.builtins x (seq_ff (and2_iff h).2)).trans eb⟩⟩
theorem gtChk_ok {g : Glb} {B : Heap} (X : g.K.In B) (T : Top g.p g.loose g.mean g.mg g.mb B) (l : List (PySem.Str × AV)) (h : gtChk g.K l = true) (x : PySem.Str) (a : AV) (e : lk l x = some a) : (x == ("__debug__" : PySem.Str)) = false ∧ ∃ v, V g ⟨[], []⟩ v a ∧ (g.mg x = some v ∨ (g.mg x = none ∧ g.mb x = some v)) := by
  show GtP g x a
  induction l with
  | nil => exact none_p e
  | cons p r ih =>
    obtain ⟨z, b⟩ := p
    obtain ⟨h1, h2⟩ := and2_iff h
    rw [lk_cons] at e
    split at e
    · rename_i q
      subst q
      cases e
      have hd : (z == ("__debug__" : PySem.Str)) = false := beq_eq_false_iff_ne.mpr (seq_ff (and2_iff h2).1)
      have h1 : or2 (gChk g.K a (nsIn g.K mainGlobals z)) (bChk g.K z a (nsIn g.K mainGlobals z) (bootBuiltins z)) = true := h1
      generalize q : gChk g.K a (nsIn g.K mainGlobals z) = c at h1
      cases c with
      | true => exact gChk_ok X T hd q
      | false => exact bChk_ok X T hd h1
    · exact ih (and2_iff h2).2 e
end Mine
end
section
set_option maxHeartbeats 400000
open PySem PySem.W PySem.Spec PySem.Calls PyProof.Rows
namespace Mine
/-! ## a dict of texts that stands in the text -/
noncomputable def mkEs (P : Params) : List (PySem.Str × Tok × PySem.Str × Tok) → List DictEntry
  | [] => []
  | (x, t, y, u) :: r => ⟨PyData.keyHash P x, .str x t, .str y u⟩ :: mkEs P r
noncomputable def rowsD : List (PySem.Str × Tok × PySem.Str × Tok) → List (PySem.Str × AV)
  | [] => []
  | (x, _, y, _) :: r => (x, .str y) :: rowsD r
noncomputable def rowsV : List (PySem.Str × Tok × PySem.Str × Tok) → List (PySem.Str × Value)
  | [] => []
  | (x, _, y, u) :: r => (x, .str y u) :: rowsV r
theorem mkEs_keys {g : Glb} : ∀ (l : List (PySem.Str × Tok × PySem.Str × Tok)), ∀ e ∈ mkEs g.w.params l, ∃ k, (strKind g.prog g.w).is k e.key = true ∧ e.hash = (strKind g.prog g.w).hash k
  | [], e, he => (List.not_mem_nil he).elim
  | (x, t, y, u) :: r, e, he => by
    cases he with
    | head => exact ⟨x, str_is x t, rfl⟩
    | tail _ he => exact mkEs_keys r e he
theorem mkEs_pairs {g : Glb} : ∀ (l : List (PySem.Str × Tok × PySem.Str × Tok)), Pairs (strKind g.prog g.w) (mkEs g.w.params l) (rowsV l)
  | [] => .nil
  | (x, t, y, u) :: r => .cons (str_is x t) rfl (mkEs_pairs r)
theorem rows_len : ∀ (l : List (PySem.Str × Tok × PySem.Str × Tok)), (rowsV l).length = (rowsD l).length
  | [] => rfl
  | (x, t, y, u) :: r => by show _ + 1 = _ + 1; rw [rows_len r]
theorem rows_keys : ∀ (l : List (PySem.Str × Tok × PySem.Str × Tok)), (rowsV l).map (·.1) = (rowsD l).map (·.1)
  | [] => rfl
  | (x, t, y, u) :: r => by show x :: _ = x :: _; rw [rows_keys r]
theorem rows_some {g : Glb} {W : Wd} : ∀ (l : List (PySem.Str × Tok × PySem.Str × Tok)) (z : PySem.Str) (a : AV), lk (rowsD l) z = some a → ∃ v, valueAt (rowsV l) z = some v ∧ V g W v a
  | [], _, _, e => by cases e
  | (x, t, y, u) :: r, z, a, e => by
    unfold rowsD at e
    unfold rowsV
    rw [lk_cons] at e
    rw [valueAt_cons]
    split at e
    · rename_i q; cases e; exact ⟨_, if_pos q, .str _ _⟩
    · rename_i q
      obtain ⟨v, h1, h2⟩ := rows_some r z a e
      exact ⟨v, by rw [if_neg q]; exact h1, h2⟩
theorem rows_none : ∀ (l : List (PySem.Str × Tok × PySem.Str × Tok)) (z : PySem.Str), lk (rowsD l) z = none → valueAt (rowsV l) z = none
  | [], _, _ => rfl
  | (x, t, y, u) :: r, z, e => by
    unfold rowsD at e
    unfold rowsV
    rw [lk_cons] at e
    rw [valueAt_cons]
    split at e
    · cases e
    · rename_i q; rw [if_neg q]; exact rows_none r z e
theorem V.rows {g : Glb} {W : Wd} {a : Addr} {n : Nat} (l : List (PySem.Str × Tok × PySem.Str × Tok)) (h : g.K.lookup a = some (dictOf (mkEs g.w.params l) n)) (hn : ((rowsD l).map (·.1)).Nodup) : V g W (.ref a) (.dct (rowsD l)) := by
  refine .dct (f := valueAt (rowsV l)) (n := (rowsD l).length) (.inl h) ⟨⟨rfl, rfl, rfl⟩, (mkEs g.w.params l).toArray, n, rowsV l, rfl, fun e he => mkEs_keys l e (by simpa using he), by simpa using mkEs_pairs (g := g) l, by rw [rows_keys]; exact hn, Nat.le_of_eq (rows_len l), fun _ => rfl⟩ (VD.lk' hn fun y b e => rows_some l y b e) fun y e => rows_none l y e
end Mine
end
section
set_option maxHeartbeats 1000000
open PySem PySem.W PySem.Spec PySem.Calls PyProof.Rows
namespace Mine
/-! ## an exception class two below Exception, whose __init__ stands in between (the library's ExcClass2 and ExcInit, turned to it) -/
noncomputable def SameT (bmB bm : List Value) : Prop := ∀ X : String, bm.contains (.type X) = bmB.contains (.type X)
section
variable {M : Model} {A : Around} {E : Value → Shared → Prop} {h : Heap} {g : Array GenState} {d : Drawn} {t : Nat} {os : OsState}
variable {nm q : PySem.Str} {C N : Addr} {bs bm bmB : List Value} {hdct : Bool} {sn : List PySem.Str} {sub : List Value} {ab : Bool} {col : Option Bool} {dd : Option Addr} {k0 k1 k2 k3 k5 : Option Value} {B newId initId : String}
theorem x_check_new (F : ExcBaseFacts B newId initId bmB) (T : SameT bmB bm) {rest : List Value} {Q : Unit → Shared → Prop} (hC : h.get? C = some (excClassObj nm q C N bs bm hdct sn sub ab col dd k0 k1 k2 k3 k5 newId))
    (hq : Q () ⟨h, g, d, t, os⟩) : wpAny M A (checkBuiltinCall newId ⟨.ref C :: rest, []⟩) Q E ⟨h, g, d, t, os⟩ := by
  have hcont : (Value.ref C :: bm).contains (.type B) = true := by rw [List.contains_cons, T B, F.hasB, Bool.or_true]
  have hstar := F.noStar
  simp only [checkBuiltinCall, F.newKind, F.newSplit, F.newRow]
  repeat (first | refine wpAny_loadPart_at hC ?_ | (refine wpAny_isSubtype_exc hC ?_; rw [hcont]) | refine wpAny_staticBase_exc hC ?_ | refine wpAny_madeBy_exc hC ?_ | simp only [bne_self_eq_false, Bool.false_eq_true, if_false] | wp_step)
  exact hq
end
section
variable {prog : Program} {w : World} {A : Around} {R : Result → Shared → Prop} {E : Value → Shared → Prop} {h : Heap} {g : Array GenState} {d : Drawn} {t : Nat} {os : OsState}
variable {nm q : PySem.Str} {C N : Addr} {bs bm bmB : List Value} {hdct : Bool} {sn : List PySem.Str} {sub : List Value} {ab : Bool} {col : Option Bool} {dd : Option Addr} {k0 k1 k2 k3 k5 : Option Value} {B newId initId : String}
theorem x_new (F : ExcBaseFacts B newId initId bmB) (T : SameT bmB bm) {rest : List Value} (hC : h.get? C = some (excClassObj nm q C N bs bm hdct sn sub ab col dd k0 k1 k2 k3 k5 newId))
    (hq : R (.ok (.ret (.ref (h.objs.size + 1)))) ⟨(h.push { cls := .type "tuple", data := .seq rest.toArray }).push
      { cls := .ref C, data := .fields #[.ref h.objs.size, .none, .none, .none, .bool false, .none] }, g, d, t, os⟩) (hrest : rest.length ≤ sizeLine := by size_fits) :
    codeAny (model prog w) A (.builtin newId ⟨.ref C :: rest, []⟩) R ⟨h, g, d, t, os⟩ := by
  have hends := F.ends
  have hcB : (Value.ref C :: bm).contains (.type B) = true := by rw [List.contains_cons, T B, F.hasB, Bool.or_true]
  have hcA : (Value.ref C :: bm).contains (.type "AttributeError") = false := by rw [List.contains_cons, T, F.noAttr]; rfl
  have hcN : (Value.ref C :: bm).contains (.type "NameError") = false := by rw [List.contains_cons, T, F.noName]; rfl
  refine codeAny_builtinAt F.entry ?_
  unfold Builtin.«BaseException.__new__»
  refine PySem.wpAt_bind ?_
  show PySem.wpAt _ _ _ (stack >>= _) _ _ _
  refine PySem.wpAt_bind (PySem.wpAt_stack fun p below => PySem.wpAt_of_wpAny ?_)
  wp_walk
  refine PySem.wpAt_of_wpAny ?_
  rw [F.owner]
  repeat (first | with_reducible refine wpAny_madeHere_exc F.canon hC ?_ | with_reducible refine wpAny_loadPart_at hC ?_ | (with_reducible refine wpAny_isSubtype_exc hC ?_; first | rw [hcB] | rw [hcA] | rw [hcN]) | wp_step)
  show R _ _
  rw [Heap.size_push]
  exact hq
theorem x_type_call {K : Frag} (X : K.In h) (F : ExcBaseFacts B newId initId bmB) (T : SameT bmB bm) {rest : List Value} {fI : Addr} {Q : PySem.Fin → Shared → Prop}
    (hC : h.get? C = some (excClassObj nm q C N bs bm hdct sn sub ab col dd k0 k1 k2 k3 k5 newId)) (hi : findIn K (.ref C) "__init__" = some (some (.ref fI))) (hf : typeIn K (.ref fI) = some (.type "function"))
    (hq : ∀ h' e, Heap.MadeExcOf h h' e (.ref C) rest →
      wpAny (model prog w) A (call (.ref fI) (.ref e :: rest)) (fun r s' => r = .none ∧ Q (.done (.ret (.ref e))) s') E ⟨h', g, d, t, os⟩) (hrest : rest.length ≤ sizeLine := by size_fits) :
    wpAny (model prog w) A (Builtin.«type.__call__» ⟨.ref C :: rest, []⟩) Q E ⟨h, g, d, t, os⟩ := by
  repeat (first | with_reducible refine wpAny_loadPart_at hC ?_ | with_reducible refine wpAny_madeBy_exc hC ?_ | wp_step)
  refine codeAny_call_builtin_code (Code.quiet_builtin _ F.quiet) (x_check_new F T hC ?_)
  refine x_new F T hC ?_ hrest
  show wpAny _ _ _ _ _ _
  have X₁ : K.In ((h.push { cls := .type "tuple", data := .seq rest.toArray }).push { cls := .ref C, data := .fields #[.ref h.objs.size, .none, .none, .none, .bool false, .none] }) :=
    X.keeps fun b o e => Heap.get?_push_of_some _ (Heap.get?_push_of_some _ e)
  have hC₁ := Heap.get?_push_of_some { cls := .ref C, data := .fields #[.ref h.objs.size, .none, .none, .none, .bool false, .none] }
    (Heap.get?_push_of_some { cls := .type "tuple", data := .seq rest.toArray } hC)
  have hget : ((h.push { cls := .type "tuple", data := .seq rest.toArray }).push
      { cls := .ref C, data := .fields #[.ref h.objs.size, .none, .none, .none, .bool false, .none] }).get? (h.objs.size + 1) = some
      { cls := .ref C, data := .fields #[.ref h.objs.size, .none, .none, .none, .bool false, .none] } := by heap_get
  have hcC : (Value.ref C :: bm).contains (.ref C) = true := by simp
  unfold isInstance
  repeat (first | with_reducible refine wpAny_loadPart_at hget ?_ | (with_reducible refine wpAny_isSubtype_exc hC₁ ?_; rw [hcC]) | wp_step)
  show wpAny _ _ (typeLookup (.ref C) _) _ _ _
  refine (looks_findIn X₁ hi).here ?_
  refine wpAny_holding (wpAny_bind ?_)
  refine (bind_fn X₁ _ hf).here ?_
  refine wpAny_bind (wpAny_mono (hq _ (h.objs.size + 1) ⟨fun b o hb => Heap.get?_push_of_some _ (Heap.get?_push_of_some _ hb), Heap.get?_none_of_le (Nat.le_succ _), h.objs.size, hget, Heap.get?_none_of_le (Nat.le_refl _), ?_⟩) (fun r s' hr => ?_) fun _ _ e => e)
  · exact Heap.get?_push_of_some _ (Heap.get?_push_at rfl rfl)
  · obtain ⟨rfl, hQ⟩ := hr
    wp_walk
    exact hQ
theorem x_call {K : Frag} (X : K.In h) (F : ExcBaseFacts B newId initId bmB) (T : SameT bmB bm) {rest : List Value} {fI : Addr} {Q : Value → Shared → Prop}
    (hC : h.get? C = some (excClassObj nm q C N bs bm hdct sn sub ab col dd k0 k1 k2 k3 k5 newId)) (hi : findIn K (.ref C) "__init__" = some (some (.ref fI))) (hf : typeIn K (.ref fI) = some (.type "function"))
    (hq : ∀ h' e, Heap.MadeExcOf h h' e (.ref C) rest →
      wpAny (model prog w) (A.under (.builtin "type.__call__" ⟨.ref C :: rest, []⟩)) (call (.ref fI) (.ref e :: rest)) (fun r s' => r = .none ∧ Q (.ref e) s') E ⟨h', g, d, t, os⟩) (hrest : rest.length ≤ sizeLine := by size_fits) :
    wpAny (model prog w) A (call (.ref C) rest) Q E ⟨h, g, d, t, os⟩ := by
  have f1 := tc_lookup
  have f2 := tc_bind (.ref C)
  have hT : (⟨h, g, d, t, os⟩ : Shared).TypeIs (.ref C) "type" := ⟨_, hC, rfl⟩
  refine wpAny_call (codeAny_of_tree ?_)
  show wpAny _ _ (callAny (.ref C) _) _ _ _
  repeat (any_goals (first | assumption | with_reducible refine wpAny_loadPart_at hC ?_ | wp_step))
  refine ⟨rfl, ?_⟩
  refine codeAny_call_builtin_at (Code.quiet_builtin _ (by decide +kernel)) entry_typeCall (wpAny_check_type_call_sub hC (x_type_call (hrest := hrest) X F T hC hi hf fun h' e hm => ?_))
  exact hq h' e hm
end
end Mine
end
section
set_option maxHeartbeats 1000000
open PySem PySem.W PySem.Spec PySem.Calls PyProof.Rows PySem.Builtin PySem.Builtin.ObjectAttr
namespace Mine
section
variable {prog : Program} {w : World} {A : Around} {R : Result → Shared → Prop} {K : Frag} {x C : Addr} {s : Shared}
/-- the library's osa_open, turned to a class with built-in bases beside object -/
theorem x_osa_open {ox : Obj} {od : Option Obj} {name : PySem.Str} {tk : Tok} {v : Value} {cd : ClassData} (X : K.In s.heap) (I : InstAt s.heap x ox C od) (hc : clsIn K C = some cd) (ne : cd.mro.isEmpty = false) (ho : cd.mro.contains (.type "object") = true)
    (hrf : ∀ self, refuseLoop self "__setattr__" cd.mro = pure ()) (ht : takerIn K C name = some none)
    (h : ∀ b, wpAny (model prog w) A.in1 (storeInOwnDict (.ref x) (.ref C) (.str name tk) name v b)
      (fun fin s' => match fin with | .done f => R (.ok f) s' | .again c' => c'.quiet = true ∧ codeAny (model prog w) A c' R s') (fun e s' => R (.error e) s') s) :
    codeAny (model prog w) A (.call (.builtin "object.__setattr__") ⟨[.ref x, .str name tk, v], []⟩) R s := by
  have SF := PySem.F.store_object
  have sub : Looks (model prog w) s.heap (isInstance (.ref x) (.type "object")) true := I.type.andThen (looks_mroIn X (by unfold mroIn; rw [hc, Option.bind_some, if_neg (by rw [ne]; decide), ho]))
  refine codeAny_call_builtin SF.slot.plain SF.entry (@check_slot (model prog w) _ _ s "object.__setattr__" "object" "__setattr__" (.ref x) [.str name tk, v] [] _ SF.kind SF.split sub (SF.args (.ref x) (.str name tk) v) ?_)
  obtain ⟨attr, ha, hr⟩ := Option.bind_eq_some_iff.mp ht
  have hm : Looks (model prog w) s.heap (mroOf (.ref C)) cd.mro := (looks_clsIn X hc).andThen .now
  have L3 : Looks (model prog w) s.heap (storeTaker? attr) none := by
    cases attr with
    | none => cases hr; exact .now
    | some a =>
      obtain ⟨b, hb, hz⟩ := Option.map_eq_some_iff.mp hr
      refine (looks_takesIn X hb).andThen ?_
      cases b with
      | true => cases hz
      | false => exact .now
  rw [osa_eq, refuse_eq]
  refine wpAny_bind (wpAny_bind (I.type.here (wpAny_bind (hm.here ?_))))
  rw [hrf]
  refine wpAny_pure (wpAny_bind (I.type.here (wpAny_bind ((looks_findIn X ha).here (wpAny_bind (L3.here ?_))))))
  exact h _
/-- a field of an exception that has no dict yet -/
theorem x_setattr {ox : Obj} {vs : Array Value} {name : PySem.Str} {tk : Tok} {v : Value} {cd : ClassData} (X : K.In s.heap) (hx : s.heap.get? x = some ox) (hcls : ox.cls = .ref C) (hnd : ox.dict = none) (hdt : ox.data = .fields vs) (hc : clsIn K C = some cd) (ne : cd.mro.isEmpty = false) (ho : cd.mro.contains (.type "object") = true)
    (hrf : ∀ self, refuseLoop self "__setattr__" cd.mro = pure ()) (ht : takerIn K C name = some none) (hhd : cd.hasDict = true)
    (h : ∀ h' t, (∀ b o, b ≠ x → s.heap.get? b = some o → h'.get? b = some o) → h'.get? x = some { ox with dict := some s.heap.objs.size } → R (.ok (.ret .none)) { s with heap := h', toks := t }) :
    codeAny (model prog w) A (.call (.builtin "object.__setattr__") ⟨[.ref x, .str name tk, v], []⟩) R s := by
  obtain ⟨oc, odi, oda, osl⟩ := ox
  dsimp only at hcls hnd hdt
  subst hcls hnd hdt
  have I : InstAt s.heap x ⟨.ref C, none, .fields vs, osl⟩ C none := ⟨hx, rfl, rfl, trivial⟩
  refine x_osa_open X I hc ne ho hrf ht fun b => ?_
  refine wpAny_bind (wpAny_pure (wpAny_bind (wpAny_bind (wpAny_loadPart hx (wpAny_bind ((looks_clsIn X hc).here ?_))))))
  rw [hhd]
  have hx₁ : (s.heap.push { cls := .type "dict", data := .dict #[] }).get? x = some (⟨.ref C, none, .fields vs, osl⟩ : Obj) := Heap.get?_push_of_some _ hx
  have hxd : x ≠ s.heap.objs.size := Nat.ne_of_lt (Heap.lt_size hx)
  rw [if_neg (by decide)]
  show wpAny _ _ (do
      let d ← alloc { cls := Value.type "dict", data := Data.dict #[] }
      update x fun o => { cls := o.cls, dict := some d, data := o.data, slots := o.slots }
      pure (some d)) _ _ _
  refine wpAny_bind (wpAny_alloc ?_)
  refine wpAny_bind (wpAny_update hx₁ (wpAny_pure ?_))
  show wpAny _ _ (storeInDict _ _ _ _) _ _ _
  generalize hh : (s.heap.push { cls := .type "dict", data := .dict #[] }).update x (fun o => { cls := o.cls, dict := some s.heap.objs.size, data := o.data, slots := o.slots }) = h2
  have D : h2.get? s.heap.objs.size = some { cls := .type "dict", data := .dict #[] } := by rw [← hh, Heap.get?_update_other _ _ hxd]; exact Heap.get?_push_size _ rfl
  have Hx : h2.get? x = some ⟨.ref C, some s.heap.objs.size, .fields vs, osl⟩ := by rw [← hh, Heap.get?_update_self _ hx₁ rfl]
  have keep : ∀ b o, b ≠ x → s.heap.get? b = some o → h2.get? b = some o := fun b o hb e => by rw [← hh, Heap.get?_update_other _ _ (Ne.symm hb)]; exact Heap.get?_push_of_some _ e
  refine wpAny_bind (wpAny_pure (wpAny_bind ?_))
  unfold nsSet
  refine wpAny_bind (wpAny_bind (wpAny_askSetting (wpAny_pure (wpAny_bind (wpAny_mkText (wpAny_bind (wpAny_loadPart (s := { s with heap := h2, toks := s.toks + 1 }) D ?_)))))))
  dsimp only
  rw [aRefKeyMayBeTheName_at, show (!(#[] : Array DictEntry).any (·.key.isStr name) && (#[] : Array DictEntry).any (·.refKey)) = false by simp]
  refine wpAny_updatePart (s := { s with heap := h2, toks := s.toks + 1 }) D ?_
  have D3 : (h2.update s.heap.objs.size (Obj.putName name (PyData.keyHash w.params name) (.str name s.toks) v)).get? s.heap.objs.size = some (dictOf (putL name (PyData.keyHash w.params name) (.str name s.toks) v []) (putN name [] 0)) := by
    have e := putName_dict name (PyData.keyHash w.params name) (.str name s.toks) v [] 0
    rw [Heap.get?_update_self _ D (by rw [show ({ cls := .type "dict", data := .dict #[] } : Obj) = dictOf [] 0 from rfl, e]; rfl), show ({ cls := .type "dict", data := .dict #[] } : Obj) = dictOf [] 0 from rfl, e]
  refine wpAny_bind (wpAny_lookBehind D3 (pastItsLine_dict (by rw [PySem.sizeLine_eq]; simp [putL])) ?_)
  refine wpAny_pure (h _ _ (fun b o hb e => ?_) ?_)
  · rw [Heap.get?_update_other _ _ (fun q => by rw [← q] at e; exact absurd (Heap.lt_size e) (Nat.lt_irrefl _))]
    exact keep b o hb e
  · rw [Heap.get?_update_other _ _ (Ne.symm hxd)]
    exact Hx
end
end Mine
end
section
set_option maxHeartbeats 1000000
open PySem PySem.W PySem.Spec PySem.Calls PyProof.Rows PySem.Builtin PySem.Builtin.ObjectAttr
namespace Mine
section
variable {prog : Program} {w : World} {A : Around} {E : Value → Shared → Prop} {h : Heap} {g : Array GenState} {d : Drawn} {t : Nat} {os : OsState}
variable {nm q : PySem.Str} {C N : Addr} {bs bm bmB : List Value} {hdct : Bool} {sn : List PySem.Str} {sub : List Value} {ab : Bool} {col : Option Bool} {dd : Option Addr} {k0 k1 k2 k3 k5 : Option Value} {B newId initId : String}
theorem x_check_init (F : ExcBaseFacts B newId initId bmB) (T : SameT bmB bm) {M : Model} {e : Addr} {oe : Obj} {rest : List Value} {Q : Unit → Shared → Prop}
    (hC : h.get? C = some (excClassObj nm q C N bs bm hdct sn sub ab col dd k0 k1 k2 k3 k5 newId)) (he : h.get? e = some oe) (hcls : oe.cls = .ref C) (hq : Q () ⟨h, g, d, t, os⟩) :
    wpAny M A (checkBuiltinCall initId ⟨.ref e :: rest, []⟩) Q E ⟨h, g, d, t, os⟩ := by
  have hcB : (Value.ref C :: bm).contains (.type B) = true := by rw [List.contains_cons, T, F.hasB, Bool.or_true]
  have hshort := F.noStar
  simp only [checkBuiltinCall, F.initKind, F.initSplit, F.initRow]
  repeat (first | (with_reducible refine wpAny_loadPart_at he ?_; rw [hcls]) | with_reducible refine wpAny_loadPart_at hC ?_ | (with_reducible refine wpAny_isSubtype_exc hC ?_; rw [hcB]) | wp_step)
  refine wpAny_onRaise ?_
  rw [show ∀ (a b : String) (n : Nat), Bind.check ⟨.positional, "*", B, .self, [⟨"args", .varPos, false⟩]⟩ a b n (List.map (fun x => x.fst) ({ pos := Value.ref e :: rest } : Args).kw) = pure () from
    fun a b n => check_star_args _ _ _ _ _ _]
  exact wpAny_pure hq
/-- Exception.__init__(e, *rest) -/
theorem x_base_init (F : ExcBaseFacts B newId initId bmB) (T : SameT bmB bm) {e : Addr} {t0 : Addr} {v1 v2 v3 v4 v5 : Value} {rest : List Value} {Q : Value → Shared → Prop}
    (hC : h.get? C = some (excClassObj nm q C N bs bm hdct sn sub ab col dd k0 k1 k2 k3 k5 newId)) (he : h.get? e = some { cls := .ref C, data := .fields #[.ref t0, v1, v2, v3, v4, v5] })
    (hq : ∀ h', (∀ b o, b ≠ e → h.get? b = some o → h'.get? b = some o) → h'.get? e = some { cls := .ref C, data := .fields #[.ref h.objs.size, v1, v2, v3, v4, v5] } → Q .none ⟨h', g, d, t, os⟩) (hrest : rest.length ≤ sizeLine := by size_fits) :
    wpAny (model prog w) A (call (.builtin initId) (.ref e :: rest)) Q E ⟨h, g, d, t, os⟩ := by
  refine wpAny_call (codeAny_call_builtin F.init.plain F.initEntry (x_check_init F T hC he rfl ?_))
  wp_walk
  have hne : e ≠ h.objs.size := Nat.ne_of_lt (Heap.lt_size he)
  refine hq _ (fun b o hb e' => ?_) ?_
  · rw [Heap.get?_update_other _ _ (Ne.symm hb)]
    exact Heap.get?_push_of_some _ e'
  · rw [Heap.get?_update_self _ (Heap.get?_push_of_some _ he) rfl]
    rfl
end
end Mine
end
section
set_option maxHeartbeats 400000
open PySem PySem.W PySem.Spec PySem.Calls PyProof.Rows PySem.Builtin PySem.Builtin.ObjectAttr
namespace Mine
structure IsInit (scope : Scope) (body : List Stmt) : Prop where
  b : ∃ p1 p2 p3 p4 p5 p6 p7 p8 p9 p10, body = [.Expr (.Call (.Attribute (.Name "Exception" p1) "__init__" p2) [.Name "self" p3, .Name "text" p4] [] p5) p6, .Assign [.Attribute (.Name "self" p7) "text" p8] (.Name "text" p9) p10] ∧ Nat.beq p2.endLine p5.line = true
  s : lk scope.names "self" = some .local
  t : lk scope.names "text" = some .local
  e : lk scope.names "Exception" = some .globalImplicit
structure CfOk (g : Glb) (f : Addr) : Prop where
  def_ : ∃ scope body, IsDef g f ["self", "text"] [] scope body ∧ IsInit scope body
  ex : g.mg "Exception" = none ∧ g.mb "Exception" = some (.type "Exception")
  fc : findCls g.K (.type "Exception") (.type "type") "__init__" = some (.val (.builtin "Exception.__init__"))
  sa : findIn g.K (.ref g.cf) "__setattr__" = some (some (.builtin "object.__setattr__"))
  tk : takerIn g.K g.cf "text" = some none
  hi : findIn g.K (.ref g.cf) "__init__" = some (some (.ref f))
  hf : typeIn g.K (.ref f) = some (.type "function")
  cl : ∃ nm q N bs bm hdct sn sub ab col dd k0 k1 k2 k3 k5 bmB, g.K.lookup g.cf = some (excClassObj nm q g.cf N bs bm hdct sn sub ab col dd k0 k1 k2 k3 k5 "Exception.__new__") ∧ SameT bmB bm ∧ ExcBaseFacts "Exception" "Exception.__new__" "Exception.__init__" bmB ∧ bm.contains (.type "BaseException") = true
  cd : ∃ cd, clsIn g.K g.cf = some cd ∧ cd.mro.isEmpty = false ∧ cd.mro.contains (.type "object") = true ∧ (∀ self, refuseLoop self "__setattr__" cd.mro = pure ()) ∧ cd.hasDict = true
  gt : g.mg "CheckFault" = some (.ref g.cf)
section
variable {g : Glb} {A : Around} {B : Heap} {sh : Shared} {f e t0 : Addr} {Q E : Value → Shared → Prop} {txt : PySem.Str} {tk0 : Tok}
theorem x_F77 {hp0 : Heap} {gs : Array GenState} {dr : Drawn} {tk : Nat} {os : OsState} (Z : CfOk g f) (X : g.K.In B) (T : Top g.p g.loose g.mean g.mg g.mb B) (hB : ∀ b o, B.get? b = some o → hp0.get? b = some o) (heB : B.get? e = none) (hd : A.depth + 1 < recursionLimit)
    (he : hp0.get? e = some { cls := .ref g.cf, data := .fields #[.ref t0, .none, .none, .none, .bool false, .none] })
    (hQ : ∀ h' tk t d, (∀ b o, b ≠ e → hp0.get? b = some o → h'.get? b = some o) → h'.get? e = some { cls := .ref g.cf, dict := some d, data := .fields #[.ref t, .none, .none, .none, .bool false, .none] } → Q .none ⟨h', gs, dr, tk, os⟩) :
    wpAny (Md g) A (call (.ref f) [.ref e, .str txt tk0]) Q E ⟨hp0, gs, dr, tk, os⟩ := by
  obtain ⟨scope, body, D, I⟩ := Z.def_
  obtain ⟨o, fd, ho, hfd, hb, hsc, hgl, hcl, hbi, hcd, dv, hdv, hbind⟩ := D.obj
  cases hdv
  have XB : g.K.In hp0 := X.keeps hB
  have hb2 := hbind ⟨hp0, gs, dr, tk, os⟩ [.ref e, .str txt tk0] XB rfl
  refine wpAny_call (codeAny_call_function (by omega) (XB _ _ ho) hfd (by rw [hsc]; exact D.co) (by rw [hsc]; exact D.gen) hb (codeRec_of XB hcd) (hb2 _ _ _ _ ?_))
  rw [hsc, hgl, hcl, hbi]
  refine wpAny_newFunctionEnv_cells D.kind (fun y hy => ?_) fun env he' s' x => ?_
  · rw [← lk_eq]
    cases hy with
    | head => exact .inl I.s
    | tail _ hy =>
      cases hy with
      | head => exact .inl I.t
      | tail _ hy => cases hy
  have hke : env.scope = scope := by rw [he']; rfl
  have hkf : env.scope.kind = .function := by rw [hke]; exact D.kind
  have hkd : ∀ y, env.kindOf y = lk scope.names y := fun y => by unfold Env.kindOf; rw [hke, lk_eq]
  have hlo : env.locals = hp0.objs.size := by rw [he']; rfl
  have hgb : env.globals = mainGlobals := by rw [he']; rfl
  have hbb : env.builtins = builtinsNs := by rw [he']; rfl
  refine ⟨(T.nolimit.keeps hB).keeps x.toInCall.keep, codeAny_func ?_⟩
  have keep1 := x.toInCall.keep
  obtain ⟨h1, t1, hs'⟩ := x.toInCall.same
  have ns1 := x.toInCall.ns
  have eq1 : ∀ y v, (y = ("self" : PySem.Str) ∧ v = Value.ref e) ∨ (y = ("text" : PySem.Str) ∧ v = .str txt tk0) → bindL env.kindOf ([("self" : PySem.Str), "text"].zip ([Value.ref e, .str txt tk0] ++ [])) (fun _ => none) y = some v := fun y v hy => by
    rw [bindL_get _ _ _ (by show [("self" : PySem.Str), "text"].Nodup; decide)]
    rcases hy with ⟨rfl, rfl⟩ | ⟨rfl, rfl⟩
    · show (if env.kindOf "self" = some NameKind.local then some _ else _) = _
      rw [hkd, I.s, if_pos rfl]
    · show (if env.kindOf "text" = some NameKind.local then some _ else _) = _
      rw [hkd, I.t, if_pos rfl]
  generalize bindL env.kindOf ([("self" : PySem.Str), "text"].zip ([Value.ref e, .str txt tk0] ++ [])) (fun _ => none) = m at ns1 eq1
  have e1 := eq1 "self" _ (.inl ⟨rfl, rfl⟩)
  have e2 := eq1 "text" _ (.inr ⟨rfl, rfl⟩)
  clear eq1
  obtain ⟨p1, p2, p3, p4, p5, p6, p7, p8, p9, p10, rfl, hp⟩ := I.b
  subst hs'
  dsimp only at keep1 ns1 ⊢
  have keepB : ∀ b o, B.get? b = some o → h1.get? b = some o := fun b o q => keep1 b o (hB b o q)
  have FR : Fr hp0 env.locals h1 m := ⟨ns1, keep1, by rw [hlo]; exact Nat.le_refl _⟩
  obtain ⟨nm, q, N, bs, bm, hdct, sn, sub, ab, col, dd, k0, k1, k2, k3, k5, bmB, hC, hST, FB, _⟩ := Z.cl
  obtain ⟨cd, c1, c2, c3, c4, c5⟩ := Z.cd
  refine wpAny_execs_cons (wpAny_Expr (s_CallHead rfl rfl hp rfl ?_) (inter_no hkf) (swaps_no rfl))
  have G := T.g.keeps keepB
  have Bn := T.b.keeps keepB
  refine Name_function_global hkf ((hkd _).trans I.e) (loadGlobal_builtin (by rw [hgb]; exact G) Z.ex.1 (by rw [hbb]; exact Bn) Z.ex.2 ?_) (by decide)
  refine method_type (T := "Exception") FR XB (by kernel_rfl) (by decide +kernel) Z.fc rfl ?_
  refine s_callB (x := ⟨env, [], B, []⟩) rfl ?_
  have ld : ∀ {A : Around} {h : Heap} {y : PySem.Str} {v : Value} {p : Pos} {tk : Nat} {Q E : Value → Shared → Prop}, h.Ns env.locals m → lk scope.names y = some .local → m y = some v → (y == ("__debug__" : PySem.Str)) = false → Q v ⟨h, gs, dr, tk, os⟩ → wpAny (Md g) A (eval (.Name y p) env) Q E ⟨h, gs, dr, tk, os⟩ :=
    fun hn hk hm hd hq => wpAny_Name (wpAny_loadName_local hkf ((hkd _).trans hk) hn hm hq) hd
  refine Calls.spliced_cons (ld ns1 I.s e1 (by decide) (Calls.spliced_cons (ld ns1 I.t e2 (by decide) (wpAny_pure ?_))))
  refine x_base_init FB hST (XB.keeps keep1 _ _ hC) (keep1 _ _ he) (fun h2 kp2 he2 => ?_) (by size_fits)
  have neL : env.locals ≠ e := by rw [hlo]; exact Ne.symm (Nat.ne_of_lt (Heap.lt_size he))
  have ns2 : h2.Ns env.locals m := by
    obtain ⟨o, es, ep, ho, r⟩ := ns1
    exact ⟨o, es, ep, kp2 _ _ neL ho, r⟩
  have X2 : g.K.In h2 := X.keeps fun b o q => kp2 b o (fun w => by rw [w, heB] at q; cases q) (keepB b o q)
  refine wpAny_execs_cons (plainObj_wpAny_Assign_Attribute (ld ns2 I.t e2 (by decide) (ld ns2 I.s e1 (by decide) ?_)) swaps_attr)
  refine set_plain X2 (C := g.cf) (od := none) ⟨he2, rfl, rfl, trivial⟩ Z.sa ?_
  refine x_setattr (s := ⟨h2, gs, dr, _, os⟩) X2 he2 rfl rfl rfl c1 c2 c3 c4 Z.tk c5 fun h3 t3 kp3 he3 => ?_
  refine wpAny_execs_nil ?_
  exact hQ h3 t3 _ _ (fun b o hb q => kp3 b o hb (kp2 b o hb (keep1 b o q))) he3
end
end Mine
end
section
set_option maxHeartbeats 400000
open PySem PySem.W PySem.Spec PySem.Calls PyProof.Rows PySem.Builtin PySem.Builtin.ObjectAttr
namespace Mine
section
variable {M : Model} {A : Around} {E : Value → Shared → Prop} {env : Env}
variable {nm q : PySem.Str} {C N : Addr} {bs bm : List Value} {hdct : Bool} {sn : List PySem.Str} {sub : List Value} {ab : Bool} {col : Option Bool} {dd : Option Addr} {k0 k1 k2 k3 k5 : Option Value} {newId : String}
theorem x_raiseStmt {s : Shared} {x : Sem Value} {Q : Flow → Shared → Prop} (hbase : bm.contains (.type "BaseException") = true) (hh : A.handled = none)
    (h : wpAny M A x (fun v s₁ => ∃ e t d, v = .ref e ∧ s₁.heap.get? C = some (excClassObj nm q C N bs bm hdct sn sub ab col dd k0 k1 k2 k3 k5 newId) ∧
      s₁.heap.get? e = some { cls := .ref C, dict := d, data := .fields #[.ref t, .none, .none, .none, .bool false, .none] } ∧ E (.ref e) s₁) E s) :
    wpAny M A (raiseStmt env (some x) none) Q E s := by
  have hcB : (Value.ref C :: bm).contains (.type "BaseException") = true := by rw [List.contains_cons, hbase, Bool.or_true]
  unfold raiseStmt
  refine wpAny_bind (wpAny_mono h (fun v s₁ h₁ => ?_) fun _ _ x => x)
  obtain ⟨e, t, d', rfl, hC, he, hE⟩ := h₁
  obtain ⟨hp, g, d, tk, os⟩ := s₁
  repeat (first | with_reducible refine wpAny_loadPart_at he ?_ | with_reducible refine wpAny_loadPart_at hC ?_ | (with_reducible refine wpAny_isSubtype_exc hC ?_; rw [hcB]) | wp_step)
  exact wpAny_raiseNew_none hh hE
end
theorem raiseS_of {g : Glb} {f : Addr} (Z : CfOk g f) : RaiseS g := by
  intro c x W ρ σ sh A Q E np txt u cp p pos O R a S hl hE
  refine S.e fun m ms cs D => ?_
  obtain ⟨nm, q, N, bs, bm, hdct, sn, sub, ab, col, dd, k0, k1, k2, k3, k5, bmB, hC, hST, FB, hbase⟩ := Z.cl
  have hkf : x.env.scope.kind = .function := O.fn
  have ko : x.env.kindOf "CheckFault" = some .globalImplicit := by unfold Env.kindOf; rw [O.sc, ← lk_eq]; exact hl
  rw [arm_exec_Raise]
  refine wpAny_bind (wpAny_standAt (x_raiseStmt (C := g.cf) (nm := nm) (q := q) (N := N) (bs := bs) (bm := bm) (hdct := hdct) (sn := sn) (sub := sub) (ab := ab) (col := col) (dd := dd) (k0 := k0) (k1 := k1) (k2 := k2) (k3 := k3) (k5 := k5) (newId := "Exception.__new__") hbase a.h
    (wpAny_bind (wpAny_mono (wpAny_Call_ofName (Name_function_global hkf ko (loadGlobal_global (by rw [O.gl]; exact O.T.g.keeps D.F.keep) Z.gt ?_) (by decide))) (fun v s₃ h₃ => wpAny_bind (wpAny_standAt (wpAny_pure h₃))) fun _ _ x => x))))
  unfold callWith
  have XB : g.K.In sh.heap := O.X.keeps D.F.keep
  obtain ⟨hp, gs, dr, tk, os⟩ := sh
  refine wpAny_bind (wpAny_holding (Calls.evalArgs_plain (Calls.spliced_cons (wpAny_Constant_str (M := Md g) (k := u) (pos := cp) (wpAny_pure (wpAny_bind (wpAny_standAt ?_)))))))
  dsimp only at XB ⊢
  have hC' := XB _ _ hC
  refine wpAny_bind (wpAny_keeperOf_exc hC' ?_)
  refine wpAny_bind (x_call XB FB hST hC' Z.hi Z.hf (fun h' e hm => ?_) (by size_fits))
  have hB : ∀ b o, x.h₀.get? b = some o → h'.get? b = some o := fun b o q => hm.keeps _ _ (D.F.keep b o q)
  have heB : x.h₀.get? e = none := by
    cases q : x.h₀.get? e with
    | none => rfl
    | some o => have := D.F.keep e o q; rw [show hp.get? e = none from hm.new] at this; cases this
  obtain ⟨t0, he0, _, _⟩ := hm.there
  refine x_F77 Z O.X O.T hB heB (by show A.depth + 1 + 1 < _; have := R.d; omega) he0 fun h2 tk2 t2 d2 kp he2 => ⟨rfl, ?_⟩
  refine wpAny_bind (wpAny_holding (wpAny_point (wpAny_pure ⟨e, t2, some d2, rfl, ?_, he2, ?_⟩)))
  · exact kp _ _ (fun w => by rw [w, show hp.get? e = none from hm.new] at hC'; cases hC') (hm.keeps _ _ hC')
  have keep : ∀ b o, x.h₀.get? b = some o → h2.get? b = some o := fun b o z => kp b o (fun w => by rw [w, heB] at z; cases z) (hB b o z)
  have keep2 : ∀ b o, hp.get? b = some o → h2.get? b = some o := fun b o z => kp b o (fun w => by rw [w, show hp.get? e = none from hm.new] at z; cases z) (hm.keeps b o z)
  refine hE _ _ ⟨e, .ref t2, rfl, fun b o z => keep b o (O.bs b o z), ?_, ?_, .fresh he2 rfl rfl rfl rfl, Heap.UpToSlots.of_keeps keep, ⟨m, W, D.F.ns.keeps keep2, D.vars⟩, D.ge, D.dr, D.os⟩
  · cases z : g.base.get? e with
    | none => rfl
    | some o => have := O.bs e o z; rw [heB] at this; cases this
  · have : ∀ l : List Env, (∀ z ∈ l, z.scope.kind ≠ .module ∧ ∃ L, z.frame = some L ∧ g.base.get? L = none ∧ (L = x.env.locals ∨ ∃ o, x.h₀.get? L = some o ∧ ∀ vs, o.data ≠ .fields vs)) → h2.FunFrames g.base l := by
      intro l
      induction l with
      | nil => intro _; trivial
      | cons z r ih =>
        intro hz
        obtain ⟨z1, L, z2, z3, z4⟩ := hz z (.head _)
        refine ⟨z1, ?_, ih fun y hy => hz y (.tail _ hy)⟩
        rcases z4 with rfl | ⟨o, z5, z6⟩
        · obtain ⟨oL, esL, epL, hoL, hdL, _⟩ := D.F.ns.keeps keep2
          exact ⟨_, oL, z2, z3, hoL, fun vs q => by rw [hdL] at q; cases q⟩
        · exact ⟨L, o, z2, z3, keep _ _ z5, z6⟩
    exact this x.fr O.ff
end Mine
end
section
set_option maxHeartbeats 400000
open PySem PySem.W PySem.Spec PySem.Calls PyProof.Rows
namespace Mine
theorem BOk.up {g : Glb} {fr : List Env} {B B' : Heap} (b : BOk g fr B) (h : ∀ c o, B.get? c = some o → B'.get? c = some o) : BOk g fr B' :=
  ⟨b.X.keeps h, b.T.keeps h, fun c o e => h c o (b.bs c o e), fun e he => let ⟨h1, L, h2, h3, o, h4, h5⟩ := b.ff e he; ⟨h1, L, h2, h3, o, h _ _ h4, h5⟩, b.ne⟩
theorem ExcO.down {g : Glb} {fr : List Env} {B B' : Heap} {e : Value} {sh : Shared} (h : ∀ c o, B.get? c = some o → B'.get? c = some o) (X : ExcO g fr B' e sh) : ExcO g fr B e sh := by
  obtain ⟨a, a0, h1, h2, h3, h4⟩ := X
  exact ⟨a, a0, h1, h2, (Heap.UpToSlots.of_keeps h).trans h3, h4⟩
theorem MOs.drop {g : Glb} {W : Wd} : ∀ (n : Nat) (ms : List (Addr × Obj)) (σ : List MO), MOs g W ms σ → MOs g W (ms.drop n) (σ.drop n) := by
  intro n
  induction n with
  | zero => intro ms σ h; exact h
  | succ n ih => intro ms σ h; cases ms with
    | nil => cases σ with
      | nil => exact trivial
      | cons _ _ => exact h.elim
    | cons p r => cases σ with
      | nil => exact h.elim
      | cons m q => exact ih r q h.2
/-- what a call does not see stays -/
theorem Valid.frame {g : Glb} {n : Nat} {f : Value} {as : List AV} {σ σ' τ : List MO} {r : Option AV} (h : Valid g n f as σ r σ') (hl : σ'.length = σ.length) (hb : belowL σ.length as = true) (hs : belowS σ.length σ = true) : Valid g n f as (σ ++ τ) r (σ' ++ τ) := by
  refine ⟨h.1, fun A fr B W vs sh R a Rm b H hv hq he => ?_⟩
  obtain ⟨ms, D⟩ := H
  obtain ⟨As, fz⟩ := W
  have hml : ms.length = σ.length + τ.length := by have := D.mo.length; rw [List.length_append] at this; exact this
  have hms : ms.take σ.length ++ ms.drop σ.length = ms := List.take_append_drop _ _
  have mem1 : ∀ p, p ∈ ms.take σ.length ++ fz → p ∈ ms ++ fz := fun p hp => (List.mem_append.mp hp).elim (fun q => List.mem_append.mpr (.inl (List.mem_of_mem_take q))) fun q => List.mem_append.mpr (.inr q)
  have hnd : ((ms.take σ.length).map (·.1) ++ (ms.drop σ.length).map (·.1)).Nodup := by rw [← List.map_append, hms]; exact D.nd
  obtain ⟨nd1, nd2, nd3⟩ := List.nodup_append.mp hnd
  have hid : ∀ c, c ∈ (ms.take σ.length ++ fz).map (·.1) → ∃ p ∈ ms.take σ.length ++ fz, p.1 = c := fun c hc => List.mem_map.mp hc
  have stB : ∀ c o, B.get? c = some o → (hideAll sh.heap ((ms.take σ.length ++ fz).map (·.1))).get? c = some o := fun c o e => hideAll_get _ (D.keep c o e) fun q => by
    obtain ⟨p, hp, rfl⟩ := hid _ q
    rw [(D.N p (mem1 p hp)).2] at e; cases e
  have st2 : ∀ p ∈ ms.drop σ.length, (hideAll sh.heap ((ms.take σ.length ++ fz).map (·.1))).get? p.1 = some p.2 := fun p hp => hideAll_get _ (D.N p (List.mem_append.mpr (.inl (List.mem_of_mem_drop hp)))).1 fun q => by
    obtain ⟨p', hp', e⟩ := hid _ q
    rcases List.mem_append.mp hp' with h' | h'
    · exact nd3 p'.1 (List.mem_map_of_mem h') p.1 (List.mem_map_of_mem hp) e
    · exact D.dj p (List.mem_of_mem_drop hp) p' h' e.symm
  have hsz : (hideAll sh.heap ((ms.take σ.length ++ fz).map (·.1))).objs.size = sh.heap.objs.size := hideAll_size _ _
  have hmo : MOs g ⟨As.take σ.length, fz⟩ (ms.take σ.length) σ := by
    have := MOs.take σ.length _ _ D.mo
    rw [List.take_left] at this
    exact MOs.down _ _ this hs
  have hAs : (ms.take σ.length).map (·.1) = As.take σ.length := by rw [List.map_take, D.as]
  refine h.2 A fr (hideAll sh.heap ((ms.take σ.length ++ fz).map (·.1))) ⟨As.take σ.length, fz⟩ vs sh R a Rm (b.up stB)
    ⟨ms.take σ.length, fun c o e => of_hideAll _ e, Nat.le_of_eq hsz, fun p hp => ⟨(D.N p (mem1 p hp)).1, hideAll_none _ (List.mem_map_of_mem hp)⟩, hAs, hmo, nd1, fun p hp => D.dj p (List.mem_of_mem_take hp), fun p hp => D.lo p (mem1 p hp), D.ge, D.dr, D.os⟩
    (VA.down hv hb) (fun av v W' sh' e le H hv' => ?_) fun e ex sh' X => he e ex sh' (X.down stB)
  obtain ⟨ms', D'⟩ := H
  obtain ⟨As', fz'⟩ := W'
  obtain ⟨ex, hex⟩ := le.as
  have hex : As' = As.take σ.length ++ ex := hex
  have hlen : As'.length = σ.length := by
    have h1 : ms'.map (·.1) = As' := D'.as
    rw [← h1, List.length_map, D'.mo.length, hl]
  have hlt : (As.take σ.length).length = σ.length := by
    have h1 : ms.map (·.1) = As := D.as
    have : As.length = σ.length + τ.length := by rw [← h1, List.length_map]; exact hml
    rw [List.length_take]; omega
  have hnil : ex = [] := by
    have := congrArg List.length hex
    rw [List.length_append, hlen, hlt] at this
    exact List.length_eq_zero_iff.mp (by omega)
  subst hnil
  rw [List.append_nil] at hex
  subst hex
  have leW : Wd.Le ⟨As, fz⟩ ⟨As, fz'⟩ := ⟨⟨[], by simp⟩, le.fz⟩
  have leU : Wd.Le ⟨As.take σ.length, fz'⟩ ⟨As, fz'⟩ := ⟨⟨As.drop σ.length, (List.take_append_drop _ _).symm⟩, fun _ h => h⟩
  refine hq av v ⟨As, fz'⟩ sh' e leW ⟨ms' ++ ms.drop σ.length, fun c o z => D'.keep c o (stB c o z), ?_, fun p hp => ?_, ?_, ?_, ?_, fun p hp q hq => ?_, fun p hp => ?_, D'.ge, D'.dr, D'.os⟩ (hv'.mono leU)
  · have := D'.size; rw [hsz] at this; exact Nat.le_trans D.size this
  · rcases List.mem_append.mp hp with hp | hp
    · rcases List.mem_append.mp hp with hp | hp
      · refine ⟨(D'.N p (List.mem_append.mpr (.inl hp))).1, ?_⟩
        cases z : B.get? p.1 with
        | none => rfl
        | some o => have := (D'.N p (List.mem_append.mpr (.inl hp))).2; rw [stB _ _ z] at this; cases this
      · exact ⟨D'.keep _ _ (st2 p hp), (D.N p (List.mem_append.mpr (.inl (List.mem_of_mem_drop hp)))).2⟩
    · refine ⟨(D'.N p (List.mem_append.mpr (.inr hp))).1, ?_⟩
      cases z : B.get? p.1 with
      | none => rfl
      | some o => have := (D'.N p (List.mem_append.mpr (.inr hp))).2; rw [stB _ _ z] at this; cases this
  · have h1 : ms'.map (·.1) = As.take σ.length := D'.as
    have h2 : ms.map (·.1) = As := D.as
    show (ms' ++ ms.drop σ.length).map (·.1) = As
    rw [List.map_append, h1, List.map_drop, h2, List.take_append_drop]
  · have h2 := MOs.drop σ.length _ _ D.mo
    rw [List.drop_left] at h2
    exact MOs.append (h2.mono leW) _ _ (D'.mo.mono leU)
  · have h1 : ms'.map (·.1) = As.take σ.length := D'.as
    rw [List.map_append, h1, ← hAs]
    exact hnd
  · rcases List.mem_append.mp hp with hp | hp
    · exact D'.dj p hp q hq
    · intro e
      have h1 := (D'.N q (List.mem_append.mpr (.inr hq))).2
      rw [← e, st2 p hp] at h1; cases h1
  · rcases List.mem_append.mp hp with hp | hp
    · rcases List.mem_append.mp hp with hp | hp
      · exact D'.lo p (List.mem_append.mpr (.inl hp))
      · exact D.lo p (List.mem_append.mpr (.inl (List.mem_of_mem_drop hp)))
    · exact D'.lo p (List.mem_append.mpr (.inr hp))
end Mine
end
section
set_option maxHeartbeats 400000
open PySem PySem.W PySem.Spec PySem.Calls PyProof.Rows
namespace Mine
structure BOk0 (g : Glb) (fr : List Env) (B : Heap) : Prop where
  X : g.K.In B
  T : Top g.p g.loose g.mean g.mg g.mb B
  bs : g.base.StaysIn B
  ff : ∀ e ∈ fr, e.scope.kind ≠ .module ∧ ∃ L, e.frame = some L ∧ g.base.get? L = none ∧ ∃ o, B.get? L = some o ∧ ∀ vs, o.data ≠ .fields vs
/-- into a function's own frame -/
theorem def_enter {g : Glb} {f : Addr} {names : List PySem.Str} {defs : List AV} {scope : Scope} {body : List Stmt} (D : IsDef g f names defs scope body) {need k : Nat} {mu : List PySem.Str} {as : List AV} {σ : List MO}
    (hk : k ≤ 7) (hn : 1 ≤ need) (hl : as.length + defs.length = names.length) {A : Around} {fr : List Env} {B : Heap} {W : Wd} {vs0 : List Value} {sh : Shared} {Rr : Result → Shared → Prop} (a : AOk A fr) (R : Room A need 2) (b : BOk0 g fr B) (H : Hp g B W σ sh) (hv0 : VA g W vs0 as)
    (h : ∀ x A' sh', CxOk g ⟨scope, mu, need - 1⟩ x → Room A' (need - 1) k → AOk A' x.fr → St g x W (enterL scope names (as ++ defs)) σ sh' →
      wpAny (Md g) A' (execs body x.env) (fun f s' => Rr (.ok (.ret (match f with | .ret v => v | _ => .none))) s') (fun e s' => wpAny (Md g) A' (leaving x.env e) (fun _ s'' => Rr (.error e) s'') (fun e' s'' => Rr (.error e') s'') s') sh') : codeAny (Md g) A (.call (.ref f) ⟨vs0, []⟩) Rr sh := by
  obtain ⟨o, fd, ho, hfd, hb, hsc, hgl, hcl, hbi, hcd, dv, hdv, hbind⟩ := D.obj
  have hv := hv0.append (hdv.mono (W' := W) ⟨⟨W.As, rfl⟩, fun p hp => (List.not_mem_nil hp).elim⟩)
  have hdl := hdv.length
  have hvl0 := hv0.length
  generalize hvs : vs0 ++ dv = vs at hv
  generalize has : as ++ defs = as' at hv h
  have hl : as'.length = names.length := by rw [← has, List.length_append]; exact hl
  obtain ⟨ms, HD⟩ := H
  have XB : g.K.In sh.heap := b.X.keeps HD.keep
  have hvl := hv.length
  have hroom : A.depth < recursionLimit := by have := R.d; omega
  have hzip : ((names.zip vs).map (·.1)).Nodup := by
    rw [List.map_fst_zip (by omega)]; exact D.nd
  refine codeAny_call_function hroom (XB _ _ ho) hfd (by rw [hsc]; exact D.co) (by rw [hsc]; exact D.gen) hb (codeRec_of XB hcd) (hbind sh vs0 XB (by omega) _ _ _ _ ?_)
  rw [hsc, hgl, hcl, hbi, hvs]
  refine wpAny_newFunctionEnv_cells D.kind (fun y hy => ?_) fun env he' s' x => ?_
  · obtain ⟨h1, _⟩ := List.of_mem_zip hy
    rw [← lk_eq]
    rcases D.par y.1 h1 with q | q
    · exact .inl q
    · refine .inr ⟨q, ?_⟩
      have : (y.1, NameKind.cell) ∈ scope.names := by rw [lk_eq] at q; exact mem_of_lookup q
      obtain ⟨c, hc⟩ := cellsFrom_has scope.names (sh.heap.objs.size + 1) [] y.1 (.inl this)
      rw [hc]; rfl
  have hke : env.scope = scope := by rw [he']; rfl
  have hkd : ∀ y, env.kindOf y = lk scope.names y := fun y => by unfold Env.kindOf; rw [hke, lk_eq]
  have hce : env.cells = cellsFrom (sh.heap.objs.size + 1) scope.names [] := by rw [he']; rfl
  have hlo : env.locals = sh.heap.objs.size := by rw [he']; rfl
  have hfr : env.frame = some sh.heap.objs.size := by rw [he']; rfl
  refine ⟨(b.T.nolimit.keeps HD.keep).keeps x.toInCall.keep, codeAny_func ?_⟩
  have keep1 := x.toInCall.keep
  obtain ⟨h₁, tk, hs'⟩ := x.toInCall.same
  obtain ⟨cells, NC, Y⟩ := Cl.news (h₀ := sh.heap) (L := env.locals) (by rw [hlo]; exact Nat.le_refl _) (h := s'.heap) (cm := bindC env.kindOf (names.zip vs) fun _ => none) (cs := env.cells) fun n c hm => ⟨x.cell n c (lookup_of_mem_nodup (by rw [hce]; exact cellsFrom_names scope.names 0 (sh.heap.objs.size + 1) [] [] rfl ▸ D.cnd) hm), x.above n c hm⟩
  obtain ⟨Y1, Y2⟩ := cellsAre_mem Y
  have hid : ∀ c, c ∈ (ms ++ W.fz).map (·.1) → ∃ p ∈ ms ++ W.fz, p.1 = c := fun c hc => List.mem_map.mp hc
  have stB : ∀ c o, B.get? c = some o → (hideAll sh.heap ((ms ++ W.fz).map (·.1))).get? c = some o := fun c o e => hideAll_get _ (HD.keep c o e) fun q => by
    obtain ⟨p, hp, rfl⟩ := hid _ q
    rw [(HD.N p hp).2] at e; cases e
  have hsz : (hideAll sh.heap ((ms ++ W.fz).map (·.1))).objs.size = sh.heap.objs.size := hideAll_size _ _
  have hbn : ∀ c, B.get? c = none ∨ @LT.lt Nat _ c sh.heap.objs.size := fun c => by
    cases q : B.get? c with
    | none => exact .inl rfl
    | some o => exact .inr (Nat.lt_of_lt_of_le (Heap.lt_size q) HD.size)
  have baseL : g.base.get? sh.heap.objs.size = none := by
    cases q : g.base.get? sh.heap.objs.size with
    | none => rfl
    | some o => exact absurd (Nat.lt_of_lt_of_le (Heap.lt_size (b.bs _ _ q)) HD.size) (Nat.lt_irrefl _)
  have big : @LT.lt Nat _ 3 sh.heap.objs.size := Nat.lt_of_lt_of_le b.T.g.lt HD.size
  have O : CxOk g ⟨scope, mu, need - 1⟩ ⟨env, env :: fr, hideAll sh.heap ((ms ++ W.fz).map (·.1)), []⟩ := by
    refine ⟨hke, D.kind, by rw [he']; rfl, by rw [he']; rfl, b.X.keeps stB, b.T.keeps stB, fun c o e => stB c o (b.bs c o e), fun e hm => ?_, ⟨env, fr, rfl, rfl⟩, fun n n' c h1 h2 => ?_⟩
    · cases hm with
      | head => exact ⟨by rw [hke, D.kind]; decide, _, hfr, baseL, .inl hlo.symm⟩
      | tail _ hm =>
        obtain ⟨h1, L, h2, h3, o, h4, h5⟩ := b.ff e hm
        exact ⟨h1, L, h2, h3, .inr ⟨o, stB _ _ h4, h5⟩⟩
    · exact name_of_addr x.apart (mem_of_lookup h1) (mem_of_lookup h2)
  have inms : ∀ p, p ∈ ms ++ (cells ++ W.fz) → p ∈ cells ∨ p ∈ ms ++ W.fz := fun p hp => by
    rcases List.mem_append.mp hp with h | h
    · exact .inr (List.mem_append.mpr (.inl h))
    · rcases List.mem_append.mp h with h | h
      · exact .inl h
      · exact .inr (List.mem_append.mpr (.inr h))
  have cell0 : ∀ p ∈ cells, @LT.lt Nat _ sh.heap.objs.size p.1 := fun p hp => by
    have : p.1 ∈ env.cells.map (·.2) := by rw [← Y1]; exact List.mem_map_of_mem hp
    obtain ⟨q, hq, e⟩ := List.mem_map.mp this
    rw [← e, ← hlo]
    exact x.above q.1 q.2 hq
  have S : St g ⟨env, env :: fr, hideAll sh.heap ((ms ++ W.fz).map (·.1)), []⟩ W (enterL scope names as') σ s' := by
    refine ⟨_, ms, cells, ⟨x.toInCall.ns, fun c o e => keep1 c o (of_hideAll _ e), by rw [hsz, hlo]; exact Nat.le_refl _⟩, fun p hp => ?_, fun y av e => ?_, HD.as, HD.mo, fun y oa e => ?_, ?_, fun p hp q hq => ?_, fun p hp => ?_, by rw [hs']; exact HD.ge, by rw [hs']; exact HD.dr, by rw [hs']; exact HD.os, fun p hp => (List.not_mem_nil hp).elim⟩
    · rcases inms p hp with h | h
      · refine ⟨(NC p h).1, (NC p h).2.1, ?_⟩
        cases q : (hideAll sh.heap ((ms ++ W.fz).map (·.1))).get? p.1 with
        | none => rfl
        | some o => have := of_hideAll _ q; rw [(NC p h).2.2] at this; cases this
      · exact ⟨keep1 _ _ (HD.N p h).1, by rw [hlo]; exact Nat.ne_of_lt (Heap.lt_size (HD.N p h).1), hideAll_none _ (List.mem_map_of_mem h)⟩
    · have hloc := locVars_some e
      obtain ⟨v, h1, h2, _⟩ := pars_get hv y av (locVars_lk e)
      refine ⟨v, ?_, h2⟩
      rw [bindL_get _ _ _ hzip, h1]
      dsimp only
      rw [hkd, hloc, if_pos rfl]
    · obtain ⟨h1, rfl⟩ := locCells_some e
      have hck := D.ck _ h1 rfl
      obtain ⟨c, hc⟩ := cellsFrom_has scope.names (sh.heap.objs.size + 1) [] y (.inl h1)
      rw [← hce] at hc
      obtain ⟨o, hm, hd⟩ := Y2 y c (mem_of_lookup hc)
      refine ⟨c, o, _, hc, .inr hm, hd, fun av hav => ?_⟩
      obtain ⟨v, h3, h4, _⟩ := pars_get hv y av hav
      refine ⟨v, ?_, h4⟩
      rw [bindC_get _ _ _ hzip, h3]
      dsimp only
      rw [hkd, hck, if_neg (by intro q; cases q)]
    · rw [List.map_append]
      refine List.nodup_append.mpr ⟨HD.nd, ?_, fun c hc d hd e => ?_⟩
      · rw [Y1]
        exact List.pairwise_map.mpr x.apart
      · obtain ⟨p, hp, rfl⟩ := List.mem_map.mp hc
        obtain ⟨q, hq, rfl⟩ := List.mem_map.mp hd
        have h1 := Heap.lt_size (HD.N p (List.mem_append.mpr (.inl hp))).1
        have h2 := cell0 q hq
        rw [e] at h1
        exact Nat.lt_irrefl _ (Nat.lt_trans h1 h2)
    · rcases List.mem_append.mp hp with h | h
      · exact HD.dj p h q hq
      · intro e
        have h1 := Heap.lt_size (HD.N q (List.mem_append.mpr (.inr hq))).1
        have h2 := cell0 p h
        rw [e] at h2
        exact Nat.lt_irrefl _ (Nat.lt_trans h1 h2)
    · rcases inms p hp with h | h
      · exact Nat.lt_trans big (cell0 p h)
      · exact HD.lo p h
  have R' : Room (A.deeper env) (need - 1) k := ⟨by show A.depth + 1 + (need - 1) < _; have := R.d; omega, by show A.units + 3 + 8 * (need - 1) + k + 90 < _; have := R.u; omega⟩
  have a' : AOk (A.deeper env) (env :: fr) := ⟨Around.frames_deeper a.f, a.h⟩
  exact h ⟨env, env :: fr, hideAll sh.heap ((ms ++ W.fz).map (·.1)), []⟩ (A.deeper env) s' O R' a' S
end Mine
end
section
set_option maxHeartbeats 400000
open PySem PySem.W PySem.Spec PySem.Calls PyProof.Rows
namespace Mine
section
variable {g : Glb} {T : Tabs} {rec : Rec} {k : Nat} {c : Cfg} {x : Cx} {W : Wd} {ρ : Loc} {s : Stt} {sh : Shared} {A : Around} {KE : KX} {Q : Flow → Shared → Prop} {E : Value → Shared → Prop}
/-- some statements, then the others -/
theorem s_prefix (C : Ctx g T rec k c x A) (hE : PX g x KE E) {l2 : List Stmt} : ∀ (l1 : List Stmt) (W : Wd) (ρ : Loc) (s : Stt) (sh : Shared) (K : Fl → Loc → Stt → Prop), St g x W ρ s.σ sh → steps rec k c l1 ρ s K KE →
    (∀ ρ' s' W' sh', W.Le W' → St g x W' ρ' s'.σ sh' → K .next ρ' s' → wpAny (Md g) A (execs l2 x.env) Q E sh') →
    (∀ a ρ' s' W' v sh', W.Le W' → St g x W' ρ' s'.σ sh' → V g W' v a → K (.ret a) ρ' s' → Q (.ret v) sh') → wpAny (Md g) A (execs (l1 ++ l2) x.env) Q E sh := by
  intro l1
  induction l1 with
  | nil => intro W ρ s sh K S h hN _; exact hN _ _ _ _ (.refl W) S h
  | cons y r ih =>
    intro W ρ s sh K S h hN hR
    refine wpAny_execs_cons (C.snd _ _ _ _ _ _ _ h _ _ _ _ C.O C.R C.a S _ _ (fun f ρ' s' W' fl sh' le S' hf h' => ?_) hE)
    cases hf with
    | next => exact ih W' ρ' s' sh' K S' h' (fun ρ2 s2 W2 sh2 le2 => hN ρ2 s2 W2 sh2 (le.trans le2)) fun a ρ2 s2 W2 v sh2 le2 => hR a ρ2 s2 W2 v sh2 (le.trans le2)
    | ret hv => exact hR _ _ _ _ _ _ le S' hv h'
/-- a try whose handler for CheckFault tells whether a local is None -/
theorem s_TryCF {f : Addr} {K : KO} {body : List Stmt} {y : PySem.Str} {np p1 p2 p3 p4 p5 p6 : Pos} {u : Nat} (Z : CfOk g f) (GX : g.K.In g.base) (GT : Top g.p g.loose g.mean g.mg g.mb g.base) (C : Ctx g T rec k c x A) (S : St g x W ρ s.σ sh)
    (hy : lk c.sc.names y = some .local) (hyd : (y == ("__debug__" : PySem.Str)) = false) (hcf : lk c.sc.names "CheckFault" = some .globalImplicit)
    (h : rec k c (.sts body) ρ s K KE)
    (hN : ∀ ρ' s' W' sh', W.Le W' → St g x W' ρ' s'.σ sh' → K (.fl .next ρ') s' → Q .next sh')
    (hR : ∀ a ρ' s' W' v sh', W.Le W' → St g x W' ρ' s'.σ sh' → V g W' v a → K (.fl (.ret a) ρ') s' → Q (.ret v) sh')
    (hX : ∀ ρ' s', KE ρ' s' → ∃ a r, lk ρ'.vars y = some a ∧ isNone a = some r ∧ ∀ sh', g.base.StaysIn sh'.heap → sh'.gens = g.gens → sh'.os = g.os → Q (.ret (.bool r)) sh') :
    wpAny (Md g) A (exec (.Try body [.ExceptHandler (some (.Name "CheckFault" np)) none [.Return (some (.Compare (.Name y p1) [.Is] [.Constant .none u p2] p3)) p4] p5] [] [] p6) x.env) Q E sh := by
  have O := C.O
  refine wpAny_Try_except (C.snd _ _ _ _ _ _ _ h _ _ _ _ C.O C.R C.a S _ _ (fun fl ρ' s' W' flo sh' le S' hf h' => ?_) fun ρ' s' e sh' X hke => ?_)
  · cases hf with
    | next => exact wpAny_execs_nil (hN _ _ _ _ le S' h')
    | ret hv => exact hR _ _ _ _ _ _ le S' hv h'
  · refine s_note O C.a rfl X fun sh2 X2 => ?_
    obtain ⟨ad, a0, L, rfl, h2, k1, k2, k3, k4, k5, ⟨m, W2, k6, k7⟩, k8, k9, k10⟩ := X2
    obtain ⟨a, r, e1, e2, hq⟩ := hX ρ' s' hke
    obtain ⟨v, e3, e4⟩ := k7 y a e1
    obtain ⟨nm, q, N, bs, bm, hdct, sn, sub, ab, col, dd, c0, c1, c2, c3, c5, bmB, hC, hST, FB, hbase⟩ := Z.cl
    have hkf : x.env.scope.kind = .function := O.fn
    have ko : x.env.kindOf "CheckFault" = some .globalImplicit := by unfold Env.kindOf; rw [O.sc, ← lk_eq]; exact hcf
    have koy : x.env.kindOf y = some .local := by unfold Env.kindOf; rw [O.sc, ← lk_eq]; exact hy
    refine wpAny_setFlight_noneW k1 k3 k4 fun h3 m1 m2 m3 m4 => ?_
    have ns3 : h3.Ns x.env.locals m := Heap.UpToSlots.ns (fun b o hb hn => ⟨o.slots, m4 b o hb hn⟩) k6
    obtain ⟨oe, vs, T0, oT, ts, he, hcls, hd, _⟩ := id m3
    refine wpAny_handleBy_cons (codeAny_handlers_test ?_) (by intro q; cases q)
    refine Name_function_global hkf ko (loadGlobal_global (by rw [O.gl]; exact GT.g.keeps m1) Z.gt ?_) (by decide)
    have hC3 := m1 _ _ (GX _ _ hC)
    obtain ⟨hp2, g2, d2, t2, os2⟩ := sh2
    refine wpAny_excMatches_sub_self hC3 he hcls.1 hbase ?_
    refine codeAny_handlers_suite ?_
    refine wpAny_setFlight_noneW m1 m2 m3 fun h4 n1 n2 n3 n4 => ?_
    have ns4 : h4.Ns x.env.locals m := Heap.UpToSlots.ns (fun b o hb hn => ⟨o.slots, n4 b o hb hn⟩) ns3
    refine wpAny_execs_cons (wpAny_Return_some ?_)
    rw [arm_eval_Compare]
    refine wpAny_bind (wpAny_Name (wpAny_loadName_local hkf koy ns4 e3 ?_) hyd)
    show wpAny (Md g) _ (compareChain p3 v [.Is] [markedBehindIn .Is (.Constant .none u p2) (eval (.Constant .none u p2) x.env)]) _ _ _
    rw [marked_not rfl]
    unfold compareChain
    refine wpAny_bind (wpAny_holding (wpAny_Constant_none (wpAny_bind (wpAny_standAt (wpAny_operateT (is_none_gen ?_))))))
    rw [isNone_val e4 e2]
    exact hq _ n1 k8 k10
end
end Mine
end
section
set_option maxHeartbeats 400000
open PySem PySem.W PySem.Spec PySem.Calls PyProof.Rows
namespace Mine
section
variable {g : Glb} {T : Tabs} {k : Nat} {c : Cfg} {x : Cx} {W : Wd} {ρ ρ2 : Loc} {s : Stt} {sh : Shared} {A : Around} {Q : Flow → Shared → Prop} {E : Value → Shared → Prop}
/-- the front of the script, copied -/
theorem s_cut {rec : Rec} {KE : KX} (C : Ctx g T rec k c x A) (S : St g x W ρ s.σ sh) {ad : Addr} {vs : List Value} {ds : List AV} {y z : PySem.Str} {py pz pc p q pos : Pos} {u : Nat} (hIL : x.h₀.IsList ad vs.toArray) (hds : ∀ W, VA g W vs ds) (hsm : small ds = true)
    (hl : look T c ρ z = some (.raw (.ref ad))) (hok : okName z = true) (hp : put c ρ y (.lst (ds.take 30)) = some ρ2) (hQ : ∀ W' sh', W.Le W' → St g x W' ρ2 s.σ sh' → Q .next sh') :
    wpAny (Md g) A (exec (.Assign [.Name y py] (.Subscript (.Name z pz) (.Slice none (some (.Constant (.int 30) u pc)) none q) p) pos) x.env) Q E sh := by
  refine wpAny_Assign_Name (Subscript_ (S.ld C.TO C.O hl (okName_iff hok).1 (okName_iff hok).2 fun v hv => ?_)) (swaps_no rfl)
  cases hv
  refine wpAny_Slice (wpAny_evalPart_none (wpAny_evalPart_some (wpAny_Constant_int (k := u) (pos := pc) (wpAny_evalPart_none ?_))))
  have S₂ := S.toks (sh.toks + 1)
  have S₃ := S₂.push C.O ({ cls := .type "slice", data := .fields #[.none, .int 30 sh.toks, .none] } : Obj) rfl
  have le₃ := le_push (sh.heap.objs.size, ({ cls := .type "slice", data := .fields #[.none, .int 30 sh.toks, .none] } : Obj)) W
  have hsl := Heap.IsSliceOf.new sh.heap .none (.int 30 sh.toks) .none
  have sub : ∀ o i', subscripted (.Slice none (some (.Constant (.int 30) u pc)) none q) false o i' = operate [i', o] (getItem o i') := fun _ _ => rfl
  have hlen := (hds W).length
  have h2 := small_le hsm
  obtain ⟨o, ho, hc, nn, hd⟩ := hIL
  have IL : (sh.heap.push { cls := .type "slice", data := .fields #[.none, .int 30 sh.toks, .none] }).IsList ad vs.toArray := by
    refine S.e fun m ms cs D => ?_
    exact ⟨o, Heap.get?_push_of_some _ (D.F.keep _ _ ho), hc, nn, hd⟩
  refine tail_any IL.typeIs slot_list_getitem.lookup (wpAny_getItem_list_slice IL hsl .none (.int _ _) .none (by simp) ?_ (by rw [List.size_toArray, hlen]; exact Nat.le_trans h2 (by decide))) (sub _ _)
  have e : slicePick vs.toArray none (some ((30 : Nat) : Int)) none = (vs.take 30).toArray := by
    rw [slicePick_upto']
  rw [show (30 : Int) = ((30 : Nat) : Int) from rfl, e]
  refine s_put C.O (S₃.push C.O _ rfl) (.lst (n := 0) (.head _) (((hds W).take _).mono (le₃.trans (le_push _ _)))) hp fun sh' S' => hQ _ sh' (le₃.trans (le_push _ _)) S'
end
end Mine
end
section
set_option maxHeartbeats 400000
namespace Mine
/-! ## tables: many cases by one look -/
noncomputable def tb {α : Type} : (n : Nat) → ((i : Nat) → i < n → α) → List α
  | 0, _ => []
  | n + 1, f => f n (Nat.lt_succ_self n) :: tb n fun i h => f i (Nat.lt_succ_of_lt h)
noncomputable def tc {α : Type} : (n : Nat) → ((i : Nat) → i < n → α) → List α
  | 0, _ => []
  | n + 1, f => f n (Nat.lt_succ_self n) :: tc n fun i h => f i (Nat.lt_succ_of_lt h)
theorem tE1 {α : Type} : ∀ {n : Nat} {f k : (i : Nat) → i < n → α}, tb n f = tc n k → ∀ i h, f i h = k i h
  | 0, _, _, _, _, h => absurd h (Nat.not_lt_zero _)
  | n + 1, f, k, e, i, h => by
    obtain ⟨e1, e2⟩ := List.cons.inj (show f n _ :: tb n _ = k n _ :: tc n _ from e)
    by_cases q : i = n
    · subst q; exact e1
    · exact tE1 e2 i (Nat.lt_of_le_of_ne (Nat.le_of_lt_succ h) q)
theorem tE2 {α : Type} {n : Nat} {m : (i : Nat) → i < n → Nat} {f k : (i : Nat) → (h : i < n) → (j : Nat) → j < m i h → α} (e : (tb n fun i h => tb (m i h) (f i h)) = tc n fun i h => tc (m i h) (k i h)) (i : Nat) (h : i < n) (j : Nat) (l : j < m i h) : f i h j l = k i h j l :=
  tE1 (tE1 e i h) j l
theorem tE3 {α : Type} {n m p : Nat} {f k : (i : Nat) → (h : i < n) → (j : Nat) → (j < m) → (r : Nat) → r < p → α} (e : (tb n fun i h => tb m fun j l => tb p (f i h j l)) = tc n fun i h => tc m fun j l => tc p (k i h j l)) (i : Nat) (h : i < n) (j : Nat) (l : j < m) (r : Nat) (o : r < p) : f i h j l r o = k i h j l r o :=
  tE1 (tE1 (tE1 e i h) j l) r o
/-- the same, where a fact depends on the cases -/
noncomputable abbrev TF := (T : Prop) ×' (T → Prop)
theorem tf_eq {T : Prop} {f k : T → Prop} (e : (⟨T, f⟩ : TF) = ⟨T, k⟩) (x : T) : f x = k x := congrFun (eq_of_heq (PSigma.mk.inj e).2) x
theorem uE1 {n : Nat} {T : (i : Nat) → i < n → Prop} {f k : (i : Nat) → (h : i < n) → T i h → Prop} (e : (tb n fun i h => (⟨T i h, f i h⟩ : TF)) = tc n fun i h => ⟨T i h, k i h⟩) (i : Nat) (h : i < n) (x : T i h) : f i h x = k i h x :=
  tf_eq (tE1 e i h) x
theorem uE2 {n : Nat} {m : (i : Nat) → i < n → Nat} {T : (i : Nat) → (h : i < n) → (j : Nat) → j < m i h → Prop} {f k : (i : Nat) → (h : i < n) → (j : Nat) → (l : j < m i h) → T i h j l → Prop}
    (e : (tb n fun i h => tb (m i h) fun j l => (⟨T i h j l, f i h j l⟩ : TF)) = tc n fun i h => tc (m i h) fun j l => ⟨T i h j l, k i h j l⟩) (i : Nat) (h : i < n) (j : Nat) (l : j < m i h) (x : T i h j l) : f i h j l x = k i h j l x :=
  tf_eq (tE2 e i h j l) x
theorem uE3 {n m p : Nat} {T : (i : Nat) → (h : i < n) → (j : Nat) → (l : j < m) → (r : Nat) → r < p → Prop} {f k : (i : Nat) → (h : i < n) → (j : Nat) → (l : j < m) → (r : Nat) → (o : r < p) → T i h j l r o → Prop}
    (e : (tb n fun i h => tb m fun j l => tb p fun r o => (⟨T i h j l r o, f i h j l r o⟩ : TF)) = tc n fun i h => tc m fun j l => tc p fun r o => ⟨T i h j l r o, k i h j l r o⟩) (i : Nat) (h : i < n) (j : Nat) (l : j < m) (r : Nat) (o : r < p) (x : T i h j l r o) : f i h j l r o x = k i h j l r o x :=
  tf_eq (tE3 e i h j l r o) x
end Mine
end
section
set_option maxHeartbeats 400000
open PySem PySem.W PySem.Spec PySem.Calls PyProof.Rows
namespace Mine
noncomputable def fdOf (K : Frag) (f : Addr) : Option FuncData := match K.lookup f with
  | some o => match o.data with
    | .func fd => some fd
    | _ => none
  | none => none
noncomputable def fdG (K : Frag) (f : Addr) (h : (fdOf K f).isSome = true) : FuncData := (fdOf K f).get h
theorem fd_at {K : Frag} {f : Addr} (h : (fdOf K f).isSome = true) : ∃ o, K.lookup f = some o ∧ o.data = .func (fdG K f h) := by
  have e : fdOf K f = some (fdG K f h) := (Option.some_get h).symm
  unfold fdOf at e
  split at e
  · rename_i o ho
    split at e
    · rename_i fd hd
      cases e
      exact ⟨o, ho, hd⟩
    · cases e
  · cases e
noncomputable def inS (x : PySem.Str) : List PySem.Str → Bool
  | [] => false
  | y :: r => match seq y x with
    | true => true
    | false => inS x r
noncomputable def ndS : List PySem.Str → Bool
  | [] => true
  | x :: r => match inS x r with
    | true => false
    | false => ndS r
theorem inS_mem {x : PySem.Str} : ∀ {l : List PySem.Str}, x ∈ l → inS x l = true
  | y :: r, h => by
    unfold inS
    cases e : seq y x with
    | true => rfl
    | false =>
      cases h with
      | head => rw [seq_self] at e; cases e
      | tail _ h => exact inS_mem h
theorem ndS_iff : ∀ {l : List PySem.Str}, ndS l = true → l.Nodup
  | [], _ => .nil
  | x :: r, h => by
    unfold ndS at h
    split at h
    · cases h
    · rename_i e
      exact List.nodup_cons.mpr ⟨fun q => (by rw [inS_mem q] at e; cases e), ndS_iff h⟩
noncomputable def parOk (sc : Scope) : List PySem.Str → Bool
  | [] => true
  | x :: r => match lk sc.names x with
    | some .local => parOk sc r
    | some .cell => parOk sc r
    | _ => false
theorem parOk_iff {sc : Scope} : ∀ {l : List PySem.Str}, parOk sc l = true → ∀ y ∈ l, lk sc.names y = some .local ∨ lk sc.names y = some .cell
  | [], _, _, hy => (List.not_mem_nil hy).elim
  | x :: r, h, y, hy => by
    unfold parOk at h
    split at h
    · rename_i e
      cases hy with
      | head => exact .inl e
      | tail _ hy => exact parOk_iff h y hy
    · rename_i e
      cases hy with
      | head => exact .inr e
      | tail _ hy => exact parOk_iff h y hy
    · cases h
noncomputable def ckOk (sc : Scope) : List (PySem.Str × NameKind) → Bool
  | [] => true
  | p :: r => match p.2 with
    | .cell => match lk sc.names p.1 with
      | some .cell => ckOk sc r
      | _ => false
    | _ => ckOk sc r
theorem ckOk_iff {sc : Scope} : ∀ {l : List (PySem.Str × NameKind)}, ckOk sc l = true → ∀ p ∈ l, p.2 = .cell → lk sc.names p.1 = some .cell
  | [], _, _, hp, _ => (List.not_mem_nil hp).elim
  | q :: r, h, p, hp, e => by
    unfold ckOk at h
    split at h
    · split at h
      · rename_i e2
        cases hp with
        | head => exact e2
        | tail _ hp => exact ckOk_iff h p hp e
      · cases h
    · rename_i e2
      cases hp with
      | head => exact absurd e e2
      | tail _ hp => exact ckOk_iff h p hp e
noncomputable def noCo (s : Scope) : Bool := match s.isCoroutine, s.isGenerator with
  | false, false => true
  | _, _ => false
noncomputable def OnK (g : Glb) : Prop := ∃ P, g.K = hd.heap_39 P ∧ g.w.params = P
theorem isDef_mk {g : Glb} {f : Addr} {names : List PySem.Str} {scope : Scope} {body : List Stmt} {fd : FuncData} (h1 : keepIn g.K (.ref f) = true) (h0 : ∃ o, g.K.lookup f = some o ∧ o.data = .func fd) (h2 : fd.body = .stmts body) (h3 : fd.scope = scope) (h4 : fd.globals = mainGlobals) (h5 : fd.closure = [])
    (h6 : fd.builtins = builtinsNs) (h7 : codeIn g.K fd.code fd.qualname = true) (h8 : ∀ (s : Shared) (vs : List Value), vs.length = names.length → BindsTo s fd ⟨vs, []⟩ (names.zip vs)) (h9 : isFun scope.kind = true) (hc : scope.isCoroutine = false) (hg : scope.isGenerator = false) (hn : ndS names = true) (hp : parOk scope names = true)
    (hcn : ndS ((cellsFrom 0 scope.names []).map (·.1)) = true) (hck : ckOk scope scope.names = true) : IsDef g f names [] scope body := by
  obtain ⟨o, ho, hd⟩ := h0
  refine ⟨h1, ⟨o, fd, ho, hd, h2, h3, h4, h5, h6, h7, [], .nil, fun s vs _ hl => ?_⟩, ?_, hc, hg, ndS_iff hn, parOk_iff hp, ndS_iff hcn, ckOk_iff hck⟩
  · rw [List.append_nil]; exact h8 s vs (by simpa using hl)
  · unfold isFun at h9
    split at h9
    · rename_i e; exact e
    · cases h9
theorem len_cons {α : Type} {l : List α} {n : Nat} (h : l.length = n + 1) : ∃ a t, l = a :: t ∧ t.length = n := by
  cases l with
  | nil => cases h
  | cons a t => exact ⟨a, t, rfl, Nat.succ.inj h⟩
theorem bt0 {fd : FuncData} (h : bindArgs fd ⟨[], []⟩ = pure []) (s : Shared) (vs : List Value) (hl : vs.length = ([] : List PySem.Str).length) : BindsTo s fd ⟨vs, []⟩ (([] : List PySem.Str).zip vs) := by
  obtain rfl := List.eq_nil_of_length_eq_zero hl
  exact BindsTo.of_eq (h)
theorem bt1 {fd : FuncData} {n0 : PySem.Str} (h : ∀ a0 : Value, bindArgs fd ⟨[a0], []⟩ = pure [(n0, a0)]) (s : Shared) (vs : List Value) (hl : vs.length = [n0].length) : BindsTo s fd ⟨vs, []⟩ ([n0].zip vs) := by
  obtain ⟨a0, w0, rfl, q0⟩ := len_cons hl
  obtain rfl := List.eq_nil_of_length_eq_zero q0
  exact BindsTo.of_eq (h a0)
theorem bt2 {fd : FuncData} {n0 n1 : PySem.Str} (h : ∀ a0 a1 : Value, bindArgs fd ⟨[a0, a1], []⟩ = pure [(n0, a0), (n1, a1)]) (s : Shared) (vs : List Value) (hl : vs.length = [n0, n1].length) : BindsTo s fd ⟨vs, []⟩ ([n0, n1].zip vs) := by
  obtain ⟨a0, w0, rfl, q0⟩ := len_cons hl
  obtain ⟨a1, w1, rfl, q1⟩ := len_cons q0
  obtain rfl := List.eq_nil_of_length_eq_zero q1
  exact BindsTo.of_eq (h a0 a1)
theorem bt3 {fd : FuncData} {n0 n1 n2 : PySem.Str} (h : ∀ a0 a1 a2 : Value, bindArgs fd ⟨[a0, a1, a2], []⟩ = pure [(n0, a0), (n1, a1), (n2, a2)]) (s : Shared) (vs : List Value) (hl : vs.length = [n0, n1, n2].length) : BindsTo s fd ⟨vs, []⟩ ([n0, n1, n2].zip vs) := by
  obtain ⟨a0, w0, rfl, q0⟩ := len_cons hl
  obtain ⟨a1, w1, rfl, q1⟩ := len_cons q0
  obtain ⟨a2, w2, rfl, q2⟩ := len_cons q1
  obtain rfl := List.eq_nil_of_length_eq_zero q2
  exact BindsTo.of_eq (h a0 a1 a2)
theorem bt4 {fd : FuncData} {n0 n1 n2 n3 : PySem.Str} (h : ∀ a0 a1 a2 a3 : Value, bindArgs fd ⟨[a0, a1, a2, a3], []⟩ = pure [(n0, a0), (n1, a1), (n2, a2), (n3, a3)]) (s : Shared) (vs : List Value) (hl : vs.length = [n0, n1, n2, n3].length) : BindsTo s fd ⟨vs, []⟩ ([n0, n1, n2, n3].zip vs) := by
  obtain ⟨a0, w0, rfl, q0⟩ := len_cons hl
  obtain ⟨a1, w1, rfl, q1⟩ := len_cons q0
  obtain ⟨a2, w2, rfl, q2⟩ := len_cons q1
  obtain ⟨a3, w3, rfl, q3⟩ := len_cons q2
  obtain rfl := List.eq_nil_of_length_eq_zero q3
  exact BindsTo.of_eq (h a0 a1 a2 a3)
theorem bt5 {fd : FuncData} {n0 n1 n2 n3 n4 : PySem.Str} (h : ∀ a0 a1 a2 a3 a4 : Value, bindArgs fd ⟨[a0, a1, a2, a3, a4], []⟩ = pure [(n0, a0), (n1, a1), (n2, a2), (n3, a3), (n4, a4)]) (s : Shared) (vs : List Value) (hl : vs.length = [n0, n1, n2, n3, n4].length) : BindsTo s fd ⟨vs, []⟩ ([n0, n1, n2, n3, n4].zip vs) := by
  obtain ⟨a0, w0, rfl, q0⟩ := len_cons hl
  obtain ⟨a1, w1, rfl, q1⟩ := len_cons q0
  obtain ⟨a2, w2, rfl, q2⟩ := len_cons q1
  obtain ⟨a3, w3, rfl, q3⟩ := len_cons q2
  obtain ⟨a4, w4, rfl, q4⟩ := len_cons q3
  obtain rfl := List.eq_nil_of_length_eq_zero q4
  exact BindsTo.of_eq (h a0 a1 a2 a3 a4)
theorem bt6 {fd : FuncData} {n0 n1 n2 n3 n4 n5 : PySem.Str} (h : ∀ a0 a1 a2 a3 a4 a5 : Value, bindArgs fd ⟨[a0, a1, a2, a3, a4, a5], []⟩ = pure [(n0, a0), (n1, a1), (n2, a2), (n3, a3), (n4, a4), (n5, a5)]) (s : Shared) (vs : List Value) (hl : vs.length = [n0, n1, n2, n3, n4, n5].length) : BindsTo s fd ⟨vs, []⟩ ([n0, n1, n2, n3, n4, n5].zip vs) := by
  obtain ⟨a0, w0, rfl, q0⟩ := len_cons hl
  obtain ⟨a1, w1, rfl, q1⟩ := len_cons q0
  obtain ⟨a2, w2, rfl, q2⟩ := len_cons q1
  obtain ⟨a3, w3, rfl, q3⟩ := len_cons q2
  obtain ⟨a4, w4, rfl, q4⟩ := len_cons q3
  obtain ⟨a5, w5, rfl, q5⟩ := len_cons q4
  obtain rfl := List.eq_nil_of_length_eq_zero q5
  exact BindsTo.of_eq (h a0 a1 a2 a3 a4 a5)
theorem d_F77Error_init {g : Glb} (hK : OnK g) : IsDef g 28 ["self", "text"] [] (mtScope 1 0) (mtBody 1 0) :=
  hK.elim fun P hK => isDef_mk (fd := fdG (hd.heap_39 P) 28 (by kernel_rfl)) (by rw [hK.1]; kernel_rfl) (by rw [hK.1]; exact fd_at _) (by kernel_rfl) (by kernel_rfl) (by kernel_rfl) (by kernel_rfl) (by kernel_rfl) (by rw [hK.1]; kernel_rfl) (bt2 (fun _ _ => by kernel_rfl)) (by kernel_rfl) (by kernel_rfl) (by kernel_rfl) (by kernel_rfl) (by kernel_rfl) (by kernel_rfl) (by kernel_rfl)
theorem d_is_numeric {g : Glb} (hK : OnK g) : IsDef g 65 ["kind"] [] (fnScope 11) (fnBody 11) :=
  hK.elim fun P hK => isDef_mk (fd := fdG (hd.heap_39 P) 65 (by kernel_rfl)) (by rw [hK.1]; kernel_rfl) (by rw [hK.1]; exact fd_at _) (by kernel_rfl) (by kernel_rfl) (by kernel_rfl) (by kernel_rfl) (by kernel_rfl) (by rw [hK.1]; kernel_rfl) (bt1 (fun _ => by kernel_rfl)) (by kernel_rfl) (by kernel_rfl) (by kernel_rfl) (by kernel_rfl) (by kernel_rfl) (by kernel_rfl) (by kernel_rfl)
theorem d_higher_kind {g : Glb} (hK : OnK g) : IsDef g 72 ["a", "b"] [] (fnScope 12) (fnBody 12) :=
  hK.elim fun P hK => isDef_mk (fd := fdG (hd.heap_39 P) 72 (by kernel_rfl)) (by rw [hK.1]; kernel_rfl) (by rw [hK.1]; exact fd_at _) (by kernel_rfl) (by kernel_rfl) (by kernel_rfl) (by kernel_rfl) (by kernel_rfl) (by rw [hK.1]; kernel_rfl) (bt2 (fun _ _ => by kernel_rfl)) (by kernel_rfl) (by kernel_rfl) (by kernel_rfl) (by kernel_rfl) (by kernel_rfl) (by kernel_rfl) (by kernel_rfl)
theorem d_count_digits {g : Glb} (hK : OnK g) : IsDef g 80 ["n"] [] (fnScope 15) (fnBody 15) :=
  hK.elim fun P hK => isDef_mk (fd := fdG (hd.heap_39 P) 80 (by kernel_rfl)) (by rw [hK.1]; kernel_rfl) (by rw [hK.1]; exact fd_at _) (by kernel_rfl) (by kernel_rfl) (by kernel_rfl) (by kernel_rfl) (by kernel_rfl) (by rw [hK.1]; kernel_rfl) (bt1 (fun _ => by kernel_rfl)) (by kernel_rfl) (by kernel_rfl) (by kernel_rfl) (by kernel_rfl) (by kernel_rfl) (by kernel_rfl) (by kernel_rfl)
theorem d_strip_zeros {g : Glb} (hK : OnK g) : IsDef g 87 ["m", "e"] [] (fnScope 16) (fnBody 16) :=
  hK.elim fun P hK => isDef_mk (fd := fdG (hd.heap_39 P) 87 (by kernel_rfl)) (by rw [hK.1]; kernel_rfl) (by rw [hK.1]; exact fd_at _) (by kernel_rfl) (by kernel_rfl) (by kernel_rfl) (by kernel_rfl) (by kernel_rfl) (by rw [hK.1]; kernel_rfl) (bt2 (fun _ _ => by kernel_rfl)) (by kernel_rfl) (by kernel_rfl) (by kernel_rfl) (by kernel_rfl) (by kernel_rfl) (by kernel_rfl) (by kernel_rfl)
theorem d_round_digits {g : Glb} (hK : OnK g) : IsDef g 94 ["m", "e", "digits"] [] (fnScope 17) (fnBody 17) :=
  hK.elim fun P hK => isDef_mk (fd := fdG (hd.heap_39 P) 94 (by kernel_rfl)) (by rw [hK.1]; kernel_rfl) (by rw [hK.1]; exact fd_at _) (by kernel_rfl) (by kernel_rfl) (by kernel_rfl) (by kernel_rfl) (by kernel_rfl) (by rw [hK.1]; kernel_rfl) (bt3 (fun _ _ _ => by kernel_rfl)) (by kernel_rfl) (by kernel_rfl) (by kernel_rfl) (by kernel_rfl) (by kernel_rfl) (by kernel_rfl) (by kernel_rfl)
theorem d_round_real {g : Glb} (hK : OnK g) : IsDef g 101 ["m", "e", "digits", "top"] [] (fnScope 18) (fnBody 18) :=
  hK.elim fun P hK => isDef_mk (fd := fdG (hd.heap_39 P) 101 (by kernel_rfl)) (by rw [hK.1]; kernel_rfl) (by rw [hK.1]; exact fd_at _) (by kernel_rfl) (by kernel_rfl) (by kernel_rfl) (by kernel_rfl) (by kernel_rfl) (by rw [hK.1]; kernel_rfl) (bt4 (fun _ _ _ _ => by kernel_rfl)) (by kernel_rfl) (by kernel_rfl) (by kernel_rfl) (by kernel_rfl) (by kernel_rfl) (by kernel_rfl) (by kernel_rfl)
theorem d_Scope_init {g : Glb} (hK : OnK g) : IsDef g 119 ["self", "symbols", "choose", "limits"] [] (mtScope 24 0) (mtBody 24 0) :=
  hK.elim fun P hK => isDef_mk (fd := fdG (hd.heap_39 P) 119 (by kernel_rfl)) (by rw [hK.1]; kernel_rfl) (by rw [hK.1]; exact fd_at _) (by kernel_rfl) (by kernel_rfl) (by kernel_rfl) (by kernel_rfl) (by kernel_rfl) (by rw [hK.1]; kernel_rfl) (bt4 (fun _ _ _ _ => by kernel_rfl)) (by kernel_rfl) (by kernel_rfl) (by kernel_rfl) (by kernel_rfl) (by kernel_rfl) (by kernel_rfl) (by kernel_rfl)
theorem d_symbol_of {g : Glb} (hK : OnK g) : IsDef g 133 ["scope", "name"] [] (fnScope 25) (fnBody 25) :=
  hK.elim fun P hK => isDef_mk (fd := fdG (hd.heap_39 P) 133 (by kernel_rfl)) (by rw [hK.1]; kernel_rfl) (by rw [hK.1]; exact fd_at _) (by kernel_rfl) (by kernel_rfl) (by kernel_rfl) (by kernel_rfl) (by kernel_rfl) (by rw [hK.1]; kernel_rfl) (bt2 (fun _ _ => by kernel_rfl)) (by kernel_rfl) (by kernel_rfl) (by kernel_rfl) (by kernel_rfl) (by kernel_rfl) (by kernel_rfl) (by kernel_rfl)
theorem d_real_const {g : Glb} (hK : OnK g) : IsDef g 140 ["m", "e", "digits", "limits"] [] (fnScope 26) (fnBody 26) :=
  hK.elim fun P hK => isDef_mk (fd := fdG (hd.heap_39 P) 140 (by kernel_rfl)) (by rw [hK.1]; kernel_rfl) (by rw [hK.1]; exact fd_at _) (by kernel_rfl) (by kernel_rfl) (by kernel_rfl) (by kernel_rfl) (by kernel_rfl) (by rw [hK.1]; kernel_rfl) (bt4 (fun _ _ _ _ => by kernel_rfl)) (by kernel_rfl) (by kernel_rfl) (by kernel_rfl) (by kernel_rfl) (by kernel_rfl) (by kernel_rfl) (by kernel_rfl)
theorem d_complex_part {g : Glb} (hK : OnK g) : IsDef g 147 ["part", "limits"] [] (fnScope 27) (fnBody 27) :=
  hK.elim fun P hK => isDef_mk (fd := fdG (hd.heap_39 P) 147 (by kernel_rfl)) (by rw [hK.1]; kernel_rfl) (by rw [hK.1]; exact fd_at _) (by kernel_rfl) (by kernel_rfl) (by kernel_rfl) (by kernel_rfl) (by kernel_rfl) (by rw [hK.1]; kernel_rfl) (bt2 (fun _ _ => by kernel_rfl)) (by kernel_rfl) (by kernel_rfl) (by kernel_rfl) (by kernel_rfl) (by kernel_rfl) (by kernel_rfl) (by kernel_rfl)
theorem d_resolve_const {g : Glb} (hK : OnK g) : IsDef g 154 ["tree", "limits"] [] (fnScope 28) (fnBody 28) :=
  hK.elim fun P hK => isDef_mk (fd := fdG (hd.heap_39 P) 154 (by kernel_rfl)) (by rw [hK.1]; kernel_rfl) (by rw [hK.1]; exact fd_at _) (by kernel_rfl) (by kernel_rfl) (by kernel_rfl) (by kernel_rfl) (by kernel_rfl) (by rw [hK.1]; kernel_rfl) (bt2 (fun _ _ => by kernel_rfl)) (by kernel_rfl) (by kernel_rfl) (by kernel_rfl) (by kernel_rfl) (by kernel_rfl) (by kernel_rfl) (by kernel_rfl)
theorem d_as_kind {g : Glb} (hK : OnK g) : IsDef g 161 ["x", "kind"] [] (fnScope 29) (fnBody 29) :=
  hK.elim fun P hK => isDef_mk (fd := fdG (hd.heap_39 P) 161 (by kernel_rfl)) (by rw [hK.1]; kernel_rfl) (by rw [hK.1]; exact fd_at _) (by kernel_rfl) (by kernel_rfl) (by kernel_rfl) (by kernel_rfl) (by kernel_rfl) (by rw [hK.1]; kernel_rfl) (bt2 (fun _ _ => by kernel_rfl)) (by kernel_rfl) (by kernel_rfl) (by kernel_rfl) (by kernel_rfl) (by kernel_rfl) (by kernel_rfl) (by kernel_rfl)
theorem d_resolve_name {g : Glb} (hK : OnK g) : IsDef g 168 ["name", "scope"] [] (fnScope 30) (fnBody 30) :=
  hK.elim fun P hK => isDef_mk (fd := fdG (hd.heap_39 P) 168 (by kernel_rfl)) (by rw [hK.1]; kernel_rfl) (by rw [hK.1]; exact fd_at _) (by kernel_rfl) (by kernel_rfl) (by kernel_rfl) (by kernel_rfl) (by kernel_rfl) (by rw [hK.1]; kernel_rfl) (bt2 (fun _ _ => by kernel_rfl)) (by kernel_rfl) (by kernel_rfl) (by kernel_rfl) (by kernel_rfl) (by kernel_rfl) (by kernel_rfl) (by kernel_rfl)
theorem d_resolve_whole {g : Glb} (hK : OnK g) : IsDef g 175 ["tree", "scope"] [] (fnScope 31) (fnBody 31) :=
  hK.elim fun P hK => isDef_mk (fd := fdG (hd.heap_39 P) 175 (by kernel_rfl)) (by rw [hK.1]; kernel_rfl) (by rw [hK.1]; exact fd_at _) (by kernel_rfl) (by kernel_rfl) (by kernel_rfl) (by kernel_rfl) (by kernel_rfl) (by rw [hK.1]; kernel_rfl) (bt2 (fun _ _ => by kernel_rfl)) (by kernel_rfl) (by kernel_rfl) (by kernel_rfl) (by kernel_rfl) (by kernel_rfl) (by kernel_rfl) (by kernel_rfl)
theorem d_resolve_truth {g : Glb} (hK : OnK g) : IsDef g 182 ["tree", "scope"] [] (fnScope 32) (fnBody 32) :=
  hK.elim fun P hK => isDef_mk (fd := fdG (hd.heap_39 P) 182 (by kernel_rfl)) (by rw [hK.1]; kernel_rfl) (by rw [hK.1]; exact fd_at _) (by kernel_rfl) (by kernel_rfl) (by kernel_rfl) (by kernel_rfl) (by kernel_rfl) (by rw [hK.1]; kernel_rfl) (bt2 (fun _ _ => by kernel_rfl)) (by kernel_rfl) (by kernel_rfl) (by kernel_rfl) (by kernel_rfl) (by kernel_rfl) (by kernel_rfl) (by kernel_rfl)
theorem d_resolve_ref {g : Glb} (hK : OnK g) : IsDef g 187 ["name", "args", "scope"] [] (fnScope 33) (fnBody 33) :=
  hK.elim fun P hK => isDef_mk (fd := fdG (hd.heap_39 P) 187 (by kernel_rfl)) (by rw [hK.1]; kernel_rfl) (by rw [hK.1]; exact fd_at _) (by kernel_rfl) (by kernel_rfl) (by kernel_rfl) (by kernel_rfl) (by kernel_rfl) (by rw [hK.1]; kernel_rfl) (bt3 (fun _ _ _ => by kernel_rfl)) (by kernel_rfl) (by kernel_rfl) (by kernel_rfl) (by kernel_rfl) (by kernel_rfl) (by kernel_rfl) (by kernel_rfl)
theorem d_resolve_args {g : Glb} (hK : OnK g) : IsDef g 201 ["args", "scope"] [] (fnScope 35) (fnBody 35) :=
  hK.elim fun P hK => isDef_mk (fd := fdG (hd.heap_39 P) 201 (by kernel_rfl)) (by rw [hK.1]; kernel_rfl) (by rw [hK.1]; exact fd_at _) (by kernel_rfl) (by kernel_rfl) (by kernel_rfl) (by kernel_rfl) (by kernel_rfl) (by rw [hK.1]; kernel_rfl) (bt2 (fun _ _ => by kernel_rfl)) (by kernel_rfl) (by kernel_rfl) (by kernel_rfl) (by kernel_rfl) (by kernel_rfl) (by kernel_rfl) (by kernel_rfl)
theorem d_resolve_sub {g : Glb} (hK : OnK g) : IsDef g 208 ["tree", "scope"] [] (fnScope 36) (fnBody 36) :=
  hK.elim fun P hK => isDef_mk (fd := fdG (hd.heap_39 P) 208 (by kernel_rfl)) (by rw [hK.1]; kernel_rfl) (by rw [hK.1]; exact fd_at _) (by kernel_rfl) (by kernel_rfl) (by kernel_rfl) (by kernel_rfl) (by kernel_rfl) (by rw [hK.1]; kernel_rfl) (bt2 (fun _ _ => by kernel_rfl)) (by kernel_rfl) (by kernel_rfl) (by kernel_rfl) (by kernel_rfl) (by kernel_rfl) (by kernel_rfl) (by kernel_rfl)
theorem d_resolve_unary {g : Glb} (hK : OnK g) : IsDef g 215 ["op", "tree", "scope"] [] (fnScope 37) (fnBody 37) :=
  hK.elim fun P hK => isDef_mk (fd := fdG (hd.heap_39 P) 215 (by kernel_rfl)) (by rw [hK.1]; kernel_rfl) (by rw [hK.1]; exact fd_at _) (by kernel_rfl) (by kernel_rfl) (by kernel_rfl) (by kernel_rfl) (by kernel_rfl) (by rw [hK.1]; kernel_rfl) (bt3 (fun _ _ _ => by kernel_rfl)) (by kernel_rfl) (by kernel_rfl) (by kernel_rfl) (by kernel_rfl) (by kernel_rfl) (by kernel_rfl) (by kernel_rfl)
theorem d_resolve_power {g : Glb} (hK : OnK g) : IsDef g 222 ["x", "y"] [] (fnScope 38) (fnBody 38) :=
  hK.elim fun P hK => isDef_mk (fd := fdG (hd.heap_39 P) 222 (by kernel_rfl)) (by rw [hK.1]; kernel_rfl) (by rw [hK.1]; exact fd_at _) (by kernel_rfl) (by kernel_rfl) (by kernel_rfl) (by kernel_rfl) (by kernel_rfl) (by rw [hK.1]; kernel_rfl) (bt2 (fun _ _ => by kernel_rfl)) (by kernel_rfl) (by kernel_rfl) (by kernel_rfl) (by kernel_rfl) (by kernel_rfl) (by kernel_rfl) (by kernel_rfl)
theorem d_resolve_relation {g : Glb} (hK : OnK g) : IsDef g 229 ["op", "x", "y"] [] (fnScope 39) (fnBody 39) :=
  hK.elim fun P hK => isDef_mk (fd := fdG (hd.heap_39 P) 229 (by kernel_rfl)) (by rw [hK.1]; kernel_rfl) (by rw [hK.1]; exact fd_at _) (by kernel_rfl) (by kernel_rfl) (by kernel_rfl) (by kernel_rfl) (by kernel_rfl) (by rw [hK.1]; kernel_rfl) (bt3 (fun _ _ _ => by kernel_rfl)) (by kernel_rfl) (by kernel_rfl) (by kernel_rfl) (by kernel_rfl) (by kernel_rfl) (by kernel_rfl) (by kernel_rfl)
theorem d_resolve_binary {g : Glb} (hK : OnK g) : IsDef g 236 ["op", "left", "right", "scope"] [] (fnScope 40) (fnBody 40) :=
  hK.elim fun P hK => isDef_mk (fd := fdG (hd.heap_39 P) 236 (by kernel_rfl)) (by rw [hK.1]; kernel_rfl) (by rw [hK.1]; exact fd_at _) (by kernel_rfl) (by kernel_rfl) (by kernel_rfl) (by kernel_rfl) (by kernel_rfl) (by rw [hK.1]; kernel_rfl) (bt4 (fun _ _ _ _ => by kernel_rfl)) (by kernel_rfl) (by kernel_rfl) (by kernel_rfl) (by kernel_rfl) (by kernel_rfl) (by kernel_rfl) (by kernel_rfl)
theorem d_resolve_expr {g : Glb} (hK : OnK g) : IsDef g 243 ["tree", "scope"] [] (fnScope 41) (fnBody 41) :=
  hK.elim fun P hK => isDef_mk (fd := fdG (hd.heap_39 P) 243 (by kernel_rfl)) (by rw [hK.1]; kernel_rfl) (by rw [hK.1]; exact fd_at _) (by kernel_rfl) (by kernel_rfl) (by kernel_rfl) (by kernel_rfl) (by kernel_rfl) (by rw [hK.1]; kernel_rfl) (bt2 (fun _ _ => by kernel_rfl)) (by kernel_rfl) (by kernel_rfl) (by kernel_rfl) (by kernel_rfl) (by kernel_rfl) (by kernel_rfl) (by kernel_rfl)
theorem d_resolve_value {g : Glb} (hK : OnK g) : IsDef g 250 ["tree", "scope"] [] (fnScope 42) (fnBody 42) :=
  hK.elim fun P hK => isDef_mk (fd := fdG (hd.heap_39 P) 250 (by kernel_rfl)) (by rw [hK.1]; kernel_rfl) (by rw [hK.1]; exact fd_at _) (by kernel_rfl) (by kernel_rfl) (by kernel_rfl) (by kernel_rfl) (by kernel_rfl) (by rw [hK.1]; kernel_rfl) (bt2 (fun _ _ => by kernel_rfl)) (by kernel_rfl) (by kernel_rfl) (by kernel_rfl) (by kernel_rfl) (by kernel_rfl) (by kernel_rfl) (by kernel_rfl)
theorem d_Implicit_init {g : Glb} (hK : OnK g) : IsDef g 264 ["self"] [] (mtScope 45 0) (mtBody 45 0) :=
  hK.elim fun P hK => isDef_mk (fd := fdG (hd.heap_39 P) 264 (by kernel_rfl)) (by rw [hK.1]; kernel_rfl) (by rw [hK.1]; exact fd_at _) (by kernel_rfl) (by kernel_rfl) (by kernel_rfl) (by kernel_rfl) (by kernel_rfl) (by rw [hK.1]; kernel_rfl) (bt1 (fun _ => by kernel_rfl)) (by kernel_rfl) (by kernel_rfl) (by kernel_rfl) (by kernel_rfl) (by kernel_rfl) (by kernel_rfl) (by kernel_rfl)
theorem d_Implicit_add {g : Glb} (hK : OnK g) : IsDef g 271 ["self", "rules"] [] (mtScope 45 1) (mtBody 45 1) :=
  hK.elim fun P hK => isDef_mk (fd := fdG (hd.heap_39 P) 271 (by kernel_rfl)) (by rw [hK.1]; kernel_rfl) (by rw [hK.1]; exact fd_at _) (by kernel_rfl) (by kernel_rfl) (by kernel_rfl) (by kernel_rfl) (by kernel_rfl) (by rw [hK.1]; kernel_rfl) (bt2 (fun _ _ => by kernel_rfl)) (by kernel_rfl) (by kernel_rfl) (by kernel_rfl) (by kernel_rfl) (by kernel_rfl) (by kernel_rfl) (by kernel_rfl)
theorem d_Implicit_of {g : Glb} (hK : OnK g) : IsDef g 278 ["self", "name"] [] (mtScope 45 2) (mtBody 45 2) :=
  hK.elim fun P hK => isDef_mk (fd := fdG (hd.heap_39 P) 278 (by kernel_rfl)) (by rw [hK.1]; kernel_rfl) (by rw [hK.1]; exact fd_at _) (by kernel_rfl) (by kernel_rfl) (by kernel_rfl) (by kernel_rfl) (by kernel_rfl) (by rw [hK.1]; kernel_rfl) (bt2 (fun _ _ => by kernel_rfl)) (by kernel_rfl) (by kernel_rfl) (by kernel_rfl) (by kernel_rfl) (by kernel_rfl) (by kernel_rfl) (by kernel_rfl)
theorem d_tell_letters {g : Glb} (hK : OnK g) : IsDef g 292 ["implicit", "rule", "low", "high"] [] (fnScope 46) (fnBody 46) :=
  hK.elim fun P hK => isDef_mk (fd := fdG (hd.heap_39 P) 292 (by kernel_rfl)) (by rw [hK.1]; kernel_rfl) (by rw [hK.1]; exact fd_at _) (by kernel_rfl) (by kernel_rfl) (by kernel_rfl) (by kernel_rfl) (by kernel_rfl) (by rw [hK.1]; kernel_rfl) (bt4 (fun _ _ _ _ => by kernel_rfl)) (by kernel_rfl) (by kernel_rfl) (by kernel_rfl) (by kernel_rfl) (by kernel_rfl) (by kernel_rfl) (by kernel_rfl)
theorem d_Symbol_init {g : Glb} (hK : OnK g) : IsDef g 328 ["self", "name"] [] (mtScope 50 0) (mtBody 50 0) :=
  hK.elim fun P hK => isDef_mk (fd := fdG (hd.heap_39 P) 328 (by kernel_rfl)) (by rw [hK.1]; kernel_rfl) (by rw [hK.1]; exact fd_at _) (by kernel_rfl) (by kernel_rfl) (by kernel_rfl) (by kernel_rfl) (by kernel_rfl) (by rw [hK.1]; kernel_rfl) (bt2 (fun _ _ => by kernel_rfl)) (by kernel_rfl) (by kernel_rfl) (by kernel_rfl) (by kernel_rfl) (by kernel_rfl) (by kernel_rfl) (by kernel_rfl)
theorem d_law_rest {g : Glb} (hK : OnK g) : IsDef g 342 [] [] (fnScope 52) (fnBody 52) :=
  hK.elim fun P hK => isDef_mk (fd := fdG (hd.heap_39 P) 342 (by kernel_rfl)) (by rw [hK.1]; kernel_rfl) (by rw [hK.1]; exact fd_at _) (by kernel_rfl) (by kernel_rfl) (by kernel_rfl) (by kernel_rfl) (by kernel_rfl) (by rw [hK.1]; kernel_rfl) (bt0 (by kernel_rfl)) (by kernel_rfl) (by kernel_rfl) (by kernel_rfl) (by kernel_rfl) (by kernel_rfl) (by kernel_rfl) (by kernel_rfl)
theorem d_law_told {g : Glb} (hK : OnK g) : IsDef g 350 [] [] (fnScope 54) (fnBody 54) :=
  hK.elim fun P hK => isDef_mk (fd := fdG (hd.heap_39 P) 350 (by kernel_rfl)) (by rw [hK.1]; kernel_rfl) (by rw [hK.1]; exact fd_at _) (by kernel_rfl) (by kernel_rfl) (by kernel_rfl) (by kernel_rfl) (by kernel_rfl) (by rw [hK.1]; kernel_rfl) (bt0 (by kernel_rfl)) (by kernel_rfl) (by kernel_rfl) (by kernel_rfl) (by kernel_rfl) (by kernel_rfl) (by kernel_rfl) (by kernel_rfl)
theorem d_law_dims {g : Glb} (hK : OnK g) : IsDef g 357 [] [] (fnScope 55) (fnBody 55) :=
  hK.elim fun P hK => isDef_mk (fd := fdG (hd.heap_39 P) 357 (by kernel_rfl)) (by rw [hK.1]; kernel_rfl) (by rw [hK.1]; exact fd_at _) (by kernel_rfl) (by kernel_rfl) (by kernel_rfl) (by kernel_rfl) (by kernel_rfl) (by rw [hK.1]; kernel_rfl) (bt0 (by kernel_rfl)) (by kernel_rfl) (by kernel_rfl) (by kernel_rfl) (by kernel_rfl) (by kernel_rfl) (by kernel_rfl) (by kernel_rfl)
theorem d_law_join {g : Glb} (hK : OnK g) : IsDef g 364 [] [] (fnScope 56) (fnBody 56) :=
  hK.elim fun P hK => isDef_mk (fd := fdG (hd.heap_39 P) 364 (by kernel_rfl)) (by rw [hK.1]; kernel_rfl) (by rw [hK.1]; exact fd_at _) (by kernel_rfl) (by kernel_rfl) (by kernel_rfl) (by kernel_rfl) (by kernel_rfl) (by rw [hK.1]; kernel_rfl) (bt0 (by kernel_rfl)) (by kernel_rfl) (by kernel_rfl) (by kernel_rfl) (by kernel_rfl) (by kernel_rfl) (by kernel_rfl) (by kernel_rfl)
theorem d_law_draw {g : Glb} (hK : OnK g) : IsDef g 386 ["pen", "many"] [] (fnScope 60) (fnBody 60) :=
  hK.elim fun P hK => isDef_mk (fd := fdG (hd.heap_39 P) 386 (by kernel_rfl)) (by rw [hK.1]; kernel_rfl) (by rw [hK.1]; exact fd_at _) (by kernel_rfl) (by kernel_rfl) (by kernel_rfl) (by kernel_rfl) (by kernel_rfl) (by rw [hK.1]; kernel_rfl) (bt2 (fun _ _ => by kernel_rfl)) (by kernel_rfl) (by kernel_rfl) (by kernel_rfl) (by kernel_rfl) (by kernel_rfl) (by kernel_rfl) (by kernel_rfl)
theorem d_law_tree {g : Glb} (hK : OnK g) : IsDef g 391 ["pen", "depth"] [] (fnScope 61) (fnBody 61) :=
  hK.elim fun P hK => isDef_mk (fd := fdG (hd.heap_39 P) 391 (by kernel_rfl)) (by rw [hK.1]; kernel_rfl) (by rw [hK.1]; exact fd_at _) (by kernel_rfl) (by kernel_rfl) (by kernel_rfl) (by kernel_rfl) (by kernel_rfl) (by rw [hK.1]; kernel_rfl) (bt2 (fun _ _ => by kernel_rfl)) (by kernel_rfl) (by kernel_rfl) (by kernel_rfl) (by kernel_rfl) (by kernel_rfl) (by kernel_rfl) (by kernel_rfl)
theorem d_law_rounded {g : Glb} (hK : OnK g) : IsDef g 398 ["m", "e", "digits"] [] (fnScope 62) (fnBody 62) :=
  hK.elim fun P hK => isDef_mk (fd := fdG (hd.heap_39 P) 398 (by kernel_rfl)) (by rw [hK.1]; kernel_rfl) (by rw [hK.1]; exact fd_at _) (by kernel_rfl) (by kernel_rfl) (by kernel_rfl) (by kernel_rfl) (by kernel_rfl) (by rw [hK.1]; kernel_rfl) (bt3 (fun _ _ _ => by kernel_rfl)) (by kernel_rfl) (by kernel_rfl) (by kernel_rfl) (by kernel_rfl) (by kernel_rfl) (by kernel_rfl) (by kernel_rfl)
theorem d_law_const {g : Glb} (hK : OnK g) : IsDef g 403 ["tree"] [] (fnScope 63) (fnBody 63) :=
  hK.elim fun P hK => isDef_mk (fd := fdG (hd.heap_39 P) 403 (by kernel_rfl)) (by rw [hK.1]; kernel_rfl) (by rw [hK.1]; exact fd_at _) (by kernel_rfl) (by kernel_rfl) (by kernel_rfl) (by kernel_rfl) (by kernel_rfl) (by rw [hK.1]; kernel_rfl) (bt1 (fun _ => by kernel_rfl)) (by kernel_rfl) (by kernel_rfl) (by kernel_rfl) (by kernel_rfl) (by kernel_rfl) (by kernel_rfl) (by kernel_rfl)
theorem d_law_to {g : Glb} (hK : OnK g) : IsDef g 410 ["x", "kind"] [] (fnScope 64) (fnBody 64) :=
  hK.elim fun P hK => isDef_mk (fd := fdG (hd.heap_39 P) 410 (by kernel_rfl)) (by rw [hK.1]; kernel_rfl) (by rw [hK.1]; exact fd_at _) (by kernel_rfl) (by kernel_rfl) (by kernel_rfl) (by kernel_rfl) (by kernel_rfl) (by rw [hK.1]; kernel_rfl) (bt2 (fun _ _ => by kernel_rfl)) (by kernel_rfl) (by kernel_rfl) (by kernel_rfl) (by kernel_rfl) (by kernel_rfl) (by kernel_rfl) (by kernel_rfl)
theorem d_law_value {g : Glb} (hK : OnK g) : IsDef g 417 ["tree", "kinds"] [] (fnScope 65) (fnBody 65) :=
  hK.elim fun P hK => isDef_mk (fd := fdG (hd.heap_39 P) 417 (by kernel_rfl)) (by rw [hK.1]; kernel_rfl) (by rw [hK.1]; exact fd_at _) (by kernel_rfl) (by kernel_rfl) (by kernel_rfl) (by kernel_rfl) (by kernel_rfl) (by rw [hK.1]; kernel_rfl) (bt2 (fun _ _ => by kernel_rfl)) (by kernel_rfl) (by kernel_rfl) (by kernel_rfl) (by kernel_rfl) (by kernel_rfl) (by kernel_rfl) (by kernel_rfl)
theorem d_law_named {g : Glb} (hK : OnK g) : IsDef g 424 ["name", "kinds"] [] (fnScope 66) (fnBody 66) :=
  hK.elim fun P hK => isDef_mk (fd := fdG (hd.heap_39 P) 424 (by kernel_rfl)) (by rw [hK.1]; kernel_rfl) (by rw [hK.1]; exact fd_at _) (by kernel_rfl) (by kernel_rfl) (by kernel_rfl) (by kernel_rfl) (by kernel_rfl) (by rw [hK.1]; kernel_rfl) (bt2 (fun _ _ => by kernel_rfl)) (by kernel_rfl) (by kernel_rfl) (by kernel_rfl) (by kernel_rfl) (by kernel_rfl) (by kernel_rfl) (by kernel_rfl)
theorem d_law_applied {g : Glb} (hK : OnK g) : IsDef g 429 ["name", "parts", "kinds"] [] (fnScope 67) (fnBody 67) :=
  hK.elim fun P hK => isDef_mk (fd := fdG (hd.heap_39 P) 429 (by kernel_rfl)) (by rw [hK.1]; kernel_rfl) (by rw [hK.1]; exact fd_at _) (by kernel_rfl) (by kernel_rfl) (by kernel_rfl) (by kernel_rfl) (by kernel_rfl) (by rw [hK.1]; kernel_rfl) (bt3 (fun _ _ _ => by kernel_rfl)) (by kernel_rfl) (by kernel_rfl) (by kernel_rfl) (by kernel_rfl) (by kernel_rfl) (by kernel_rfl) (by kernel_rfl)
theorem d_law_cut {g : Glb} (hK : OnK g) : IsDef g 434 ["tree", "kinds"] [] (fnScope 68) (fnBody 68) :=
  hK.elim fun P hK => isDef_mk (fd := fdG (hd.heap_39 P) 434 (by kernel_rfl)) (by rw [hK.1]; kernel_rfl) (by rw [hK.1]; exact fd_at _) (by kernel_rfl) (by kernel_rfl) (by kernel_rfl) (by kernel_rfl) (by kernel_rfl) (by rw [hK.1]; kernel_rfl) (bt2 (fun _ _ => by kernel_rfl)) (by kernel_rfl) (by kernel_rfl) (by kernel_rfl) (by kernel_rfl) (by kernel_rfl) (by kernel_rfl) (by kernel_rfl)
theorem d_law_pair {g : Glb} (hK : OnK g) : IsDef g 441 ["sign", "x", "y"] [] (fnScope 69) (fnBody 69) :=
  hK.elim fun P hK => isDef_mk (fd := fdG (hd.heap_39 P) 441 (by kernel_rfl)) (by rw [hK.1]; kernel_rfl) (by rw [hK.1]; exact fd_at _) (by kernel_rfl) (by kernel_rfl) (by kernel_rfl) (by kernel_rfl) (by kernel_rfl) (by rw [hK.1]; kernel_rfl) (bt3 (fun _ _ _ => by kernel_rfl)) (by kernel_rfl) (by kernel_rfl) (by kernel_rfl) (by kernel_rfl) (by kernel_rfl) (by kernel_rfl) (by kernel_rfl)
theorem d_law_typed {g : Glb} (hK : OnK g) : IsDef g 448 ["tree", "kinds"] [] (fnScope 70) (fnBody 70) :=
  hK.elim fun P hK => isDef_mk (fd := fdG (hd.heap_39 P) 448 (by kernel_rfl)) (by rw [hK.1]; kernel_rfl) (by rw [hK.1]; exact fd_at _) (by kernel_rfl) (by kernel_rfl) (by kernel_rfl) (by kernel_rfl) (by kernel_rfl) (by rw [hK.1]; kernel_rfl) (bt2 (fun _ _ => by kernel_rfl)) (by kernel_rfl) (by kernel_rfl) (by kernel_rfl) (by kernel_rfl) (by kernel_rfl) (by kernel_rfl) (by kernel_rfl)
theorem d_law_choose {g : Glb} (hK : OnK g) : IsDef g 455 ["name", "kinds"] [] (fnScope 71) (fnBody 71) :=
  hK.elim fun P hK => isDef_mk (fd := fdG (hd.heap_39 P) 455 (by kernel_rfl)) (by rw [hK.1]; kernel_rfl) (by rw [hK.1]; exact fd_at _) (by kernel_rfl) (by kernel_rfl) (by kernel_rfl) (by kernel_rfl) (by kernel_rfl) (by rw [hK.1]; kernel_rfl) (bt2 (fun _ _ => by kernel_rfl)) (by kernel_rfl) (by kernel_rfl) (by kernel_rfl) (by kernel_rfl) (by kernel_rfl) (by kernel_rfl) (by kernel_rfl)
theorem d_law_symbols {g : Glb} (hK : OnK g) : IsDef g 462 ["kinds"] [] (fnScope 72) (fnBody 72) :=
  hK.elim fun P hK => isDef_mk (fd := fdG (hd.heap_39 P) 462 (by kernel_rfl)) (by rw [hK.1]; kernel_rfl) (by rw [hK.1]; exact fd_at _) (by kernel_rfl) (by kernel_rfl) (by kernel_rfl) (by kernel_rfl) (by kernel_rfl) (by rw [hK.1]; kernel_rfl) (bt1 (fun _ => by kernel_rfl)) (by kernel_rfl) (by kernel_rfl) (by kernel_rfl) (by kernel_rfl) (by kernel_rfl) (by kernel_rfl) (by kernel_rfl)
theorem d_law_rule {g : Glb} (hK : OnK g) : IsDef g 469 ["pen"] [] (fnScope 73) (fnBody 73) :=
  hK.elim fun P hK => isDef_mk (fd := fdG (hd.heap_39 P) 469 (by kernel_rfl)) (by rw [hK.1]; kernel_rfl) (by rw [hK.1]; exact fd_at _) (by kernel_rfl) (by kernel_rfl) (by kernel_rfl) (by kernel_rfl) (by kernel_rfl) (by rw [hK.1]; kernel_rfl) (bt1 (fun _ => by kernel_rfl)) (by kernel_rfl) (by kernel_rfl) (by kernel_rfl) (by kernel_rfl) (by kernel_rfl) (by kernel_rfl) (by kernel_rfl)
theorem d_law_letters {g : Glb} (hK : OnK g) : IsDef g 474 ["rules"] [] (fnScope 74) (fnBody 74) :=
  hK.elim fun P hK => isDef_mk (fd := fdG (hd.heap_39 P) 474 (by kernel_rfl)) (by rw [hK.1]; kernel_rfl) (by rw [hK.1]; exact fd_at _) (by kernel_rfl) (by kernel_rfl) (by kernel_rfl) (by kernel_rfl) (by kernel_rfl) (by rw [hK.1]; kernel_rfl) (bt1 (fun _ => by kernel_rfl)) (by kernel_rfl) (by kernel_rfl) (by kernel_rfl) (by kernel_rfl) (by kernel_rfl) (by kernel_rfl) (by kernel_rfl)
theorem d_law {g : Glb} (hK : OnK g) : IsDef g 479 ["script"] [] (fnScope 75) (fnBody 75) :=
  hK.elim fun P hK => isDef_mk (fd := fdG (hd.heap_39 P) 479 (by kernel_rfl)) (by rw [hK.1]; kernel_rfl) (by rw [hK.1]; exact fd_at _) (by kernel_rfl) (by kernel_rfl) (by kernel_rfl) (by kernel_rfl) (by kernel_rfl) (by rw [hK.1]; kernel_rfl) (bt1 (fun _ => by kernel_rfl)) (by kernel_rfl) (by kernel_rfl) (by kernel_rfl) (by kernel_rfl) (by kernel_rfl) (by kernel_rfl) (by kernel_rfl)
end Mine
end
section
set_option maxHeartbeats 400000
open PySem PySem.W PySem.Spec PySem.Calls PyProof.Rows PySem.Builtin PySem.Builtin.ObjectAttr
namespace Mine
noncomputable def gr (x : PySem.Str) (a : AV) : PySem.Str × AV := (x, a)
noncomputable def gtab : List (PySem.Str × AV) := gr "F77Error" (.raw (.ref 31)) ::
  gr "CheckFault" (.raw (.ref 44)) ::
  gr "INTEGER" (.int 0) ::
  gr "REAL" (.int 1) ::
  gr "DOUBLE" (.int 2) ::
  gr "COMPLEX" (.int 3) ::
  gr "LOGICAL" (.int 4) ::
  gr "CHARACTER" (.int 5) ::
  gr "is_numeric" (.raw (.ref 65)) ::
  gr "higher_kind" (.raw (.ref 72)) ::
  gr "NOUGHT" (.tup [.int 0, .int 0]) ::
  gr "count_digits" (.raw (.ref 80)) ::
  gr "strip_zeros" (.raw (.ref 87)) ::
  gr "round_digits" (.raw (.ref 94)) ::
  gr "round_real" (.raw (.ref 101)) ::
  gr "PROCEDURES" (.tup [.str "func", .str "sub", .str "proc", .str "intr"]) ::
  gr "Scope" (.raw (.ref 122)) ::
  gr "symbol_of" (.raw (.ref 133)) ::
  gr "real_const" (.raw (.ref 140)) ::
  gr "complex_part" (.raw (.ref 147)) ::
  gr "resolve_const" (.raw (.ref 154)) ::
  gr "as_kind" (.raw (.ref 161)) ::
  gr "resolve_name" (.raw (.ref 168)) ::
  gr "resolve_whole" (.raw (.ref 175)) ::
  gr "resolve_truth" (.raw (.ref 182)) ::
  gr "resolve_ref" (.raw (.ref 187)) ::
  gr "put_in" (.raw (.ref 194)) ::
  gr "resolve_args" (.raw (.ref 201)) ::
  gr "resolve_sub" (.raw (.ref 208)) ::
  gr "resolve_unary" (.raw (.ref 215)) ::
  gr "resolve_power" (.raw (.ref 222)) ::
  gr "resolve_relation" (.raw (.ref 229)) ::
  gr "resolve_binary" (.raw (.ref 236)) ::
  gr "resolve_expr" (.raw (.ref 243)) ::
  gr "resolve_value" (.raw (.ref 250)) ::
  gr "LETTERS" (.str "ABCDEFGHIJKLMNOPQRSTUVWXYZ") ::
  gr "Implicit" (.raw (.ref 281)) ::
  gr "tell_letters" (.raw (.ref 292)) ::
  gr "Limits" (.raw (.ref 310)) ::
  gr "Symbol" (.raw (.ref 331)) ::
  gr "_law_rest" (.raw (.ref 342)) ::
  gr "_law_names" (.tup [.str "X1", .str "I1", .str "B1", .str "N1", .str "D1", .str "C1", .str "V1", .str "L1", .str "T1", .str "M1", .str "U1", .str "P1", .str "F1", .str "G1"]) ::
  gr "_law_told" (.raw (.ref 350)) ::
  gr "_law_dims" (.raw (.ref 357)) ::
  gr "_law_join" (.raw (.ref 364)) ::
  gr "_law_consts" (.tup [.tup [.str "int", .int 3], .tup [.str "real", .int 25, .int (-1)], .tup [.str "int", .int 2147483647], .tup [.str "real", .int 12345675, .int 2], .tup [.str "dble", .int 100, .int 0], .tup [.str "log", .bool true], .tup [.str "char", .str "ab"], .tup [.str "cplx", .tup [.str "int", .int (-1)], .tup [.str "real", .int 5, .int (-1)]], .tup [.str "int", .int 2147483648], .tup [.str "real", .int 99999995, .int 0]]) ::
  gr "_law_signs" (.tup [.str "+", .str "-", .str "*", .str "/", .str "**", .str "**", .str ".EQ.", .str ".LT.", .str ".GE.", .str "//", .str ".AND.", .str ".NEQV."]) ::
  gr "_law_words" (.tup [.str "add", .str "sub", .str "mul", .str "div", .str "", .str "", .str "eq", .str "lt", .str "ge", .str "", .str "and", .str "neqv"]) ::
  gr "_law_draw" (.raw (.ref 386)) ::
  gr "_law_tree" (.raw (.ref 391)) ::
  gr "_law_rounded" (.raw (.ref 398)) ::
  gr "_law_const" (.raw (.ref 403)) ::
  gr "_law_to" (.raw (.ref 410)) ::
  gr "_law_value" (.raw (.ref 417)) ::
  gr "_law_named" (.raw (.ref 424)) ::
  gr "_law_applied" (.raw (.ref 429)) ::
  gr "_law_cut" (.raw (.ref 434)) ::
  gr "_law_pair" (.raw (.ref 441)) ::
  gr "_law_typed" (.raw (.ref 448)) ::
  gr "_law_choose" (.raw (.ref 455)) ::
  gr "_law_symbols" (.raw (.ref 462)) ::
  gr "_law_rule" (.raw (.ref 469)) ::
  gr "_law_letters" (.raw (.ref 474)) ::
  gr "law" (.raw (.ref 479)) ::
  gr "len" (.raw (.builtin "len")) ::
  gr "abs" (.raw (.builtin "abs")) ::
  gr "min" (.raw (.builtin "min")) ::
  gr "max" (.raw (.builtin "max")) ::
  gr "divmod" (.raw (.builtin "divmod")) ::
  gr "chr" (.raw (.builtin "chr")) ::
  gr "ord" (.raw (.builtin "ord")) ::
  gr "range" (.raw (.type "range")) ::
  gr "list" (.raw (.type "list")) ::
  gr "tuple" (.raw (.type "tuple")) ::
  gr "str" (.raw (.type "str")) ::
  gr "Exception" (.raw (.type "Exception")) :: []
noncomputable def sumsR : List (PySem.Str × Tok × PySem.Str × Tok) := [("+", 326, "add", 327), ("-", 328, "sub", 329), ("*", 330, "mul", 331), ("/", 332, "div", 333)]
noncomputable def relsR : List (PySem.Str × Tok × PySem.Str × Tok) := [(".EQ.", 339, "eq", 340), (".NE.", 341, "ne", 342), (".LT.", 343, "lt", 344), (".LE.", 345, "le", 346), (".GT.", 347, "gt", 348), (".GE.", 349, "ge", 350)]
noncomputable def jncsR : List (PySem.Str × Tok × PySem.Str × Tok) := [(".AND.", 358, "and", 359), (".OR.", 360, "or", 361), (".EQV.", 362, "eqv", 363), (".NEQV.", 364, "neqv", 365)]
noncomputable def gtabA : List (PySem.Str × AV) := gr "SUMS" (.dct (rowsD sumsR)) :: gr "RELATIONS" (.dct (rowsD relsR)) :: gr "JUNCTIONS" (.dct (rowsD jncsR)) :: gtab
noncomputable def flds : List (Addr × List PySem.Str) := [(122, ["symbols", "choose", "limits", "given", "open"]), (281, ["rules", "told"]), (310, ["width", "real_digits", "double_digits", "top_exponent", "steps", "continuations", "columns", "depth"]), (331, ["name", "kind", "length", "dims", "use", "is_dummy", "value", "common", "is_saved"])]
noncomputable def fldOf (C : Addr) (x : PySem.Str) : List (Addr × List PySem.Str) → Bool
  | [] => false
  | p :: r => match Nat.beq p.1 C with
    | true => inS x p.2
    | false => fldOf C x r
noncomputable def mtOf (C : Addr) (x : PySem.Str) : Option Addr := match Nat.beq C 281 with
  | true => match seq x "add" with
    | true => some 271
    | false => match seq x "of" with
      | true => some 278
      | false => none
  | false => none
noncomputable def cfOf (C : Addr) (x : PySem.Str) : Bool := match Nat.beq C 122 with
  | true => seq x "choose"
  | false => false
noncomputable def TT (g : Glb) : Tabs := ⟨gtabA, mtOf, fun C x => fldOf C x flds, cfOf, Valid g⟩

/-! ## checks of the tables -/
noncomputable def noGetB (K : Frag) (C : Addr) (n : PySem.Str) : Bool := match findIn K (.ref C) n with
  | some a => noGet K a
  | none => false
noncomputable def fldB (K : Frag) (C : Addr) (n : PySem.Str) : Bool := match plainGet K C n, hasDictIn K C with
  | true, true => noGetB K C n
  | _, _ => false
noncomputable def isSet (o : Option (Option Value)) (s : String) : Bool := match o with
  | some (some (.builtin t)) => decide (t = s)
  | _ => false
noncomputable def isSN (o : Option (Option Value)) : Bool := match o with
  | some none => true
  | _ => false
noncomputable def setB (K : Frag) (C : Addr) (n : PySem.Str) : Bool := match isSet (findIn K (.ref C) "__setattr__") "object.__setattr__", plainOver K C with
  | true, true => match isSN (takerIn K C n) with
    | true => hasDictIn K C
    | false => false
  | _, _ => false
noncomputable def allS (p : PySem.Str → Bool) : List PySem.Str → Bool
  | [] => true
  | x :: r => match p x with
    | true => allS p r
    | false => false
noncomputable def allC (p : Addr → PySem.Str → Bool) : List (Addr × List PySem.Str) → Bool
  | [] => true
  | q :: r => match allS (p q.1) q.2 with
    | true => allC p r
    | false => false
theorem inS_of {x : PySem.Str} : ∀ {l : List PySem.Str}, inS x l = true → x ∈ l
  | [], h => by cases h
  | y :: r, h => by
    unfold inS at h
    split at h
    · rename_i e; rw [seq_iff.mp e]; exact .head _
    · exact .tail _ (inS_of h)
theorem allS_at {p : PySem.Str → Bool} : ∀ {l : List PySem.Str}, allS p l = true → ∀ x ∈ l, p x = true
  | [], _, _, hx => (List.not_mem_nil hx).elim
  | y :: r, h, x, hx => by
    unfold allS at h
    split at h
    · rename_i e
      cases hx with
      | head => exact e
      | tail _ hx => exact allS_at h x hx
    · cases h
theorem allC_at {p : Addr → PySem.Str → Bool} {C : Addr} {x : PySem.Str} : ∀ {l : List (Addr × List PySem.Str)}, allC p l = true → fldOf C x l = true → p C x = true
  | [], _, hx => by cases hx
  | q :: r, h, hx => by
    unfold allC at h
    split at h
    · rename_i e
      unfold fldOf at hx
      split at hx
      · rename_i e2
        have := allS_at e x (inS_of hx)
        rw [Nat.eq_of_beq_eq_true e2] at this
        exact this
      · exact allC_at h hx
    · cases h
theorem fldB_iff {g : Glb} {C : Addr} {n : PySem.Str} (h : fldB g.K C n = true) : FldOk g C n := by
  unfold fldB at h
  split at h
  · rename_i h1 h2
    unfold noGetB at h
    split at h
    · rename_i a ha
      exact ⟨h1, h2, a, ha, h⟩
    · cases h
  · cases h
theorem isSet_iff {o : Option (Option Value)} {s : String} (h : isSet o s = true) : o = some (some (.builtin s)) := by
  unfold isSet at h
  split at h
  · rw [of_decide_eq_true h]
  · cases h
theorem isSN_iff {o : Option (Option Value)} (h : isSN o = true) : o = some none := by
  unfold isSN at h
  split at h
  · rfl
  · cases h
theorem setB_iff {g : Glb} {C : Addr} {n : PySem.Str} (h : setB g.K C n = true) : SetOk g C n := by
  unfold setB at h
  split at h
  · rename_i h1 h2
    split at h
    · rename_i h3
      exact ⟨isSet_iff h1, h2, isSN_iff h3, h⟩
    · cases h
  · cases h
noncomputable def isFnd (o : Option (Option Value)) (f : Addr) : Bool := match o with
  | some (some (.ref t)) => Nat.beq t f
  | _ => false
theorem isFnd_iff {o : Option (Option Value)} {f : Addr} (h : isFnd o f = true) : o = some (some (.ref f)) := by
  unfold isFnd at h
  split at h
  · rw [Nat.eq_of_beq_eq_true h]
  · cases h
noncomputable def mtB (K : Frag) (C : Addr) (n : PySem.Str) (f : Addr) : Bool := match plainGet K C n, isFnd (findIn K (.ref C) n) f with
  | true, true => isFn K (.ref f)
  | _, _ => false
theorem mtB_iff {K : Frag} {C : Addr} {n : PySem.Str} {f : Addr} (h : mtB K C n f = true) : plainGet K C n = true ∧ findIn K (.ref C) n = some (some (.ref f)) ∧ isFn K (.ref f) = true := by
  unfold mtB at h
  split at h
  · rename_i h1 h2
    exact ⟨h1, isFnd_iff h2, h⟩
  · cases h
/-- what the head gives -/
structure Real (g : Glb) : Prop where
  k : OnK g
  cf : g.cf = 44
  h : ∃ B, g.K.In B ∧ Top g.p g.loose g.mean g.mg g.mb B
theorem Real.gt {g : Glb} (Z : Real g) {x : PySem.Str} {v : Value} (h : nsIn g.K mainGlobals x = some (some v)) : g.mg x = some v := by
  obtain ⟨B, X, T⟩ := Z.h
  exact mg_of X T.g h
/-- parts of a tree, by which a written shape is named -/
noncomputable def ePos : Expr → Pos
  | .BoolOp _ _ p => p
  | .NamedExpr _ _ p => p
  | .BinOp _ _ _ p => p
  | .UnaryOp _ _ p => p
  | .Lambda _ _ _ p => p
  | .IfExp _ _ _ p => p
  | .Dict _ _ p => p
  | .Set _ _ p => p
  | .ListComp _ _ _ p => p
  | .SetComp _ _ _ p => p
  | .DictComp _ _ _ _ p => p
  | .GeneratorExp _ _ _ p => p
  | .Await _ p => p
  | .Yield _ p => p
  | .YieldFrom _ p => p
  | .Compare _ _ _ p => p
  | .Call _ _ _ p => p
  | .FormattedValue _ _ _ p => p
  | .JoinedStr _ p => p
  | .Constant _ _ p => p
  | .Attribute _ _ p => p
  | .Subscript _ _ p => p
  | .Starred _ p => p
  | .Name _ p => p
  | .List _ p => p
  | .Tuple _ _ p => p
  | .Slice _ _ _ p => p
noncomputable def eKids : Expr → List Expr
  | .BoolOp _ _ _ => []
  | .NamedExpr _ _ _ => []
  | .BinOp _ _ _ _ => []
  | .UnaryOp _ _ _ => []
  | .Lambda _ _ _ _ => []
  | .IfExp _ _ _ _ => []
  | .Dict _ _ _ => []
  | .Set _ _ _ => []
  | .ListComp _ _ _ _ => []
  | .SetComp _ _ _ _ => []
  | .DictComp _ _ _ _ _ => []
  | .GeneratorExp _ _ _ _ => []
  | .Await _ _ => []
  | .Yield _ _ => []
  | .YieldFrom _ _ => []
  | .Compare l _ cs _ => l :: cs
  | .Call f as _ _ => f :: as
  | .FormattedValue _ _ _ _ => []
  | .JoinedStr _ _ => []
  | .Constant _ _ _ => []
  | .Attribute v _ _ => [v]
  | .Subscript v s _ => [v, s]
  | .Starred _ _ => []
  | .Name _ _ => []
  | .List _ _ => []
  | .Tuple _ _ _ => []
  | .Slice _ u _ _ => u.toList
noncomputable def sPos : Stmt → Pos
  | .FunctionDef _ _ _ _ _ _ _ _ _ p => p
  | .AsyncFunctionDef _ _ _ _ _ _ _ _ _ p => p
  | .ClassDef _ _ _ _ _ _ _ _ _ _ p => p
  | .Return _ p => p
  | .Delete _ p => p
  | .Assign _ _ p => p
  | .TypeAlias _ _ _ _ _ _ p => p
  | .AugAssign _ _ _ p => p
  | .AnnAssign _ _ _ _ p => p
  | .For _ _ _ _ p => p
  | .AsyncFor _ _ _ _ p => p
  | .While _ _ _ p => p
  | .If _ _ _ p => p
  | .With _ _ p => p
  | .AsyncWith _ _ p => p
  | .Match _ _ p => p
  | .Raise _ _ p => p
  | .Try _ _ _ _ p => p
  | .TryStar _ _ _ _ p => p
  | .Assert _ _ p => p
  | .Import _ p => p
  | .ImportFrom _ _ _ p => p
  | .Global _ p => p
  | .Nonlocal _ p => p
  | .Expr _ p => p
  | .Pass p => p
  | .Break p => p
  | .Continue p => p
noncomputable def sKids : Stmt → List Expr
  | .FunctionDef _ _ _ _ _ _ _ _ _ _ => []
  | .AsyncFunctionDef _ _ _ _ _ _ _ _ _ _ => []
  | .ClassDef _ _ _ _ _ _ _ _ _ _ _ => []
  | .Return v _ => v.toList
  | .Delete _ _ => []
  | .Assign ts v _ => v :: ts
  | .TypeAlias _ _ _ _ _ _ _ => []
  | .AugAssign _ _ _ _ => []
  | .AnnAssign _ _ _ _ _ => []
  | .For _ _ _ _ _ => []
  | .AsyncFor _ _ _ _ _ => []
  | .While _ _ _ _ => []
  | .If _ _ _ _ => []
  | .With _ _ _ => []
  | .AsyncWith _ _ _ => []
  | .Match _ _ _ => []
  | .Raise _ _ _ => []
  | .Try _ _ _ _ _ => []
  | .TryStar _ _ _ _ _ => []
  | .Assert _ _ _ => []
  | .Import _ _ => []
  | .ImportFrom _ _ _ _ => []
  | .Global _ _ => []
  | .Nonlocal _ _ => []
  | .Expr v _ => [v]
  | .Pass _ => []
  | .Break _ => []
  | .Continue _ => []
noncomputable def eK (e : Expr) : Nat := match e with
  | .Constant _ k _ => k
  | _ => 0
noncomputable def kid (i : Nat) (e : Expr) : Expr := (eKids e)[i]?.getD default
noncomputable def sKid (i : Nat) (s : Stmt) : Expr := (sKids s)[i]?.getD default
noncomputable def sAtL (i : Nat) (l : List Stmt) : Stmt := l[i]?.getD default
noncomputable def ib : List Stmt := mtBody 1 0
theorem init_eq : ib = [.Expr (.Call (.Attribute (.Name "Exception" (ePos (kid 0 (kid 0 (sKid 0 (sAtL 0 ib)))))) "__init__" (ePos (kid 0 (sKid 0 (sAtL 0 ib))))) [.Name "self" (ePos (kid 1 (sKid 0 (sAtL 0 ib)))), .Name "text" (ePos (kid 2 (sKid 0 (sAtL 0 ib))))] [] (ePos (sKid 0 (sAtL 0 ib)))) (sPos (sAtL 0 ib)),
    .Assign [.Attribute (.Name "self" (ePos (kid 0 (sKid 1 (sAtL 1 ib))))) "text" (ePos (sKid 1 (sAtL 1 ib)))] (.Name "text" (ePos (sKid 0 (sAtL 1 ib)))) (sPos (sAtL 1 ib))] := by kernel_rfl
theorem init_shape : ∃ p1 p2 p3 p4 p5 p6 p7 p8 p9 p10, ib = [.Expr (.Call (.Attribute (.Name "Exception" p1) "__init__" p2) [.Name "self" p3, .Name "text" p4] [] p5) p6, .Assign [.Attribute (.Name "self" p7) "text" p8] (.Name "text" p9) p10] ∧ Nat.beq p2.endLine p5.line = true :=
  ⟨_, _, _, _, _, _, _, _, _, _, init_eq, by kernel_rfl⟩
theorem cfOk {g : Glb} (Z : Real g) : CfOk g 28 := by
  obtain ⟨P, hK, hP⟩ := Z.k
  obtain ⟨B, X, T⟩ := Z.h
  have hcf := Z.cf
  refine ⟨⟨_, _, d_F77Error_init Z.k, ⟨?_, by kernel_rfl, by kernel_rfl, by kernel_rfl⟩⟩, ⟨mg_none_of X T.g (by rw [hK]; kernel_rfl), (T.builtins "Exception" (by decide)).trans (by kernel_rfl)⟩, by rw [hK]; kernel_rfl, by rw [hK, hcf]; kernel_rfl, by rw [hK, hcf]; kernel_rfl, by rw [hK, hcf]; kernel_rfl, by rw [hK]; kernel_rfl, ?_, ?_, ?_⟩
  · exact init_shape
  · rw [hcf]
    exact ⟨"CheckFault", "CheckFault", 43, [.ref 31], [.ref 31, .type "Exception", .type "BaseException", .type "object"], true, [], [], false, none, none, some (.ref 35), none, some (.str "CheckFault" 218), some (.str "CheckFault" 226), some (.bool true), [.type "Exception", .type "BaseException", .type "object"], by rw [hK]; kernel_rfl, fun x => by simp [List.contains_cons], PySem.F.excBase_Exception, by decide⟩
  · rw [hcf]
    exact ⟨{ name := "CheckFault", bases := [.ref 31], mro := [.ref 44, .ref 31, .type "Exception", .type "BaseException", .type "object"], ns := 43, qualname := "CheckFault" }, by rw [hK]; kernel_rfl, by decide, by decide, fun _ => by kernel_rfl, by decide⟩
  · rw [hcf]
    exact mg_of X T.g (by rw [hK]; kernel_rfl)
theorem gt_row {g : Glb} (Z : Real g) {x : PySem.Str} {a : Addr} {n : Nat} (l : List (PySem.Str × Tok × PySem.Str × Tok)) (h : nsIn g.K mainGlobals x = some (some (.ref a))) (hl : g.K.lookup a = some (dictOf (mkEs g.w.params l) n)) (hn : ((rowsD l).map (·.1)).Nodup) (hd : (x == ("__debug__" : PySem.Str)) = false) :
    (x == ("__debug__" : PySem.Str)) = false ∧ ∃ v, V g ⟨[], []⟩ v (.dct (rowsD l)) ∧ (g.mg x = some v ∨ (g.mg x = none ∧ g.mb x = some v)) := ⟨hd, _, V.rows l hl hn, .inl (Z.gt h)⟩
theorem tabOk {g : Glb} (Z : Real g) : TabOk g (TT g) := by
  obtain ⟨P, hK, hP⟩ := id Z.k
  obtain ⟨B, X, T⟩ := id Z.h
  refine ⟨by rw [hK]; kernel_rfl, fun x a e => ?_⟩
  have e : lk gtabA x = some a := e
  unfold gtabA gr at e
  rw [lk_cons] at e
  split at e
  · rename_i q; subst q; cases e
    exact gt_row Z (a := 102) (n := 4) sumsR (by rw [hK]; kernel_rfl) (by rw [hK, hP]; kernel_rfl) (by decide) (by decide)
  · rw [lk_cons] at e
    split at e
    · rename_i q; subst q; cases e
      exact gt_row Z (a := 103) (n := 6) relsR (by rw [hK]; kernel_rfl) (by rw [hK, hP]; kernel_rfl) (by decide) (by decide)
    · rw [lk_cons] at e
      split at e
      · rename_i q; subst q; cases e
        exact gt_row Z (a := 104) (n := 4) jncsR (by rw [hK]; kernel_rfl) (by rw [hK, hP]; kernel_rfl) (by decide) (by decide)
      · exact gtChk_ok X T gtab (by rw [hK]; kernel_rfl) x a e
theorem tok {g : Glb} (Z : Real g) : TOk g (TT g) := by
  obtain ⟨P, hK, hP⟩ := id Z.k
  refine ⟨raiseS_of (cfOk Z), fun C n h => setB_iff ?_, tabOk Z, fun C n h => fldB_iff ?_, fun C n h => ?_, fun C n f h => ?_, fun _ _ _ _ _ _ h => h⟩
  · exact allC_at (p := setB g.K) (l := flds) (by rw [hK]; kernel_rfl) h
  · exact allC_at (p := fldB g.K) (l := flds) (by rw [hK]; kernel_rfl) h
  · have h : cfOf C n = true := h
    unfold cfOf at h
    split at h
    · rename_i e
      cases Nat.eq_of_beq_eq_true e
      cases seq_iff.mp h
      exact ⟨fldB_iff (by rw [hK]; kernel_rfl), isSN_iff (by rw [hK]; kernel_rfl)⟩
    · cases h
  · have h : mtOf C n = some f := h
    unfold mtOf at h
    split at h
    · rename_i e0
      split at h
      · rename_i e
        cases Nat.eq_of_beq_eq_true e0
        cases seq_iff.mp e; cases h
        exact mtB_iff (by rw [hK]; kernel_rfl)
      · split at h
        · rename_i e
          cases Nat.eq_of_beq_eq_true e0
          cases seq_iff.mp e; cases h
          exact mtB_iff (by rw [hK]; kernel_rfl)
        · cases h
    · cases h
end Mine
end
section
set_option maxHeartbeats 400000
open PySem PySem.W PySem.Spec PySem.Calls PyProof.Rows
namespace Mine
/-! ## Limits.__init__ -/
noncomputable def argPos (l : List Arg) (i : Nat) : Pos := match l[i]? with
  | some a => a.pos
  | none => ⟨0, 0, 0, 0⟩
noncomputable def limN : List PySem.Str := ["self", "width", "real_digits", "double_digits", "top_exponent", "steps", "continuations", "columns", "depth"]
noncomputable def limV : List Value := [.int 32 661, .int 7 662, .int 15 663, .int 38 664, .int 1000000 665, .int 19 666, .int 72 667, .int 40 668]
noncomputable def limA : List AV := [.int 32, .int 7, .int 15, .int 38, .int 1000000, .int 19, .int 72, .int 40]
theorem lim_bt (fd : FuncData) (p : Nat → Pos) (ds : List Expr) (h : fd.params = ⟨[], [⟨"self", none, p 0⟩, ⟨"width", none, p 1⟩, ⟨"real_digits", none, p 2⟩, ⟨"double_digits", none, p 3⟩, ⟨"top_exponent", none, p 4⟩, ⟨"steps", none, p 5⟩, ⟨"continuations", none, p 6⟩, ⟨"columns", none, p 7⟩, ⟨"depth", none, p 8⟩], none, [], [], none, ds⟩)
    (hd : fd.defaults = .ref 300) (hk : fd.kwdefaults = .none) (s : Shared) (ho : s.heap.get? 300 = some (tupObj limV 0)) (vs : List Value) (hl : vs.length + limV.length = limN.length) : BindsTo s fd ⟨vs, []⟩ (limN.zip (vs ++ limV)) := by
  match vs, hl with
  | [a0], _ =>
    obtain ⟨name, qualname, params, body, scope, globals, closure, defaults, kwdefaults, doc, pyModule, annotations, code, closureTuple, builtins⟩ := fd
    dsimp only at h hd hk
    subst h hd hk
    exact BindsTo.of_defaults rfl ho rfl rfl rfl
theorem d_Limits_mk {g : Glb} (fd : FuncData) (p : Nat → Pos) (ds : List Expr) (h : fd.params = ⟨[], [⟨"self", none, p 0⟩, ⟨"width", none, p 1⟩, ⟨"real_digits", none, p 2⟩, ⟨"double_digits", none, p 3⟩, ⟨"top_exponent", none, p 4⟩, ⟨"steps", none, p 5⟩, ⟨"continuations", none, p 6⟩, ⟨"columns", none, p 7⟩, ⟨"depth", none, p 8⟩], none, [], [], none, ds⟩)
    (hd : fd.defaults = .ref 300) (hk : fd.kwdefaults = .none) (hl : g.K.lookup 300 = some (tupObj limV 0)) : ∃ dv, VA g ⟨[], []⟩ dv limA ∧ ∀ (s : Shared) (vs : List Value), g.K.In s.heap → vs.length + dv.length = limN.length → BindsTo s fd ⟨vs, []⟩ (limN.zip (vs ++ dv)) :=
  ⟨limV, .cons (.int _ _) (.cons (.int _ _) (.cons (.int _ _) (.cons (.int _ _) (.cons (.int _ _) (.cons (.int _ _) (.cons (.int _ _) (.cons (.int _ _) .nil))))))), fun s vs X hl2 => lim_bt fd p ds h hd hk s (X _ _ hl) vs hl2⟩
theorem isDef_mk2 {g : Glb} {f : Addr} {names : List PySem.Str} {defs : List AV} {scope : Scope} {body : List Stmt} {fd : FuncData} (h1 : keepIn g.K (.ref f) = true) (h0 : ∃ o, g.K.lookup f = some o ∧ o.data = .func fd) (h2 : fd.body = .stmts body) (h3 : fd.scope = scope) (h4 : fd.globals = mainGlobals) (h5 : fd.closure = [])
    (h6 : fd.builtins = builtinsNs) (h7 : codeIn g.K fd.code fd.qualname = true) (h8 : ∃ dv, VA g ⟨[], []⟩ dv defs ∧ ∀ (s : Shared) (vs : List Value), g.K.In s.heap → vs.length + dv.length = names.length → BindsTo s fd ⟨vs, []⟩ (names.zip (vs ++ dv))) (h9 : isFun scope.kind = true) (hc : scope.isCoroutine = false) (hg : scope.isGenerator = false) (hn : ndS names = true) (hp : parOk scope names = true)
    (hcn : ndS ((cellsFrom 0 scope.names []).map (·.1)) = true) (hck : ckOk scope scope.names = true) : IsDef g f names defs scope body := by
  obtain ⟨o, ho, hd⟩ := h0
  refine ⟨h1, ⟨o, fd, ho, hd, h2, h3, h4, h5, h6, h7, h8⟩, ?_, hc, hg, ndS_iff hn, parOk_iff hp, ndS_iff hcn, ckOk_iff hck⟩
  unfold isFun at h9
  split at h9
  · rename_i e; exact e
  · cases h9
theorem d_Limits_init {g : Glb} (hK : OnK g) : IsDef g 307 limN limA (mtScope 48 0) (mtBody 48 0) :=
  hK.elim fun P hK => isDef_mk2 (fd := fdG (hd.heap_39 P) 307 (by kernel_rfl)) (by rw [hK.1]; kernel_rfl) (by rw [hK.1]; exact fd_at _) (by kernel_rfl) (by kernel_rfl) (by kernel_rfl) (by kernel_rfl) (by kernel_rfl) (by rw [hK.1]; kernel_rfl)
    (d_Limits_mk _ (argPos (fdG (hd.heap_39 P) 307 (by kernel_rfl)).params.args) (fdG (hd.heap_39 P) 307 (by kernel_rfl)).params.defaults (by kernel_rfl) (by kernel_rfl) (by kernel_rfl) (by rw [hK.1]; kernel_rfl)) (by kernel_rfl) (by kernel_rfl) (by kernel_rfl) (by kernel_rfl) (by kernel_rfl) (by kernel_rfl) (by kernel_rfl)

/-! ## contracts by recorded calls -/
inductive CE (g : Glb) (lim : Nat) where
  | c {n : Nat} {f : Value} {as : List AV} {σ : List MO} {r : Option AV} {σ' : List MO} (h : Valid g n f as σ r σ') (hn : n < lim)
  | ok {a b : AV} (ha : okV a = true) (hb : okV b = true)
noncomputable def conj (g : Glb) (lim : Nat) (P : Prop) : List (CE g lim) → Prop
  | [] => P
  | .c (n := n) (f := f) (as := as) (σ := σ) (r := r) (σ' := σ') _ _ :: l => Valid g n f as σ r σ' ∧ n < lim ∧ conj g lim P l
  | .ok (a := a) (b := b) _ _ :: l => okV a = true ∧ okV b = true ∧ conj g lim P l
theorem conj_in {g : Glb} {lim : Nat} {P : Prop} (h : P) : ∀ l : List (CE g lim), conj g lim P l
  | [] => h
  | .c h1 h2 :: l => ⟨h1, h2, conj_in h l⟩
  | .ok h1 h2 :: l => ⟨h1, h2, conj_in h l⟩
noncomputable def ansOf {g : Glb} {lim : Nat} : List (CE g lim) → List Ans
  | [] => []
  | .c (n := n) (r := r) (σ' := σ') _ _ :: l => ⟨n, r, σ'⟩ :: ansOf l
  | .ok _ _ :: l => ansOf l
section
variable {g : Glb} {f : Addr} {names : List PySem.Str} {defs : List AV} {scope : Scope} {body : List Stmt}
/-- one call of a function, by its recorded calls -/
noncomputable def RL (g : Glb) (names : List PySem.Str) (defs : List AV) (scope : Scope) (body : List Stmt) (k : Nat) (mu : List PySem.Str) (need : Nat) (as : List AV) (σ : List MO) (r : Option AV) (σ' : List MO) (calls : List (CE g (need - 1))) : Prop :=
  run (TT g) 60 k ⟨scope, mu, need - 1⟩ (.sts body) (enterL scope names (as ++ defs)) ⟨σ, ansOf calls⟩ (fun o s => fK o fun fl _ => Post σ.length r σ' fl s.σ) (fun _ _ => r = none)
noncomputable abbrev RunsTo (g : Glb) (names : List PySem.Str) (defs : List AV) (scope : Scope) (body : List Stmt) (k : Nat) (mu : List PySem.Str) (need : Nat) (as : List AV) (σ : List MO) (r : Option AV) (σ' : List MO) (calls : List (CE g (need - 1))) (P : Prop) : Prop :=
  RL g names defs scope body k mu need as σ r σ' calls = conj g (need - 1) P calls
theorem vc {need k : Nat} {mu : List PySem.Str} {as : List AV} {σ σ' : List MO} {r : Option AV} {P : Prop} (Z : Real g) (D : IsDef g f names defs scope body) (calls : List (CE g (need - 1))) (h : RunsTo g names defs scope body k mu need as σ r σ' calls P) (hP : P)
    (hk : k ≤ 7) (hn : 1 ≤ need) (hl : as.length + defs.length = names.length) : Valid g need (.ref f) as σ r σ' := by
  refine valid_def (tok Z) D (k := k) (fuel := 60) (mu := mu) (ans := ansOf calls) hk hn hl ?_
  unfold RunsTo RL at h
  rw [h]
  exact conj_in hP calls
/-- a function that gives `a` and leaves no trace -/
theorem vr {need : Nat} {k : Nat} {mu : List PySem.Str} {as : List AV} {σ : List MO} {a : AV} (Z : Real g) (D : IsDef g f names defs scope body) (calls : List (CE g (need - 1))) (h : RunsTo g names defs scope body k mu need as σ (some a) σ calls (Post σ.length (some a) σ (.ret a) σ))
    (hk : k ≤ 7 := by decide) (hn : 1 ≤ need := by decide) (hl : as.length + defs.length = names.length := by rfl) : Valid g need (.ref f) as σ (some a) σ := vc Z D calls h ⟨_, rfl, .same⟩ hk hn hl
/-- a function that raises CheckFault -/
theorem vx {need : Nat} {k : Nat} {mu : List PySem.Str} {as : List AV} {σ σ' : List MO} (Z : Real g) (D : IsDef g f names defs scope body) (calls : List (CE g (need - 1))) (h : RunsTo g names defs scope body k mu need as σ none σ' calls ((none : Option AV) = none))
    (hk : k ≤ 7 := by decide) (hn : 1 ≤ need := by decide) (hl : as.length + defs.length = names.length := by rfl) : Valid g need (.ref f) as σ none σ' := vc Z D calls h rfl hk hn hl
/-- a function that gives nothing and changes the state -/
theorem vn {need : Nat} {k : Nat} {mu : List PySem.Str} {as : List AV} {σ σ' : List MO} (Z : Real g) (D : IsDef g f names defs scope body) (calls : List (CE g (need - 1))) (h : RunsTo g names defs scope body k mu need as σ (some .none) σ' calls (Post σ.length (some .none) σ' .next σ'))
    (hk : k ≤ 7 := by decide) (hn : 1 ≤ need := by decide) (hl : as.length + defs.length = names.length := by rfl) : Valid g need (.ref f) as σ (some .none) σ' := vc Z D calls h ⟨_, rfl, .same⟩ hk hn hl
/-- a function that gives `a` and changes the state -/
theorem vs {need : Nat} {k : Nat} {mu : List PySem.Str} {as : List AV} {σ σ' : List MO} {a : AV} (Z : Real g) (D : IsDef g f names defs scope body) (calls : List (CE g (need - 1))) (h : RunsTo g names defs scope body k mu need as σ (some a) σ' calls (Post σ.length (some a) σ' (.ret a) σ'))
    (hk : k ≤ 7 := by decide) (hn : 1 ≤ need := by decide) (hl : as.length + defs.length = names.length := by rfl) : Valid g need (.ref f) as σ (some a) σ' := vc Z D calls h ⟨_, rfl, .same⟩ hk hn hl
/-- a function that gives `a` by way of `a0` and a last state `τ` -/
theorem ve {need : Nat} {k : Nat} {mu : List PySem.Str} {as : List AV} {σ σ' : List MO} {a : AV} (a0 : AV) (τ : List MO) (hx : Exit σ.length τ a0 σ' a) (Z : Real g) (D : IsDef g f names defs scope body) (calls : List (CE g (need - 1))) (h : RunsTo g names defs scope body k mu need as σ (some a) σ' calls (Post σ.length (some a) σ' (.ret a0) τ))
    (hk : k ≤ 7 := by decide) (hn : 1 ≤ need := by decide) (hl : as.length + defs.length = names.length := by rfl) : Valid g need (.ref f) as σ (some a) σ' := vc Z D calls h ⟨_, rfl, hx⟩ hk hn hl
/-- a function that gives `r` (or raises) and leaves no trace -/
noncomputable def resP (σ : List MO) (r : Option AV) : Prop := match r with
  | some a => Post σ.length (some a) σ (.ret a) σ
  | none => (none : Option AV) = none
theorem resP_in (σ : List MO) : ∀ r, resP σ r
  | some _ => ⟨_, rfl, .same⟩
  | none => rfl
theorem vq {need : Nat} {k : Nat} {mu : List PySem.Str} {as : List AV} {σ : List MO} {r : Option AV} (Z : Real g) (D : IsDef g f names defs scope body) (calls : List (CE g (need - 1))) (h : RunsTo g names defs scope body k mu need as σ r σ calls (resP σ r))
    (hk : k ≤ 7 := by decide) (hn : 1 ≤ need := by decide) (hl : as.length + defs.length = names.length := by rfl) : Valid g need (.ref f) as σ r σ := vc Z D calls h (resP_in σ r) hk hn hl
end
/-! ## kinds -/
noncomputable def numB (k : Nat) : Bool := Nat.ble k 3
theorem c_num {g : Glb} (Z : Real g) (σ : List MO) : ∀ k : Nat, k < 6 → Valid g 2 (.ref 65) [.int k] σ (some (.bool (numB k))) σ
  | 0, _ | 1, _ | 2, _ | 3, _ | 4, _ | 5, _ => vr (k := 4) (mu := []) Z (d_is_numeric Z.k) [] (by kernel_rfl)
  | n + 6, h => absurd h (by omega)
end Mine
end
section
set_option maxHeartbeats 1000000
open PySem PySem.W PySem.Spec PySem.Calls PyProof.Rows
namespace Mine
theorem Valid.mono {g : Glb} {n n' : Nat} {f : Value} {as : List AV} {σ σ' : List MO} {r : Option AV} (h : Valid g n f as σ r σ') (hn : n ≤ n') : Valid g n' f as σ r σ' :=
  ⟨h.1, fun A fr B W vs sh R a Rm b H hv hq he => h.2 A fr B W vs sh R a ⟨by have := Rm.d; omega, by have := Rm.u; omega⟩ b H hv hq he⟩
theorem k6 {k : Nat} (h : k < 6) : k = 0 ∨ k = 1 ∨ k = 2 ∨ k = 3 ∨ k = 4 ∨ k = 5 := (by decide +kernel : ∀ k, k < 6 → k = 0 ∨ k = 1 ∨ k = 2 ∨ k = 3 ∨ k = 4 ∨ k = 5) k h
noncomputable def tr (t : PySem.Str) (k : Nat) (rest : List AV) : AV := .tup (.str t :: .int k :: rest)
/-- the kind of two numbers -/
noncomputable def hkV (a b : Nat) : Option Nat := match numB a, numB b with
  | true, true => match Nat.beq a b, Nat.beq (min a b) 2 with
    | false, true => none
    | _, _ => some (max a b)
  | _, _ => none
noncomputable def oI (o : Option Nat) : Option AV := match o with
  | some k => some (.int k)
  | none => none
section
variable {g : Glb} (Z : Real g) (σ : List MO)
include Z
noncomputable def numCalls {lim : Nat} (hlim : 2 < lim) {a b : Nat} (ha : a < 6) (hb : b < 6) : List (CE g lim) :=
  .c (c_num Z σ a ha) hlim :: (match numB a with
    | true => [.c (c_num Z σ b hb) hlim]
    | false => [])
theorem c_hk {a b : Nat} (ha : a < 6) (hb : b < 6) : Valid g 4 (.ref 72) [.int a, .int b] σ (oI (hkV a b)) σ := by
  refine vq (k := 4) (mu := []) Z (d_higher_kind Z.k) (numCalls Z σ (by decide) ha hb) ?_
  revert hb; revert b; revert ha; revert a
  apply tE2; kernel_rfl
end
/-- a value brought to a kind -/
noncomputable def toK (x : AV) (k kind : Nat) : Option AV := match Nat.beq k kind with
  | true => some x
  | false => match numB k, numB kind with
    | true, true => some (.tup [.str "conv", .int kind, x])
    | _, _ => none
noncomputable def orN (o : Option AV) : AV := match o with
  | some a => a
  | none => .none
section
variable {g : Glb} (Z : Real g) (σ : List MO) (t : PySem.Str) (rest : List AV)
include Z
noncomputable def asC {lim : Nat} (hlim : 2 < lim) {a b : Nat} (ha : a < 6) (hb : b < 6) : List (CE g lim) := match Nat.beq a b with
  | true => []
  | false => numCalls Z σ hlim ha hb
theorem c_as {k kind : Nat} (ha : k < 6) (hb : kind < 6) : Valid g 5 (.ref 161) [tr t k rest, .int kind] σ (toK (tr t k rest) k kind) σ := by
  refine vq (k := 4) (mu := []) Z (d_as_kind Z.k) (asC Z σ (by decide) ha hb) ?_
  revert hb; revert kind; revert ha; revert k
  apply tE2; kernel_rfl
theorem c_to {k kind : Nat} (ha : k < 6) (hb : kind < 6) : Valid g 2 (.ref 410) [tr t k rest, .int kind] σ (some (orN (toK (tr t k rest) k kind))) σ := by
  refine vr (k := 4) (mu := []) Z (d_law_to Z.k) [] ?_
  revert hb; revert kind; revert ha; revert k
  apply tE2; kernel_rfl
theorem c_join : Valid g 1 (.ref 364) [] σ (some .jd) σ := vr (k := 4) (mu := []) Z (d_law_join Z.k) [] (by kernel_rfl)
end
end Mine
end
section
set_option maxHeartbeats 2000000
open PySem PySem.W PySem.Spec PySem.Calls PyProof.Rows
namespace Mine
noncomputable def signS : Nat → PySem.Str
  | 0 => "+" | 1 => "-" | 2 => "*" | 3 => "/" | 4 => "**" | 5 => "**" | 6 => ".EQ." | 7 => ".LT." | 8 => ".GE." | 9 => "//" | 10 => ".AND." | _ => ".NEQV."
noncomputable def wordS : Nat → PySem.Str
  | 0 => "add" | 1 => "sub" | 2 => "mul" | 3 => "div" | 4 => "pow" | 5 => "pow" | 6 => "eq" | 7 => "lt" | 8 => "ge" | 9 => "cat" | 10 => "and" | _ => "neqv"
theorem k12 {s : Nat} (h : s < 12) : s = 0 ∨ s = 1 ∨ s = 2 ∨ s = 3 ∨ s = 4 ∨ s = 5 ∨ s = 6 ∨ s = 7 ∨ s = 8 ∨ s = 9 ∨ s = 10 ∨ s = 11 := (by decide +kernel : ∀ s, s < 12 → s = 0 ∨ s = 1 ∨ s = 2 ∨ s = 3 ∨ s = 4 ∨ s = 5 ∨ s = 6 ∨ s = 7 ∨ s = 8 ∨ s = 9 ∨ s = 10 ∨ s = 11) s h
noncomputable def both (k a b : Nat) : Bool := match Nat.beq a k with
  | true => Nat.beq b k
  | false => false
noncomputable def nums (a b : Nat) : Bool := match numB a with
  | true => numB b
  | false => false
/-- a sum, a power: brought to the common kind -/
noncomputable def arithV (w : PySem.Str) (x : AV) (a : Nat) (y : AV) (b : Nat) : Option AV := match hkV a b with
  | some k => some (.tup [.str w, .int k, orN (toK x a k), orN (toK y b k)])
  | none => none
noncomputable def relV (s : Nat) (w : PySem.Str) (x : AV) (a : Nat) (y : AV) (b : Nat) : Option AV := match both 5 a b with
  | true => some (.tup [.str w, .int 4, x, y])
  | false => match hkV a b with
    | some k => match Nat.beq k 3, Nat.beq s 6 with
      | true, false => none
      | _, _ => some (.tup [.str w, .int 4, orN (toK x a k), orN (toK y b k)])
    | none => none
noncomputable def powV (x : AV) (a : Nat) (y : AV) (b : Nat) : Option AV := match nums a b with
  | true => match Nat.beq b 0 with
    | true => some (.tup [.str "powi", .int a, x, y])
    | false => arithV "pow" x a y b
  | false => none
noncomputable def ifB (c : Bool) (v : AV) : Option AV := match c with
  | true => some v
  | false => none
noncomputable def pairV (s : Nat) (x : AV) (a : Nat) (y : AV) (b : Nat) : Option AV := match s with
  | 4 => powV x a y b
  | 5 => powV x a y b
  | 6 => relV 6 "eq" x a y b
  | 7 => relV 7 "lt" x a y b
  | 8 => relV 8 "ge" x a y b
  | 9 => ifB (both 5 a b) (.tup [.str "cat", .int 5, x, y])
  | 10 => ifB (both 4 a b) (.tup [.str "and", .int 4, x, y])
  | 11 => ifB (both 4 a b) (.tup [.str "neqv", .int 4, x, y])
  | n => arithV (wordS n) x a y b
section
variable {g : Glb} (Z : Real g) (σ : List MO) (ta : PySem.Str) (ra : List AV) (tb : PySem.Str) (rb : List AV)
theorem max6 {a b : Nat} (ha : a < 6) (hb : b < 6) : max a b < 6 := Nat.max_lt.mpr ⟨ha, hb⟩
noncomputable def asCalls {lim : Nat} (hlim : 5 < lim) {a b : Nat} (ha : a < 6) (hb : b < 6) : List (CE g lim) :=
  [.c (c_as Z σ ta ra ha (max6 ha hb)) hlim, .c (c_as Z σ tb rb hb (max6 ha hb)) hlim]
noncomputable def hkCalls {lim : Nat} (hlim : 5 < lim) {a b : Nat} (ha : a < 6) (hb : b < 6) : List (CE g lim) :=
  .c (c_hk Z σ ha hb) (by omega) :: (match hkV a b with
    | some _ => asCalls Z σ ta ra tb rb hlim ha hb
    | none => [])
noncomputable def powCalls {lim : Nat} (hlim : 5 < lim) {a b : Nat} (ha : a < 6) (hb : b < 6) : List (CE g lim) :=
  .c (c_num Z σ a ha) (by omega) :: (match numB a with
    | true => .c (c_num Z σ b hb) (by omega) :: (match numB b with
      | true => match Nat.beq b 0 with
        | true => []
        | false => hkCalls Z σ ta ra tb rb hlim ha hb
      | false => [])
    | false => [])
include Z
theorem c_pow {a b : Nat} (ha : a < 6) (hb : b < 6) : Valid g 7 (.ref 222) [tr ta a ra, tr tb b rb] σ (powV (tr ta a ra) a (tr tb b rb) b) σ := by
  refine vq (k := 4) (mu := []) Z (d_resolve_power Z.k) (powCalls Z σ ta ra tb rb (by decide) ha hb) ?_
  revert hb; revert b; revert ha; revert a
  apply tE2; kernel_rfl
end
end Mine
end
section
set_option maxHeartbeats 4000000
open PySem PySem.W PySem.Spec PySem.Calls PyProof.Rows
namespace Mine
section
variable {g : Glb} (Z : Real g) (σ : List MO) (ta : PySem.Str) (ra : List AV) (tb : PySem.Str) (rb : List AV)
noncomputable def relCalls {lim : Nat} (hlim : 5 < lim) {s : Nat} (_ : s < 12) {a b : Nat} (ha : a < 6) (hb : b < 6) : List (CE g lim) := match both 5 a b with
  | true => []
  | false => .c (c_num Z σ a ha) (by omega) :: (match numB a with
    | true => .c (c_num Z σ b hb) (by omega) :: (match numB b with
      | true => .c (c_hk Z σ ha hb) (by omega) :: (match hkV a b with
        | some k => match Nat.beq k 3, Nat.beq s 6 with
          | true, false => []
          | _, _ => asCalls Z σ ta ra tb rb hlim ha hb
        | none => [])
      | false => [])
    | false => [])
include Z
theorem c_rel {s : Nat} (hs : s = 6 ∨ s = 7 ∨ s = 8) {a b : Nat} (ha : a < 6) (hb : b < 6) : Valid g 7 (.ref 229) [.str (wordS s), tr ta a ra, tr tb b rb] σ (relV s (wordS s) (tr ta a ra) a (tr tb b rb) b) σ := by
  obtain ⟨j, hj, rfl⟩ : ∃ j, j < 3 ∧ s = 6 + j := ⟨s - 6, by omega, by omega⟩
  clear hs
  refine vq (k := 4) (mu := []) Z (d_resolve_relation Z.k) (relCalls Z σ ta ra tb rb (by decide) (by omega : 6 + j < 12) ha hb) ?_
  revert hb; revert b; revert ha; revert a; revert hj; revert j
  apply tE3; kernel_rfl
omit Z in
theorem pn {n : Nat} : n < n + 9 - 1 := Nat.add_lt_add_left (by decide : 0 < 8) n
omit Z in
theorem p7 {n : Nat} : 7 < n + 9 - 1 := Nat.lt_of_lt_of_le (by decide : 7 < 8) (Nat.le_add_left 8 n)
omit Z in
theorem p5 {n : Nat} : 5 < n + 9 - 1 := Nat.lt_of_lt_of_le (by decide : 5 < 8) (Nat.le_add_left 8 n)
noncomputable def binCalls {n : Nat} {s : Nat} (_ : s < 12) (l r : AV) (sc : AV) {a b : Nat} (ha : a < 6) (hb : b < 6) (hl : Valid g n (.ref 250) [l, sc] σ (some (tr ta a ra)) σ) (hr : Valid g n (.ref 250) [r, sc] σ (some (tr tb b rb)) σ) : List (CE g (n + 9 - 1)) :=
  .c hl pn :: .c hr pn :: (match s with
    | 4 | 5 => [.c (c_pow Z σ ta ra tb rb ha hb) p7]
    | 6 => [.c (c_rel Z σ ta ra tb rb (s := 6) (by omega) ha hb) p7]
    | 7 => [.c (c_rel Z σ ta ra tb rb (s := 7) (by omega) ha hb) p7]
    | 8 => [.c (c_rel Z σ ta ra tb rb (s := 8) (by omega) ha hb) p7]
    | 9 | 10 | 11 => []
    | _ => hkCalls Z σ ta ra tb rb p5 ha hb)
theorem c_bin {n : Nat} {s : Nat} (hs : s < 12) (l r : AV) (sc : AV) {a b : Nat} (ha : a < 6) (hb : b < 6) (hl : Valid g n (.ref 250) [l, sc] σ (some (tr ta a ra)) σ) (hr : Valid g n (.ref 250) [r, sc] σ (some (tr tb b rb)) σ) :
    Valid g (n + 9) (.ref 236) [.str (signS s), l, r, sc] σ (pairV s (tr ta a ra) a (tr tb b rb) b) σ := by
  have hx := And.intro hl hr
  clear hl hr
  refine vq (k := 4) (mu := []) Z (d_resolve_binary Z.k) (binCalls Z σ ta ra tb rb hs l r sc ha hb hx.1 hx.2) ?_ (by decide) (by omega)
  revert hx; revert hb; revert b; revert ha; revert a; revert hs; revert s
  apply uE3; kernel_rfl
noncomputable def pairCalls {s : Nat} (_ : s < 12) {a b : Nat} (ha : a < 6) (hb : b < 6) : List (CE g (4 - 1)) := match s with
  | 9 | 10 | 11 => []
  | s => match nums a b, (match s with | 4 | 5 => Nat.beq b 0 | _ => false) with
    | true, false => .c (c_join Z σ) (by decide) :: (match hkV a b with
      | some k => match Nat.beq k 3, (match s with | 7 | 8 => true | _ => false) with
        | true, true => []
        | _, _ => [.c (c_to Z σ ta ra ha (max6 ha hb)) (by decide), .c (c_to Z σ tb rb hb (max6 ha hb)) (by decide)]
      | none => [])
    | _, _ => []
theorem c_pair {s : Nat} (hs : s < 12) {a b : Nat} (ha : a < 6) (hb : b < 6) : Valid g 4 (.ref 441) [.str (signS s), tr ta a ra, tr tb b rb] σ (some (orN (pairV s (tr ta a ra) a (tr tb b rb) b))) σ := by
  refine vq (k := 4) (mu := []) Z (d_law_pair Z.k) (pairCalls Z σ ta ra tb rb hs ha hb) ?_
  revert hb; revert b; revert ha; revert a; revert hs; revert s
  apply tE3; kernel_rfl
end
end Mine
end
section
set_option maxHeartbeats 4000000
open PySem PySem.W PySem.Spec PySem.Calls PyProof.Rows
namespace Mine
/-! ## the state when the trees are read -/
noncomputable def nmS : Nat → PySem.Str
  | 0 => "X1" | 1 => "I1" | 2 => "B1" | 3 => "N1" | 4 => "D1" | 5 => "C1" | 6 => "V1" | 7 => "L1" | 8 => "T1" | 9 => "M1" | 10 => "U1" | 11 => "P1" | 12 => "F1" | _ => "G1"
structure KK where
  x : Nat
  i : Nat
  b : Nat
  n : Nat
structure KK.Ok (q : KK) : Prop where
  x : q.x < 6
  i : q.i < 6
  b : q.b < 6
  n : q.n < 6
noncomputable def kdN (q : KK) : Nat → Nat
  | 0 => q.x | 1 => q.i | 2 => q.b | 3 => q.n | 4 => 2 | 5 => 3 | 6 => 1 | 7 => 4 | 8 => 5 | 9 => 0 | 10 => 5 | 11 => 0 | 12 => 1 | _ => 1
noncomputable def kdL (q : KK) : Nat → List (PySem.Str × AV)
  | 0 => []
  | n + 1 => kdL q n ++ [(nmS n, .int (kdN q n))]
structure MM where
  a : MO
  b : MO
  c : MO
  d : MO
noncomputable def stT (m : MM) (q : KK) : List MO := [m.a, m.b, m.c, m.d, .dct (kdL q 14)]
noncomputable def dimV : AV := .tup [.tup [.str "const", .int 0, .int 1], .tup [.str "const", .int 0, .int 4]]
noncomputable def symD (nm : PySem.Str) (k : Nat) (d : Nat) (use : PySem.Str) (v : AV) : MO := .dct [("name", .str nm), ("kind", .int k), ("length", .int 0), ("dims", .ref d), ("use", .str use), ("is_dummy", .bool false), ("value", v), ("common", .none), ("is_saved", .bool false)]
/-- where a symbol lies -/
noncomputable def slot : Nat → Nat
  | 0 => 6 | 1 => 8 | 2 => 10 | 3 => 12 | 4 => 14 | 5 => 16 | 6 => 18 | 7 => 21 | 8 => 23 | 9 => 25 | 10 => 28 | 11 => 31 | 12 => 33 | _ => 35
noncomputable def dimN : Nat → Nat
  | 6 => 1 | 9 => 2 | 10 => 1 | _ => 0
noncomputable def useS : Nat → PySem.Str
  | 6 => "array" | 9 => "array" | 10 => "array" | 11 => "param" | 12 => "func" | 13 => "intr" | _ => "var"
/-- what a symbol adds to the state -/
noncomputable def symM (q : KK) (i : Nat) : List MO := match dimN i with
  | 0 => [symD (nmS i) (kdN q i) (slot i + 1) (useS i) (match i with | 11 => .tup [.int 0, .int 7] | _ => .none), .lst []]
  | d => [symD (nmS i) (kdN q i) (slot i + 2) (useS i) .none, .lst [], .lst (List.replicate d dimV)]
noncomputable def symL (q : KK) : Nat → List MO
  | 0 => []
  | n + 1 => symL q n ++ symM q n
noncomputable def symT : Nat → List (PySem.Str × AV)
  | 0 => []
  | n + 1 => symT n ++ [(nmS n, .obj 331 (slot n))]
/-- the state with n symbols -/
noncomputable def stY (m : MM) (q : KK) (n : Nat) : List MO := [m.a, m.b, m.c, m.d, .dct (kdL q 14), .dct (symT n)] ++ symL q n
noncomputable def limD : MO := .dct [("width", .int 32), ("real_digits", .int 7), ("double_digits", .int 15), ("top_exponent", .int 38), ("steps", .int 1000000), ("continuations", .int 19), ("columns", .int 72), ("depth", .int 40)]
noncomputable def stL (m : MM) (q : KK) : List MO := stY m q 14 ++ [limD]
noncomputable def scD : MO := .dct [("symbols", .ref 5), ("choose", .raw (.ref 455)), ("limits", .obj 310 37), ("given", .ref 39), ("open", .ref 40)]
noncomputable def stR (m : MM) (q : KK) : List MO := stL m q ++ [scD, .dct [], .lst []]
noncomputable def scO : AV := .obj 122 38
noncomputable def limO : AV := .obj 310 37
theorem k14 {i : Nat} (h : i < 14) : i = 0 ∨ i = 1 ∨ i = 2 ∨ i = 3 ∨ i = 4 ∨ i = 5 ∨ i = 6 ∨ i = 7 ∨ i = 8 ∨ i = 9 ∨ i = 10 ∨ i = 11 ∨ i = 12 ∨ i = 13 := (by decide +kernel : ∀ i, i < 14 → i = 0 ∨ i = 1 ∨ i = 2 ∨ i = 3 ∨ i = 4 ∨ i = 5 ∨ i = 6 ∨ i = 7 ∨ i = 8 ∨ i = 9 ∨ i = 10 ∨ i = 11 ∨ i = 12 ∨ i = 13) i h
/-- what a name is -/
noncomputable def namedV (q : KK) (i : Nat) : AV := match i with
  | 6 => .tup [.str "array", .int 1, .str "V1"]
  | 9 => .tup [.str "array", .int 0, .str "M1"]
  | 10 => .tup [.str "array", .int 5, .str "U1"]
  | 11 => .tup [.str "const", .int 0, .int 7]
  | 12 => .tup [.str "proc", .int (-1), .str "F1"]
  | 13 => .tup [.str "proc", .int (-1), .str "G1"]
  | i => .tup [.str "var", .int (kdN q i), .str (nmS i)]
noncomputable def dimsD : List (PySem.Str × AV) := [("V1", .int 1), ("M1", .int 2), ("U1", .int 1)]
section
variable {g : Glb} (Z : Real g) (σ : List MO) (m : MM) (q : KK)
include Z
theorem c_dims : Valid g 1 (.ref 357) [] σ (some (.dct dimsD)) σ := vr (k := 4) (mu := []) Z (d_law_dims Z.k) [] (by kernel_rfl)
theorem c_named {i : Nat} (h : i < 14) : Valid g 3 (.ref 424) [.str (nmS i), .ref 4] (stT m q) (some (namedV q i)) (stT m q) := by
  refine vr (k := 4) (mu := []) Z (d_law_named Z.k) [.c (c_dims Z (stT m q)) (by decide)] ?_
  revert h; revert i
  apply tE1; kernel_rfl
theorem c_symof {i : Nat} (h : i < 14) : Valid g 2 (.ref 133) [scO, .str (nmS i)] (stR m q) (some (.obj 331 (slot i))) (stR m q) := by
  refine vr (k := 4) (mu := []) Z (d_symbol_of Z.k) [] ?_
  revert h; revert i
  apply tE1; kernel_rfl
theorem c_rname {i : Nat} (h : i < 14) : Valid g 5 (.ref 168) [.str (nmS i), scO] (stR m q) (some (namedV q i)) (stR m q) := by
  have hs := c_symof Z m q h
  refine vr (k := 4) (mu := []) Z (d_resolve_name Z.k) [.c hs (by decide)] ?_
  revert hs; revert h; revert i
  apply uE1; kernel_rfl
/-! ## numbers -/
theorem cd_m1 : Valid g 1 (.ref 80) [.int (-1)] σ (some (.int 1)) σ := vr (k := 4) (mu := []) Z (d_count_digits Z.k) [] (by kernel_rfl)
theorem cd_1 : Valid g 1 (.ref 80) [.int (1)] σ (some (.int 1)) σ := vr (k := 4) (mu := []) Z (d_count_digits Z.k) [] (by kernel_rfl)
theorem cd_5 : Valid g 1 (.ref 80) [.int (5)] σ (some (.int 1)) σ := vr (k := 4) (mu := []) Z (d_count_digits Z.k) [] (by kernel_rfl)
theorem cd_25 : Valid g 1 (.ref 80) [.int (25)] σ (some (.int 2)) σ := vr (k := 4) (mu := []) Z (d_count_digits Z.k) [] (by kernel_rfl)
theorem cd_100 : Valid g 1 (.ref 80) [.int (100)] σ (some (.int 3)) σ := vr (k := 4) (mu := []) Z (d_count_digits Z.k) [] (by kernel_rfl)
theorem cd_1234568 : Valid g 1 (.ref 80) [.int (1234568)] σ (some (.int 7)) σ := vr (k := 4) (mu := []) Z (d_count_digits Z.k) [] (by kernel_rfl)
theorem cd_12345675 : Valid g 1 (.ref 80) [.int (12345675)] σ (some (.int 8)) σ := vr (k := 4) (mu := []) Z (d_count_digits Z.k) [] (by kernel_rfl)
theorem cd_99999995 : Valid g 1 (.ref 80) [.int (99999995)] σ (some (.int 8)) σ := vr (k := 4) (mu := []) Z (d_count_digits Z.k) [] (by kernel_rfl)
theorem sz_0 : Valid g 1 (.ref 87) [.int (25), .int (-1)] σ (some (.tup [.int (25), .int (-1)])) σ := vr (k := 4) (mu := []) Z (d_strip_zeros Z.k) [] (by kernel_rfl)
theorem rd_0 : Valid g 3 (.ref 94) [.int (25), .int (-1), .int 7] σ (some (.tup [.int (25), .int (-1)])) σ := vr (k := 4) (mu := []) Z (d_round_digits Z.k) [.c (cd_25 Z σ) (by decide), .c (sz_0 Z σ) (by decide)] (by kernel_rfl)
theorem rr_0 : Valid g 5 (.ref 101) [.int (25), .int (-1), .int 7, .int 38] σ (some (.tup [.int (25), .int (-1)])) σ := vr (k := 4) (mu := []) Z (d_round_real Z.k) [.c (rd_0 Z σ) (by decide), .c (cd_25 Z σ) (by decide)] (by kernel_rfl)
theorem rc_0 : Valid g 7 (.ref 140) [.int (25), .int (-1), .int 7, limO] (stR m q) (some (.tup [.int (25), .int (-1)])) (stR m q) := vr (k := 4) (mu := []) Z (d_real_const Z.k) [.c (rr_0 Z (stR m q)) (by decide)] (by kernel_rfl)
theorem lr_0 : Valid g 1 (.ref 398) [.int (25), .int (-1), .int 7] σ (some (.tup [.int (25), .int (-1)])) σ := vr (k := 4) (mu := []) Z (d_law_rounded Z.k) [] (by kernel_rfl)
theorem sz_1 : Valid g 1 (.ref 87) [.int (1234568), .int (3)] σ (some (.tup [.int (1234568), .int (3)])) σ := vr (k := 4) (mu := []) Z (d_strip_zeros Z.k) [] (by kernel_rfl)
theorem rd_1 : Valid g 3 (.ref 94) [.int (12345675), .int (2), .int 7] σ (some (.tup [.int (1234568), .int (3)])) σ := vr (k := 4) (mu := []) Z (d_round_digits Z.k) [.c (cd_12345675 Z σ) (by decide), .c (sz_1 Z σ) (by decide)] (by kernel_rfl)
theorem rr_1 : Valid g 5 (.ref 101) [.int (12345675), .int (2), .int 7, .int 38] σ (some (.tup [.int (1234568), .int (3)])) σ := vr (k := 4) (mu := []) Z (d_round_real Z.k) [.c (rd_1 Z σ) (by decide), .c (cd_1234568 Z σ) (by decide)] (by kernel_rfl)
theorem rc_1 : Valid g 7 (.ref 140) [.int (12345675), .int (2), .int 7, limO] (stR m q) (some (.tup [.int (1234568), .int (3)])) (stR m q) := vr (k := 4) (mu := []) Z (d_real_const Z.k) [.c (rr_1 Z (stR m q)) (by decide)] (by kernel_rfl)
theorem lr_1 : Valid g 1 (.ref 398) [.int (12345675), .int (2), .int 7] σ (some (.tup [.int (1234568), .int (3)])) σ := vr (k := 4) (mu := []) Z (d_law_rounded Z.k) [] (by kernel_rfl)
theorem sz_2 : Valid g 1 (.ref 87) [.int (10000000), .int (1)] σ (some (.tup [.int (1), .int (8)])) σ := vr (k := 4) (mu := []) Z (d_strip_zeros Z.k) [] (by kernel_rfl)
theorem rd_2 : Valid g 3 (.ref 94) [.int (99999995), .int (0), .int 7] σ (some (.tup [.int (1), .int (8)])) σ := vr (k := 4) (mu := []) Z (d_round_digits Z.k) [.c (cd_99999995 Z σ) (by decide), .c (sz_2 Z σ) (by decide)] (by kernel_rfl)
theorem rr_2 : Valid g 5 (.ref 101) [.int (99999995), .int (0), .int 7, .int 38] σ (some (.tup [.int (1), .int (8)])) σ := vr (k := 4) (mu := []) Z (d_round_real Z.k) [.c (rd_2 Z σ) (by decide), .c (cd_1 Z σ) (by decide)] (by kernel_rfl)
theorem rc_2 : Valid g 7 (.ref 140) [.int (99999995), .int (0), .int 7, limO] (stR m q) (some (.tup [.int (1), .int (8)])) (stR m q) := vr (k := 4) (mu := []) Z (d_real_const Z.k) [.c (rr_2 Z (stR m q)) (by decide)] (by kernel_rfl)
theorem lr_2 : Valid g 1 (.ref 398) [.int (99999995), .int (0), .int 7] σ (some (.tup [.int (1), .int (8)])) σ := vr (k := 4) (mu := []) Z (d_law_rounded Z.k) [] (by kernel_rfl)
theorem sz_3 : Valid g 1 (.ref 87) [.int (100), .int (0)] σ (some (.tup [.int (1), .int (2)])) σ := vr (k := 4) (mu := []) Z (d_strip_zeros Z.k) [] (by kernel_rfl)
theorem rd_3 : Valid g 3 (.ref 94) [.int (100), .int (0), .int 15] σ (some (.tup [.int (1), .int (2)])) σ := vr (k := 4) (mu := []) Z (d_round_digits Z.k) [.c (cd_100 Z σ) (by decide), .c (sz_3 Z σ) (by decide)] (by kernel_rfl)
theorem rr_3 : Valid g 5 (.ref 101) [.int (100), .int (0), .int 15, .int 38] σ (some (.tup [.int (1), .int (2)])) σ := vr (k := 4) (mu := []) Z (d_round_real Z.k) [.c (rd_3 Z σ) (by decide), .c (cd_1 Z σ) (by decide)] (by kernel_rfl)
theorem rc_3 : Valid g 7 (.ref 140) [.int (100), .int (0), .int 15, limO] (stR m q) (some (.tup [.int (1), .int (2)])) (stR m q) := vr (k := 4) (mu := []) Z (d_real_const Z.k) [.c (rr_3 Z (stR m q)) (by decide)] (by kernel_rfl)
theorem lr_3 : Valid g 1 (.ref 398) [.int (100), .int (0), .int 15] σ (some (.tup [.int (1), .int (2)])) σ := vr (k := 4) (mu := []) Z (d_law_rounded Z.k) [] (by kernel_rfl)
theorem sz_4 : Valid g 1 (.ref 87) [.int (-1), .int (0)] σ (some (.tup [.int (-1), .int (0)])) σ := vr (k := 4) (mu := []) Z (d_strip_zeros Z.k) [] (by kernel_rfl)
theorem rd_4 : Valid g 3 (.ref 94) [.int (-1), .int (0), .int 7] σ (some (.tup [.int (-1), .int (0)])) σ := vr (k := 4) (mu := []) Z (d_round_digits Z.k) [.c (cd_m1 Z σ) (by decide), .c (sz_4 Z σ) (by decide)] (by kernel_rfl)
theorem rr_4 : Valid g 5 (.ref 101) [.int (-1), .int (0), .int 7, .int 38] σ (some (.tup [.int (-1), .int (0)])) σ := vr (k := 4) (mu := []) Z (d_round_real Z.k) [.c (rd_4 Z σ) (by decide), .c (cd_m1 Z σ) (by decide)] (by kernel_rfl)
theorem rc_4 : Valid g 7 (.ref 140) [.int (-1), .int (0), .int 7, limO] (stR m q) (some (.tup [.int (-1), .int (0)])) (stR m q) := vr (k := 4) (mu := []) Z (d_real_const Z.k) [.c (rr_4 Z (stR m q)) (by decide)] (by kernel_rfl)
theorem lr_4 : Valid g 1 (.ref 398) [.int (-1), .int (0), .int 7] σ (some (.tup [.int (-1), .int (0)])) σ := vr (k := 4) (mu := []) Z (d_law_rounded Z.k) [] (by kernel_rfl)
theorem sz_5 : Valid g 1 (.ref 87) [.int (5), .int (-1)] σ (some (.tup [.int (5), .int (-1)])) σ := vr (k := 4) (mu := []) Z (d_strip_zeros Z.k) [] (by kernel_rfl)
theorem rd_5 : Valid g 3 (.ref 94) [.int (5), .int (-1), .int 7] σ (some (.tup [.int (5), .int (-1)])) σ := vr (k := 4) (mu := []) Z (d_round_digits Z.k) [.c (cd_5 Z σ) (by decide), .c (sz_5 Z σ) (by decide)] (by kernel_rfl)
theorem rr_5 : Valid g 5 (.ref 101) [.int (5), .int (-1), .int 7, .int 38] σ (some (.tup [.int (5), .int (-1)])) σ := vr (k := 4) (mu := []) Z (d_round_real Z.k) [.c (rd_5 Z σ) (by decide), .c (cd_5 Z σ) (by decide)] (by kernel_rfl)
theorem rc_5 : Valid g 7 (.ref 140) [.int (5), .int (-1), .int 7, limO] (stR m q) (some (.tup [.int (5), .int (-1)])) (stR m q) := vr (k := 4) (mu := []) Z (d_real_const Z.k) [.c (rr_5 Z (stR m q)) (by decide)] (by kernel_rfl)
theorem lr_5 : Valid g 1 (.ref 398) [.int (5), .int (-1), .int 7] σ (some (.tup [.int (5), .int (-1)])) σ := vr (k := 4) (mu := []) Z (d_law_rounded Z.k) [] (by kernel_rfl)
end
theorem k10 {i : Nat} (h : i < 10) : i = 0 ∨ i = 1 ∨ i = 2 ∨ i = 3 ∨ i = 4 ∨ i = 5 ∨ i = 6 ∨ i = 7 ∨ i = 8 ∨ i = 9 := (by decide +kernel : ∀ i, i < 10 → i = 0 ∨ i = 1 ∨ i = 2 ∨ i = 3 ∨ i = 4 ∨ i = 5 ∨ i = 6 ∨ i = 7 ∨ i = 8 ∨ i = 9) i h
noncomputable def constA : Nat → AV
  | 0 => .tup [.str "int", .int 3]
  | 1 => .tup [.str "real", .int 25, .int (-1)]
  | 2 => .tup [.str "int", .int 2147483647]
  | 3 => .tup [.str "real", .int 12345675, .int 2]
  | 4 => .tup [.str "dble", .int 100, .int 0]
  | 5 => .tup [.str "log", .bool true]
  | 6 => .tup [.str "char", .str "ab"]
  | 7 => .tup [.str "cplx", .tup [.str "int", .int (-1)], .tup [.str "real", .int 5, .int (-1)]]
  | 8 => .tup [.str "int", .int 2147483648]
  | _ => .tup [.str "real", .int 99999995, .int 0]
noncomputable def constV' : Nat → Option AV
  | 0 => some (.tup [.str "const", .int 0, .int 3])
  | 1 => some (.tup [.str "const", .int 1, .tup [.int 25, .int (-1)]])
  | 2 => some (.tup [.str "const", .int 0, .int 2147483647])
  | 3 => some (.tup [.str "const", .int 1, .tup [.int 1234568, .int 3]])
  | 4 => some (.tup [.str "const", .int 2, .tup [.int 1, .int 2]])
  | 5 => some (.tup [.str "const", .int 4, .bool true])
  | 6 => some (.tup [.str "const", .int 5, .str "ab"])
  | 7 => some (.tup [.str "const", .int 3, .tup [.tup [.int (-1), .int 0], .tup [.int 5, .int (-1)]]])
  | 8 => none
  | _ => some (.tup [.str "const", .int 1, .tup [.int 1, .int 8]])
section
variable {g : Glb} (Z : Real g) (σ : List MO) (m : MM) (q : KK)
include Z
theorem cp_0 : Valid g 9 (.ref 147) [.tup [.str "int", .int (-1)], limO] (stR m q) (some (.tup [.int (-1), .int 0])) (stR m q) := vr (k := 4) (mu := []) Z (d_complex_part Z.k) [.c (rc_4 Z m q) (by decide)] (by kernel_rfl)
theorem cp_1 : Valid g 9 (.ref 147) [.tup [.str "real", .int 5, .int (-1)], limO] (stR m q) (some (.tup [.int 5, .int (-1)])) (stR m q) := vr (k := 4) (mu := []) Z (d_complex_part Z.k) [.c (rc_5 Z m q) (by decide)] (by kernel_rfl)
theorem c_const {i : Nat} (h : i < 10) : Valid g 12 (.ref 154) [constA i, limO] (stR m q) (constV' i) (stR m q) := by
  rcases k10 h with rfl | rfl | rfl | rfl | rfl | rfl | rfl | rfl | rfl | rfl
  · exact vq (k := 4) (mu := []) Z (d_resolve_const Z.k) [] (by kernel_rfl)
  · exact vq (k := 4) (mu := []) Z (d_resolve_const Z.k) [.c (rc_0 Z m q) (by decide)] (by kernel_rfl)
  · exact vq (k := 4) (mu := []) Z (d_resolve_const Z.k) [] (by kernel_rfl)
  · exact vq (k := 4) (mu := []) Z (d_resolve_const Z.k) [.c (rc_1 Z m q) (by decide)] (by kernel_rfl)
  · exact vq (k := 4) (mu := []) Z (d_resolve_const Z.k) [.c (rc_3 Z m q) (by decide)] (by kernel_rfl)
  · exact vq (k := 4) (mu := []) Z (d_resolve_const Z.k) [] (by kernel_rfl)
  · exact vq (k := 4) (mu := []) Z (d_resolve_const Z.k) [] (by kernel_rfl)
  · exact vq (k := 4) (mu := []) Z (d_resolve_const Z.k) [.c (cp_0 Z m q) (by decide), .c (cp_1 Z m q) (by decide)] (by kernel_rfl)
  · exact vq (k := 4) (mu := []) Z (d_resolve_const Z.k) [] (by kernel_rfl)
  · exact vq (k := 4) (mu := []) Z (d_resolve_const Z.k) [.c (rc_2 Z m q) (by decide)] (by kernel_rfl)
theorem c_lconst {i : Nat} (h : i < 10) : Valid g 3 (.ref 403) [constA i] σ (some (orN (constV' i))) σ := by
  rcases k10 h with rfl | rfl | rfl | rfl | rfl | rfl | rfl | rfl | rfl | rfl
  · exact vq (k := 4) (mu := []) Z (d_law_const Z.k) [] (by kernel_rfl)
  · exact vq (k := 4) (mu := []) Z (d_law_const Z.k) [.c (lr_0 Z σ) (by decide)] (by kernel_rfl)
  · exact vq (k := 4) (mu := []) Z (d_law_const Z.k) [] (by kernel_rfl)
  · exact vq (k := 4) (mu := []) Z (d_law_const Z.k) [.c (lr_1 Z σ) (by decide)] (by kernel_rfl)
  · exact vq (k := 4) (mu := []) Z (d_law_const Z.k) [.c (lr_3 Z σ) (by decide)] (by kernel_rfl)
  · exact vq (k := 4) (mu := []) Z (d_law_const Z.k) [] (by kernel_rfl)
  · exact vq (k := 4) (mu := []) Z (d_law_const Z.k) [] (by kernel_rfl)
  · exact vq (k := 4) (mu := []) Z (d_law_const Z.k) [.c (lr_4 Z σ) (by decide), .c (lr_5 Z σ) (by decide)] (by kernel_rfl)
  · exact vq (k := 4) (mu := []) Z (d_law_const Z.k) [] (by kernel_rfl)
  · exact vq (k := 4) (mu := []) Z (d_law_const Z.k) [.c (lr_2 Z σ) (by decide)] (by kernel_rfl)
end
end Mine
end
section
set_option maxHeartbeats 4000000
open PySem PySem.W PySem.Spec PySem.Calls PyProof.Rows
namespace Mine
/-! ## well-formed values -/
noncomputable def WF (n : Nat) (a : AV) : Prop := okD a = true ∧ (pd a).canLay0 = true ∧ (pd a).depth ≤ n
noncomputable def WFL (n : Nat) (l : List AV) : Prop := ∀ a ∈ l, WF n a
theorem WF.mono {n n' : Nat} {a : AV} (h : WF n a) (hn : n ≤ n') : WF n' a := ⟨h.1, h.2.1, Nat.le_trans h.2.2 hn⟩
theorem WFL.nil {n : Nat} : WFL n [] := fun _ h => (List.not_mem_nil h).elim
theorem WFL.cons {n : Nat} {a : AV} {l : List AV} (h : WF n a) (k : WFL n l) : WFL n (a :: l) := fun b hb => by
  cases hb with
  | head => exact h
  | tail _ hb => exact k b hb
theorem WFL.all {n : Nat} : ∀ {l : List AV}, WFL n l → okL l = true ∧ PyData.canLayAll0 (pdL l) = true ∧ PyData.depthAll (pdL l) ≤ n
  | [], _ => ⟨rfl, rfl, Nat.zero_le _⟩
  | a :: l, h => by
    obtain ⟨h1, h2, h3⟩ := h a (.head _)
    obtain ⟨i1, i2, i3⟩ := WFL.all (l := l) fun b hb => h b (.tail _ hb)
    refine ⟨by unfold okL; rw [h1]; exact i1, ?_, ?_⟩
    · show PyData.canLayAll0 (pd a :: pdL l) = true
      unfold PyData.canLayAll0
      rw [h2, i2]; rfl
    · show PyData.depthAll (pd a :: pdL l) ≤ n
      unfold PyData.depthAll
      omega
theorem WF.tup {n : Nat} {l : List AV} (h : WFL n l) : WF (n + 1) (.tup l) := by
  obtain ⟨h1, h2, h3⟩ := h.all
  refine ⟨h1, ?_, ?_⟩
  · show PyData.canLay0 (.tuple (pdL l)) = true
    unfold PyData.canLay0; exact h2
  · show PyData.depth (.tuple (pdL l)) ≤ n + 1
    unfold PyData.depth; omega
theorem WF.lst {n : Nat} {l : List AV} (h : WFL n l) : WF (n + 1) (.lst l) := by
  obtain ⟨h1, h2, h3⟩ := h.all
  refine ⟨h1, ?_, ?_⟩
  · show PyData.canLay0 (.list (pdL l)) = true
    unfold PyData.canLay0; exact h2
  · show PyData.depth (.list (pdL l)) ≤ n + 1
    unfold PyData.depth; omega
theorem WF.int {n : Nat} (i : Int) : WF n (.int i) := ⟨rfl, rfl, Nat.zero_le _⟩
theorem WF.bool {n : Nat} (b : Bool) : WF n (.bool b) := ⟨rfl, rfl, Nat.zero_le _⟩
theorem WF.none {n : Nat} : WF n .none := ⟨rfl, rfl, Nat.zero_le _⟩
theorem WF.str {n : Nat} {x : PySem.Str} (h : (PyData.str x).canLay0 = true) : WF n (.str x) := ⟨rfl, h, Nat.zero_le _⟩
theorem WF.ok {n : Nat} {a : AV} (h : WF n a) (hn : n ≤ 64) : okV a = true := by
  unfold okV
  rw [h.1]
  show (PyData.canLay0 _ && decide (_ ≤ 64)) = true
  rw [h.2.1, decide_eq_true (Nat.le_trans h.2.2 hn)]; rfl
theorem WF.eq_self {n : Nat} {a : AV} (h : WF n a) : PyData.eqv (pd a) (pd a) = true := PySem.SeqAt.eqv_refl _ h.2.1
/-! ## what a reading can be -/
noncomputable def tagS : Nat → PySem.Str
  | 0 => "array" | 1 => "var" | 2 => "elem" | 3 => "const" | 4 => "conv" | 5 => "intr" | 6 => "call" | 7 => "substr" | 8 => "not" | 9 => "neg" | 10 => "powi" | 11 => "pow" | 12 => "add" | 13 => "sub" | 14 => "mul" | 15 => "div" | 16 => "eq" | 17 => "lt" | 18 => "ge" | 19 => "and" | 20 => "neqv" | _ => "cat"
inductive RK : AV → Prop
  | tr {i k : Nat} (rest : List AV) : i < 22 → k < 6 → RK (tr (tagS i) k rest)
  | proc (s : PySem.Str) : RK (.tup [.str "proc", .int (-1), .str s])
inductive VK : AV → Prop
  | tr {i k : Nat} (rest : List AV) : 1 ≤ i → i < 22 → k < 6 → VK (tr (tagS i) k rest)
theorem VK.rk {x : AV} (h : VK x) : RK x := by
  cases h with
  | tr rest h1 h2 h3 => exact .tr rest h2 h3
/-- both readings of a tree -/
structure JJ (g : Glb) (m : MM) (q : KK) (n w : Nat) (t : AV) (r : Option AV) : Prop where
  k : ∀ x, r = some x → RK x ∧ WF w x
  a : Valid g n (.ref 448) [t, .ref 4] (stT m q) (some (orN r)) (stT m q)
  b : Valid g n (.ref 243) [t, scO] (stR m q) r (stR m q)
/-- both values of a tree -/
structure JV (g : Glb) (m : MM) (q : KK) (n w : Nat) (t : AV) (r : Option AV) : Prop where
  k : ∀ x, r = some x → VK x ∧ WF w x
  a : Valid g n (.ref 417) [t, .ref 4] (stT m q) (some (orN r)) (stT m q)
  b : Valid g n (.ref 250) [t, scO] (stR m q) r (stR m q)
theorem JJ.mono {g : Glb} {m : MM} {q : KK} {n w n' w' : Nat} {t : AV} {r : Option AV} (h : JJ g m q n w t r) (hn : n ≤ n') (hw : w ≤ w') : JJ g m q n' w' t r := ⟨fun x e => ⟨(h.k x e).1, (h.k x e).2.mono hw⟩, h.a.mono hn, h.b.mono hn⟩
theorem JV.of {g : Glb} {m : MM} {q : KK} {n w : Nat} {t x : AV} (hk : VK x) (hw : WF w x) (a : Valid g n (.ref 417) [t, .ref 4] (stT m q) (some x) (stT m q)) (b : Valid g n (.ref 250) [t, scO] (stR m q) (some x) (stR m q)) : ∃ r, JV g m q n w t r :=
  ⟨some x, fun y e => by cases e; exact ⟨hk, hw⟩, a, b⟩
section
variable {g : Glb} (Z : Real g) (m : MM) (q : KK)
theorem q4 {n : Nat} : n < n + 5 - 1 := Nat.add_lt_add_left (by decide : 0 < 4) n
include Z
theorem c_value {n w : Nat} {t : AV} {r : Option AV} (h : JJ g m q n w t r) : ∃ r', JV g m q (n + 5) w t r' := by
  obtain ⟨h1, h2, h3⟩ := h
  cases r with
  | none => exact ⟨none, fun x (e : none = some x) => (nomatch e), vr (k := 4) (mu := []) Z (d_law_value Z.k) [.c h2 q4] (by kernel_rfl) (by decide) (by omega), vq (r := none) (k := 4) (mu := []) Z (d_resolve_value Z.k) [.c h3 q4] (by kernel_rfl) (by decide) (by omega)⟩
  | some x =>
    obtain ⟨hk, hw⟩ := h1 x rfl
    cases hk with
    | proc s => exact ⟨none, fun x (e : none = some x) => (nomatch e), vr (k := 4) (mu := []) Z (d_law_value Z.k) [.c h2 q4] (by kernel_rfl) (by decide) (by omega), vq (r := none) (k := 4) (mu := []) Z (d_resolve_value Z.k) [.c h3 q4] (by kernel_rfl) (by decide) (by omega)⟩
    | @tr i k rest hi hk =>
      clear h1
      by_cases hz : i = 0
      · subst hz
        exact ⟨none, fun x (e : none = some x) => (nomatch e), vr (k := 4) (mu := []) Z (d_law_value Z.k) [.c h2 q4] (by kernel_rfl) (by decide) (by omega), vq (r := none) (k := 4) (mu := []) Z (d_resolve_value Z.k) [.c h3 q4] (by kernel_rfl) (by decide) (by omega)⟩
      · obtain ⟨j, hj, rfl⟩ : ∃ j, j < 21 ∧ i = j + 1 := ⟨i - 1, by omega, by omega⟩
        refine JV.of (.tr rest (by omega) hi hk) hw (vr (k := 4) (mu := []) Z (d_law_value Z.k) [.c h2 q4] ?_ (by decide) (by omega)) (vr (k := 4) (mu := []) Z (d_resolve_value Z.k) [.c h3 q4] ?_ (by decide) (by omega))
        · clear h3 hw hi hz
          revert h2; revert hj; revert j
          apply uE1; kernel_rfl
        · clear h2 hw hi hz
          revert h3; revert hj; revert j
          apply uE1; kernel_rfl
end
end Mine
end
section
set_option maxHeartbeats 4000000
open PySem PySem.W PySem.Spec PySem.Calls PyProof.Rows
namespace Mine
noncomputable def wfB (n : Nat) (a : AV) : Bool := match okD a, (pd a).canLay0 with
  | true, true => Nat.ble (pd a).depth n
  | _, _ => false
theorem WF.of {n : Nat} {a : AV} (h : wfB n a = true) : WF n a := by
  unfold wfB at h
  split at h
  · rename_i h1 h2
    exact ⟨h1, h2, Nat.le_of_ble_eq_true h⟩
  · cases h
theorem RK.of {x : AV} (i k : Nat) (rest : List AV) (h : x = Mine.tr (tagS i) k rest) (hi : i < 22) (hk : k < 6) : RK x := by
  subst h
  exact RK.tr rest hi hk
theorem kdN_lt {q : KK} (h : q.Ok) : ∀ i, kdN q i < 6
  | 0 => h.x | 1 => h.i | 2 => h.b | 3 => h.n
  | 4 => show 2 < 6 by decide | 5 => show 3 < 6 by decide | 6 => show 1 < 6 by decide | 7 => show 4 < 6 by decide | 8 => show 5 < 6 by decide | 9 => show 0 < 6 by decide | 10 => show 5 < 6 by decide | 11 => show 0 < 6 by decide | 12 => show 1 < 6 by decide
  | n + 13 => show 1 < 6 by decide
section
variable {g : Glb} (Z : Real g) (m : MM) (q : KK)
include Z
theorem j_name (hq : q.Ok) {i : Nat} (h : i < 14) : ∃ r, JJ g m q 30 3 (.tup [.str "name", .str (nmS i)]) r := by
  refine ⟨some (namedV q i), ⟨fun x e => ?_, vr (k := 4) (mu := []) Z (d_law_typed Z.k) [.c (c_named Z m q h) (by decide)] (by kernel_rfl), vr (k := 4) (mu := []) Z (d_resolve_expr Z.k) [.c (c_rname Z m q h) (by decide)] (by kernel_rfl)⟩⟩
  cases e
  have hk := kdN_lt hq
  rcases k14 h with rfl | rfl | rfl | rfl | rfl | rfl | rfl | rfl | rfl | rfl | rfl | rfl | rfl | rfl
  · exact ⟨RK.of 1 (kdN q 0) [.str "X1"] (by kernel_rfl) (by decide) (hk 0), WF.of (by kernel_rfl)⟩
  · exact ⟨RK.of 1 (kdN q 1) [.str "I1"] (by kernel_rfl) (by decide) (hk 1), WF.of (by kernel_rfl)⟩
  · exact ⟨RK.of 1 (kdN q 2) [.str "B1"] (by kernel_rfl) (by decide) (hk 2), WF.of (by kernel_rfl)⟩
  · exact ⟨RK.of 1 (kdN q 3) [.str "N1"] (by kernel_rfl) (by decide) (hk 3), WF.of (by kernel_rfl)⟩
  · exact ⟨RK.of 1 2 [.str "D1"] (by kernel_rfl) (by decide) (by decide), WF.of (by kernel_rfl)⟩
  · exact ⟨RK.of 1 3 [.str "C1"] (by kernel_rfl) (by decide) (by decide), WF.of (by kernel_rfl)⟩
  · exact ⟨RK.of 0 1 [.str "V1"] (by kernel_rfl) (by decide) (by decide), WF.of (by kernel_rfl)⟩
  · exact ⟨RK.of 1 4 [.str "L1"] (by kernel_rfl) (by decide) (by decide), WF.of (by kernel_rfl)⟩
  · exact ⟨RK.of 1 5 [.str "T1"] (by kernel_rfl) (by decide) (by decide), WF.of (by kernel_rfl)⟩
  · exact ⟨RK.of 0 0 [.str "M1"] (by kernel_rfl) (by decide) (by decide), WF.of (by kernel_rfl)⟩
  · exact ⟨RK.of 0 5 [.str "U1"] (by kernel_rfl) (by decide) (by decide), WF.of (by kernel_rfl)⟩
  · exact ⟨RK.of 3 0 [.int 7] (by kernel_rfl) (by decide) (by decide), WF.of (by kernel_rfl)⟩
  · exact ⟨.proc _, WF.of (by kernel_rfl)⟩
  · exact ⟨.proc _, WF.of (by kernel_rfl)⟩
theorem j_const {i : Nat} (h : i < 10) : ∃ r, JJ g m q 30 3 (constA i) r := by
  refine ⟨constV' i, ⟨fun x e => ?_, ?_, ?_⟩⟩
  · rcases k10 h with rfl | rfl | rfl | rfl | rfl | rfl | rfl | rfl | rfl | rfl <;> cases e
    · exact ⟨RK.of 3 0 [.int 3] (by kernel_rfl) (by decide) (by decide), WF.of (by kernel_rfl)⟩
    · exact ⟨RK.of 3 1 [.tup [.int 25, .int (-1)]] (by kernel_rfl) (by decide) (by decide), WF.of (by kernel_rfl)⟩
    · exact ⟨RK.of 3 0 [.int 2147483647] (by kernel_rfl) (by decide) (by decide), WF.of (by kernel_rfl)⟩
    · exact ⟨RK.of 3 1 [.tup [.int 1234568, .int 3]] (by kernel_rfl) (by decide) (by decide), WF.of (by kernel_rfl)⟩
    · exact ⟨RK.of 3 2 [.tup [.int 1, .int 2]] (by kernel_rfl) (by decide) (by decide), WF.of (by kernel_rfl)⟩
    · exact ⟨RK.of 3 4 [.bool true] (by kernel_rfl) (by decide) (by decide), WF.of (by kernel_rfl)⟩
    · exact ⟨RK.of 3 5 [.str "ab"] (by kernel_rfl) (by decide) (by decide), WF.of (by kernel_rfl)⟩
    · exact ⟨RK.of 3 3 [.tup [.tup [.int (-1), .int 0], .tup [.int 5, .int (-1)]]] (by kernel_rfl) (by decide) (by decide), WF.of (by kernel_rfl)⟩
    · exact ⟨RK.of 3 1 [.tup [.int 1, .int 8]] (by kernel_rfl) (by decide) (by decide), WF.of (by kernel_rfl)⟩
  · have hc := c_lconst Z (stT m q) h
    refine vr (k := 4) (mu := []) Z (d_law_typed Z.k) [.c hc (by decide)] ?_
    revert hc; revert h; revert i
    apply uE1; kernel_rfl
  · have hc := c_const Z m q h
    refine vq (k := 4) (mu := []) Z (d_resolve_expr Z.k) [.c hc (by decide)] ?_
    revert hc; revert h; revert i
    apply uE1; kernel_rfl
end
theorem ifB_some {c : Bool} {v x : AV} (h : ifB c v = some x) : c = true ∧ x = v := by
  unfold ifB at h
  split at h
  · cases h; exact ⟨rfl, rfl⟩
  · cases h
/-! ## signs and operators -/
noncomputable def opS : Nat → PySem.Str
  | 0 => "-" | 1 => "+" | _ => ".NOT."
theorem k3 {o : Nat} (h : o < 3) : o = 0 ∨ o = 1 ∨ o = 2 := (by decide +kernel : ∀ o, o < 3 → o = 0 ∨ o = 1 ∨ o = 2) o h
noncomputable def unV (o : Nat) (x : AV) (k : Nat) : Option AV := match o with
  | 0 => ifB (numB k) (.tup [.str "neg", .int k, x])
  | 1 => ifB (numB k) x
  | _ => ifB (Nat.beq k 4) (.tup [.str "not", .int 4, x])
section
variable {g : Glb} (Z : Real g) (m : MM) (q : KK)
theorem q30 {n : Nat} : n + 5 < n + 30 - 1 := Nat.add_lt_add_left (by decide : 5 < 29) n
theorem q25 {n : Nat} : n + 5 < n + 25 - 1 := Nat.add_lt_add_left (by decide : 5 < 24) n
theorem q20 {n : Nat} : n + 5 < n + 20 - 1 := Nat.add_lt_add_left (by decide : 5 < 19) n
theorem q2530 {n : Nat} : n + 25 < n + 30 - 1 := Nat.add_lt_add_left (by decide : 25 < 29) n
theorem q2025 {n : Nat} : n + 20 < n + 25 - 1 := Nat.add_lt_add_left (by decide : 20 < 24) n
theorem q225 {n : Nat} : 2 < n + 25 - 1 := Nat.lt_of_lt_of_le (by decide : 2 < 24) (Nat.le_add_left 24 n)
include Z
theorem j_un {n w o : Nat} (ho : o < 3) {t : AV} {r : Option AV} (h : JV g m q (n + 5) w t r) : ∃ r, JJ g m q (n + 30) (w + 1) (.tup [.str "un", .str (opS o), t]) r := by
  obtain ⟨h1, h2, h3⟩ := h
  cases r with
  | none =>
    refine ⟨none, ⟨fun x (e : none = some x) => (nomatch e), ?_, ?_⟩⟩
    · refine vr (k := 4) (mu := []) Z (d_law_typed Z.k) [.c h2 q30] ?_ (by decide) (by omega)
      revert ho; revert o
      apply tE1; kernel_rfl
    · have ht : Valid g (n + 20) (.ref 182) [t, scO] (stR m q) none (stR m q) := vq (r := none) (k := 4) (mu := []) Z (d_resolve_truth Z.k) [.c h3 q20] (by kernel_rfl) (by decide) (by omega)
      have hu : Valid g (n + 25) (.ref 215) [.str (opS o), t, scO] (stR m q) none (stR m q) := by
        rcases k3 ho with rfl | rfl | rfl
        · exact vq (r := none) (k := 4) (mu := []) Z (d_resolve_unary Z.k) [.c h3 q25] (by kernel_rfl) (by decide) (by omega)
        · exact vq (r := none) (k := 4) (mu := []) Z (d_resolve_unary Z.k) [.c h3 q25] (by kernel_rfl) (by decide) (by omega)
        · exact vq (r := none) (k := 4) (mu := []) Z (d_resolve_unary Z.k) [.c ht q2025] (by kernel_rfl) (by decide) (by omega)
      exact vq (r := none) (k := 4) (mu := []) Z (d_resolve_expr Z.k) [.c hu q2530] (by kernel_rfl) (by decide) (by omega)
  | some x =>
    obtain ⟨hk, hw⟩ := h1 x rfl
    obtain ⟨rest, i1, i2, kk⟩ := hk
    rename_i i k
    have rk : RK (tr (tagS i) k rest) := .tr rest i2 kk
    clear h1 i1 i2
    generalize tagS i = tg at *
    refine ⟨unV o (tr tg k rest) k, ⟨fun x e => ?_, ?_, ?_⟩⟩
    · have hs : WFL w [tr tg k rest] := .cons hw .nil
      have hn : WF (w + 1) (.tup [.str "neg", .int k, tr tg k rest]) := WF.tup (.cons (WF.str (by kernel_rfl)) (.cons (WF.int _) hs))
      have hn2 : WF (w + 1) (.tup [.str "not", .int 4, tr tg k rest]) := WF.tup (.cons (WF.str (by kernel_rfl)) (.cons (WF.int _) hs))
      rcases k3 ho with rfl | rfl | rfl
      · have e : ifB (numB k) _ = some x := e
        rw [(ifB_some e).2]; exact ⟨RK.of 9 k [tr tg k rest] rfl (by decide) kk, hn⟩
      · have e : ifB (numB k) _ = some x := e
        rw [(ifB_some e).2]; exact ⟨rk, hw.mono (by omega)⟩
      · have e : ifB (Nat.beq k 4) _ = some x := e
        rw [(ifB_some e).2]; exact ⟨RK.of 8 4 [tr tg k rest] rfl (by decide) (by decide), hn2⟩
    · clear rk hw
      clear h3
      refine vr (k := 4) (mu := []) Z (d_law_typed Z.k) [.c h2 q30] ?_ (by decide) (by omega)
      revert h2; revert kk; revert k; revert ho; revert o
      apply uE2; kernel_rfl
    · clear rk hw
      have ht : Valid g (n + 20) (.ref 182) [t, scO] (stR m q) (ifB (Nat.beq k 4) (tr tg k rest)) (stR m q) := by
        clear h2
        refine vq (k := 4) (mu := []) Z (d_resolve_truth Z.k) [.c h3 q20] ?_ (by decide) (by omega)
        revert h3; revert kk; revert k
        apply uE1; kernel_rfl
      have hu : Valid g (n + 25) (.ref 215) [.str (opS o), t, scO] (stR m q) (unV o (tr tg k rest) k) (stR m q) := by
        rcases k3 ho with rfl | rfl | rfl
        · clear h2 ht
          refine vq (k := 4) (mu := []) Z (d_resolve_unary Z.k) [.c h3 q25, .c (c_num Z (stR m q) _ kk) q225] ?_ (by decide) (by omega)
          revert h3; revert kk; revert k
          apply uE1; kernel_rfl
        · clear h2 ht
          refine vq (k := 4) (mu := []) Z (d_resolve_unary Z.k) [.c h3 q25, .c (c_num Z (stR m q) _ kk) q225] ?_ (by decide) (by omega)
          revert h3; revert kk; revert k
          apply uE1; kernel_rfl
        · clear h2 h3
          refine vq (k := 4) (mu := []) Z (d_resolve_unary Z.k) [.c ht q2025] ?_ (by decide) (by omega)
          revert ht; revert kk; revert k
          apply uE1; kernel_rfl
      cases hr : unV o (tr tg k rest) k with
      | none =>
        rw [hr] at hu
        exact vq (r := none) (k := 4) (mu := []) Z (d_resolve_expr Z.k) [.c hu q2530] (by kernel_rfl) (by decide) (by omega)
      | some y =>
        rw [hr] at hu
        exact vr (k := 4) (mu := []) Z (d_resolve_expr Z.k) [.c hu q2530] (by kernel_rfl) (by decide) (by omega)
end
end Mine
end
section
set_option maxHeartbeats 4000000
open PySem PySem.W PySem.Spec PySem.Calls PyProof.Rows
namespace Mine
theorem hkV_lt {a b k : Nat} (ha : a < 6) (hb : b < 6) (h : hkV a b = some k) : k < 6 := by
  unfold hkV at h
  split at h
  · split at h
    · cases h
    · cases h; exact max6 ha hb
  · cases h
theorem toK_wf {w a k : Nat} {x : AV} (h : WF w x) : WF (w + 1) (orN (toK x a k)) := by
  unfold toK
  split
  · exact h.mono (by omega)
  · split
    · exact WF.tup (.cons (WF.str (by kernel_rfl)) (.cons (WF.int _) (.cons h .nil)))
    · exact WF.none
theorem wf4 {w : Nat} {s : PySem.Str} {i : Int} {x y : AV} (hs : (PyData.str s).canLay0 = true) (hx : WF w x) (hy : WF w y) : WF (w + 1) (.tup [.str s, .int i, x, y]) :=
  WF.tup (.cons (WF.str hs) (.cons (WF.int _) (.cons hx (.cons hy .nil))))
theorem arithV_ok {w a b i : Nat} {x y z : AV} {s : PySem.Str} (hx : WF w x) (hy : WF w y) (ha : a < 6) (hb : b < 6) (hi : i < 22) (ht : tagS i = s) (hs : (PyData.str s).canLay0 = true) (h : arithV s x a y b = some z) : RK z ∧ WF (w + 2) z := by
  unfold arithV at h
  split at h
  · rename_i k e
    cases h
    exact ⟨RK.of i k [orN (toK x a k), orN (toK y b k)] (by rw [ht]; rfl) hi (hkV_lt ha hb e), wf4 hs (toK_wf hx) (toK_wf hy)⟩
  · cases h
theorem relV_ok {w a b i c : Nat} {x y z : AV} {s : PySem.Str} (hx : WF w x) (hy : WF w y) (hi : i < 22) (ht : tagS i = s) (hs : (PyData.str s).canLay0 = true) (h : relV c s x a y b = some z) : RK z ∧ WF (w + 2) z := by
  have ok : ∀ (k : Nat), RK (.tup [.str s, .int 4, orN (toK x a k), orN (toK y b k)]) ∧ WF (w + 2) (.tup [.str s, .int 4, orN (toK x a k), orN (toK y b k)]) := fun k =>
    ⟨RK.of i 4 [orN (toK x a k), orN (toK y b k)] (by rw [ht]; rfl) hi (by decide), wf4 hs (toK_wf hx) (toK_wf hy)⟩
  unfold relV at h
  split at h
  · cases h
    exact ⟨RK.of i 4 [x, y] (by rw [ht]; rfl) hi (by decide), (wf4 hs hx hy).mono (by omega)⟩
  · split at h
    · rename_i k _
      split at h
      · cases h
      · cases h; exact ok k
    · cases h
theorem powV_ok {w a b : Nat} {x y z : AV} (hx : WF w x) (hy : WF w y) (ha : a < 6) (hb : b < 6) (h : powV x a y b = some z) : RK z ∧ WF (w + 2) z := by
  unfold powV at h
  split at h
  · split at h
    · cases h
      exact ⟨RK.of 10 a [x, y] rfl (by decide) ha, (wf4 (by kernel_rfl) hx hy).mono (by omega)⟩
    · exact arithV_ok hx hy ha hb (i := 11) (by decide) rfl (by kernel_rfl) h
  · cases h
theorem pairV_ok {w a b s : Nat} {x y z : AV} (hs : s < 12) (hx : WF w x) (hy : WF w y) (ha : a < 6) (hb : b < 6) (h : pairV s x a y b = some z) : RK z ∧ WF (w + 2) z := by
  rcases k12 hs with rfl | rfl | rfl | rfl | rfl | rfl | rfl | rfl | rfl | rfl | rfl | rfl
  · exact arithV_ok hx hy ha hb (i := 12) (by decide) rfl (by kernel_rfl) h
  · exact arithV_ok hx hy ha hb (i := 13) (by decide) rfl (by kernel_rfl) h
  · exact arithV_ok hx hy ha hb (i := 14) (by decide) rfl (by kernel_rfl) h
  · exact arithV_ok hx hy ha hb (i := 15) (by decide) rfl (by kernel_rfl) h
  · exact powV_ok hx hy ha hb h
  · exact powV_ok hx hy ha hb h
  · exact relV_ok hx hy (i := 16) (by decide) rfl (by kernel_rfl) h
  · exact relV_ok hx hy (i := 17) (by decide) rfl (by kernel_rfl) h
  · exact relV_ok hx hy (i := 18) (by decide) rfl (by kernel_rfl) h
  · have h : ifB _ _ = some z := h
    rw [(ifB_some h).2]
    exact ⟨RK.of 21 5 [x, y] rfl (by decide) (by decide), (wf4 (by kernel_rfl) hx hy).mono (by omega)⟩
  · have h : ifB _ _ = some z := h
    rw [(ifB_some h).2]
    exact ⟨RK.of 19 4 [x, y] rfl (by decide) (by decide), (wf4 (by kernel_rfl) hx hy).mono (by omega)⟩
  · have h : ifB _ _ = some z := h
    rw [(ifB_some h).2]
    exact ⟨RK.of 20 4 [x, y] rfl (by decide) (by decide), (wf4 (by kernel_rfl) hx hy).mono (by omega)⟩
section
variable {g : Glb} (Z : Real g) (m : MM) (q : KK)
theorem q430 {n : Nat} : 4 < n + 30 - 1 := Nat.lt_of_lt_of_le (by decide : 4 < 29) (Nat.le_add_left 29 n)
theorem q1430 {n : Nat} : n + 5 + 9 < n + 30 - 1 := Nat.add_lt_add_left (by decide : 14 < 29) n
theorem q149 {n : Nat} : n + 5 < n + 5 + 9 - 1 := by omega
include Z
theorem expr_bin {n s : Nat} (hs : s < 12) {l r : AV} {v : Option AV} (h : Valid g (n + 5 + 9) (.ref 236) [.str (signS s), l, r, scO] (stR m q) v (stR m q)) : Valid g (n + 30) (.ref 243) [.tup [.str "bin", .str (signS s), l, r], scO] (stR m q) v (stR m q) := by
  cases v with
  | none => exact vq (r := none) (k := 4) (mu := []) Z (d_resolve_expr Z.k) [.c h q1430] (by kernel_rfl) (by decide) (by omega)
  | some y => exact vr (k := 4) (mu := []) Z (d_resolve_expr Z.k) [.c h q1430] (by kernel_rfl) (by decide) (by omega)
theorem j_bin {n w s : Nat} (hs : s < 12) {l r : AV} {rl rr : Option AV} (h : JV g m q (n + 5) w l rl) (h' : JV g m q (n + 5) w r rr) : ∃ v, JJ g m q (n + 30) (w + 2) (.tup [.str "bin", .str (signS s), l, r]) v := by
  obtain ⟨h1, h2, h3⟩ := h
  obtain ⟨h1', h2', h3'⟩ := h'
  cases rl with
  | none =>
    refine ⟨none, ⟨fun x (e : none = some x) => (nomatch e), vr (k := 4) (mu := []) Z (d_law_typed Z.k) [.c h2 q30, .c h2' q30] (by kernel_rfl) (by decide) (by omega), expr_bin Z m q hs ?_⟩⟩
    exact vq (r := none) (k := 4) (mu := []) Z (d_resolve_binary Z.k) [.c h3 q149] (by kernel_rfl) (by decide) (by omega)
  | some x =>
    obtain ⟨hk, hw⟩ := h1 x rfl
    obtain ⟨rest, i1, i2, kk⟩ := hk
    rename_i i k
    clear h1 i1 i2
    generalize tagS i = tg at *
    cases rr with
    | none =>
      refine ⟨none, ⟨fun x (e : none = some x) => (nomatch e), vr (k := 4) (mu := []) Z (d_law_typed Z.k) [.c h2 q30, .c h2' q30] (by kernel_rfl) (by decide) (by omega), expr_bin Z m q hs ?_⟩⟩
      exact vq (r := none) (k := 4) (mu := []) Z (d_resolve_binary Z.k) [.c h3 q149, .c h3' q149] (by kernel_rfl) (by decide) (by omega)
    | some y =>
      obtain ⟨hk', hw'⟩ := h1' y rfl
      obtain ⟨rest', i1', i2', kk'⟩ := hk'
      rename_i i' k'
      clear h1' i1' i2'
      generalize tagS i' = tg' at *
      refine ⟨pairV s (tr tg k rest) k (tr tg' k' rest') k', ⟨fun x e => pairV_ok hs hw hw' kk kk' e, ?_, expr_bin Z m q hs (c_bin Z (stR m q) tg rest tg' rest' hs l r scO kk kk' h3 h3')⟩⟩
      have hp := c_pair Z (stT m q) tg rest tg' rest' hs kk kk'
      exact vr (k := 4) (mu := []) Z (d_law_typed Z.k) [.c h2 q30, .c h2' q30, .c hp q430] (by kernel_rfl) (by decide) (by omega)
end
end Mine
end
section
set_option maxHeartbeats 4000000
open PySem PySem.W PySem.Spec PySem.Calls PyProof.Rows
namespace Mine
/-! ## substrings -/
/-- an end of a substring: the part, what the law sees, what resolve_whole gives -/
inductive JE (g : Glb) (m : MM) (q : KK) (n w : Nat) : AV → AV → Option AV → Prop
  | no : JE g m q n w .none .none (some .none)
  | bad {l : List AV} : Valid g (n + 5) (.ref 417) [.tup l, .ref 4] (stT m q) (some .none) (stT m q) → Valid g (n + 5) (.ref 250) [.tup l, scO] (stR m q) none (stR m q) → JE g m q n w (.tup l) .none none
  | val {l rest : List AV} {tg : PySem.Str} {k : Nat} : Valid g (n + 5) (.ref 417) [.tup l, .ref 4] (stT m q) (some (tr tg k rest)) (stT m q) → Valid g (n + 5) (.ref 250) [.tup l, scO] (stR m q) (some (tr tg k rest)) (stR m q) → k < 6 → WF w (tr tg k rest) → JE g m q n w (.tup l) (tr tg k rest) (ifB (Nat.beq k 0) (tr tg k rest))
theorem JE.of {g : Glb} {m : MM} {q : KK} {n w : Nat} {l : List AV} {r : Option AV} (h : JV g m q (n + 5) w (.tup l) r) : ∃ e v, JE g m q n w (.tup l) e v := by
  obtain ⟨h1, h2, h3⟩ := h
  cases r with
  | none => exact ⟨_, _, .bad h2 h3⟩
  | some x =>
    obtain ⟨hk, hw⟩ := h1 x rfl
    obtain ⟨rest, i1, i2, kk⟩ := hk
    exact ⟨_, _, .val h2 h3 kk hw⟩
theorem JE.law {g : Glb} {m : MM} {q : KK} {n w : Nat} {p e : AV} {v : Option AV} (h : JE g m q n w p e v) : (p = .none ∧ e = .none) ∨ ∃ l, p = .tup l ∧ Valid g (n + 5) (.ref 417) [.tup l, .ref 4] (stT m q) (some e) (stT m q) := by
  cases h with
  | no => exact .inl ⟨rfl, rfl⟩
  | bad a _ => exact .inr ⟨_, rfl, a⟩
  | val a _ _ _ => exact .inr ⟨_, rfl, a⟩
noncomputable def sk (j : Nat) : Nat := match j with
  | 0 => 0
  | j + 1 => j + 3
section
variable {g : Glb} (Z : Real g) (m : MM) (q : KK)
theorem q510 {n : Nat} : n + 5 < n + 10 - 1 := Nat.add_lt_add_left (by decide : 5 < 9) n
theorem q015 {n : Nat} : n < n + 15 - 1 := Nat.add_lt_add_left (by decide : 0 < 14) n
theorem q515 {n : Nat} : n + 5 < n + 15 - 1 := Nat.add_lt_add_left (by decide : 5 < 14) n
theorem q1015 {n : Nat} : n + 10 < n + 15 - 1 := Nat.add_lt_add_left (by decide : 10 < 14) n
theorem q1530 {n : Nat} : n + 15 < n + 30 - 1 := Nat.add_lt_add_left (by decide : 15 < 29) n
include Z
theorem JE.whole {n w : Nat} {p e : AV} {v : Option AV} (h : JE g m q n w p e v) : Valid g (n + 10) (.ref 175) [p, scO] (stR m q) v (stR m q) := by
  cases h with
  | no => exact vr (k := 4) (mu := []) Z (d_resolve_whole Z.k) [] (by kernel_rfl) (by decide) (by omega)
  | bad a b => exact vq (r := none) (k := 4) (mu := []) Z (d_resolve_whole Z.k) [.c b q510] (by kernel_rfl) (by decide) (by omega)
  | val a b kk hw =>
    clear a hw
    refine vq (k := 4) (mu := []) Z (d_resolve_whole Z.k) [.c b q510] ?_ (by decide) (by omega)
    revert b; revert kk
    rename_i k
    revert k
    apply uE1; kernel_rfl
omit Z in
theorem subT (p l h : AV) : True := trivial
/-- the base of a substring: a place of a text, or not -/
inductive JB : Option AV → Prop
  | none : JB none
  | proc (s : PySem.Str) : JB (some (.tup [.str "proc", .int (-1), .str s]))
  | tag {i k : Nat} (rest : List AV) : i < 22 → i ≠ 1 → i ≠ 2 → JB (some (tr (tagS i) k rest))
  | kind {i k : Nat} (rest : List AV) : i = 1 ∨ i = 2 → k < 5 → JB (some (tr (tagS i) k rest))
omit Z in
theorem sk_of {i : Nat} (h : i < 22) (n1 : i ≠ 1) (n2 : i ≠ 2) : ∃ j, j < 20 ∧ i = sk j := by
  cases i with
  | zero => exact ⟨0, by decide, rfl⟩
  | succ i => exact ⟨i - 1, by omega, by unfold sk; split <;> omega⟩
omit Z in
theorem k5 {k : Nat} (h : k < 5) : k = 0 ∨ k = 1 ∨ k = 2 ∨ k = 3 ∨ k = 4 := (by decide +kernel : ∀ k, k < 5 → k = 0 ∨ k = 1 ∨ k = 2 ∨ k = 3 ∨ k = 4) k h
theorem cut_bad {n w : Nat} {b p e p' e' : AV} {r v v' : Option AV} (hb : JB r) (h2 : Valid g n (.ref 448) [b, .ref 4] (stT m q) (some (orN r)) (stT m q)) (h : JE g m q n w p e v) (h' : JE g m q n w p' e' v') :
    Valid g (n + 15) (.ref 434) [.tup [.str "sub", b, p, p'], .ref 4] (stT m q) (some .none) (stT m q) := by
  have go : ∀ calls, (∀ x x', p = x → p' = x' → True) → RunsTo g ["tree", "kinds"] [] (fnScope 68) (fnBody 68) 4 [] (n + 15) [.tup [.str "sub", b, p, p'], .ref 4] (stT m q) (some .none) (stT m q) calls (Post (stT m q).length (some .none) (stT m q) (.ret .none) (stT m q)) → Valid g (n + 15) (.ref 434) [.tup [.str "sub", b, p, p'], .ref 4] (stT m q) (some .none) (stT m q) :=
    fun calls _ h => vr Z (d_law_cut Z.k) calls h (by decide) (by omega)
  rcases h.law with ⟨rfl, rfl⟩ | ⟨l, rfl, a⟩ <;> rcases h'.law with ⟨rfl, rfl⟩ | ⟨l', rfl, a'⟩
  · cases hb with
    | none => exact go [.c h2 q015] (fun _ _ _ _ => trivial) (by kernel_rfl)
    | proc s => exact go [.c h2 q015] (fun _ _ _ _ => trivial) (by kernel_rfl)
    | tag rest hi n1 n2 =>
      obtain ⟨j, hj, rfl⟩ := sk_of hi n1 n2
      clear hi n1 n2
      refine go [.c h2 q015] (fun _ _ _ _ => trivial) ?_
      clear go
      revert h2; revert hj; revert j
      apply uE1; kernel_rfl
    | @kind i k rest hi hk =>
      obtain ⟨j, hj, rfl⟩ : ∃ j, j < 2 ∧ i = j + 1 := ⟨i - 1, by omega, by omega⟩
      clear hi
      refine go [.c h2 q015] (fun _ _ _ _ => trivial) ?_
      clear go
      revert h2; revert hk; revert k; revert hj; revert j
      apply uE2; kernel_rfl
  · cases hb with
    | none => exact go [.c h2 q015, .c a' q515] (fun _ _ _ _ => trivial) (by kernel_rfl)
    | proc s => exact go [.c h2 q015, .c a' q515] (fun _ _ _ _ => trivial) (by kernel_rfl)
    | tag rest hi n1 n2 =>
      obtain ⟨j, hj, rfl⟩ := sk_of hi n1 n2
      clear hi n1 n2
      refine go [.c h2 q015, .c a' q515] (fun _ _ _ _ => trivial) ?_
      clear go
      revert h2; revert hj; revert j
      apply uE1; kernel_rfl
    | @kind i k rest hi hk =>
      obtain ⟨j, hj, rfl⟩ : ∃ j, j < 2 ∧ i = j + 1 := ⟨i - 1, by omega, by omega⟩
      clear hi
      refine go [.c h2 q015, .c a' q515] (fun _ _ _ _ => trivial) ?_
      clear go
      revert h2; revert hk; revert k; revert hj; revert j
      apply uE2; kernel_rfl
  · cases hb with
    | none => exact go [.c h2 q015, .c a q515] (fun _ _ _ _ => trivial) (by kernel_rfl)
    | proc s => exact go [.c h2 q015, .c a q515] (fun _ _ _ _ => trivial) (by kernel_rfl)
    | tag rest hi n1 n2 =>
      obtain ⟨j, hj, rfl⟩ := sk_of hi n1 n2
      clear hi n1 n2
      refine go [.c h2 q015, .c a q515] (fun _ _ _ _ => trivial) ?_
      clear go
      revert h2; revert hj; revert j
      apply uE1; kernel_rfl
    | @kind i k rest hi hk =>
      obtain ⟨j, hj, rfl⟩ : ∃ j, j < 2 ∧ i = j + 1 := ⟨i - 1, by omega, by omega⟩
      clear hi
      refine go [.c h2 q015, .c a q515] (fun _ _ _ _ => trivial) ?_
      clear go
      revert h2; revert hk; revert k; revert hj; revert j
      apply uE2; kernel_rfl
  · cases hb with
    | none => exact go [.c h2 q015, .c a q515, .c a' q515] (fun _ _ _ _ => trivial) (by kernel_rfl)
    | proc s => exact go [.c h2 q015, .c a q515, .c a' q515] (fun _ _ _ _ => trivial) (by kernel_rfl)
    | tag rest hi n1 n2 =>
      obtain ⟨j, hj, rfl⟩ := sk_of hi n1 n2
      clear hi n1 n2
      refine go [.c h2 q015, .c a q515, .c a' q515] (fun _ _ _ _ => trivial) ?_
      clear go
      revert h2; revert hj; revert j
      apply uE1; kernel_rfl
    | @kind i k rest hi hk =>
      obtain ⟨j, hj, rfl⟩ : ∃ j, j < 2 ∧ i = j + 1 := ⟨i - 1, by omega, by omega⟩
      clear hi
      refine go [.c h2 q015, .c a q515, .c a' q515] (fun _ _ _ _ => trivial) ?_
      clear go
      revert h2; revert hk; revert k; revert hj; revert j
      apply uE2; kernel_rfl
theorem rsub_bad {n : Nat} {b p p' : AV} {r : Option AV} (hb : JB r) (h3 : Valid g n (.ref 243) [b, scO] (stR m q) r (stR m q)) : Valid g (n + 15) (.ref 208) [.tup [.str "sub", b, p, p'], scO] (stR m q) none (stR m q) := by
  cases hb with
  | none => exact vq (r := none) (k := 4) (mu := []) Z (d_resolve_sub Z.k) [.c h3 q015] (by kernel_rfl) (by decide) (by omega)
  | proc s => exact vq (r := none) (k := 4) (mu := []) Z (d_resolve_sub Z.k) [.c h3 q015] (by kernel_rfl) (by decide) (by omega)
  | tag rest hi n1 n2 =>
    obtain ⟨j, hj, rfl⟩ := sk_of hi n1 n2
    clear hi n1 n2
    refine vq (r := none) (k := 4) (mu := []) Z (d_resolve_sub Z.k) [.c h3 q015] ?_ (by decide) (by omega)
    revert h3; revert hj; revert j
    apply uE1; kernel_rfl
  | @kind i k rest hi hk =>
    obtain ⟨j, hj, rfl⟩ : ∃ j, j < 2 ∧ i = j + 1 := ⟨i - 1, by omega, by omega⟩
    clear hi
    refine vq (r := none) (k := 4) (mu := []) Z (d_resolve_sub Z.k) [.c h3 q015] ?_ (by decide) (by omega)
    revert h3; revert hk; revert k; revert hj; revert j
    apply uE2; kernel_rfl
end
end Mine
end
section
set_option maxHeartbeats 4000000
open PySem PySem.W PySem.Spec PySem.Calls PyProof.Rows
namespace Mine
noncomputable def cutV (b e e' : AV) (v v' : Option AV) : Option AV := match v with
  | some _ => match v' with
    | some _ => some (.tup [.str "substr", .int 5, b, e, e'])
    | none => none
  | none => none
theorem JE.v {g : Glb} {m : MM} {q : KK} {n w : Nat} {p e : AV} {v : Option AV} (h : JE g m q n w p e v) : v = none ∨ v = some e := by
  cases h with
  | no => exact .inr rfl
  | bad _ _ => exact .inl rfl
  | val _ _ _ _ =>
    unfold ifB
    split
    · exact .inr rfl
    · exact .inl rfl
theorem JE.wf {g : Glb} {m : MM} {q : KK} {n w : Nat} {p e : AV} {v : Option AV} (h : JE g m q n w p e v) : WF w e := by
  cases h with
  | no => exact .none
  | bad _ _ => exact .none
  | val _ _ _ hw => exact hw
section
variable {g : Glb} (Z : Real g) (m : MM) (q : KK)
include Z
theorem cut_good {n w i : Nat} (hi : i = 1 ∨ i = 2) {rest : List AV} {b p e p' e' : AV} {v v' : Option AV} (h2 : Valid g n (.ref 448) [b, .ref 4] (stT m q) (some (tr (tagS i) 5 rest)) (stT m q)) (h : JE g m q n w p e v) (h' : JE g m q n w p' e' v') :
    Valid g (n + 15) (.ref 434) [.tup [.str "sub", b, p, p'], .ref 4] (stT m q) (some (orN (cutV (tr (tagS i) 5 rest) e e' v v'))) (stT m q) := by
  obtain ⟨t, ht, rfl⟩ : ∃ t, t < 2 ∧ i = t + 1 := ⟨i - 1, by omega, by omega⟩
  clear hi
  cases h with
  | no =>
    cases h' with
    | no =>
      refine vr (k := 4) (mu := []) Z (d_law_cut Z.k) [.c h2 q015] ?_ (by decide) (by omega)
      revert h2; revert ht; revert t
      apply uE1; kernel_rfl
    | bad a' b' =>
      clear b'
      refine vr (k := 4) (mu := []) Z (d_law_cut Z.k) [.c h2 q015, .c a' q515] ?_ (by decide) (by omega)
      revert h2; revert ht; revert t
      apply uE1; kernel_rfl
    | @val l' rest' tg' k' a' b' kk' hw' =>
      clear b' hw'
      have hx := And.intro h2 a'
      clear h2 a'
      refine vr (k := 4) (mu := []) Z (d_law_cut Z.k) [.c hx.1 q015, .c hx.2 q515] ?_ (by decide) (by omega)
      revert hx; revert kk'; revert k'; revert ht; revert t
      apply uE2; kernel_rfl
  | bad a b =>
    clear b
    cases h' with
    | no =>
      refine vr (k := 4) (mu := []) Z (d_law_cut Z.k) [.c h2 q015, .c a q515] ?_ (by decide) (by omega)
      revert h2; revert ht; revert t
      apply uE1; kernel_rfl
    | bad a' b' =>
      clear b'
      refine vr (k := 4) (mu := []) Z (d_law_cut Z.k) [.c h2 q015, .c a q515, .c a' q515] ?_ (by decide) (by omega)
      revert h2; revert ht; revert t
      apply uE1; kernel_rfl
    | @val l' rest' tg' k' a' b' kk' hw' =>
      clear b' hw' kk'
      refine vr (k := 4) (mu := []) Z (d_law_cut Z.k) [.c h2 q015, .c a q515, .c a' q515] ?_ (by decide) (by omega)
      revert h2; revert ht; revert t
      apply uE1; kernel_rfl
  | @val l rest1 tg k a b kk hw =>
    clear b hw
    cases h' with
    | no =>
      have hx := And.intro h2 a
      clear h2 a
      refine vr (k := 4) (mu := []) Z (d_law_cut Z.k) [.c hx.1 q015, .c hx.2 q515] ?_ (by decide) (by omega)
      revert hx; revert kk; revert k; revert ht; revert t
      apply uE2; kernel_rfl
    | bad a' b' =>
      clear b'
      have hx := And.intro h2 a
      clear h2 a
      refine vr (k := 4) (mu := []) Z (d_law_cut Z.k) [.c hx.1 q015, .c hx.2 q515, .c a' q515] ?_ (by decide) (by omega)
      revert hx; revert kk; revert k; revert ht; revert t
      apply uE2; kernel_rfl
    | @val l' rest' tg' k' a' b' kk' hw' =>
      clear b' hw'
      have hx := And.intro h2 (And.intro a a')
      clear h2 a a'
      refine vr (k := 4) (mu := []) Z (d_law_cut Z.k) [.c hx.1 q015, .c hx.2.1 q515, .c hx.2.2 q515] ?_ (by decide) (by omega)
      revert hx; revert kk'; revert k'; revert kk; revert k; revert ht; revert t
      apply uE3; kernel_rfl
theorem rsub_good {n w i : Nat} (hi : i = 1 ∨ i = 2) {rest : List AV} {b p e p' e' : AV} {v v' : Option AV} (h3 : Valid g n (.ref 243) [b, scO] (stR m q) (some (tr (tagS i) 5 rest)) (stR m q)) (h : JE g m q n w p e v) (h' : JE g m q n w p' e' v') :
    Valid g (n + 15) (.ref 208) [.tup [.str "sub", b, p, p'], scO] (stR m q) (cutV (tr (tagS i) 5 rest) e e' v v') (stR m q) := by
  have w1 := h.whole Z m q
  have w2 := h'.whole Z m q
  rcases h.v with rfl | rfl
  · rcases hi with rfl | rfl <;> exact vq (r := none) (k := 4) (mu := []) Z (d_resolve_sub Z.k) [.c h3 q015, .c w1 q1015] (by kernel_rfl) (by decide) (by omega)
  · rcases h'.v with rfl | rfl
    · rcases hi with rfl | rfl <;> exact vq (r := none) (k := 4) (mu := []) Z (d_resolve_sub Z.k) [.c h3 q015, .c w1 q1015, .c w2 q1015] (by kernel_rfl) (by decide) (by omega)
    · rcases hi with rfl | rfl <;> exact vr (k := 4) (mu := []) Z (d_resolve_sub Z.k) [.c h3 q015, .c w1 q1015, .c w2 q1015] (by kernel_rfl) (by decide) (by omega)
theorem typed_sub {n : Nat} {b p p' a : AV} (h : Valid g (n + 15) (.ref 434) [.tup [.str "sub", b, p, p'], .ref 4] (stT m q) (some a) (stT m q)) : Valid g (n + 30) (.ref 448) [.tup [.str "sub", b, p, p'], .ref 4] (stT m q) (some a) (stT m q) :=
  vr (k := 4) (mu := []) Z (d_law_typed Z.k) [.c h q1530] (by kernel_rfl) (by decide) (by omega)
theorem expr_sub {n : Nat} {b p p' : AV} {v : Option AV} (h : Valid g (n + 15) (.ref 208) [.tup [.str "sub", b, p, p'], scO] (stR m q) v (stR m q)) : Valid g (n + 30) (.ref 243) [.tup [.str "sub", b, p, p'], scO] (stR m q) v (stR m q) := by
  cases v with
  | none => exact vq (r := none) (k := 4) (mu := []) Z (d_resolve_expr Z.k) [.c h q1530] (by kernel_rfl) (by decide) (by omega)
  | some y => exact vr (k := 4) (mu := []) Z (d_resolve_expr Z.k) [.c h q1530] (by kernel_rfl) (by decide) (by omega)
theorem j_sub {n w : Nat} {b p e p' e' : AV} {r v v' : Option AV} (hb : JJ g m q n w b r) (h : JE g m q n w p e v) (h' : JE g m q n w p' e' v') : ∃ r, JJ g m q (n + 30) (w + 1) (.tup [.str "sub", b, p, p']) r := by
  obtain ⟨h1, h2, h3⟩ := hb
  have bad : JB r → ∃ r, JJ g m q (n + 30) (w + 1) (.tup [.str "sub", b, p, p']) r := fun hb =>
    ⟨none, fun x (e : none = some x) => (nomatch e), typed_sub Z m q (cut_bad Z m q hb h2 h h'), expr_sub Z m q (rsub_bad Z m q hb h3)⟩
  have good : ∀ {i : Nat} {rest : List AV}, i = 1 ∨ i = 2 → r = some (tr (tagS i) 5 rest) → ∃ r, JJ g m q (n + 30) (w + 1) (.tup [.str "sub", b, p, p']) r := fun {i rest} hi e0 => by
    subst e0
    refine ⟨cutV (tr (tagS i) 5 rest) e e' v v', fun x ex => ?_, typed_sub Z m q (cut_good Z m q hi h2 h h'), expr_sub Z m q (rsub_good Z m q hi h3 h h')⟩
    unfold cutV at ex
    split at ex
    · split at ex
      · cases ex
        exact ⟨RK.of 7 5 [tr (tagS i) 5 rest, e, e'] rfl (by decide) (by decide), WF.tup (.cons (WF.str (by kernel_rfl)) (.cons (WF.int _) (.cons (h1 _ rfl).2 (.cons h.wf (.cons h'.wf .nil)))))⟩
      · cases ex
    · cases ex
  cases r with
  | none => exact bad .none
  | some x =>
    obtain ⟨hk, hw⟩ := h1 x rfl
    cases hk with
    | proc s => exact bad (.proc s)
    | @tr i k rest hi hk =>
      by_cases e1 : i = 1 ∨ i = 2
      · by_cases e2 : k = 5
        · subst e2
          exact good e1 rfl
        · exact bad (.kind rest e1 (by omega))
      · exact bad (.tag rest hi (fun q => e1 (.inl q)) fun q => e1 (.inr q))
end
end Mine
end
section
set_option maxHeartbeats 4000000
open PySem PySem.W PySem.Spec PySem.Calls PyProof.Rows
namespace Mine
/-! ## elements, functions -/
/-- the names that are followed by brackets -/
noncomputable def refI : Nat → Nat
  | 0 => 6 | 1 => 9 | 2 => 13 | 3 => 12 | 4 => 10 | 5 => 0 | _ => 11
noncomputable def refS (c : Nat) : PySem.Str := nmS (refI c)
theorem k7 {c : Nat} (h : c < 7) : c = 0 ∨ c = 1 ∨ c = 2 ∨ c = 3 ∨ c = 4 ∨ c = 5 ∨ c = 6 := (by decide +kernel : ∀ c, c < 7 → c = 0 ∨ c = 1 ∨ c = 2 ∨ c = 3 ∨ c = 4 ∨ c = 5 ∨ c = 6) c h
noncomputable def ttag : Nat → PySem.Str
  | 0 => "name" | 1 => "ref" | 2 => "sub" | 3 => "un" | 4 => "bin" | 5 => "int" | 6 => "real" | 7 => "dble" | 8 => "log" | 9 => "char" | _ => "cplx"
noncomputable def s3 (j : Nat) : Nat := match Nat.blt j 3 with
  | true => j
  | false => j + 1
theorem s3_of {c : Nat} (h : c < 7) (n : c ≠ 3) : ∃ j, j < 6 ∧ c = s3 j :=
  (by decide +kernel : ∀ c, c < 7 → c ≠ 3 → ∃ j, j < 6 ∧ c = s3 j) c h n
noncomputable def elemV (c : Nat) (l : List AV) : AV := match c with
  | 0 => .tup [.str "elem", .int 1, .str "V1", .lst l]
  | 1 => .tup [.str "elem", .int 0, .str "M1", .lst l]
  | _ => .tup [.str "elem", .int 5, .str "U1", .lst l]
noncomputable def g2 (o : Option AV) (f : AV → Option AV) : Option AV := match o with
  | some a => f a
  | none => none
/-- what a name with values in brackets is (c ≠ 3) -/
noncomputable def app1 (c : Nat) (x : AV) (k : Nat) : Option AV := match c with
  | 0 => ifB (Nat.beq k 0) (elemV 0 [x])
  | 4 => ifB (Nat.beq k 0) (elemV 4 [x])
  | 2 => g2 (toK x k 2) fun a => some (.tup [.str "intr", .int 2, .str "GG", .lst [a]])
  | _ => none
noncomputable def app2 (c : Nat) (x : AV) (k : Nat) (x' : AV) (k' : Nat) : Option AV := match c with
  | 1 => ifB (both 0 k k') (elemV 1 [x, x'])
  | 2 => g2 (toK x k 2) fun a => g2 (toK x' k' 2) fun a' => some (.tup [.str "intr", .int 2, .str "GG", .lst [a, a']])
  | _ => none
noncomputable def kOf (x : AV) : Nat := match x with
  | .tup (_ :: .int (.ofNat k) :: _) => k
  | _ => 0
noncomputable def app1R (c : Nat) (r : Option AV) : Option AV := g2 r fun x => app1 c x (kOf x)
noncomputable def app2R (c : Nat) (r r' : Option AV) : Option AV := g2 r fun x => g2 r' fun x' => app2 c x (kOf x) x' (kOf x')
theorem WF.l1 {w : Nat} {x : AV} (h : WF w x) : WF (w + 1) (.lst [x]) := .lst (.cons h .nil)
theorem WF.l2 {w : Nat} {x y : AV} (h : WF w x) (k : WF w y) : WF (w + 1) (.lst [x, y]) := .lst (.cons h (.cons k .nil))
theorem okN : okV .none = true := by kernel_rfl
theorem okE : okV (.lst []) = true := by kernel_rfl
section
variable {g : Glb} (Z : Real g) (m : MM) (q : KK)
/-- the values of the arguments, where none is lacking: what the law asks -/
noncomputable def eC {lim : Nat} (c k : Nat) (x : AV) (hx : okV (.lst [x]) = true) : List (CE g lim) := match c with
  | 0 | 4 => match Nat.beq k 0 with
    | true => []
    | false => [.ok hx okE]
  | _ => []
noncomputable def eH {lim : Nat} (k : Nat) {l : AV} (o : okV l = true) : List (CE g lim) := match numB k with
  | false => []
  | true => [.ok okN o]
noncomputable def lt6 {k : Nat} (_ : k < 6) : Nat := k
theorem q115 {n : Nat} : 1 < n + 15 - 1 := Nat.lt_of_lt_of_le (by decide : 1 < 14) (Nat.le_add_left 14 n)
theorem q215 {n : Nat} : 2 < n + 15 - 1 := Nat.lt_of_lt_of_le (by decide : 2 < 14) (Nat.le_add_left 14 n)
include Z
omit Z in
theorem toK_some {x y : AV} {a k : Nat} (h : toK x a k = some y) : orN (toK x a k) = y := by rw [h]; rfl
/-- one argument, the law's side -/
theorem app_a1 {n w c : Nat} (hw : w ≤ 60) (hc : c < 7) (h3 : c ≠ 3) {l : List AV} {r : Option AV} (h : JV g m q (n + 5) w (.tup l) r) :
    Valid g (n + 15) (.ref 429) [.str (refS c), .lst [.tup l], .ref 4] (stT m q) (some (orN (app1R c r))) (stT m q) := by
  obtain ⟨h1, h2, hb⟩ := h
  clear hb
  cases r with
  | none =>
    obtain ⟨j, hj, rfl⟩ := s3_of hc h3
    clear hc h3 h1
    refine vr (k := 4) (mu := []) Z (d_law_applied Z.k) [.c h2 q515] ?_ (by decide) (by omega)
    revert hj; revert j
    apply tE1; kernel_rfl
  | some x =>
    obtain ⟨hk, hx⟩ := h1 x rfl
    obtain ⟨rest, i1, i2, kk⟩ := hk
    rename_i i k
    clear h1 i1 i2
    generalize tagS i = tg at *
    have o1 : okV (.lst [tr tg k rest]) = true := hx.l1.ok (by omega)
    have t2 : ∀ k' : Nat, k' < 6 → tr tg k rest = tr tg k rest := fun _ _ => rfl
    have ht := c_to Z (stT m q) tg rest kk (kind := 2) (by decide)
    rcases k7 hc with rfl | rfl | rfl | rfl | rfl | rfl | rfl
    · clear ht t2 h3 hc hx
      have hx := And.intro h2 o1
      clear h2 o1
      refine vr (k := 4) (mu := []) Z (d_law_applied Z.k) (.c hx.1 q515 :: .ok okN hx.2 :: .c (c_dims Z (stT m q)) q115 :: eC 0 (lt6 kk) _ hx.2) ?_ (by decide) (by omega)
      revert hx; revert kk; revert k
      apply uE1; kernel_rfl
    · exact vr (k := 4) (mu := []) Z (d_law_applied Z.k) [.c h2 q515, .ok okN o1, .c (c_dims Z (stT m q)) q115] (by kernel_rfl) (by decide) (by omega)
    · have o2 : okV (.lst [orN (toK (tr tg k rest) k 2)]) = true := (toK_wf hx).l1.ok (by omega)
      clear h3 hc hx t2
      have hx := And.intro h2 (And.intro o1 (And.intro ht o2))
      clear h2 o1 ht o2
      refine vr (k := 4) (mu := []) Z (d_law_applied Z.k) (.c hx.1 q515 :: .ok okN hx.2.1 :: .c hx.2.2.1 q215 :: eH (lt6 kk) hx.2.2.2) ?_ (by decide) (by omega)
      revert hx; revert kk; revert k
      apply uE1; kernel_rfl
    · exact absurd rfl h3
    · clear ht t2 h3 hc hx
      have hx := And.intro h2 o1
      clear h2 o1
      refine vr (k := 4) (mu := []) Z (d_law_applied Z.k) (.c hx.1 q515 :: .ok okN hx.2 :: .c (c_dims Z (stT m q)) q115 :: eC 0 (lt6 kk) _ hx.2) ?_ (by decide) (by omega)
      revert hx; revert kk; revert k
      apply uE1; kernel_rfl
    · exact vr (k := 4) (mu := []) Z (d_law_applied Z.k) [.c h2 q515, .ok okN o1] (by kernel_rfl) (by decide) (by omega)
    · exact vr (k := 4) (mu := []) Z (d_law_applied Z.k) [.c h2 q515, .ok okN o1] (by kernel_rfl) (by decide) (by omega)
omit Z in
theorem wfO {w : Nat} {o : Option AV} {a k : Nat} {x : AV} (h : WF w x) (e : o = toK x a k) : WF (w + 1) (orN o) := e ▸ toK_wf h
noncomputable def eM {lim : Nat} (k k' : Nat) {x y : AV} (o1 : okV (.lst [x]) = true) (o2 : okV (.lst [y]) = true) (o12 : okV (.lst [x, y]) = true) : List (CE g lim) := match Nat.beq k 0, Nat.beq k' 0 with
  | true, true => []
  | true, false => [.ok o2 okE]
  | false, true => [.ok o1 okE]
  | false, false => [.ok o12 okE]
noncomputable def eG {lim : Nat} (k k' : Nat) {l : AV} (o : okV l = true) : List (CE g lim) := match numB k, numB k' with
  | false, false => []
  | _, _ => [.ok okN o]
/-- two arguments, the law's side -/
theorem app_a2 {n w c : Nat} (hw : w ≤ 60) (hc : c < 7) (h3 : c ≠ 3) {l l' : List AV} {r r' : Option AV} (h : JV g m q (n + 5) w (.tup l) r) (h' : JV g m q (n + 5) w (.tup l') r') :
    Valid g (n + 15) (.ref 429) [.str (refS c), .lst [.tup l, .tup l'], .ref 4] (stT m q) (some (orN (app2R c r r'))) (stT m q) := by
  obtain ⟨h1, h2, hb⟩ := h
  obtain ⟨h1', h2', hb'⟩ := h'
  clear hb hb'
  cases r with
  | none =>
    cases r' with
    | none =>
      obtain ⟨j, hj, rfl⟩ := s3_of hc h3
      clear hc h3 h1 h1'
      refine vr (k := 4) (mu := []) Z (d_law_applied Z.k) [.c h2 q515, .c h2' q515] ?_ (by decide) (by omega)
      revert hj; revert j
      apply tE1; kernel_rfl
    | some x' =>
      obtain ⟨hk', hx'⟩ := h1' x' rfl
      obtain ⟨rest', i1', i2', kk'⟩ := hk'
      rename_i i' k'
      clear h1' i1' i2'
      generalize tagS i' = tg' at *
      have o : okV (.lst [.none, tr tg' k' rest']) = true := (WF.l2 (w := w) WF.none hx').ok (by omega)
      obtain ⟨j, hj, rfl⟩ := s3_of hc h3
      clear hc h3
      refine vr (k := 4) (mu := []) Z (d_law_applied Z.k) [.c h2 q515, .c h2' q515, .ok okN o] ?_ (by decide) (by omega)
      revert hj; revert j
      apply tE1; kernel_rfl
  | some x =>
    obtain ⟨hk, hx⟩ := h1 x rfl
    obtain ⟨rest, i1, i2, kk⟩ := hk
    rename_i i k
    clear h1 i1 i2
    generalize tagS i = tg at *
    cases r' with
    | none =>
      have o : okV (.lst [tr tg k rest, .none]) = true := (WF.l2 (w := w) hx WF.none).ok (by omega)
      obtain ⟨j, hj, rfl⟩ := s3_of hc h3
      clear hc h3
      refine vr (k := 4) (mu := []) Z (d_law_applied Z.k) [.c h2 q515, .c h2' q515, .ok okN o] ?_ (by decide) (by omega)
      revert hj; revert j
      apply tE1; kernel_rfl
    | some x' =>
      obtain ⟨hk', hx'⟩ := h1' x' rfl
      obtain ⟨rest', i1', i2', kk'⟩ := hk'
      rename_i i' k'
      clear h1' i1' i2'
      generalize tagS i' = tg' at *
      have o1 : okV (.lst [tr tg k rest]) = true := hx.l1.ok (by omega)
      have o2 : okV (.lst [tr tg' k' rest']) = true := hx'.l1.ok (by omega)
      have o12 : okV (.lst [tr tg k rest, tr tg' k' rest']) = true := (WF.l2 hx hx').ok (by omega)
      have t1 := c_to Z (stT m q) tg rest kk (kind := 2) (by decide)
      have t2 := c_to Z (stT m q) tg' rest' kk' (kind := 2) (by decide)
      have oT : okV (.lst [orN (toK (tr tg k rest) k 2), orN (toK (tr tg' k' rest') k' 2)]) = true := (WF.l2 (toK_wf hx) (toK_wf hx')).ok (by omega)
      clear hx hx'
      rcases k7 hc with rfl | rfl | rfl | rfl | rfl | rfl | rfl
      · exact vr (k := 4) (mu := []) Z (d_law_applied Z.k) [.c h2 q515, .c h2' q515, .ok okN o12, .c (c_dims Z (stT m q)) q115] (by kernel_rfl) (by decide) (by omega)
      · clear t1 t2 oT hc h3
        have hx := And.intro (And.intro h2 h2') (And.intro o1 (And.intro o2 o12))
        clear h2 h2' o1 o2 o12
        refine vr (k := 4) (mu := []) Z (d_law_applied Z.k) (.c hx.1.1 q515 :: .c hx.1.2 q515 :: .ok okN hx.2.2.2 :: .c (c_dims Z (stT m q)) q115 :: eM (lt6 kk) (lt6 kk') hx.2.1 hx.2.2.1 hx.2.2.2) ?_ (by decide) (by omega)
        revert hx; revert kk'; revert k'; revert kk; revert k
        apply uE2; kernel_rfl
      · clear o1 o2 hc h3
        have hx := And.intro (And.intro h2 h2') (And.intro o12 (And.intro t1 (And.intro t2 oT)))
        clear h2 h2' o12 t1 t2 oT
        refine vr (k := 4) (mu := []) Z (d_law_applied Z.k) (.c hx.1.1 q515 :: .c hx.1.2 q515 :: .ok okN hx.2.1 :: .c hx.2.2.1 q215 :: .c hx.2.2.2.1 q215 :: eG (lt6 kk) (lt6 kk') hx.2.2.2.2) ?_ (by decide) (by omega)
        revert hx; revert kk'; revert k'; revert kk; revert k
        apply uE2; kernel_rfl
      · exact absurd rfl h3
      · exact vr (k := 4) (mu := []) Z (d_law_applied Z.k) [.c h2 q515, .c h2' q515, .ok okN o12, .c (c_dims Z (stT m q)) q115] (by kernel_rfl) (by decide) (by omega)
      · exact vr (k := 4) (mu := []) Z (d_law_applied Z.k) [.c h2 q515, .c h2' q515, .ok okN o12] (by kernel_rfl) (by decide) (by omega)
      · exact vr (k := 4) (mu := []) Z (d_law_applied Z.k) [.c h2 q515, .c h2' q515, .ok okN o12] (by kernel_rfl) (by decide) (by omega)
/-- the function F1 -/
noncomputable def callV (l : List AV) : AV := .tup [.str "call", .int 1, .str "F1", .lst l]
noncomputable def f1R (r : Option AV) : Option AV := g2 r fun x => some (callV [x])
noncomputable def f2R (r r' : Option AV) : Option AV := g2 r fun x => g2 r' fun x' => some (callV [x, x'])
omit Z in
theorem RK.tup {x : AV} (h : RK x) : ∃ l, x = .tup l := by
  cases h with
  | tr rest _ _ => exact ⟨_, rfl⟩
  | proc s => exact ⟨_, rfl⟩
theorem app_f1 {n w : Nat} (hw : w ≤ 60) {l : List AV} {r : Option AV} (h : JJ g m q n w (.tup l) r) : Valid g (n + 15) (.ref 429) [.str "F1", .lst [.tup l], .ref 4] (stT m q) (some (orN (f1R r))) (stT m q) := by
  obtain ⟨h1, h2, _⟩ := h
  cases r with
  | none => exact vr (k := 4) (mu := []) Z (d_law_applied Z.k) [.c h2 q015] (by kernel_rfl) (by decide) (by omega)
  | some x =>
    obtain ⟨hk, hx⟩ := h1 x rfl
    obtain ⟨xl, rfl⟩ := hk.tup
    exact vr (k := 4) (mu := []) Z (d_law_applied Z.k) [.c h2 q015, .ok okN (hx.l1.ok (by omega))] (by kernel_rfl) (by decide) (by omega)
theorem app_f2 {n w : Nat} (hw : w ≤ 60) {l l' : List AV} {r r' : Option AV} (h : JJ g m q n w (.tup l) r) (h' : JJ g m q n w (.tup l') r') : Valid g (n + 15) (.ref 429) [.str "F1", .lst [.tup l, .tup l'], .ref 4] (stT m q) (some (orN (f2R r r'))) (stT m q) := by
  obtain ⟨h1, h2, _⟩ := h
  obtain ⟨h1', h2', _⟩ := h'
  cases r with
  | none =>
    cases r' with
    | none => exact vr (k := 4) (mu := []) Z (d_law_applied Z.k) [.c h2 q015, .c h2' q015] (by kernel_rfl) (by decide) (by omega)
    | some x' =>
      obtain ⟨hk', hx'⟩ := h1' x' rfl
      obtain ⟨xl', rfl⟩ := hk'.tup
      exact vr (k := 4) (mu := []) Z (d_law_applied Z.k) [.c h2 q015, .c h2' q015, .ok okN ((WF.l2 WF.none hx').ok (by omega))] (by kernel_rfl) (by decide) (by omega)
  | some x =>
    obtain ⟨hk, hx⟩ := h1 x rfl
    obtain ⟨xl, rfl⟩ := hk.tup
    cases r' with
    | none => exact vr (k := 4) (mu := []) Z (d_law_applied Z.k) [.c h2 q015, .c h2' q015, .ok okN ((WF.l2 hx WF.none).ok (by omega))] (by kernel_rfl) (by decide) (by omega)
    | some x' =>
      obtain ⟨hk', hx'⟩ := h1' x' rfl
      obtain ⟨xl', rfl⟩ := hk'.tup
      exact vr (k := 4) (mu := []) Z (d_law_applied Z.k) [.c h2 q015, .c h2' q015, .ok okN ((WF.l2 hx hx').ok (by omega))] (by kernel_rfl) (by decide) (by omega)
end
end Mine
end
section
set_option maxHeartbeats 400000
open PySem PySem.W PySem.Spec PySem.Calls PyProof.Rows
namespace Mine
theorem and2_t {a b : Bool} (h : a = true) (k : b = true) : and2 a b = true := by rw [h]; exact k
theorem okD_below (n : Nat) (a : AV) : okD a = true → below n a = true :=
  AV.rec (motive_1 := fun a => okD a = true → below n a = true) (motive_2 := fun l => okL l = true → belowL n l = true) (motive_3 := fun _ => True) (motive_4 := fun _ => True)
    (fun _ => rfl) (fun _ _ => rfl) (fun _ _ => rfl) (fun _ _ => rfl) (fun _ ih h => ih h) (fun _ ih h => ih h) (fun _ _ h => ff_p h) (fun _ _ h => ff_p h) (fun _ h => ff_p h) (fun _ _ h => ff_p h) (fun h => ff_p h) (fun _ h => ff_p h)
    (fun _ => rfl) (fun _ _ a b h => and2_t (a (okL_cons h).1) (b (okL_cons h).2)) trivial (fun _ _ _ _ => trivial) (fun _ _ _ => trivial) a
theorem okL_below (n : Nat) (l : List AV) (h : okL l = true) : belowL n l = true := by
  induction l with
  | nil => rfl
  | cons a l ih => exact and2_t (okD_below n a (okL_cons h).1) (ih (okL_cons h).2)
theorem belowS_app {n : Nat} {l r : List MO} (h : belowS n l = true) (k : belowS n r = true) : belowS n (l ++ r) = true := by
  induction l with
  | nil => exact k
  | cons m l ih => exact and2_t (and2_iff h).1 (ih (and2_iff h).2)
theorem exit_list {σ : List MO} {n : Nat} {l : List AV} (hn : σ.length = n) (hb : belowS n σ = true) (hl : belowL n l = true) : Exit σ.length (σ ++ [MO.lst l]) (.ref n) σ (.lst l) := by
  subst hn
  have e : (σ ++ [MO.lst l]).take σ.length = σ := List.take_left
  have x : Exit σ.length (σ ++ [MO.lst l]) (.ref σ.length) ((σ ++ [MO.lst l]).take σ.length) (.lst l) := .list (by rw [e]; exact hb) (Nat.le_refl _) (by simp) hl
  rw [e] at x
  exact x
structure MM.Ok (m : MM) : Prop where
  b : ∀ n, 4 < n → belowS n [m.a, m.b, m.c, m.d] = true
noncomputable def mm0 : MM := ⟨.lst [], .lst [], .lst [], .lst []⟩
theorem stR_below {m : MM} (h : m.Ok) (q : KK) : belowS 41 (stR m q) = true := by
  have e : stR m q = [m.a, m.b, m.c, m.d] ++ (stR mm0 q).drop 4 := by kernel_rfl
  rw [e]
  exact belowS_app (h.b 41 (by decide)) (by kernel_rfl)
theorem stR_len (m : MM) (q : KK) : (stR m q).length = 41 := by kernel_rfl
theorem args_exit {m : MM} (h : m.Ok) (q : KK) {l : List AV} {w : Nat} (hl : WFL w l) : Exit (stR m q).length (stR m q ++ [MO.lst l]) (.ref 41) (stR m q) (.lst l) :=
  exit_list (stR_len m q) (stR_below h q) (okL_below _ l hl.all.1)
theorem frameR {g : Glb} {m : MM} (h : m.Ok) (q : KK) {n : Nat} {f : Value} {as : List AV} {r : Option AV} (τ : List MO) (hv : Valid g n f as (stR m q) r (stR m q)) (hb : belowL 41 as = true) : Valid g n f as (stR m q ++ τ) r (stR m q ++ τ) :=
  hv.frame rfl (by rw [stR_len]; exact hb) (by rw [stR_len]; exact stR_below h q)
theorem below2 {t : AV} (h : okD t = true) : belowL 41 [t, scO] = true := by
  exact and2_t (okD_below 41 t h) rfl
theorem ref_lt {c : Nat} (h : c < 7) : refI c < 14 := (by decide +kernel : ∀ c, c < 7 → refI c < 14) c h
section
variable {g : Glb} (Z : Real g) (m : MM) (q : KK)
theorem q010 {n : Nat} : n < n + 10 - 1 := Nat.add_lt_add_left (by decide : 0 < 9) n
theorem q220 {n : Nat} : 2 < n + 20 - 1 := Nat.lt_of_lt_of_le (by decide : 2 < 19) (Nat.le_add_left 19 n)
theorem q520 {n : Nat} : n + 5 < n + 20 - 1 := Nat.add_lt_add_left (by decide : 5 < 19) n
theorem qA20 {n : Nat} : 5 < n + 20 - 1 := Nat.lt_of_lt_of_le (by decide : 5 < 19) (Nat.le_add_left 19 n)
theorem q120 {n : Nat} : 1 < n + 20 - 1 := Nat.lt_of_lt_of_le (by decide : 1 < 19) (Nat.le_add_left 19 n)
theorem q1020 {n : Nat} : n + 10 < n + 20 - 1 := Nat.add_lt_add_left (by decide : 10 < 19) n
include Z
theorem args_1 (hm : m.Ok) {n w i : Nat} (hi : i < 11) {rest : List AV} {r : Option AV} (ho : okD (.tup (.str (ttag i) :: rest)) = true) (h : JJ g m q n w (.tup (.str (ttag i) :: rest)) r) :
    Valid g (n + 10) (.ref 201) [.lst [.tup (.str (ttag i) :: rest)], scO] (stR m q) (g2 r fun x => some (.lst [x])) (stR m q) := by
  obtain ⟨h1, hq, h3o⟩ := h
  have h3 := frameR hm q [.lst []] h3o (below2 ho)
  clear ho hq h3o
  cases r with
  | none =>
    clear h1
    refine vq (r := none) (k := 4) (mu := ["found"]) Z (d_resolve_args Z.k) [.c h3 q010] ?_ (by decide) (by omega)
    revert h3; revert hi; revert i
    apply uE1; kernel_rfl
  | some x =>
    have hx := args_exit hm q (WFL.cons (h1 x rfl).2 .nil)
    refine ve (.ref 41) _ hx (k := 4) (mu := ["found"]) Z (d_resolve_args Z.k) [.c h3 q010] ?_ (by decide) (by omega)
    clear hx h1
    revert h3; revert hi; revert i
    apply uE1; kernel_rfl
theorem args_2 (hm : m.Ok) {n w i i' : Nat} (hi : i < 11) (hi' : i' < 11) {rest rest' : List AV} {r r' : Option AV} (ho : okD (.tup (.str (ttag i) :: rest)) = true) (ho' : okD (.tup (.str (ttag i') :: rest')) = true)
    (h : JJ g m q n w (.tup (.str (ttag i) :: rest)) r) (h' : JJ g m q n w (.tup (.str (ttag i') :: rest')) r') :
    Valid g (n + 10) (.ref 201) [.lst [.tup (.str (ttag i) :: rest), .tup (.str (ttag i') :: rest')], scO] (stR m q) (g2 r fun x => g2 r' fun x' => some (.lst [x, x'])) (stR m q) := by
  obtain ⟨h1, hq, h3o⟩ := h
  obtain ⟨h1', hq', h3p⟩ := h'
  have h3 := frameR hm q [.lst []] h3o (below2 ho)
  clear hq hq' h3o
  cases r with
  | none =>
    clear ho ho' h1 h1' h3p hi'
    refine vq (r := none) (k := 4) (mu := ["found"]) Z (d_resolve_args Z.k) [.c h3 q010] ?_ (by decide) (by omega)
    revert h3; revert hi; revert i
    apply uE1; kernel_rfl
  | some x =>
    have h3' := frameR hm q [.lst [x]] h3p (below2 ho')
    clear ho ho' h3p
    cases r' with
    | none =>
      clear h1 h1'
      have hy := And.intro h3 h3'
      clear h3 h3'
      refine vq (r := none) (k := 4) (mu := ["found"]) Z (d_resolve_args Z.k) [.c hy.1 q010, .c hy.2 q010] ?_ (by decide) (by omega)
      revert hy; revert hi'; revert i'; revert hi; revert i
      apply uE2; kernel_rfl
    | some x' =>
      have hx := args_exit hm q (WFL.cons (h1 x rfl).2 (WFL.cons (h1' x' rfl).2 .nil))
      clear h1 h1'
      have hy := And.intro h3 h3'
      clear h3 h3'
      refine ve (.ref 41) _ hx (k := 4) (mu := ["found"]) Z (d_resolve_args Z.k) [.c hy.1 q010, .c hy.2 q010] ?_ (by decide) (by omega)
      clear hx
      revert hy; revert hi'; revert i'; revert hi; revert i
      apply uE2; kernel_rfl
theorem ref_f1 {n : Nat} {l : List AV} {r : Option AV} (h : Valid g (n + 10) (.ref 201) [.lst [.tup l], scO] (stR m q) (g2 r fun x => some (.lst [x])) (stR m q)) :
    Valid g (n + 20) (.ref 187) [.str "F1", .lst [.tup l], scO] (stR m q) (f1R r) (stR m q) := by
  have hs : Valid g 2 (.ref 133) [scO, .str "F1"] (stR m q) (some (.obj 331 33)) (stR m q) := c_symof Z m q (i := 12) (by decide)
  cases r with
  | none => exact vq (r := none) (k := 4) (mu := []) Z (d_resolve_ref Z.k) [.c hs q220, .c h q1020] (by kernel_rfl) (by decide) (by omega)
  | some x => exact vr (k := 4) (mu := []) Z (d_resolve_ref Z.k) [.c hs q220, .c h q1020] (by kernel_rfl) (by decide) (by omega)
theorem ref_f2 {n : Nat} {l l' : List AV} {r r' : Option AV} (h : Valid g (n + 10) (.ref 201) [.lst [.tup l, .tup l'], scO] (stR m q) (g2 r fun x => g2 r' fun x' => some (.lst [x, x'])) (stR m q)) :
    Valid g (n + 20) (.ref 187) [.str "F1", .lst [.tup l, .tup l'], scO] (stR m q) (f2R r r') (stR m q) := by
  have hs : Valid g 2 (.ref 133) [scO, .str "F1"] (stR m q) (some (.obj 331 33)) (stR m q) := c_symof Z m q (i := 12) (by decide)
  cases r with
  | none => exact vq (r := none) (k := 4) (mu := []) Z (d_resolve_ref Z.k) [.c hs q220, .c h q1020] (by kernel_rfl) (by decide) (by omega)
  | some x =>
    cases r' with
    | none => exact vq (r := none) (k := 4) (mu := []) Z (d_resolve_ref Z.k) [.c hs q220, .c h q1020] (by kernel_rfl) (by decide) (by omega)
    | some x' => exact vr (k := 4) (mu := []) Z (d_resolve_ref Z.k) [.c hs q220, .c h q1020] (by kernel_rfl) (by decide) (by omega)
theorem choose_1 {k : Nat} : Valid g 1 (.ref 455) [.str "G1", .lst [.int k]] (stR m q) (some (.tup [.str "GG", .lst [.int 2], .int 2])) (stR m q) := vr (k := 4) (mu := []) Z (d_law_choose Z.k) [] (by kernel_rfl)
theorem choose_2 {k k' : Nat} : Valid g 1 (.ref 455) [.str "G1", .lst [.int k, .int k']] (stR m q) (some (.tup [.str "GG", .lst [.int 2, .int 2], .int 2])) (stR m q) := vr (k := 4) (mu := []) Z (d_law_choose Z.k) [] (by kernel_rfl)
theorem ref_1 {n w c : Nat} (hc : c < 7) (h3 : c ≠ 3) {l : List AV} {r : Option AV} (h : JV g m q (n + 5) w (.tup l) r) : Valid g (n + 20) (.ref 187) [.str (refS c), .lst [.tup l], scO] (stR m q) (app1R c r) (stR m q) := by
  obtain ⟨h1, ha, hb⟩ := h
  have hs := c_symof Z m q (i := refI c) (ref_lt hc)
  cases r with
  | none =>
    have hw := JE.whole Z m q (.bad (w := w) ha hb)
    rcases k7 hc with rfl | rfl | rfl | rfl | rfl | rfl | rfl
    · exact vq (r := none) (k := 4) (mu := []) Z (d_resolve_ref Z.k) [.c hs q220, .c hw q1020] (by kernel_rfl) (by decide) (by omega)
    · exact vq (r := none) (k := 4) (mu := []) Z (d_resolve_ref Z.k) [.c hs q220] (by kernel_rfl) (by decide) (by omega)
    · exact vq (r := none) (k := 4) (mu := []) Z (d_resolve_ref Z.k) [.c hs q220, .c hb q520] (by kernel_rfl) (by decide) (by omega)
    · exact absurd rfl h3
    · exact vq (r := none) (k := 4) (mu := []) Z (d_resolve_ref Z.k) [.c hs q220, .c hw q1020] (by kernel_rfl) (by decide) (by omega)
    · exact vq (r := none) (k := 4) (mu := []) Z (d_resolve_ref Z.k) [.c hs q220] (by kernel_rfl) (by decide) (by omega)
    · exact vq (r := none) (k := 4) (mu := []) Z (d_resolve_ref Z.k) [.c hs q220] (by kernel_rfl) (by decide) (by omega)
  | some x =>
    obtain ⟨hk, hx⟩ := h1 x rfl
    obtain ⟨rest, i1, i2, kk⟩ := hk
    rename_i i k
    clear h1 i1 i2
    generalize tagS i = tg at *
    have hw := JE.whole Z m q (.val ha hb kk hx)
    have hA := c_as Z (stR m q) tg rest kk (kind := 2) (by decide)
    have hC := choose_1 Z m q (k := k)
    clear ha hx
    rcases k7 hc with rfl | rfl | rfl | rfl | rfl | rfl | rfl
    · clear hA hC h3 hc hb
      refine vq (k := 4) (mu := []) Z (d_resolve_ref Z.k) [.c hs q220, .c hw q1020] ?_ (by decide) (by omega)
      revert hw; revert kk; revert k
      apply uE1; kernel_rfl
    · exact vq (r := none) (k := 4) (mu := []) Z (d_resolve_ref Z.k) [.c hs q220] (by kernel_rfl) (by decide) (by omega)
    · clear hw h3 hc
      have hy := And.intro hb (And.intro hC hA)
      clear hb hC hA
      refine vq (k := 4) (mu := []) Z (d_resolve_ref Z.k) [.c hs q220, .c hy.1 q520, .c hy.2.1 q120, .c hy.2.2 qA20] ?_ (by decide) (by omega)
      revert hy; revert kk; revert k
      apply uE1; kernel_rfl
    · exact absurd rfl h3
    · clear hA hC h3 hc hb
      refine vq (k := 4) (mu := []) Z (d_resolve_ref Z.k) [.c hs q220, .c hw q1020] ?_ (by decide) (by omega)
      revert hw; revert kk; revert k
      apply uE1; kernel_rfl
    · exact vq (r := none) (k := 4) (mu := []) Z (d_resolve_ref Z.k) [.c hs q220] (by kernel_rfl) (by decide) (by omega)
    · exact vq (r := none) (k := 4) (mu := []) Z (d_resolve_ref Z.k) [.c hs q220] (by kernel_rfl) (by decide) (by omega)
end
end Mine
end
section
set_option maxHeartbeats 400000
open PySem PySem.W PySem.Spec PySem.Calls PyProof.Rows
namespace Mine
section
variable {g : Glb} (Z : Real g) (m : MM) (q : KK)
noncomputable def whC {n : Nat} (k : Nat) {p : AV} {v : Option AV} (h : Valid g (n + 10) (.ref 175) [p, scO] (stR m q) v (stR m q)) : List (CE g (n + 20 - 1)) := match Nat.beq k 0 with
  | true => [.c h q1020]
  | false => []
noncomputable def asC2 {n : Nat} (k : Nat) {as : List AV} {v : Option AV} (h : Valid g 5 (.ref 161) as (stR m q) v (stR m q)) : List (CE g (n + 20 - 1)) := match numB k with
  | true => [.c h qA20]
  | false => []
include Z
theorem ref_2 {n w c : Nat} (hc : c < 7) (h3 : c ≠ 3) {l l' : List AV} {r r' : Option AV} (h : JV g m q (n + 5) w (.tup l) r) (h' : JV g m q (n + 5) w (.tup l') r') :
    Valid g (n + 20) (.ref 187) [.str (refS c), .lst [.tup l, .tup l'], scO] (stR m q) (app2R c r r') (stR m q) := by
  obtain ⟨h1, ha, hb⟩ := h
  obtain ⟨h1', ha', hb'⟩ := h'
  have hs := c_symof Z m q (i := refI c) (ref_lt hc)
  have hp : ∀ r r', c = 0 ∨ c = 4 ∨ c = 5 ∨ c = 6 → app2R c r r' = none := fun r r' e => by
    rcases e with rfl | rfl | rfl | rfl <;> (unfold app2R g2; cases r <;> cases r' <;> rfl)
  have plain : (c = 0 ∨ c = 4 ∨ c = 5 ∨ c = 6) → Valid g (n + 20) (.ref 187) [.str (refS c), .lst [.tup l, .tup l'], scO] (stR m q) (app2R c r r') (stR m q) := fun e => by
    rw [hp r r' e]
    rcases e with rfl | rfl | rfl | rfl <;> exact vq (r := none) (k := 4) (mu := []) Z (d_resolve_ref Z.k) [.c hs q220] (by kernel_rfl) (by decide) (by omega)
  by_cases e : c = 0 ∨ c = 4 ∨ c = 5 ∨ c = 6
  · exact plain e
  · have e : c = 1 ∨ c = 2 := (by decide +kernel : ∀ c, c < 7 → c ≠ 3 → ¬(c = 0 ∨ c = 4 ∨ c = 5 ∨ c = 6) → c = 1 ∨ c = 2) c hc h3 e
    clear plain hp h3 hc
    cases r with
    | none =>
      have hw := JE.whole Z m q (.bad (w := w) ha hb)
      rcases e with rfl | rfl
      · exact vq (r := none) (k := 4) (mu := []) Z (d_resolve_ref Z.k) [.c hs q220, .c hw q1020] (by kernel_rfl) (by decide) (by omega)
      · exact vq (r := none) (k := 4) (mu := []) Z (d_resolve_ref Z.k) [.c hs q220, .c hb q520] (by kernel_rfl) (by decide) (by omega)
    | some x =>
      obtain ⟨hk, hx⟩ := h1 x rfl
      obtain ⟨rest, i1, i2, kk⟩ := hk
      rename_i i k
      clear h1 i1 i2
      generalize tagS i = tg at *
      have hw := JE.whole Z m q (.val ha hb kk hx)
      have hA := c_as Z (stR m q) tg rest kk (kind := 2) (by decide)
      clear ha hx
      cases r' with
      | none =>
        have hw' := JE.whole Z m q (.bad (w := w) ha' hb')
        rcases e with rfl | rfl
        · clear hA hb hb' ha' h1'
          refine vq (r := none) (k := 4) (mu := []) Z (d_resolve_ref Z.k) (.c hs q220 :: .c hw q1020 :: whC m q (lt6 kk) hw') ?_ (by decide) (by omega)
          revert hw; revert kk; revert k
          apply uE1; kernel_rfl
        · exact vq (r := none) (k := 4) (mu := []) Z (d_resolve_ref Z.k) [.c hs q220, .c hb q520, .c hb' q520] (by kernel_rfl) (by decide) (by omega)
      | some x' =>
        obtain ⟨hk', hx'⟩ := h1' x' rfl
        obtain ⟨rest', i1', i2', kk'⟩ := hk'
        rename_i i' k'
        clear h1' i1' i2'
        generalize tagS i' = tg' at *
        have hw' := JE.whole Z m q (.val ha' hb' kk' hx')
        have hA' := c_as Z (stR m q) tg' rest' kk' (kind := 2) (by decide)
        have hC := choose_2 Z m q (k := k) (k' := k')
        clear ha' hx'
        rcases e with rfl | rfl
        · clear hA hA' hC hb hb'
          have hy := And.intro hw hw'
          clear hw hw'
          refine vq (k := 4) (mu := []) Z (d_resolve_ref Z.k) (.c hs q220 :: .c hy.1 q1020 :: whC m q (lt6 kk) hy.2) ?_ (by decide) (by omega)
          revert hy; revert kk'; revert k'; revert kk; revert k
          apply uE2; kernel_rfl
        · clear hw hw'
          have hy := And.intro (And.intro hb hb') (And.intro hC (And.intro hA hA'))
          clear hb hb' hC hA hA'
          refine vq (k := 4) (mu := []) Z (d_resolve_ref Z.k) (.c hs q220 :: .c hy.1.1 q520 :: .c hy.1.2 q520 :: .c hy.2.1 q120 :: .c hy.2.2.1 qA20 :: asC2 m q (lt6 kk) hy.2.2.2) ?_ (by decide) (by omega)
          revert hy; revert kk'; revert k'; revert kk; revert k
          apply uE2; kernel_rfl
end
section
variable {g : Glb} (Z : Real g) (m : MM) (q : KK)
theorem q2030 {n : Nat} : n + 20 < n + 30 - 1 := Nat.add_lt_add_left (by decide : 20 < 29) n
include Z
theorem typed_ref {n : Nat} {s : PySem.Str} {l a : AV} (h : Valid g (n + 15) (.ref 429) [.str s, l, .ref 4] (stT m q) (some a) (stT m q)) : Valid g (n + 30) (.ref 448) [.tup [.str "ref", .str s, l], .ref 4] (stT m q) (some a) (stT m q) :=
  vr (k := 4) (mu := []) Z (d_law_typed Z.k) [.c h q1530] (by kernel_rfl) (by decide) (by omega)
theorem expr_ref {n : Nat} {s : PySem.Str} {l : AV} {v : Option AV} (h : Valid g (n + 20) (.ref 187) [.str s, l, scO] (stR m q) v (stR m q)) : Valid g (n + 30) (.ref 243) [.tup [.str "ref", .str s, l], scO] (stR m q) v (stR m q) := by
  cases v with
  | none => exact vq (r := none) (k := 4) (mu := []) Z (d_resolve_expr Z.k) [.c h q2030] (by kernel_rfl) (by decide) (by omega)
  | some y => exact vr (k := 4) (mu := []) Z (d_resolve_expr Z.k) [.c h q2030] (by kernel_rfl) (by decide) (by omega)
omit Z in
theorem g2_some {o : Option AV} {f : AV → Option AV} {z : AV} (h : g2 o f = some z) : ∃ x, o = some x ∧ f x = some z := by
  cases o with
  | none => cases h
  | some x => exact ⟨x, rfl, h⟩
omit Z in
theorem elem_ok {w c : Nat} {l : List AV} (h : WFL w l) : RK (elemV c l) ∧ WF (w + 2) (elemV c l) := by
  unfold elemV
  split
  · exact ⟨RK.of 2 1 [.str "V1", .lst l] rfl (by decide) (by decide), WF.tup (.cons (WF.str (by kernel_rfl)) (.cons (WF.int _) (.cons (WF.str (by kernel_rfl)) (.cons (WF.lst h) .nil))))⟩
  · exact ⟨RK.of 2 0 [.str "M1", .lst l] rfl (by decide) (by decide), WF.tup (.cons (WF.str (by kernel_rfl)) (.cons (WF.int _) (.cons (WF.str (by kernel_rfl)) (.cons (WF.lst h) .nil))))⟩
  · exact ⟨RK.of 2 5 [.str "U1", .lst l] rfl (by decide) (by decide), WF.tup (.cons (WF.str (by kernel_rfl)) (.cons (WF.int _) (.cons (WF.str (by kernel_rfl)) (.cons (WF.lst h) .nil))))⟩
omit Z in
theorem call_ok {w : Nat} {l : List AV} (h : WFL w l) : RK (callV l) ∧ WF (w + 2) (callV l) :=
  ⟨RK.of 6 1 [.str "F1", .lst l] rfl (by decide) (by decide), WF.tup (.cons (WF.str (by kernel_rfl)) (.cons (WF.int _) (.cons (WF.str (by kernel_rfl)) (.cons (WF.lst h) .nil))))⟩
omit Z in
theorem intr_ok {w : Nat} {l : List AV} (h : WFL w l) : RK (.tup [.str "intr", .int 2, .str "GG", .lst l]) ∧ WF (w + 2) (.tup [.str "intr", .int 2, .str "GG", .lst l]) :=
  ⟨RK.of 5 2 [.str "GG", .lst l] rfl (by decide) (by decide), WF.tup (.cons (WF.str (by kernel_rfl)) (.cons (WF.int _) (.cons (WF.str (by kernel_rfl)) (.cons (WF.lst h) .nil))))⟩
omit Z in
theorem toK_wf' {w k k' : Nat} {x a : AV} (h : WF w x) (e : toK x k k' = some a) : WF (w + 1) a := by
  have := toK_wf (a := k) (k := k') h
  rw [e] at this; exact this
omit Z in
theorem app1_ok {w c k : Nat} {x z : AV} (h : WF w x) (e : app1 c x k = some z) : RK z ∧ WF (w + 3) z := by
  unfold app1 at e
  split at e
  · rw [(ifB_some e).2]; exact ⟨(elem_ok (.cons h .nil)).1, (elem_ok (.cons h .nil)).2.mono (by omega)⟩
  · rw [(ifB_some e).2]; exact ⟨(elem_ok (.cons h .nil)).1, (elem_ok (.cons h .nil)).2.mono (by omega)⟩
  · obtain ⟨a, ea, e⟩ := g2_some e
    cases e
    exact intr_ok (.cons (toK_wf' h ea) .nil)
  · cases e
omit Z in
theorem app2_ok {w c k k' : Nat} {x x' z : AV} (h : WF w x) (h' : WF w x') (e : app2 c x k x' k' = some z) : RK z ∧ WF (w + 3) z := by
  unfold app2 at e
  split at e
  · rw [(ifB_some e).2]; exact ⟨(elem_ok (.cons h (.cons h' .nil))).1, (elem_ok (.cons h (.cons h' .nil))).2.mono (by omega)⟩
  · obtain ⟨a, ea, e⟩ := g2_some e
    obtain ⟨a', ea', e⟩ := g2_some e
    cases e
    exact intr_ok (.cons (toK_wf' h ea) (.cons (toK_wf' h' ea') .nil))
  · cases e
theorem j_ref1 (hm : m.Ok) {n w c i : Nat} (hw : w ≤ 60) (hc : c < 7) (hi : i < 11) {rest : List AV} (ho : okD (.tup (.str (ttag i) :: rest)) = true) {r rv : Option AV} (h : JJ g m q n w (.tup (.str (ttag i) :: rest)) r) (hv : JV g m q (n + 5) w (.tup (.str (ttag i) :: rest)) rv) :
    ∃ r, JJ g m q (n + 30) (w + 3) (.tup [.str "ref", .str (refS c), .lst [.tup (.str (ttag i) :: rest)]]) r := by
  by_cases e : c = 3
  · subst e
    refine ⟨f1R r, ⟨fun x ex => ?_, typed_ref Z m q (app_f1 Z m q hw h), expr_ref Z m q (ref_f1 Z m q (args_1 Z m q hm hi ho h))⟩⟩
    obtain ⟨y, ey, ex⟩ := g2_some ex
    cases ex
    have := call_ok (.cons (h.k y ey).2 .nil)
    exact ⟨this.1, this.2.mono (by omega)⟩
  · refine ⟨app1R c rv, ⟨fun x ex => ?_, typed_ref Z m q (app_a1 Z m q hw hc e hv), expr_ref Z m q (ref_1 Z m q hc e hv)⟩⟩
    obtain ⟨y, ey, ex⟩ := g2_some ex
    exact app1_ok (hv.k y ey).2 ex
theorem j_ref2 (hm : m.Ok) {n w c i i' : Nat} (hw : w ≤ 60) (hc : c < 7) (hi : i < 11) (hi' : i' < 11) {rest rest' : List AV} (ho : okD (.tup (.str (ttag i) :: rest)) = true) (ho' : okD (.tup (.str (ttag i') :: rest')) = true) {r rv r' rv' : Option AV}
    (h : JJ g m q n w (.tup (.str (ttag i) :: rest)) r) (hv : JV g m q (n + 5) w (.tup (.str (ttag i) :: rest)) rv) (h' : JJ g m q n w (.tup (.str (ttag i') :: rest')) r') (hv' : JV g m q (n + 5) w (.tup (.str (ttag i') :: rest')) rv') :
    ∃ r, JJ g m q (n + 30) (w + 3) (.tup [.str "ref", .str (refS c), .lst [.tup (.str (ttag i) :: rest), .tup (.str (ttag i') :: rest')]]) r := by
  by_cases e : c = 3
  · subst e
    refine ⟨f2R r r', ⟨fun x ex => ?_, typed_ref Z m q (app_f2 Z m q hw h h'), expr_ref Z m q (ref_f2 Z m q (args_2 Z m q hm hi hi' ho ho' h h'))⟩⟩
    obtain ⟨y, ey, ex⟩ := g2_some ex
    obtain ⟨y', ey', ex⟩ := g2_some ex
    cases ex
    have := call_ok (.cons (h.k y ey).2 (.cons (h'.k y' ey').2 .nil))
    exact ⟨this.1, this.2.mono (by omega)⟩
  · refine ⟨app2R c rv rv', ⟨fun x ex => ?_, typed_ref Z m q (app_a2 Z m q hw hc e hv hv'), expr_ref Z m q (ref_2 Z m q hc e hv hv')⟩⟩
    obtain ⟨y, ey, ex⟩ := g2_some ex
    obtain ⟨y', ey', ex⟩ := g2_some ex
    exact app2_ok (hv.k y ey).2 (hv'.k y' ey').2 ex
end
/-! ## the trees -/
inductive Tree : Nat → AV → Prop
  | name {n i : Nat} : i < 14 → Tree n (.tup [.str "name", .str (nmS i)])
  | const {n i : Nat} : i < 10 → Tree n (constA i)
  | un {n o : Nat} {t : AV} : o < 3 → Tree n t → Tree (n + 1) (.tup [.str "un", .str (opS o), t])
  | bin {n s : Nat} {l r : AV} : s < 12 → Tree n l → Tree n r → Tree (n + 1) (.tup [.str "bin", .str (signS s), l, r])
  | ref1 {n c : Nat} {t : AV} : c < 7 → Tree n t → Tree (n + 1) (.tup [.str "ref", .str (refS c), .lst [t]])
  | ref2 {n c : Nat} {t t' : AV} : c < 7 → Tree n t → Tree n t' → Tree (n + 1) (.tup [.str "ref", .str (refS c), .lst [t, t']])
  | sub00 {n : Nat} {b : AV} : Tree n b → Tree (n + 1) (.tup [.str "sub", b, .none, .none])
  | sub10 {n : Nat} {b p : AV} : Tree n b → Tree n p → Tree (n + 1) (.tup [.str "sub", b, p, .none])
  | sub01 {n : Nat} {b p' : AV} : Tree n b → Tree n p' → Tree (n + 1) (.tup [.str "sub", b, .none, p'])
  | sub11 {n : Nat} {b p p' : AV} : Tree n b → Tree n p → Tree n p' → Tree (n + 1) (.tup [.str "sub", b, p, p'])
theorem Tree.up {n : Nat} {t : AV} (h : Tree n t) : Tree (n + 1) t := by
  induction h with
  | name h => exact .name h
  | const h => exact .const h
  | un h _ i => exact .un h i
  | bin h _ _ i j => exact .bin h i j
  | ref1 h _ i => exact .ref1 h i
  | ref2 h _ _ i j => exact .ref2 h i j
  | sub00 _ i => exact .sub00 i
  | sub10 _ _ i j => exact .sub10 i j
  | sub01 _ _ i j => exact .sub01 i j
  | sub11 _ _ _ i j k => exact .sub11 i j k
theorem ok3 {a b c : AV} (h : okD a = true) (k : okD b = true) (l : okL [c] = true) : okL [a, b, c] = true := by
  unfold okL; rw [h]; unfold okL; rw [k]; exact l
theorem okL1 {a : AV} {l : List AV} (h : okD a = true) (k : okL l = true) : okL (a :: l) = true := by
  unfold okL; rw [h]; exact k
theorem Tree.shape {n : Nat} {t : AV} (h : Tree n t) : okD t = true ∧ ∃ i rest, i < 11 ∧ t = .tup (.str (ttag i) :: rest) := by
  induction h with
  | @name n i h => exact ⟨rfl, 0, [.str (nmS i)], by decide, rfl⟩
  | const h => rcases k10 h with rfl | rfl | rfl | rfl | rfl | rfl | rfl | rfl | rfl | rfl
               · exact ⟨rfl, 5, _, by decide, rfl⟩
               · exact ⟨rfl, 6, _, by decide, rfl⟩
               · exact ⟨rfl, 5, _, by decide, rfl⟩
               · exact ⟨rfl, 6, _, by decide, rfl⟩
               · exact ⟨rfl, 7, _, by decide, rfl⟩
               · exact ⟨rfl, 8, _, by decide, rfl⟩
               · exact ⟨rfl, 9, _, by decide, rfl⟩
               · exact ⟨rfl, 10, _, by decide, rfl⟩
               · exact ⟨rfl, 5, _, by decide, rfl⟩
               · exact ⟨rfl, 6, _, by decide, rfl⟩
  | un h _ i => exact ⟨by simp [okD, okL, i.1], 3, _, by decide, rfl⟩
  | bin h _ _ i j => exact ⟨by simp [okD, okL, i.1, j.1], 4, _, by decide, rfl⟩
  | ref1 h _ i => exact ⟨by simp [okD, okL, i.1], 1, _, by decide, rfl⟩
  | ref2 h _ _ i j => exact ⟨by simp [okD, okL, i.1, j.1], 1, _, by decide, rfl⟩
  | sub00 _ i => exact ⟨by simp [okD, okL, i.1], 2, _, by decide, rfl⟩
  | sub10 _ _ i j => exact ⟨by simp [okD, okL, i.1, j.1], 2, _, by decide, rfl⟩
  | sub01 _ _ i j => exact ⟨by simp [okD, okL, i.1, j.1], 2, _, by decide, rfl⟩
  | sub11 _ _ _ i j k => exact ⟨by simp [okD, okL, i.1, j.1, k.1], 2, _, by decide, rfl⟩
theorem j_tree {g : Glb} (Z : Real g) (m : MM) (q : KK) (hm : m.Ok) (hq : q.Ok) {n : Nat} {t : AV} (h : Tree n t) : n ≤ 15 → ∃ r, JJ g m q (30 * n + 30) (3 * n + 3) t r := by
  induction h with
  | @name n i h => intro hn; obtain ⟨r, h⟩ := j_name Z m q hq h; exact ⟨r, h.mono (by omega) (by omega)⟩
  | @const n i h => intro hn; obtain ⟨r, h⟩ := j_const Z m q h; exact ⟨r, h.mono (by omega) (by omega)⟩
  | un h _ i =>
    intro hn
    obtain ⟨r, hr⟩ := i (by omega)
    obtain ⟨rv, hv⟩ := c_value Z m q hr
    obtain ⟨v, hj⟩ := j_un Z m q h hv
    exact ⟨v, hj.mono (by omega) (by omega)⟩
  | bin h _ _ i j =>
    intro hn
    obtain ⟨r, hr⟩ := i (by omega)
    obtain ⟨rv, hv⟩ := c_value Z m q hr
    obtain ⟨r', hr'⟩ := j (by omega)
    obtain ⟨rv', hv'⟩ := c_value Z m q hr'
    obtain ⟨v, hj⟩ := j_bin Z m q h hv hv'
    exact ⟨v, hj.mono (by omega) (by omega)⟩
  | ref1 h t i =>
    intro hn
    obtain ⟨r, hr⟩ := i (by omega)
    obtain ⟨rv, hv⟩ := c_value Z m q hr
    obtain ⟨ho, k, rest, hk, rfl⟩ := t.shape
    obtain ⟨v, hj⟩ := j_ref1 Z m q hm (by omega) h hk ho hr hv
    exact ⟨v, hj.mono (by omega) (by omega)⟩
  | ref2 h t t' i j =>
    intro hn
    obtain ⟨r, hr⟩ := i (by omega)
    obtain ⟨rv, hv⟩ := c_value Z m q hr
    obtain ⟨r', hr'⟩ := j (by omega)
    obtain ⟨rv', hv'⟩ := c_value Z m q hr'
    obtain ⟨ho, k, rest, hk, rfl⟩ := t.shape
    obtain ⟨ho', k', rest', hk', rfl⟩ := t'.shape
    obtain ⟨v, hj⟩ := j_ref2 Z m q hm (by omega) h hk hk' ho ho' hr hv hr' hv'
    exact ⟨v, hj.mono (by omega) (by omega)⟩
  | sub00 _ i =>
    intro hn
    obtain ⟨r, hr⟩ := i (by omega)
    obtain ⟨v, hj⟩ := j_sub Z m q hr .no .no
    exact ⟨v, hj.mono (by omega) (by omega)⟩
  | sub10 _ t i j =>
    intro hn
    obtain ⟨r, hr⟩ := i (by omega)
    obtain ⟨r', hr'⟩ := j (by omega)
    obtain ⟨rv', hv'⟩ := c_value Z m q hr'
    obtain ⟨_, k, rest, hk, rfl⟩ := t.shape
    obtain ⟨e, v, he⟩ := JE.of hv'
    obtain ⟨v, hj⟩ := j_sub Z m q hr he .no
    exact ⟨v, hj.mono (by omega) (by omega)⟩
  | sub01 _ t i j =>
    intro hn
    obtain ⟨r, hr⟩ := i (by omega)
    obtain ⟨r', hr'⟩ := j (by omega)
    obtain ⟨rv', hv'⟩ := c_value Z m q hr'
    obtain ⟨_, k, rest, hk, rfl⟩ := t.shape
    obtain ⟨e, v, he⟩ := JE.of hv'
    obtain ⟨v, hj⟩ := j_sub Z m q hr .no he
    exact ⟨v, hj.mono (by omega) (by omega)⟩
  | sub11 _ t t' i j j' =>
    intro hn
    obtain ⟨r, hr⟩ := i (by omega)
    obtain ⟨r', hr'⟩ := j (by omega)
    obtain ⟨rv', hv'⟩ := c_value Z m q hr'
    obtain ⟨r'', hr''⟩ := j' (by omega)
    obtain ⟨rv'', hv''⟩ := c_value Z m q hr''
    obtain ⟨_, k, rest, hk, rfl⟩ := t.shape
    obtain ⟨_, k', rest', hk', rfl⟩ := t'.shape
    obtain ⟨e, v, he⟩ := JE.of hv'
    obtain ⟨e', v', he'⟩ := JE.of hv''
    obtain ⟨v, hj⟩ := j_sub Z m q hr he he'
    exact ⟨v, hj.mono (by omega) (by omega)⟩
end Mine
end
section
set_option maxHeartbeats 400000
open PySem PySem.W PySem.Spec PySem.Calls PyProof.Rows
namespace Mine
noncomputable def penM (l : List AV) (at_ : Nat) : MO := .lst [.lst l, .int at_]
noncomputable def IntsL (l : List AV) : Prop := ∀ a ∈ l, ∃ i, a = .int i
structure PenOk (l : List AV) : Prop where
  i : IntsL l
  lo : 1 ≤ l.length
  hi : l.length ≤ 1000
theorem gd_t {b : Bool} {r : Option AV} (h : b = true) : gd b r = r := by rw [h]; rfl
theorem ofNat_nth {l : List AV} {i : Nat} {a : AV} (h : l[i]? = some a) (hi : i ≤ 999999) : nth? l (.ofNat i) = some a := by
  unfold nth?
  dsimp only
  rw [Nat.ble_eq_true_of_le hi]
  dsimp only
  rw [atN_get]; exact h
section
variable {g : Glb} (Z : Real g)
include Z
theorem c_draw {l : List AV} (hl : PenOk l) {at_ : Nat} (ha : at_ ≤ 100000) (many : Nat) (hm : 0 < many) (τ : List MO) : ∃ v : Nat, v < many ∧ Valid g 2 (.ref 386) [.ref 0, .int many] (penM l at_ :: τ) (some (.int v)) (penM l (at_ + 1) :: τ) := by
  have hn : (0 : Int) < (l.length : Int) := by have := hl.lo; omega
  have hlt : at_ % l.length < l.length := Nat.mod_lt _ hl.lo
  obtain ⟨z, hz⟩ := hl.i _ (List.getElem_mem hlt)
  have hget : l[at_ % l.length]? = some (.int z) := by rw [List.getElem?_eq_getElem hlt, hz]
  have hsmall : small l = true := Nat.ble_eq_true_of_le (Nat.le_trans hl.hi (by decide))
  have e1 : gd (small l) (some (.int l.length)) = some (AV.int l.length) := by rw [hsmall]; rfl
  have e2 : binV .Mod (.int at_) (.int l.length) = some (.int (.ofNat (at_ % l.length))) := by
    refine (gd_t (decide_eq_true hn)).trans ?_
    rw [Int.fmod_eq_emod_of_nonneg _ (Int.le_of_lt hn)]
    rfl
  have e3 : subV (penM l (at_ + 1) :: τ) (.lst l) (.int (.ofNat (at_ % l.length))) = some (.int z) := ofNat_nth hget (by have := hl.hi; omega)
  have hsm : ∀ i : Int, i.natAbs < 1000000000 → sm i = true := fun i hi => by unfold sm; exact decide_eq_true (by omega)
  have e4 : binV .FloorDiv (.int at_) (.int l.length) = some (.int (Int.fdiv at_ l.length)) := (gd_t (decide_eq_true hn)).trans (gd_t (hsm l.length (by have := hl.hi; omega)))
  have hd : (Int.fdiv at_ l.length).natAbs < 1000000000 := by
    rw [Int.fdiv_eq_ediv_of_nonneg _ (Int.le_of_lt hn)]
    have : ((at_ : Int) / (l.length : Int)) = ((at_ / l.length : Nat) : Int) := rfl
    rw [this, Int.natAbs_natCast]
    exact Nat.lt_of_le_of_lt (Nat.le_trans (Nat.div_le_self at_ l.length) ha) (by decide)
  have e5 : binV .Mult (.int 5) (.int (Int.fdiv at_ l.length)) = some (.int (5 * Int.fdiv at_ l.length)) := (gd_t (hsm 5 (by decide))).trans (gd_t (hsm _ hd))
  have hm' : (0 : Int) < (many : Int) := by omega
  have e6 : binV .Mod (.int (z + 5 * Int.fdiv at_ l.length)) (.int many) = some (.int (Int.fmod (z + 5 * Int.fdiv at_ l.length) many)) := gd_t (decide_eq_true hm')
  have hb := Int.fmod_nonneg_of_pos (z + 5 * Int.fdiv at_ l.length) hm'
  have hu := Int.fmod_lt_of_pos (z + 5 * Int.fdiv at_ l.length) hm'
  obtain ⟨v, hv⟩ := Int.eq_ofNat_of_zero_le hb
  refine ⟨v, by omega, ?_⟩
  refine vc (k := 4) (mu := []) Z (d_law_draw Z.k) [] (P := oK (gd (small l) (some (AV.int l.length))) fun n1 => oK (binV .Mod (.int at_) n1) fun i => oK (subV (penM l (at_ + 1) :: τ) (.lst l) i) fun x =>
    oK (gd (small l) (some (AV.int l.length))) fun n2 => oK (binV .FloorDiv (.int at_) n2) fun d => oK (binV .Mult (.int 5) d) fun e => oK (binV .Add x e) fun s => oK (binV .Mod s (.int many)) fun r => Post (penM l at_ :: τ).length (some (.int v)) (penM l (at_ + 1) :: τ) (.ret r) (penM l (at_ + 1) :: τ))
    (by kernel_rfl) ?_ (by decide) (by decide) rfl
  rw [e1]
  show oK (binV .Mod (.int at_) (.int l.length)) _
  rw [e2]
  show oK (subV _ _ _) _
  rw [e3]
  show oK (binV .FloorDiv (.int at_) (.int l.length)) _
  rw [e4]
  show oK (binV .Mult _ _) _
  rw [e5]
  show oK (binV .Mod (.int (z + 5 * Int.fdiv at_ l.length)) (.int many)) _
  rw [e6]
  show Post _ _ _ (.ret (.int _)) _
  rw [hv]
  exact ⟨_, rfl, .same⟩
end
end Mine
end
section
set_option maxHeartbeats 1000000
open PySem PySem.W PySem.Spec PySem.Calls PyProof.Rows
namespace Mine
theorem k2 {k : Nat} (h : k < 2) : k = 0 ∨ k = 1 := (by decide +kernel : ∀ k, k < 2 → k = 0 ∨ k = 1) k h
theorem k4 {k : Nat} (h : k < 4) : k = 0 ∨ k = 1 ∨ k = 2 ∨ k = 3 := (by decide +kernel : ∀ k, k < 4 → k = 0 ∨ k = 1 ∨ k = 2 ∨ k = 3) k h
noncomputable def TreeV (g : Glb) (l : List AV) (p C n : Nat) : Prop := ∀ (at_ : Nat) (τ : List MO), at_ + C ≤ 50500 → ∃ t at', at_ ≤ at' ∧ at' ≤ at_ + C ∧ Tree n t ∧ Valid g (10 * p + 10) (.ref 391) [.ref 0, .int p] (penM l at_ :: τ) (some t) (penM l at' :: τ)
theorem TreeV.mk {g : Glb} {l : List AV} {p C n : Nat} {at_ : Nat} {τ : List MO} (t : AV) (at' : Nat) (h1 : at_ ≤ at') (h2 : at' ≤ at_ + C) (h3 : Tree n t) (h4 : Valid g (10 * p + 10) (.ref 391) [.ref 0, .int p] (penM l at_ :: τ) (some t) (penM l at' :: τ)) :
    ∃ t at', at_ ≤ at' ∧ at' ≤ at_ + C ∧ Tree n t ∧ Valid g (10 * p + 10) (.ref 391) [.ref 0, .int p] (penM l at_ :: τ) (some t) (penM l at' :: τ) := ⟨t, at', h1, h2, h3, h4⟩
section
variable {g : Glb} (Z : Real g)
include Z
theorem tree_0 {l : List AV} (hl : PenOk l) : TreeV g l 0 2 0 := by
  intro at_ τ hat
  obtain ⟨way, hw, d1⟩ := c_draw Z hl (at_ := at_) (by omega) 4 (by decide) τ
  obtain ⟨i10, h10, d10⟩ := c_draw Z hl (at_ := at_ + 1) (by omega) 10 (by decide) τ
  obtain ⟨i14, h14, d14⟩ := c_draw Z hl (at_ := at_ + 1) (by omega) 14 (by decide) τ
  rcases k4 hw with rfl | rfl | rfl | rfl
  · refine TreeV.mk (.tup [.str "name", .str (nmS i10)]) (at_ + 1 + 1) (by omega) (by omega) (.name (by omega)) ?_
    clear d14 h14
    refine vs (k := 4) (mu := []) Z (d_law_tree Z.k) [.c d1 (by decide), .c d10 (by decide)] ?_
    revert d10; revert h10; revert i10
    apply uE1; kernel_rfl
  · refine TreeV.mk (.tup [.str "name", .str (nmS i10)]) (at_ + 1 + 1) (by omega) (by omega) (.name (by omega)) ?_
    clear d14 h14
    refine vs (k := 4) (mu := []) Z (d_law_tree Z.k) [.c d1 (by decide), .c d10 (by decide)] ?_
    revert d10; revert h10; revert i10
    apply uE1; kernel_rfl
  · refine TreeV.mk (.tup [.str "name", .str (nmS i14)]) (at_ + 1 + 1) (by omega) (by omega) (.name h14) ?_
    clear d10 h10
    refine vs (k := 4) (mu := []) Z (d_law_tree Z.k) [.c d1 (by decide), .c d14 (by decide)] ?_
    revert d14; revert h14; revert i14
    apply uE1; kernel_rfl
  · refine TreeV.mk (constA i10) (at_ + 1 + 1) (by omega) (by omega) (.const h10) ?_
    clear d14 h14
    refine vs (k := 4) (mu := []) Z (d_law_tree Z.k) [.c d1 (by decide), .c d10 (by decide)] ?_
    revert d10; revert h10; revert i10
    apply uE1; kernel_rfl
omit Z in
theorem sp1 : ((0 : Nat) + 1 : Nat) = 1 := rfl
noncomputable def baseA : Nat → AV
  | 0 => .tup [.str "name", .str "T1"]
  | 1 => .tup [.str "ref", .str "U1", .lst [.tup [.str "int", .int 3]]]
  | 2 => .tup [.str "name", .str "X1"]
  | _ => .tup [.str "name", .str "U1"]
omit Z in
theorem base_tree {n b : Nat} (hb : b < 4) : Tree (n + 1) (baseA b) := by
  rcases k4 hb with rfl | rfl | rfl | rfl
  · exact Tree.name (i := 8) (by decide)
  · exact Tree.ref1 (c := 4) (t := constA 0) (by decide) (.const (by decide))
  · exact Tree.name (i := 0) (by decide)
  · exact Tree.name (i := 10) (by decide)
omit Z in
theorem dq1 {p : Nat} : 2 < 10 * (p + 1) + 10 - 1 := by omega
omit Z in
theorem dq2 {p : Nat} : 10 * p + 10 < 10 * (p + 1) + 10 - 1 := by omega
omit Z in
theorem dq0 {p : Nat} : 10 * 0 + 10 < 10 * (p + 1) + 10 - 1 := by omega
theorem tree_s {l : List AV} (hl : PenOk l) {p C n : Nat} (hp : p < 3) (hC : 2 ≤ C ∧ C ≤ 100) (T : TreeV g l p C (n + 1)) : TreeV g l (p + 1) (2 * C + 10) (n + 2) := by
  intro at_ τ hat
  obtain ⟨way, hw, d1⟩ := c_draw Z hl (at_ := at_) (by omega) 14 (by decide) τ
  have name : ∀ i, i < 14 → ∀ {c : List (CE g (10 * (p + 1) + 10 - 1))}, RunsTo g ["pen", "depth"] [] (fnScope 61) (fnBody 61) 4 [] (10 * (p + 1) + 10) [.ref 0, .int (p + 1 : Nat)] (penM l at_ :: τ) (some (.tup [.str "name", .str (nmS i)])) (penM l (at_ + 1 + 1) :: τ) c (Post (penM l at_ :: τ).length (some (.tup [.str "name", .str (nmS i)])) (penM l (at_ + 1 + 1) :: τ) (.ret (.tup [.str "name", .str (nmS i)])) (penM l (at_ + 1 + 1) :: τ)) →
      ∃ t at', at_ ≤ at' ∧ at' ≤ at_ + (2 * C + 10) ∧ Tree (n + 2) t ∧ Valid g (10 * (p + 1) + 10) (.ref 391) [.ref 0, .int (p + 1 : Nat)] (penM l at_ :: τ) (some t) (penM l at' :: τ) := fun i hi c h =>
    TreeV.mk _ (at_ + 1 + 1) (by omega) (by omega) (.name hi) (vs Z (d_law_tree Z.k) c h (by decide) (by omega))
  have bin : ∀ {t1 t2 : AV} {a1 a2 : Nat} (s : Nat), s < 12 → Tree (n + 1) t1 → Tree (n + 1) t2 → a1 ≤ a2 → at_ ≤ a1 → a2 ≤ at_ + (2 * C + 10) → ∀ {c : List (CE g (10 * (p + 1) + 10 - 1))}, RunsTo g ["pen", "depth"] [] (fnScope 61) (fnBody 61) 4 [] (10 * (p + 1) + 10) [.ref 0, .int (p + 1 : Nat)] (penM l at_ :: τ) (some (.tup [.str "bin", .str (signS s), t1, t2])) (penM l a2 :: τ) c (Post (penM l at_ :: τ).length (some (.tup [.str "bin", .str (signS s), t1, t2])) (penM l a2 :: τ) (.ret (.tup [.str "bin", .str (signS s), t1, t2])) (penM l a2 :: τ)) →
      ∃ t at', at_ ≤ at' ∧ at' ≤ at_ + (2 * C + 10) ∧ Tree (n + 2) t ∧ Valid g (10 * (p + 1) + 10) (.ref 391) [.ref 0, .int (p + 1 : Nat)] (penM l at_ :: τ) (some t) (penM l at' :: τ) := fun {t1 t2 a1 a2} s hs h1 h2 h3 h4 h5 c h =>
    TreeV.mk _ a2 (by omega) h5 (.bin hs h1 h2) (vs Z (d_law_tree Z.k) c h (by decide) (by omega))
  by_cases hw2 : way < 4
  · obtain ⟨i10, h10, d10⟩ := c_draw Z hl (at_ := at_ + 1) (by omega) 10 (by decide) τ
    obtain ⟨i14, h14, d14⟩ := c_draw Z hl (at_ := at_ + 1) (by omega) 14 (by decide) τ
    have n10 := name i10 (by omega) (c := [.c d1 dq1, .c d10 dq1])
    have n14 := name i14 h14 (c := [.c d1 dq1, .c d14 dq1])
    clear name bin
    rcases k4 hw2 with rfl | rfl | rfl | rfl
    · refine n10 ?_
      clear n10 n14 h14 d14 hC T hw hat hw2
      revert d10; revert h10; revert i10; revert hp; revert p
      apply uE2; kernel_rfl
    · refine n10 ?_
      clear n10 n14 h14 d14 hC T hw hat hw2
      revert d10; revert h10; revert i10; revert hp; revert p
      apply uE2; kernel_rfl
    · refine n14 ?_
      clear n10 n14 h10 d10 hC T hw hat hw2
      revert d14; revert h14; revert i14; revert hp; revert p
      apply uE2; kernel_rfl
    · clear n10 n14
      refine TreeV.mk (constA i10) (at_ + 1 + 1) (by omega) (by omega) (.const h10) ?_
      refine vs (k := 4) (mu := []) Z (d_law_tree Z.k) [.c d1 dq1, .c d10 dq1] ?_ (by decide) (by omega)
      clear h14 d14 T hC hw hat hw2
      revert d10; revert h10; revert i10; revert hp; revert p
      apply uE2; kernel_rfl
  · by_cases hw4 : way = 4
    · clear name bin hw hw2
      subst hw4
      obtain ⟨o, ho, d3⟩ := c_draw Z hl (at_ := at_ + 1) (by omega) 3 (by decide) τ
      obtain ⟨t, a', g1, g2, g3, g4⟩ := T (at_ + 1 + 1) τ (by omega)
      refine TreeV.mk (.tup [.str "un", .str (opS o), t]) a' (by omega) (by omega) (.un ho g3) ?_
      have hx := And.intro d3 g4
      clear d3 g4
      refine vs (k := 4) (mu := []) Z (d_law_tree Z.k) [.c d1 dq1, .c hx.1 dq1, .c hx.2 dq2] ?_ (by decide) (by omega)
      clear T hC hat g1 g2 g3
      revert hx; revert ho; revert o; revert hp; revert p
      apply uE2; kernel_rfl
    · by_cases hw5 : way = 5
      · clear name bin hw hw2 hw4
        subst hw5
        obtain ⟨c, hc, d7⟩ := c_draw Z hl (at_ := at_ + 1) (by omega) 7 (by decide) τ
        obtain ⟨b, hb, d2⟩ := c_draw Z hl (at_ := at_ + 1 + 1) (by omega) 2 (by decide) τ
        obtain ⟨t, a', g1, g2, g3, g4⟩ := T (at_ + 1 + 1 + 1) τ (by omega)
        obtain ⟨t', a'', g1', g2', g3', g4'⟩ := T a' τ (by omega)
        rcases k2 hb with rfl | rfl
        · refine TreeV.mk (.tup [.str "ref", .str (refS c), .lst [t]]) a' (by omega) (by omega) (.ref1 hc g3) ?_
          have hx := And.intro d7 (And.intro d2 g4)
          clear d7 d2 g4 g4'
          refine vs (k := 4) (mu := []) Z (d_law_tree Z.k) [.c d1 dq1, .c hx.1 dq1, .c hx.2.1 dq1, .c hx.2.2 dq2] ?_ (by decide) (by omega)
          clear T hC hat g1 g2 g3 g1' g2' g3'
          revert hx; revert hc; revert c; revert hp; revert p
          apply uE2; kernel_rfl
        · refine TreeV.mk (.tup [.str "ref", .str (refS c), .lst [t, t']]) a'' (by omega) (by omega) (.ref2 hc g3 g3') ?_
          have hx := And.intro d7 (And.intro d2 (And.intro g4 g4'))
          clear d7 d2 g4 g4'
          refine vs (k := 4) (mu := []) Z (d_law_tree Z.k) [.c d1 dq1, .c hx.1 dq1, .c hx.2.1 dq1, .c hx.2.2.1 dq2, .c hx.2.2.2 dq2] ?_ (by decide) (by omega)
          clear T hC hat g1 g2 g3 g1' g2' g3'
          revert hx; revert hc; revert c; revert hp; revert p
          apply uE2; kernel_rfl
      · by_cases hw6 : way = 6
        · clear name bin hw hw2 hw4 hw5
          subst hw6
          obtain ⟨b, hb, d4⟩ := c_draw Z hl (at_ := at_ + 1) (by omega) 4 (by decide) τ
          obtain ⟨e, he, d2⟩ := c_draw Z hl (at_ := at_ + 1 + 1) (by omega) 2 (by decide) τ
          have hbt := base_tree (n := n) hb
          have u0 : ∀ {t}, Tree 0 t → Tree (n + 1) t := fun h => by
            have : ∀ k, Tree k _ := fun k => Nat.rec h (fun _ ih => ih.up) k
            exact this (n + 1)
          rcases k2 he with rfl | rfl
          · obtain ⟨e', he', d2'⟩ := c_draw Z hl (at_ := at_ + 1 + 1 + 1) (by omega) 2 (by decide) τ
            rcases k2 he' with rfl | rfl
            · refine TreeV.mk (.tup [.str "sub", baseA b, .none, .none]) (at_ + 1 + 1 + 1 + 1) (by omega) (by omega) (.sub00 hbt) ?_
              have hx := And.intro d4 (And.intro d2 d2')
              clear d4 d2 d2'
              refine vs (k := 4) (mu := []) Z (d_law_tree Z.k) [.c d1 dq1, .c hx.1 dq1, .c hx.2.1 dq1, .c hx.2.2 dq1] ?_ (by decide) (by omega)
              clear T hC hat hbt
              revert hx; revert hb; revert b; revert hp; revert p
              apply uE2; kernel_rfl
            · obtain ⟨t', a'', g1', g2', g3', g4'⟩ := tree_0 Z hl (at_ + 1 + 1 + 1 + 1) τ (by omega)
              refine TreeV.mk (.tup [.str "sub", baseA b, .none, t']) a'' (by omega) (by omega) (.sub01 hbt (u0 g3')) ?_
              have hx := And.intro d4 (And.intro d2 (And.intro d2' g4'))
              clear d4 d2 d2' g4'
              refine vs (k := 4) (mu := []) Z (d_law_tree Z.k) [.c d1 dq1, .c hx.1 dq1, .c hx.2.1 dq1, .c hx.2.2.1 dq1, .c hx.2.2.2 dq0] ?_ (by decide) (by omega)
              clear T hC hat hbt g1' g2' g3'
              revert hx; revert hb; revert b; revert hp; revert p
              apply uE2; kernel_rfl
          · obtain ⟨t, a', g1, g2, g3, g4⟩ := tree_0 Z hl (at_ + 1 + 1 + 1) τ (by omega)
            obtain ⟨e', he', d2'⟩ := c_draw Z hl (at_ := a') (by omega) 2 (by decide) τ
            rcases k2 he' with rfl | rfl
            · refine TreeV.mk (.tup [.str "sub", baseA b, t, .none]) (a' + 1) (by omega) (by omega) (.sub10 hbt (u0 g3)) ?_
              have hx := And.intro d4 (And.intro d2 (And.intro g4 d2'))
              clear d4 d2 g4 d2'
              refine vs (k := 4) (mu := []) Z (d_law_tree Z.k) [.c d1 dq1, .c hx.1 dq1, .c hx.2.1 dq1, .c hx.2.2.1 dq0, .c hx.2.2.2 dq1] ?_ (by decide) (by omega)
              clear T hC hat hbt g1 g2 g3
              revert hx; revert hb; revert b; revert hp; revert p
              apply uE2; kernel_rfl
            · obtain ⟨t', a'', g1', g2', g3', g4'⟩ := tree_0 Z hl (a' + 1) τ (by omega)
              refine TreeV.mk (.tup [.str "sub", baseA b, t, t']) a'' (by omega) (by omega) (.sub11 hbt (u0 g3) (u0 g3')) ?_
              have hx := And.intro d4 (And.intro d2 (And.intro g4 (And.intro d2' g4')))
              clear d4 d2 g4 d2' g4'
              refine vs (k := 4) (mu := []) Z (d_law_tree Z.k) [.c d1 dq1, .c hx.1 dq1, .c hx.2.1 dq1, .c hx.2.2.1 dq0, .c hx.2.2.2.1 dq1, .c hx.2.2.2.2 dq0] ?_ (by decide) (by omega)
              clear T hC hat hbt g1 g2 g3 g1' g2' g3'
              revert hx; revert hb; revert b; revert hp; revert p
              apply uE2; kernel_rfl
        · clear name
          by_cases hw10 : way < 11
          · obtain ⟨t, a', g1, g2, g3, g4⟩ := T (at_ + 1) τ (by omega)
            obtain ⟨t', a'', g1', g2', g3', g4'⟩ := T a' τ (by omega)
            have hy : way = 7 ∨ way = 8 ∨ way = 9 ∨ way = 10 := by omega
            have hx := And.intro g4 g4'
            have b' := fun s hs => bin (t1 := t) (t2 := t') (a1 := a') (a2 := a'') s hs g3 g3' g1' (by omega) (by omega) (c := [.c d1 dq1, .c hx.1 dq2, .c hx.2 dq2])
            clear bin
            rcases hy with rfl | rfl | rfl | rfl
            · refine b' 0 (by decide) ?_
              clear b' T hC hat g1 g2 g3 g4 g1' g2' g3' g4'
              revert hx; revert hp; revert p
              apply uE1; kernel_rfl
            · refine b' 1 (by decide) ?_
              clear b' T hC hat g1 g2 g3 g4 g1' g2' g3' g4'
              revert hx; revert hp; revert p
              apply uE1; kernel_rfl
            · refine b' 2 (by decide) ?_
              clear b' T hC hat g1 g2 g3 g4 g1' g2' g3' g4'
              revert hx; revert hp; revert p
              apply uE1; kernel_rfl
            · refine b' 3 (by decide) ?_
              clear b' T hC hat g1 g2 g3 g4 g1' g2' g3' g4'
              revert hx; revert hp; revert p
              apply uE1; kernel_rfl
          · obtain ⟨s, hs, d12⟩ := c_draw Z hl (at_ := at_ + 1) (by omega) 12 (by decide) τ
            obtain ⟨t, a', g1, g2, g3, g4⟩ := T (at_ + 1 + 1) τ (by omega)
            obtain ⟨t', a'', g1', g2', g3', g4'⟩ := T a' τ (by omega)
            have hx := And.intro d12 (And.intro g4 g4')
            have b' := bin (t1 := t) (t2 := t') (a1 := a') (a2 := a'') s hs g3 g3' g1' (by omega) (by omega) (c := [.c d1 dq1, .c hx.1 dq1, .c hx.2.1 dq2, .c hx.2.2 dq2])
            clear bin
            have hy : way = 11 ∨ way = 12 ∨ way = 13 := by omega
            refine b' ?_
            clear b' T hC hat d12 g1 g2 g3 g4 g1' g2' g3' g4' hw hw2 hw4 hw5 hw6 hw10
            rcases hy with rfl | rfl | rfl <;> (revert hx; revert hs; revert s; revert hp; revert p; apply uE2; kernel_rfl)
theorem tree_3 {l : List AV} (hl : PenOk l) (at_ : Nat) (ha : at_ ≤ 1000) (τ : List MO) : ∃ t at', at_ ≤ at' ∧ at' ≤ at_ + 100 ∧ Tree 4 t ∧ Valid g 40 (.ref 391) [.ref 0, .int 3] (penM l at_ :: τ) (some t) (penM l at' :: τ) := by
  have t0 : TreeV g l 0 2 1 := fun at_ τ h => let ⟨t, a', h1, h2, h3, h4⟩ := tree_0 Z hl at_ τ h; ⟨t, a', h1, h2, h3.up, h4⟩
  have t1 := tree_s Z hl (p := 0) (n := 0) (by decide) (by omega) t0
  have t2 := tree_s Z hl (p := 1) (n := 1) (by decide) (by omega) t1
  have t3 := tree_s Z hl (p := 2) (n := 2) (by decide) (by omega) t2
  obtain ⟨t, a', h1, h2, h3, h4⟩ := t3 at_ τ (by omega)
  exact ⟨t, a', h1, by omega, h3, h4⟩
end
end Mine
end
section
set_option maxHeartbeats 400000
open PySem PySem.W PySem.Spec PySem.Calls PyProof.Rows
namespace Mine
/-! ## runs of letters: the law's own reading -/
noncomputable def forB (l : List Stmt) : List Stmt := match l with
  | .For _ _ b _ _ :: _ => b
  | _ => []
noncomputable def forT (l : List Stmt) : PySem.Expr := match l with
  | .For t _ _ _ _ :: _ => t
  | _ => .Name "" ⟨0, 0, 0, 0⟩
noncomputable def chrS (n : Nat) : PySem.Str := ⟨#[65 + n]⟩
noncomputable def ruleV (a b k : Nat) : AV := .tup [.int k, .none, .lst [.tup [.str (chrS a), .str (chrS b)]]]
noncomputable def Ls (L : Nat → Nat) : List AV := (List.range 26).map fun (i : Nat) => AV.int (L i)
noncomputable def Is (S : List Nat) : List AV := S.map fun (i : Nat) => AV.int i
noncomputable def L0 (i : Nat) : Nat := match Nat.ble 8 i, Nat.ble i 13 with
  | true, true => 0
  | _, _ => 1
noncomputable def upd (L : Nat → Nat) (a n k : Nat) (i : Nat) : Nat := match Nat.ble a i, Nat.blt i (a + n) with
  | true, true => k
  | _, _ => L i
noncomputable def tl74 : List Stmt := (fnBody 74).drop 2
noncomputable def cfgL (n : Nat) : Cfg := ⟨fnScope 74, ["letters", "seen"], n⟩
noncomputable def rho0 (rs : AV) : Loc := ⟨[("rules", rs), ("letters", .ref 1)], [("seen", some (.ref 2))]⟩
noncomputable def rhoF (rs k rn f l sp : AV) (pl : Option AV) : Loc := ⟨gr "rules" rs :: gr "letters" (.ref 1) :: gr "kind" k :: gr "length" .none :: gr "runs" rn :: gr "first" f :: gr "last" l :: gr "span" sp :: (match pl with | some p => [gr "place" p] | none => []), [("seen", some (.ref 2))]⟩
noncomputable def stLt (pn : MO) (L : Nat → Nat) (S : List Nat) : Stt := ⟨[pn, .lst (Ls L), .lst (Is S)], []⟩
theorem eqA {g : Glb} (n : Nat) (pn : MO) (rs : List AV) (hr : rs.length ≤ 2) (K : KO) (KE : KX) :
    run (TT g) 60 4 (cfgL n) (.sts (fnBody 74)) (enterL (fnScope 74) ["rules"] ([.lst rs] ++ [])) ⟨[pn], []⟩ K KE
    = turns (run (TT g) 58) 3 (cfgL n) (forT tl74) (forB tl74) KE rs (rho0 (.lst rs)) (stLt pn L0 []) (fun f ρ s => match f with | .next => steps (run (TT g) 59) 4 (cfgL n) (tl74.drop 1) ρ s (fun f ρ s => K (.fl f ρ) s) KE | .ret v => K (.fl (.ret v) ρ) s) := by
  match rs, hr with
  | [], _ => kernel_rfl
  | [r], _ => kernel_rfl
  | [r, r'], _ => kernel_rfl
  | _ :: _ :: _ :: _, h => exact absurd h (by simp)
noncomputable def memP (S : List Nat) (p : Nat) : Bool := (pdL (Is S)).any fun y => PyData.eqv y (pd (.int p))
noncomputable def treeP (S : List Nat) (A B : Prop) : List Nat → Bool → Prop
  | [], any => cnd any A B
  | p :: ps, any => cnd (memP S p) (treeP S A B ps true) (treeP S A B ps any)
noncomputable def spanN (a n : Nat) : List Nat := (List.range n).map fun i => a + i
noncomputable def last (a n : Nat) : Nat := a + n - 1
noncomputable def runsV (a n : Nat) : AV := .lst [.tup [.str (chrS a), .str (chrS (last a n))]]
theorem turn1 {g : Glb} (nn : Nat) (pn : MO) (rs : AV) (L : Nat → Nat) (K : KO) (KE : KX) (k : Nat) (a n : Nat) (ha : a < 26) (hn : n < 6) (hb : a + n ≤ 26) (h0 : 1 ≤ n) :
    oK (bindT (cfgL nn) (forT tl74) (ruleV a (last a n) k) (rho0 rs)) (fun ρ => run (TT g) 58 3 (cfgL nn) (.sts (forB tl74)) ρ (stLt pn L []) K KE)
    = treeP [] (K (.fl (.ret .none) (rhoF rs (.int k) (runsV a n) (.str (chrS a)) (.str (chrS (last a n))) (.lst (Is (spanN a n))) none)) (stLt pn L []))
      (K (.fl .next (rhoF rs (.int k) (runsV a n) (.str (chrS a)) (.str (chrS (last a n))) (.lst (Is (spanN a n))) (some (.int (last a n))))) (stLt pn (upd L a n k) (spanN a n))) (spanN a n) false := by
  obtain ⟨j, rfl⟩ : ∃ j, n = j + 1 := ⟨n - 1, by omega⟩
  have hj : j < min 5 (26 - a) := by omega
  clear hn hb h0
  revert hj; revert j; revert ha; revert a
  apply tE2; kernel_rfl
theorem turn1e {g : Glb} (nn : Nat) (pn : MO) (rs : AV) (L : Nat → Nat) (K : KO) (KE : KX) (k : Nat) (a : Nat) (ha : a < 26) (h0 : 1 ≤ a) :
    oK (bindT (cfgL nn) (forT tl74) (ruleV a (last a 0) k) (rho0 rs)) (fun ρ => run (TT g) 58 3 (cfgL nn) (.sts (forB tl74)) ρ (stLt pn L []) K KE)
    = K (.fl (.ret .none) (rhoF rs (.int k) (runsV a 0) (.str (chrS a)) (.str (chrS (last a 0))) (.lst []) none)) (stLt pn L []) := by
  obtain ⟨j, hj, rfl⟩ : ∃ j, j < 25 ∧ a = j + 1 := ⟨a - 1, by omega, by omega⟩
  clear ha h0
  revert hj; revert j
  apply tE1; kernel_rfl
/-! the state behind the first rule -/
theorem turn2_1 {g : Glb} (nn : Nat) (pn : MO) (rs k0 r0 f0 l0 s0 p0 : AV) (L : Nat → Nat) (K : KO) (KE : KX) (k : Nat) (s1 : Nat) (a : Nat) (ha : a < 26) (j : Nat) (hj : j < min 5 (26 - a)) :
    oK (bindT (cfgL nn) (forT tl74) (ruleV a (last a (j + 1)) k) (rhoF rs k0 r0 f0 l0 s0 (some p0))) (fun ρ => run (TT g) 58 3 (cfgL nn) (.sts (forB tl74)) ρ (stLt pn L [s1]) K KE)
    = treeP [s1] (K (.fl (.ret .none) (rhoF rs (.int k) (runsV a (j + 1)) (.str (chrS a)) (.str (chrS (last a (j + 1)))) (.lst (Is (spanN a (j + 1)))) (some p0))) (stLt pn L [s1]))
      (K (.fl .next (rhoF rs (.int k) (runsV a (j + 1)) (.str (chrS a)) (.str (chrS (last a (j + 1)))) (.lst (Is (spanN a (j + 1)))) (some (.int (last a (j + 1)))))) (stLt pn (upd L a (j + 1) k) ([s1] ++ spanN a (j + 1)))) (spanN a (j + 1)) false := by
  revert hj; revert j; revert ha; revert a; apply tE2; kernel_rfl
theorem turn2_2 {g : Glb} (nn : Nat) (pn : MO) (rs k0 r0 f0 l0 s0 p0 : AV) (L : Nat → Nat) (K : KO) (KE : KX) (k : Nat) (s1 s2 : Nat) (a : Nat) (ha : a < 26) (j : Nat) (hj : j < min 5 (26 - a)) :
    oK (bindT (cfgL nn) (forT tl74) (ruleV a (last a (j + 1)) k) (rhoF rs k0 r0 f0 l0 s0 (some p0))) (fun ρ => run (TT g) 58 3 (cfgL nn) (.sts (forB tl74)) ρ (stLt pn L [s1, s2]) K KE)
    = treeP [s1, s2] (K (.fl (.ret .none) (rhoF rs (.int k) (runsV a (j + 1)) (.str (chrS a)) (.str (chrS (last a (j + 1)))) (.lst (Is (spanN a (j + 1)))) (some p0))) (stLt pn L [s1, s2]))
      (K (.fl .next (rhoF rs (.int k) (runsV a (j + 1)) (.str (chrS a)) (.str (chrS (last a (j + 1)))) (.lst (Is (spanN a (j + 1)))) (some (.int (last a (j + 1)))))) (stLt pn (upd L a (j + 1) k) ([s1, s2] ++ spanN a (j + 1)))) (spanN a (j + 1)) false := by
  revert hj; revert j; revert ha; revert a; apply tE2; kernel_rfl
theorem turn2_3 {g : Glb} (nn : Nat) (pn : MO) (rs k0 r0 f0 l0 s0 p0 : AV) (L : Nat → Nat) (K : KO) (KE : KX) (k : Nat) (s1 s2 s3 : Nat) (a : Nat) (ha : a < 26) (j : Nat) (hj : j < min 5 (26 - a)) :
    oK (bindT (cfgL nn) (forT tl74) (ruleV a (last a (j + 1)) k) (rhoF rs k0 r0 f0 l0 s0 (some p0))) (fun ρ => run (TT g) 58 3 (cfgL nn) (.sts (forB tl74)) ρ (stLt pn L [s1, s2, s3]) K KE)
    = treeP [s1, s2, s3] (K (.fl (.ret .none) (rhoF rs (.int k) (runsV a (j + 1)) (.str (chrS a)) (.str (chrS (last a (j + 1)))) (.lst (Is (spanN a (j + 1)))) (some p0))) (stLt pn L [s1, s2, s3]))
      (K (.fl .next (rhoF rs (.int k) (runsV a (j + 1)) (.str (chrS a)) (.str (chrS (last a (j + 1)))) (.lst (Is (spanN a (j + 1)))) (some (.int (last a (j + 1)))))) (stLt pn (upd L a (j + 1) k) ([s1, s2, s3] ++ spanN a (j + 1)))) (spanN a (j + 1)) false := by
  revert hj; revert j; revert ha; revert a; apply tE2; kernel_rfl
theorem turn2_4 {g : Glb} (nn : Nat) (pn : MO) (rs k0 r0 f0 l0 s0 p0 : AV) (L : Nat → Nat) (K : KO) (KE : KX) (k : Nat) (s1 s2 s3 s4 : Nat) (a : Nat) (ha : a < 26) (j : Nat) (hj : j < min 5 (26 - a)) :
    oK (bindT (cfgL nn) (forT tl74) (ruleV a (last a (j + 1)) k) (rhoF rs k0 r0 f0 l0 s0 (some p0))) (fun ρ => run (TT g) 58 3 (cfgL nn) (.sts (forB tl74)) ρ (stLt pn L [s1, s2, s3, s4]) K KE)
    = treeP [s1, s2, s3, s4] (K (.fl (.ret .none) (rhoF rs (.int k) (runsV a (j + 1)) (.str (chrS a)) (.str (chrS (last a (j + 1)))) (.lst (Is (spanN a (j + 1)))) (some p0))) (stLt pn L [s1, s2, s3, s4]))
      (K (.fl .next (rhoF rs (.int k) (runsV a (j + 1)) (.str (chrS a)) (.str (chrS (last a (j + 1)))) (.lst (Is (spanN a (j + 1)))) (some (.int (last a (j + 1)))))) (stLt pn (upd L a (j + 1) k) ([s1, s2, s3, s4] ++ spanN a (j + 1)))) (spanN a (j + 1)) false := by
  revert hj; revert j; revert ha; revert a; apply tE2; kernel_rfl
theorem turn2_5 {g : Glb} (nn : Nat) (pn : MO) (rs k0 r0 f0 l0 s0 p0 : AV) (L : Nat → Nat) (K : KO) (KE : KX) (k : Nat) (s1 s2 s3 s4 s5 : Nat) (a : Nat) (ha : a < 26) (j : Nat) (hj : j < min 5 (26 - a)) :
    oK (bindT (cfgL nn) (forT tl74) (ruleV a (last a (j + 1)) k) (rhoF rs k0 r0 f0 l0 s0 (some p0))) (fun ρ => run (TT g) 58 3 (cfgL nn) (.sts (forB tl74)) ρ (stLt pn L [s1, s2, s3, s4, s5]) K KE)
    = treeP [s1, s2, s3, s4, s5] (K (.fl (.ret .none) (rhoF rs (.int k) (runsV a (j + 1)) (.str (chrS a)) (.str (chrS (last a (j + 1)))) (.lst (Is (spanN a (j + 1)))) (some p0))) (stLt pn L [s1, s2, s3, s4, s5]))
      (K (.fl .next (rhoF rs (.int k) (runsV a (j + 1)) (.str (chrS a)) (.str (chrS (last a (j + 1)))) (.lst (Is (spanN a (j + 1)))) (some (.int (last a (j + 1)))))) (stLt pn (upd L a (j + 1) k) ([s1, s2, s3, s4, s5] ++ spanN a (j + 1)))) (spanN a (j + 1)) false := by
  revert hj; revert j; revert ha; revert a; apply tE2; kernel_rfl
theorem turn2 {g : Glb} (nn : Nat) (pn : MO) (rs k0 r0 f0 l0 s0 p0 : AV) (L : Nat → Nat) (K : KO) (KE : KX) (k : Nat) (a n : Nat) (S : List Nat) (hS : 1 ≤ S.length ∧ S.length < 6) (ha : a < 26) (hn : n < 6) (hb : a + n ≤ 26) (h0 : 1 ≤ n) :
    oK (bindT (cfgL nn) (forT tl74) (ruleV a (last a n) k) (rhoF rs k0 r0 f0 l0 s0 (some p0))) (fun ρ => run (TT g) 58 3 (cfgL nn) (.sts (forB tl74)) ρ (stLt pn L S) K KE)
    = treeP S (K (.fl (.ret .none) (rhoF rs (.int k) (runsV a n) (.str (chrS a)) (.str (chrS (last a n))) (.lst (Is (spanN a n))) (some p0))) (stLt pn L S))
      (K (.fl .next (rhoF rs (.int k) (runsV a n) (.str (chrS a)) (.str (chrS (last a n))) (.lst (Is (spanN a n))) (some (.int (last a n))))) (stLt pn (upd L a n k) (S ++ spanN a n))) (spanN a n) false := by
  obtain ⟨j, rfl⟩ : ∃ j, n = j + 1 := ⟨n - 1, by omega⟩
  have hj : j < min 5 (26 - a) := by omega
  clear hn hb h0
  match S, hS with
  | [s1], _ => exact turn2_1 nn pn rs k0 r0 f0 l0 s0 p0 L K KE k s1 a ha j hj
  | [s1, s2], _ => exact turn2_2 nn pn rs k0 r0 f0 l0 s0 p0 L K KE k s1 s2 a ha j hj
  | [s1, s2, s3], _ => exact turn2_3 nn pn rs k0 r0 f0 l0 s0 p0 L K KE k s1 s2 s3 a ha j hj
  | [s1, s2, s3, s4], _ => exact turn2_4 nn pn rs k0 r0 f0 l0 s0 p0 L K KE k s1 s2 s3 s4 a ha j hj
  | [s1, s2, s3, s4, s5], _ => exact turn2_5 nn pn rs k0 r0 f0 l0 s0 p0 L K KE k s1 s2 s3 s4 s5 a ha j hj
  | [], h => exact absurd h.1 (by decide)
  | _ :: _ :: _ :: _ :: _ :: _ :: _, h => exact absurd h.2 (by simp)
theorem turn2e {g : Glb} (nn : Nat) (pn : MO) (rs k0 r0 f0 l0 s0 p0 : AV) (L : Nat → Nat) (K : KO) (KE : KX) (k : Nat) (a : Nat) (S : List Nat) (ha : a < 26) (h0 : 1 ≤ a) :
    oK (bindT (cfgL nn) (forT tl74) (ruleV a (last a 0) k) (rhoF rs k0 r0 f0 l0 s0 (some p0))) (fun ρ => run (TT g) 58 3 (cfgL nn) (.sts (forB tl74)) ρ (stLt pn L S) K KE)
    = K (.fl (.ret .none) (rhoF rs (.int k) (runsV a 0) (.str (chrS a)) (.str (chrS (last a 0))) (.lst []) (some p0))) (stLt pn L S) := by
  obtain ⟨j, hj, rfl⟩ : ∃ j, j < 25 ∧ a = j + 1 := ⟨a - 1, by omega, by omega⟩
  clear ha h0
  revert hj; revert j
  apply tE1; kernel_rfl
theorem eqRet0 {g : Glb} (nn : Nat) (rs : AV) (s : Stt) (K : Fl → Loc → Stt → Prop) (KE : KX) : steps (run (TT g) 59) 4 (cfgL nn) (tl74.drop 1) (rho0 rs) s K KE = K (.ret (.ref 1)) (rho0 rs) s := by kernel_rfl
theorem eqRetF {g : Glb} (nn : Nat) (rs k0 r0 f0 l0 s0 p0 : AV) (s : Stt) (K : Fl → Loc → Stt → Prop) (KE : KX) : steps (run (TT g) 59) 4 (cfgL nn) (tl74.drop 1) (rhoF rs k0 r0 f0 l0 s0 (some p0)) s K KE = K (.ret (.ref 1)) (rhoF rs k0 r0 f0 l0 s0 (some p0)) s := by kernel_rfl
end Mine
end
section
set_option maxHeartbeats 400000
open PySem PySem.W PySem.Spec PySem.Calls PyProof.Rows
namespace Mine
theorem memP_eq (S : List Nat) (p : Nat) : memP S p = decide (p ∈ S) := by
  unfold memP
  induction S with
  | nil => rfl
  | cons s S ih =>
    show (PyData.eqv (.int s) (.int p) || (pdL (Is S)).any fun y => PyData.eqv y (pd (.int p))) = _
    rw [ih]
    show (((s : Int) == (p : Int)) || decide (p ∈ S)) = _
    by_cases h : s = p
    · subst h; simp
    · have : ((s : Int) == (p : Int)) = false := by rw [beq_eq_false_iff_ne]; omega
      rw [this, Bool.false_or]
      by_cases h2 : p ∈ S
      · simp [h2]
      · simp [h2]; exact fun e => h e.symm
theorem treeP_any (S : List Nat) (A B : Prop) : ∀ (ps : List Nat) (any : Bool), treeP S A B ps any = cnd (any || ps.any fun p => decide (p ∈ S)) A B
  | [], any => by simp [treeP]
  | p :: ps, any => by
    unfold treeP
    rw [treeP_any S A B ps true, treeP_any S A B ps any, memP_eq]
    rw [List.any_cons]
    cases h : decide (p ∈ S) with
    | true =>
      rw [Bool.true_or, Bool.or_true]; rfl
    | false =>
      rw [Bool.false_or]; rfl
structure RuleOk (x y w : Nat) : Prop where
  a : x < 26
  n : y < 6
  s : x + y ≤ 26
  z : y = 0 → 1 ≤ x
  k : w < 6
/-- a rule goes back, or tells again -/
noncomputable def badR (S : List Nat) (a n : Nat) : Bool := match n with
  | 0 => true
  | n + 1 => (spanN a (n + 1)).any fun p => decide (p ∈ S)
structure Rl where
  a : Nat
  n : Nat
  k : Nat
noncomputable def Rl.v (r : Rl) : AV := ruleV r.a (last r.a r.n) r.k
noncomputable def Rl.Ok (r : Rl) : Prop := RuleOk r.a r.n r.k
noncomputable def goR : List Rl → (Nat → Nat) → List Nat → Option (Nat → Nat)
  | [], L, _ => some L
  | r :: rs, L, S => match badR S r.a r.n with
    | true => none
    | false => goR rs (upd L r.a r.n r.k) (S ++ spanN r.a r.n)
noncomputable def lettersV (o : Option (Nat → Nat)) : AV := match o with
  | some L => .lst (Ls L)
  | none => .none
theorem exit_drop {pn : MO} (h : belowS 1 [pn] = true) (x y : MO) : Exit 1 [pn, x, y] .none [pn] .none := .drop (τ := [pn, x, y]) h rfl
theorem exit_let {pn : MO} (h : belowS 1 [pn] = true) (L : Nat → Nat) (y : MO) : Exit 1 [pn, .lst (Ls L), y] (.ref 1) [pn] (.lst (Ls L)) := .list (τ := [pn, .lst (Ls L), y]) (i := 1) h (Nat.le_refl _) rfl (by kernel_rfl)
theorem any_false {S : List Nat} {a n : Nat} (hn : 1 ≤ n) : (spanN a n).any (fun p => decide (p ∈ S)) = badR S a n := by
  cases n with
  | zero => omega
  | succ n => rfl
section
variable {g : Glb} {nn : Nat} {pn : MO} {R : AV} {L : Nat → Nat} {K : Fl → Loc → Stt → Prop} {KE : KX}
theorem goT1 (r : Rl) (ok : r.Ok) (rs : List AV) (h1 : badR [] r.a r.n = true → ∀ ρ, K (.ret .none) ρ (stLt pn L []))
    (h2 : badR [] r.a r.n = false → ∀ k0 r0 f0 l0 s0 p0, turns (run (TT g) 58) 3 (cfgL nn) (forT tl74) (forB tl74) KE rs (rhoF R k0 r0 f0 l0 s0 (some p0)) (stLt pn (upd L r.a r.n r.k) (spanN r.a r.n)) K) :
    turns (run (TT g) 58) 3 (cfgL nn) (forT tl74) (forB tl74) KE (r.v :: rs) (rho0 R) (stLt pn L []) K := by
  obtain ⟨a, n, k⟩ := r
  dsimp only at h1 h2
  show oK (bindT (cfgL nn) (forT tl74) (ruleV a (last a n) k) (rho0 R)) (fun ρ => run (TT g) 58 3 (cfgL nn) (.sts (forB tl74)) ρ (stLt pn L []) (fun o s => fK o fun f ρ => match f with | .next => turns (run (TT g) 58) 3 (cfgL nn) (forT tl74) (forB tl74) KE rs ρ s K | .ret v => K (.ret v) ρ s) KE)
  by_cases h0 : n = 0
  · subst h0
    rw [turn1e nn pn R L _ KE k a ok.a (ok.z rfl)]
    exact h1 rfl _
  · rw [turn1 nn pn R L _ KE k a n ok.a ok.n ok.s (by omega), treeP_any, any_false (by omega), Bool.false_or]
    cases e : badR [] a n with
    | true => exact h1 e _
    | false => exact h2 e _ _ _ _ _ _
theorem goT2 (r : Rl) (ok : r.Ok) {S : List Nat} (hS : 1 ≤ S.length ∧ S.length < 6) (rs : List AV) {k0 r0 f0 l0 s0 p0 : AV} (h1 : badR S r.a r.n = true → ∀ ρ, K (.ret .none) ρ (stLt pn L S))
    (h2 : badR S r.a r.n = false → ∀ k0 r0 f0 l0 s0 p0, turns (run (TT g) 58) 3 (cfgL nn) (forT tl74) (forB tl74) KE rs (rhoF R k0 r0 f0 l0 s0 (some p0)) (stLt pn (upd L r.a r.n r.k) (S ++ spanN r.a r.n)) K) :
    turns (run (TT g) 58) 3 (cfgL nn) (forT tl74) (forB tl74) KE (r.v :: rs) (rhoF R k0 r0 f0 l0 s0 (some p0)) (stLt pn L S) K := by
  obtain ⟨a, n, k⟩ := r
  dsimp only at h1 h2
  show oK (bindT (cfgL nn) (forT tl74) (ruleV a (last a n) k) (rhoF R k0 r0 f0 l0 s0 (some p0))) (fun ρ => run (TT g) 58 3 (cfgL nn) (.sts (forB tl74)) ρ (stLt pn L S) (fun o s => fK o fun f ρ => match f with | .next => turns (run (TT g) 58) 3 (cfgL nn) (forT tl74) (forB tl74) KE rs ρ s K | .ret v => K (.ret v) ρ s) KE)
  by_cases h0 : n = 0
  · subst h0
    rw [turn2e nn pn R k0 r0 f0 l0 s0 p0 L _ KE k a S ok.a (ok.z rfl)]
    exact h1 rfl _
  · rw [turn2 nn pn R k0 r0 f0 l0 s0 p0 L _ KE k a n S hS ok.a ok.n ok.s (by omega), treeP_any, any_false (by omega), Bool.false_or]
    cases e : badR S a n with
    | true => exact h1 e _
    | false => exact h2 e _ _ _ _ _ _
end
theorem spanN_len (a n : Nat) : (spanN a n).length = n := by simp [spanN]
section
variable {g : Glb} (Z : Real g)
include Z
theorem c_letters {pn : MO} (hp : belowS 1 [pn] = true) (rs : List Rl) (hl : rs.length ≤ 2) (hr : ∀ r ∈ rs, r.Ok) : Valid g 10 (.ref 474) [.lst (rs.map Rl.v)] [pn] (some (lettersV (goR rs L0 []))) [pn] := by
  refine valid_def (tok Z) (d_law_letters Z.k) (k := 4) (fuel := 60) (mu := ["letters", "seen"]) (ans := []) (by decide) (by decide) rfl ?_
  refine Eq.mpr (eqA 9 pn (rs.map Rl.v) (by rw [List.length_map]; exact hl) _ _) ?_
  generalize hv : lettersV (goR rs L0 []) = v
  have hno : ∀ S L, v = .none → Post 1 (some v) [pn] (.ret .none) (stLt pn L S).σ := fun S L e => by
    rw [e]; exact ⟨_, rfl, exit_drop hp _ _⟩
  have hyes : ∀ S L, v = .lst (Ls L) → Post 1 (some v) [pn] (.ret (.ref 1)) (stLt pn L S).σ := fun S L e => by
    rw [e]; exact ⟨_, rfl, exit_let hp L _⟩
  match rs, hl with
  | [], _ =>
    refine Eq.mpr (eqRet0 9 _ _ _ _) ?_
    exact hyes _ _ hv.symm
  | [r], _ =>
    refine goT1 r (hr r (.head _)) [] (fun e ρ => ?_) fun e k0 r0 f0 l0 s0 p0 => ?_
    · refine hno _ _ ?_
      rw [← hv]; unfold goR; rw [e]; rfl
    · refine Eq.mpr (eqRetF 9 _ k0 r0 f0 l0 s0 p0 _ _ _) ?_
      refine hyes _ _ ?_
      rw [← hv]; unfold goR; rw [e]; rfl
  | [r, r'], _ =>
    have ok := hr r (.head _)
    refine goT1 r ok [r'.v] (fun e ρ => ?_) fun e k0 r0 f0 l0 s0 p0 => ?_
    · refine hno _ _ ?_
      rw [← hv]; unfold goR; rw [e]; rfl
    · have hn : 1 ≤ r.n := by
        rcases Nat.eq_zero_or_pos r.n with q | q
        · rw [q] at e; cases e
        · exact q
      refine goT2 r' (hr r' (.tail _ (.head _))) (by rw [spanN_len]; exact ⟨hn, ok.n⟩) [] (fun e' ρ => ?_) fun e' k0 r0 f0 l0 s0 p0 => ?_
      · refine hno _ _ ?_
        rw [← hv]; unfold goR; rw [e]; unfold goR; rw [List.nil_append]; simp only [e']; rfl
      · refine Eq.mpr (eqRetF 9 _ k0 r0 f0 l0 s0 p0 _ _ _) ?_
        refine hyes _ _ ?_
        rw [← hv]; unfold goR; rw [e]; unfold goR; rw [List.nil_append]; simp only [e']; rfl
  | _ :: _ :: _ :: _, h => exact absurd h (by simp)
end
end Mine
end
section
set_option maxHeartbeats 400000
open PySem PySem.W PySem.Spec PySem.Calls PyProof.Rows
namespace Mine
/-! ## Implicit -/
noncomputable def Rs (L : Nat → Nat) : List AV := (List.range 26).map fun (i : Nat) => AV.tup [.int (L i), .none]
noncomputable def Ts (T : Nat → Bool) : List AV := (List.range 26).map fun (i : Nat) => AV.bool (T i)
noncomputable def impD : MO := .dct [("rules", .ref 2), ("told", .ref 3)]
noncomputable def stI (pn : MO) (L : Nat → Nat) (T : Nat → Bool) : List MO := [pn, impD, .lst (Rs L), .lst (Ts T)]
noncomputable def impO : AV := .obj 281 1
noncomputable def updT (T : Nat → Bool) (a n : Nat) (i : Nat) : Bool := match Nat.ble a i, Nat.blt i (a + n) with
  | true, true => true
  | _, _ => T i
noncomputable def F0 (_ : Nat) : Bool := false
noncomputable def LT : PySem.Str := "ABCDEFGHIJKLMNOPQRSTUVWXYZ"
theorem find_chr {a : Nat} (h : a < 26) : Txt.find LT (chrS a) = (a : Int) := by
  revert h; revert a
  apply tE1; kernel_rfl
noncomputable def tellP (T : Nat → Bool) (A B : Prop) : List Nat → Prop
  | [] => B
  | p :: ps => cnd (T p) A (tellP T A B ps)
theorem tellP_any (T : Nat → Bool) (A B : Prop) : ∀ ps : List Nat, tellP T A B ps = cnd (ps.any T) A B
  | [] => rfl
  | p :: ps => by
    unfold tellP
    rw [tellP_any T A B ps, List.any_cons]
    cases h : T p with
    | true => rfl
    | false => rfl
noncomputable def badT (T : Nat → Bool) (a n : Nat) : Bool := match n with
  | 0 => true
  | n + 1 => (spanN a (n + 1)).any T
section
variable {g : Glb} (Z : Real g) (pn : MO) (L : Nat → Nat) (T : Nat → Bool)
include Z
theorem c_impl : Valid g 6 (.ref 281) [] [pn] (some impO) (stI pn L0 F0) := by
  obtain ⟨P, hK, hP⟩ := id Z.k
  have h : Valid g 5 (.ref 264) [.obj 281 [pn].length] ([pn] ++ [.dct []]) (some .none) (stI pn L0 F0) := vn (k := 4) (mu := []) Z (d_Implicit_init Z.k) [] (by kernel_rfl)
  exact valid_cls (C := 281) (by rw [hK]; kernel_rfl) (by rw [hK]; kernel_rfl) (isFnd_iff (by rw [hK]; kernel_rfl)) (by rw [hK]; kernel_rfl) h
theorem c_of {p : Nat} (h : p < 26) : Valid g 3 (.ref 278) [impO, .str ⟨#[65 + p, 81]⟩] (stI pn L T) (some (.tup [.int (L p), .none])) (stI pn L T) := by
  refine vr (k := 4) (mu := []) Z (d_Implicit_of Z.k) [] ?_
  revert h; revert p
  apply tE1; kernel_rfl
theorem tell_eq {k : Nat} {r : Option AV} {σ' : List MO} {a n : Nat} (ha : a < 26) (hn : n < 6) (hb : a + n ≤ 26) (h0 : 1 ≤ n) :
    RunsTo g ["implicit", "rule", "low", "high"] [] (fnScope 46) (fnBody 46) 4 [] 5 [impO, .tup [.int k, .none], .int a, .int (last a n)] (stI pn L T) r σ' [] (tellP T (r = none) (Post 4 r σ' .next (stI pn (upd L a n k) (updT T a n))) (spanN a n)) := by
  obtain ⟨j, rfl⟩ : ∃ j, n = j + 1 := ⟨n - 1, by omega⟩
  have hj : j < min 5 (26 - a) := by omega
  clear hn hb h0
  revert hj; revert j; revert ha; revert a
  apply tE2; kernel_rfl
theorem tell_eq0 {k : Nat} {a : Nat} (ha : a < 26) (h0 : 1 ≤ a) :
    RunsTo g ["implicit", "rule", "low", "high"] [] (fnScope 46) (fnBody 46) 4 [] 5 [impO, .tup [.int k, .none], .int a, .int (last a 0)] (stI pn L T) none (stI pn L T) [] ((none : Option AV) = none) := by
  obtain ⟨j, hj, rfl⟩ : ∃ j, j < 25 ∧ a = j + 1 := ⟨a - 1, by omega, by omega⟩
  clear ha h0
  revert hj; revert j
  apply tE1; kernel_rfl
noncomputable def goT (T : Nat → Bool) (L : Nat → Nat) (r : Rl) : Option AV × List MO := match badT T r.a r.n with
  | true => (none, stI pn L T)
  | false => (some .none, stI pn (upd L r.a r.n r.k) (updT T r.a r.n))
theorem c_tell (r : Rl) (ok : r.Ok) : Valid g 5 (.ref 292) [impO, .tup [.int r.k, .none], .int (Txt.find LT (chrS r.a)), .int (Txt.find LT (chrS (last r.a r.n)))] (stI pn L T) (match badT T r.a r.n with | true => none | false => some .none) (match badT T r.a r.n with | true => stI pn L T | false => stI pn (upd L r.a r.n r.k) (updT T r.a r.n)) := by
  obtain ⟨a, n, k⟩ := r
  have hl : last a n < 26 := by have := ok.s; have := ok.a; unfold last; dsimp only at *; omega
  rw [find_chr ok.a, find_chr hl]
  dsimp only
  by_cases h0 : n = 0
  · subst h0
    exact vc Z (d_tell_letters Z.k) [] (tell_eq0 Z pn L T ok.a (ok.z rfl)) rfl (by decide) (by decide) rfl
  · have e : badT T a n = (spanN a n).any T := by
      cases n with
      | zero => exact absurd rfl h0
      | succ n => rfl
    rw [e]
    refine vc Z (d_tell_letters Z.k) [] (tell_eq Z pn L T (k := k) ok.a ok.n ok.s (by omega)) ?_ (by decide) (by decide) rfl
    rw [tellP_any]
    cases (spanN a n).any T with
    | true => exact rfl
    | false => exact ⟨_, rfl, .same⟩
end
/-- the rules, one after the other -/
noncomputable def goI : List Rl → (Nat → Nat) → (Nat → Bool) → Option ((Nat → Nat) × (Nat → Bool))
  | [], L, T => some (L, T)
  | r :: rs, L, T => match badT T r.a r.n with
    | true => none
    | false => goI rs (upd L r.a r.n r.k) (updT T r.a r.n)
noncomputable def addR (o : Option ((Nat → Nat) × (Nat → Bool))) : Option AV := match o with
  | some _ => some .none
  | none => none
noncomputable def addS (pn : MO) (o : Option ((Nat → Nat) × (Nat → Bool))) : List MO := match o with
  | some p => stI pn p.1 p.2
  | none => []
section
variable {g : Glb} (Z : Real g) (pn : MO)
include Z
theorem c_add (rs : List Rl) (hl : rs.length ≤ 2) (hr : ∀ r ∈ rs, r.Ok) : Valid g 10 (.ref 271) [impO, .lst (rs.map Rl.v)] (stI pn L0 F0) (addR (goI rs L0 F0)) (addS pn (goI rs L0 F0)) := by
  match rs, hl with
  | [], _ => exact vn (k := 4) (mu := []) Z (d_Implicit_add Z.k) [] (by kernel_rfl)
  | [r], _ =>
    have h := c_tell Z pn L0 F0 r (hr r (.head _))
    unfold goI
    cases e : badT F0 r.a r.n with
    | true =>
      rw [e] at h
      obtain ⟨a, n, k⟩ := r
      exact vx (k := 4) (mu := []) Z (d_Implicit_add Z.k) [.c h (by decide)] (by kernel_rfl)
    | false =>
      rw [e] at h
      obtain ⟨a, n, k⟩ := r
      exact vn (k := 4) (mu := []) Z (d_Implicit_add Z.k) [.c h (by decide)] (by kernel_rfl)
  | [r, r'], _ =>
    have h := c_tell Z pn L0 F0 r (hr r (.head _))
    have h' := c_tell Z pn (upd L0 r.a r.n r.k) (updT F0 r.a r.n) r' (hr r' (.tail _ (.head _)))
    unfold goI
    cases e : badT F0 r.a r.n with
    | true =>
      rw [e] at h
      obtain ⟨a, n, k⟩ := r
      obtain ⟨a', n', k'⟩ := r'
      exact vx (k := 4) (mu := []) Z (d_Implicit_add Z.k) [.c h (by decide)] (by kernel_rfl)
    | false =>
      rw [e] at h
      dsimp only
      unfold goI
      cases e' : badT (updT F0 r.a r.n) r'.a r'.n with
      | true =>
        rw [e'] at h'
        obtain ⟨a, n, k⟩ := r
        obtain ⟨a', n', k'⟩ := r'
        exact vx (k := 4) (mu := []) Z (d_Implicit_add Z.k) [.c h (by decide), .c h' (by decide)] (by kernel_rfl)
      | false =>
        rw [e'] at h'
        obtain ⟨a, n, k⟩ := r
        obtain ⟨a', n', k'⟩ := r'
        exact vn (k := 4) (mu := []) Z (d_Implicit_add Z.k) [.c h (by decide), .c h' (by decide)] (by kernel_rfl)
  | _ :: _ :: _ :: _, h => exact absurd h (by simp)
end
end Mine
end
section
set_option maxHeartbeats 400000
open PySem PySem.W PySem.Spec PySem.Calls PyProof.Rows
namespace Mine
theorem span_mem {a n p : Nat} (h : p ∈ spanN a n) : a ≤ p ∧ p < a + n := by
  unfold spanN at h
  obtain ⟨i, hi, rfl⟩ := List.mem_map.mp h
  have := List.mem_range.mp hi
  omega
theorem mem_span {a n p : Nat} (h : a ≤ p) (k : p < a + n) : p ∈ spanN a n := by
  unfold spanN
  exact List.mem_map.mpr ⟨p - a, List.mem_range.mpr (by omega), by omega⟩
theorem any_congr {p q : Nat → Bool} : ∀ {l : List Nat}, (∀ x ∈ l, p x = q x) → l.any p = l.any q
  | [], _ => rfl
  | x :: l, h => by rw [List.any_cons, List.any_cons, h x (.head _), any_congr fun y hy => h y (.tail _ hy)]
theorem bad_eq {S : List Nat} {T : Nat → Bool} (h : ∀ p, p < 26 → T p = decide (p ∈ S)) {a n : Nat} (hs : a + n ≤ 26) : badT T a n = badR S a n := by
  cases n with
  | zero => rfl
  | succ n => exact any_congr fun p hp => h p (by have := span_mem hp; omega)
theorem upd_eq {S : List Nat} {T : Nat → Bool} (h : ∀ p, p < 26 → T p = decide (p ∈ S)) {a n : Nat} (p : Nat) (hp : p < 26) : updT T a n p = decide (p ∈ S ++ spanN a n) := by
  unfold updT
  by_cases h1 : a ≤ p
  · rw [Nat.ble_eq_true_of_le h1]
    by_cases h2 : p < a + n
    · have : Nat.blt p (a + n) = true := Nat.ble_eq_true_of_le h2
      rw [this]
      exact (decide_eq_true (List.mem_append.mpr (.inr (mem_span h1 h2)))).symm
    · have : Nat.blt p (a + n) = false := by
        cases e : Nat.blt p (a + n) with
        | false => rfl
        | true => exact absurd (Nat.le_of_ble_eq_true e) h2
      rw [this]
      show T p = _
      rw [h p hp]
      refine decide_eq_decide.mpr ⟨fun q => List.mem_append.mpr (.inl q), fun q => (List.mem_append.mp q).resolve_right fun z => h2 (span_mem z).2⟩
  · have : Nat.ble a p = false := by
      cases e : Nat.ble a p with
      | false => rfl
      | true => exact absurd (Nat.le_of_ble_eq_true e) h1
    rw [this]
    show T p = _
    rw [h p hp]
    refine decide_eq_decide.mpr ⟨fun q => List.mem_append.mpr (.inl q), fun q => (List.mem_append.mp q).resolve_right fun z => h1 (span_mem z).1⟩
/-- both readings of the rules agree -/
theorem goRI : ∀ (rs : List Rl) (L : Nat → Nat) (S : List Nat) (T : Nat → Bool), (∀ p, p < 26 → T p = decide (p ∈ S)) → (∀ r ∈ rs, r.Ok) → (goR rs L S = none ∧ goI rs L T = none) ∨ ∃ L' T', goR rs L S = some L' ∧ goI rs L T = some (L', T')
  | [], L, S, T, _, _ => .inr ⟨L, T, rfl, rfl⟩
  | r :: rs, L, S, T, h, hr => by
    have ok := hr r (.head _)
    unfold goR goI
    rw [bad_eq h ok.s]
    cases badR S r.a r.n with
    | true => exact .inl ⟨rfl, rfl⟩
    | false => exact goRI rs _ _ _ (fun p hp => upd_eq h p hp) fun x hx => hr x (.tail _ hx)
theorem goR_lt : ∀ (rs : List Rl) (L : Nat → Nat) (S : List Nat) (L' : Nat → Nat), (∀ p, L p < 6) → (∀ r ∈ rs, r.Ok) → goR rs L S = some L' → ∀ p, L' p < 6
  | [], L, S, L', h, _, e => by cases e; exact h
  | r :: rs, L, S, L', h, hr, e => by
    unfold goR at e
    split at e
    · cases e
    · refine goR_lt rs _ _ L' (fun p => ?_) (fun x hx => hr x (.tail _ hx)) e
      unfold upd
      split
      · exact (hr r (.head _)).k
      · exact h p
theorem L0_lt (p : Nat) : L0 p < 6 := by
  unfold L0
  split <;> decide
/-! ## a rule is drawn -/
noncomputable def nOf (a d : Nat) : Nat := match d with
  | 0 => match a with
    | 0 => 1
    | _ => 0
  | d => min d (26 - a)
section
variable {g : Glb} (Z : Real g)
include Z
theorem c_rule {l : List AV} (hl : PenOk l) {at_ : Nat} (ha : at_ ≤ 50000) (τ : List MO) : ∃ r : Rl, r.Ok ∧ Valid g 5 (.ref 469) [.ref 0] (penM l at_ :: τ) (some r.v) (penM l (at_ + 1 + 1 + 1) :: τ) := by
  obtain ⟨a, h1, d1⟩ := c_draw Z hl (at_ := at_) (by omega) 26 (by decide) τ
  obtain ⟨d, h2, d2⟩ := c_draw Z hl (at_ := at_ + 1) (by omega) 6 (by decide) τ
  obtain ⟨k, h3, d3⟩ := c_draw Z hl (at_ := at_ + 1 + 1) (by omega) 6 (by decide) τ
  refine ⟨⟨a, nOf a d, k⟩, ⟨h1, ?_, ?_, ?_, h3⟩, ?_⟩
  · show nOf a d < 6
    cases d with
    | zero => cases a <;> (show _ < 6; first | exact (by decide : 1 < 6) | exact (by decide : 0 < 6))
    | succ d => show min (d + 1) (26 - a) < 6; omega
  · show a + nOf a d ≤ 26
    cases d with
    | zero => cases a with
      | zero => show 0 + 1 ≤ 26; decide
      | succ a => show a + 1 + 0 ≤ 26; omega
    | succ d => show a + min (d + 1) (26 - a) ≤ 26; omega
  · show nOf a d = 0 → 1 ≤ a
    cases d with
    | zero => cases a with
      | zero => intro e; cases e
      | succ a => intro _; omega
    | succ d => intro e; have e : min (d + 1) (26 - a) = 0 := e; omega
  · have hx := And.intro d1 d2
    clear d1 d2
    refine vs (k := 4) (mu := []) Z (d_law_rule Z.k) [.c hx.1 (by decide), .c hx.2 (by decide), .c d3 (by decide)] ?_
    revert hx; revert h2; revert d; revert h1; revert a
    apply uE2; kernel_rfl
end
end Mine
end
section
set_option maxHeartbeats 400000
open PySem PySem.W PySem.Spec PySem.Calls PyProof.Rows
namespace Mine
/-! ## symbols, limits, scope -/
/-- behind Symbol(name) -/
noncomputable def stYs (m : MM) (q : KK) (i : Nat) : List MO := stY m q i ++ [symD (nmS i) 1 (slot i + 1) "var" .none, .lst []]
noncomputable def stY1 (m : MM) (q : KK) (i : Nat) : List MO := stY m q i ++ [symD (nmS i) (kdN q i) (slot i + 1) "var" .none, .lst []]
noncomputable def stY2 (m : MM) (q : KK) (i : Nat) : List MO := stY m q i ++ [symD (nmS i) (kdN q i) (slot i + 1) "array" .none, .lst []]
section
variable {g : Glb} (Z : Real g) (m : MM) (q : KK)
include Z
theorem c_sym0 : Valid g 3 (.ref 331) [.str (nmS 0)] (stY m q 0) (some (.obj 331 (slot 0))) (stYs m q 0) := by
  obtain ⟨P, hK, hP⟩ := id Z.k
  have h : Valid g 2 (.ref 328) [.obj 331 (stY m q 0).length, .str (nmS 0)] (stY m q 0 ++ [.dct []]) (some .none) (stYs m q 0) := vn (k := 4) (mu := []) Z (d_Symbol_init Z.k) [] (by unfold RunsTo; kernel_rfl)
  have hv := valid_cls (C := 331) (by rw [hK]; kernel_rfl) (by rw [hK]; kernel_rfl) (isFnd_iff (by rw [hK]; kernel_rfl)) (by rw [hK]; kernel_rfl) h
  exact Eq.mp (by kernel_rfl) hv
theorem c_sym1 : Valid g 3 (.ref 331) [.str (nmS 1)] (stY m q 1) (some (.obj 331 (slot 1))) (stYs m q 1) := by
  obtain ⟨P, hK, hP⟩ := id Z.k
  have h : Valid g 2 (.ref 328) [.obj 331 (stY m q 1).length, .str (nmS 1)] (stY m q 1 ++ [.dct []]) (some .none) (stYs m q 1) := vn (k := 4) (mu := []) Z (d_Symbol_init Z.k) [] (by unfold RunsTo; kernel_rfl)
  have hv := valid_cls (C := 331) (by rw [hK]; kernel_rfl) (by rw [hK]; kernel_rfl) (isFnd_iff (by rw [hK]; kernel_rfl)) (by rw [hK]; kernel_rfl) h
  exact Eq.mp (by kernel_rfl) hv
theorem c_sym2 : Valid g 3 (.ref 331) [.str (nmS 2)] (stY m q 2) (some (.obj 331 (slot 2))) (stYs m q 2) := by
  obtain ⟨P, hK, hP⟩ := id Z.k
  have h : Valid g 2 (.ref 328) [.obj 331 (stY m q 2).length, .str (nmS 2)] (stY m q 2 ++ [.dct []]) (some .none) (stYs m q 2) := vn (k := 4) (mu := []) Z (d_Symbol_init Z.k) [] (by unfold RunsTo; kernel_rfl)
  have hv := valid_cls (C := 331) (by rw [hK]; kernel_rfl) (by rw [hK]; kernel_rfl) (isFnd_iff (by rw [hK]; kernel_rfl)) (by rw [hK]; kernel_rfl) h
  exact Eq.mp (by kernel_rfl) hv
theorem c_sym3 : Valid g 3 (.ref 331) [.str (nmS 3)] (stY m q 3) (some (.obj 331 (slot 3))) (stYs m q 3) := by
  obtain ⟨P, hK, hP⟩ := id Z.k
  have h : Valid g 2 (.ref 328) [.obj 331 (stY m q 3).length, .str (nmS 3)] (stY m q 3 ++ [.dct []]) (some .none) (stYs m q 3) := vn (k := 4) (mu := []) Z (d_Symbol_init Z.k) [] (by unfold RunsTo; kernel_rfl)
  have hv := valid_cls (C := 331) (by rw [hK]; kernel_rfl) (by rw [hK]; kernel_rfl) (isFnd_iff (by rw [hK]; kernel_rfl)) (by rw [hK]; kernel_rfl) h
  exact Eq.mp (by kernel_rfl) hv
theorem c_sym4 : Valid g 3 (.ref 331) [.str (nmS 4)] (stY m q 4) (some (.obj 331 (slot 4))) (stYs m q 4) := by
  obtain ⟨P, hK, hP⟩ := id Z.k
  have h : Valid g 2 (.ref 328) [.obj 331 (stY m q 4).length, .str (nmS 4)] (stY m q 4 ++ [.dct []]) (some .none) (stYs m q 4) := vn (k := 4) (mu := []) Z (d_Symbol_init Z.k) [] (by unfold RunsTo; kernel_rfl)
  have hv := valid_cls (C := 331) (by rw [hK]; kernel_rfl) (by rw [hK]; kernel_rfl) (isFnd_iff (by rw [hK]; kernel_rfl)) (by rw [hK]; kernel_rfl) h
  exact Eq.mp (by kernel_rfl) hv
theorem c_sym5 : Valid g 3 (.ref 331) [.str (nmS 5)] (stY m q 5) (some (.obj 331 (slot 5))) (stYs m q 5) := by
  obtain ⟨P, hK, hP⟩ := id Z.k
  have h : Valid g 2 (.ref 328) [.obj 331 (stY m q 5).length, .str (nmS 5)] (stY m q 5 ++ [.dct []]) (some .none) (stYs m q 5) := vn (k := 4) (mu := []) Z (d_Symbol_init Z.k) [] (by unfold RunsTo; kernel_rfl)
  have hv := valid_cls (C := 331) (by rw [hK]; kernel_rfl) (by rw [hK]; kernel_rfl) (isFnd_iff (by rw [hK]; kernel_rfl)) (by rw [hK]; kernel_rfl) h
  exact Eq.mp (by kernel_rfl) hv
theorem c_sym6 : Valid g 3 (.ref 331) [.str (nmS 6)] (stY m q 6) (some (.obj 331 (slot 6))) (stYs m q 6) := by
  obtain ⟨P, hK, hP⟩ := id Z.k
  have h : Valid g 2 (.ref 328) [.obj 331 (stY m q 6).length, .str (nmS 6)] (stY m q 6 ++ [.dct []]) (some .none) (stYs m q 6) := vn (k := 4) (mu := []) Z (d_Symbol_init Z.k) [] (by unfold RunsTo; kernel_rfl)
  have hv := valid_cls (C := 331) (by rw [hK]; kernel_rfl) (by rw [hK]; kernel_rfl) (isFnd_iff (by rw [hK]; kernel_rfl)) (by rw [hK]; kernel_rfl) h
  exact Eq.mp (by kernel_rfl) hv
theorem c_sym7 : Valid g 3 (.ref 331) [.str (nmS 7)] (stY m q 7) (some (.obj 331 (slot 7))) (stYs m q 7) := by
  obtain ⟨P, hK, hP⟩ := id Z.k
  have h : Valid g 2 (.ref 328) [.obj 331 (stY m q 7).length, .str (nmS 7)] (stY m q 7 ++ [.dct []]) (some .none) (stYs m q 7) := vn (k := 4) (mu := []) Z (d_Symbol_init Z.k) [] (by unfold RunsTo; kernel_rfl)
  have hv := valid_cls (C := 331) (by rw [hK]; kernel_rfl) (by rw [hK]; kernel_rfl) (isFnd_iff (by rw [hK]; kernel_rfl)) (by rw [hK]; kernel_rfl) h
  exact Eq.mp (by kernel_rfl) hv
theorem c_sym8 : Valid g 3 (.ref 331) [.str (nmS 8)] (stY m q 8) (some (.obj 331 (slot 8))) (stYs m q 8) := by
  obtain ⟨P, hK, hP⟩ := id Z.k
  have h : Valid g 2 (.ref 328) [.obj 331 (stY m q 8).length, .str (nmS 8)] (stY m q 8 ++ [.dct []]) (some .none) (stYs m q 8) := vn (k := 4) (mu := []) Z (d_Symbol_init Z.k) [] (by unfold RunsTo; kernel_rfl)
  have hv := valid_cls (C := 331) (by rw [hK]; kernel_rfl) (by rw [hK]; kernel_rfl) (isFnd_iff (by rw [hK]; kernel_rfl)) (by rw [hK]; kernel_rfl) h
  exact Eq.mp (by kernel_rfl) hv
theorem c_sym9 : Valid g 3 (.ref 331) [.str (nmS 9)] (stY m q 9) (some (.obj 331 (slot 9))) (stYs m q 9) := by
  obtain ⟨P, hK, hP⟩ := id Z.k
  have h : Valid g 2 (.ref 328) [.obj 331 (stY m q 9).length, .str (nmS 9)] (stY m q 9 ++ [.dct []]) (some .none) (stYs m q 9) := vn (k := 4) (mu := []) Z (d_Symbol_init Z.k) [] (by unfold RunsTo; kernel_rfl)
  have hv := valid_cls (C := 331) (by rw [hK]; kernel_rfl) (by rw [hK]; kernel_rfl) (isFnd_iff (by rw [hK]; kernel_rfl)) (by rw [hK]; kernel_rfl) h
  exact Eq.mp (by kernel_rfl) hv
theorem c_sym10 : Valid g 3 (.ref 331) [.str (nmS 10)] (stY m q 10) (some (.obj 331 (slot 10))) (stYs m q 10) := by
  obtain ⟨P, hK, hP⟩ := id Z.k
  have h : Valid g 2 (.ref 328) [.obj 331 (stY m q 10).length, .str (nmS 10)] (stY m q 10 ++ [.dct []]) (some .none) (stYs m q 10) := vn (k := 4) (mu := []) Z (d_Symbol_init Z.k) [] (by unfold RunsTo; kernel_rfl)
  have hv := valid_cls (C := 331) (by rw [hK]; kernel_rfl) (by rw [hK]; kernel_rfl) (isFnd_iff (by rw [hK]; kernel_rfl)) (by rw [hK]; kernel_rfl) h
  exact Eq.mp (by kernel_rfl) hv
theorem c_sym11 : Valid g 3 (.ref 331) [.str (nmS 11)] (stY m q 11) (some (.obj 331 (slot 11))) (stYs m q 11) := by
  obtain ⟨P, hK, hP⟩ := id Z.k
  have h : Valid g 2 (.ref 328) [.obj 331 (stY m q 11).length, .str (nmS 11)] (stY m q 11 ++ [.dct []]) (some .none) (stYs m q 11) := vn (k := 4) (mu := []) Z (d_Symbol_init Z.k) [] (by unfold RunsTo; kernel_rfl)
  have hv := valid_cls (C := 331) (by rw [hK]; kernel_rfl) (by rw [hK]; kernel_rfl) (isFnd_iff (by rw [hK]; kernel_rfl)) (by rw [hK]; kernel_rfl) h
  exact Eq.mp (by kernel_rfl) hv
theorem c_sym12 : Valid g 3 (.ref 331) [.str (nmS 12)] (stY m q 12) (some (.obj 331 (slot 12))) (stYs m q 12) := by
  obtain ⟨P, hK, hP⟩ := id Z.k
  have h : Valid g 2 (.ref 328) [.obj 331 (stY m q 12).length, .str (nmS 12)] (stY m q 12 ++ [.dct []]) (some .none) (stYs m q 12) := vn (k := 4) (mu := []) Z (d_Symbol_init Z.k) [] (by unfold RunsTo; kernel_rfl)
  have hv := valid_cls (C := 331) (by rw [hK]; kernel_rfl) (by rw [hK]; kernel_rfl) (isFnd_iff (by rw [hK]; kernel_rfl)) (by rw [hK]; kernel_rfl) h
  exact Eq.mp (by kernel_rfl) hv
theorem c_sym13 : Valid g 3 (.ref 331) [.str (nmS 13)] (stY m q 13) (some (.obj 331 (slot 13))) (stYs m q 13) := by
  obtain ⟨P, hK, hP⟩ := id Z.k
  have h : Valid g 2 (.ref 328) [.obj 331 (stY m q 13).length, .str (nmS 13)] (stY m q 13 ++ [.dct []]) (some .none) (stYs m q 13) := vn (k := 4) (mu := []) Z (d_Symbol_init Z.k) [] (by unfold RunsTo; kernel_rfl)
  have hv := valid_cls (C := 331) (by rw [hK]; kernel_rfl) (by rw [hK]; kernel_rfl) (isFnd_iff (by rw [hK]; kernel_rfl)) (by rw [hK]; kernel_rfl) h
  exact Eq.mp (by kernel_rfl) hv
noncomputable def symCalls : List (CE g (10 - 1)) :=
  .c (c_sym0 Z m q) (by decide) ::
  .c (c_dims Z (stY1 m q 0)) (by decide) ::
  .c (c_sym1 Z m q) (by decide) ::
  .c (c_dims Z (stY1 m q 1)) (by decide) ::
  .c (c_sym2 Z m q) (by decide) ::
  .c (c_dims Z (stY1 m q 2)) (by decide) ::
  .c (c_sym3 Z m q) (by decide) ::
  .c (c_dims Z (stY1 m q 3)) (by decide) ::
  .c (c_sym4 Z m q) (by decide) ::
  .c (c_dims Z (stY1 m q 4)) (by decide) ::
  .c (c_sym5 Z m q) (by decide) ::
  .c (c_dims Z (stY1 m q 5)) (by decide) ::
  .c (c_sym6 Z m q) (by decide) ::
  .c (c_dims Z (stY1 m q 6)) (by decide) ::
  .c (c_dims Z (stY2 m q 6)) (by decide) ::
  .c (c_sym7 Z m q) (by decide) ::
  .c (c_dims Z (stY1 m q 7)) (by decide) ::
  .c (c_sym8 Z m q) (by decide) ::
  .c (c_dims Z (stY1 m q 8)) (by decide) ::
  .c (c_sym9 Z m q) (by decide) ::
  .c (c_dims Z (stY1 m q 9)) (by decide) ::
  .c (c_dims Z (stY2 m q 9)) (by decide) ::
  .c (c_sym10 Z m q) (by decide) ::
  .c (c_dims Z (stY1 m q 10)) (by decide) ::
  .c (c_dims Z (stY2 m q 10)) (by decide) ::
  .c (c_sym11 Z m q) (by decide) ::
  .c (c_dims Z (stY1 m q 11)) (by decide) ::
  .c (c_sym12 Z m q) (by decide) ::
  .c (c_dims Z (stY1 m q 12)) (by decide) ::
  .c (c_sym13 Z m q) (by decide) ::
  .c (c_dims Z (stY1 m q 13)) (by decide) :: []
theorem c_syms : Valid g 10 (.ref 462) [.ref 4] (stT m q) (some (.ref 5)) (stY m q 14) :=
  vs (k := 4) (mu := ["symbols"]) Z (d_law_symbols Z.k) (symCalls Z m q) (by unfold RunsTo; kernel_rfl)
theorem c_limits : Valid g 3 (.ref 310) [] (stY m q 14) (some limO) (stL m q) := by
  obtain ⟨P, hK, hP⟩ := id Z.k
  have h : Valid g 2 (.ref 307) [.obj 310 (stY m q 14).length] (stY m q 14 ++ [.dct []]) (some .none) (stL m q) := vn (k := 4) (mu := []) Z (d_Limits_init Z.k) [] (by unfold RunsTo; kernel_rfl)
  have hv := valid_cls (C := 310) (by rw [hK]; kernel_rfl) (by rw [hK]; kernel_rfl) (isFnd_iff (by rw [hK]; kernel_rfl)) (by rw [hK]; kernel_rfl) h
  exact Eq.mp (by kernel_rfl) hv
theorem c_scope : Valid g 3 (.ref 122) [.ref 5, .raw (.ref 455), limO] (stL m q) (some scO) (stR m q) := by
  obtain ⟨P, hK, hP⟩ := id Z.k
  have h : Valid g 2 (.ref 119) [.obj 122 (stL m q).length, .ref 5, .raw (.ref 455), limO] (stL m q ++ [.dct []]) (some .none) (stR m q) := vn (k := 4) (mu := []) Z (d_Scope_init Z.k) [] (by unfold RunsTo; kernel_rfl)
  have hv := valid_cls (C := 122) (by rw [hK]; kernel_rfl) (by rw [hK]; kernel_rfl) (isFnd_iff (by rw [hK]; kernel_rfl)) (by rw [hK]; kernel_rfl) h
  exact Eq.mp (by kernel_rfl) hv
end
end Mine
end
section
set_option maxHeartbeats 400000
open PySem PySem.W PySem.Spec PySem.Calls PyProof.Rows
namespace Mine
/-! ## the law's body, cut at its two try statements -/
noncomputable def nthS (l : List Stmt) (i : Nat) : List Stmt := (l.drop i).take 1
noncomputable def tryBody : List Stmt → List Stmt
  | [.Try b _ _ _ _] => b
  | _ => []
noncomputable def tryH : List Stmt → ExceptHandler
  | [.Try _ [h] _ _ _] => h
  | _ => .ExceptHandler none none [] default
noncomputable def hTy : ExceptHandler → Expr
  | .ExceptHandler (some e) _ _ _ => e
  | _ => default
noncomputable def hBd : ExceptHandler → List Stmt
  | .ExceptHandler _ _ b _ => b
noncomputable def hPos : ExceptHandler → Pos
  | .ExceptHandler _ _ _ p => p
noncomputable def hEx (l : List Stmt) : Expr := sKid 0 (sAtL 0 (hBd (tryH l)))
noncomputable abbrev tryS (x : PySem.Str) (l : List Stmt) : Stmt := .Try (tryBody l) [.ExceptHandler (some (.Name "CheckFault" (ePos (hTy (tryH l))))) none [.Return (some (.Compare (.Name x (ePos (kid 0 (hEx l)))) [.Is] [.Constant .none (eK (kid 1 (hEx l))) (ePos (kid 1 (hEx l)))] (ePos (hEx l)))) (sPos (sAtL 0 (hBd (tryH l))))] (hPos (tryH l))] [] [] (sPos (sAtL 0 l))
noncomputable def bd : List Stmt := fnBody 75
noncomputable def sgPen : List Stmt := nthS bd 1
noncomputable def sgA : List Stmt := (bd.drop 2).take 3
noncomputable def try1 : List Stmt := nthS bd 5
noncomputable def sgIf : List Stmt := nthS bd 6
noncomputable def sgB : List Stmt := (bd.drop 7).take 4
noncomputable def try2 : List Stmt := nthS bd 11
noncomputable def sgR : List Stmt := bd.drop 12
noncomputable def cutE : Stmt := sAtL 0 (nthS bd 0)
theorem cut_eq : nthS bd 0 = [.Assign [.Name "s" (ePos (sKid 1 cutE))] (.Subscript (.Name "script" (ePos (kid 0 (sKid 0 cutE)))) (.Slice none (some (.Constant (.int 30) (eK (kid 0 (kid 1 (sKid 0 cutE)))) (ePos (kid 0 (kid 1 (sKid 0 cutE)))))) none (ePos (kid 1 (sKid 0 cutE)))) (ePos (sKid 0 cutE))) (sPos cutE)] := by kernel_rfl
theorem try1_eq : try1 = [tryS "letters" try1] := by kernel_rfl
theorem try2_eq : try2 = [tryS "want" try2] := by kernel_rfl
theorem bd_split : bd = nthS bd 0 ++ (sgPen ++ (sgA ++ (try1 ++ (sgIf ++ (sgB ++ (try2 ++ sgR)))))) := by kernel_rfl
noncomputable def cfgW : Cfg := ⟨fnScope 75, ["pen", "kinds"], 199⟩
noncomputable def restL : List AV := [.int 1, .int 7, .int 4, .int 2, .int 11, .int 7, .int 8, .int 0, .int 0, .int 5, .int 1, .int 1, .int 0, .int 3, .int 0, .int 3, .int 0, .int 1]
noncomputable def toldD : List (PySem.Str × AV) := [("D1", .int 2), ("C1", .int 3), ("L1", .int 4), ("T1", .int 5), ("V1", .int 1), ("M1", .int 0), ("U1", .int 5), ("P1", .int 0), ("F1", .int 1), ("G1", .int 1)]
noncomputable def qOf (L : Nat → Nat) : KK := ⟨L 23, L 8, L 1, L 13⟩
section
variable {g : Glb} (Z : Real g)
include Z
theorem c_rest (σ : List MO) : Valid g 1 (.ref 342) [] σ (some (.lst restL)) σ := vr (k := 4) (mu := []) Z (d_law_rest Z.k) [] (by kernel_rfl)
theorem c_told (σ : List MO) : Valid g 1 (.ref 350) [] σ (some (.dct toldD)) σ := vr (k := 4) (mu := []) Z (d_law_told Z.k) [] (by kernel_rfl)
end
noncomputable def rhoW1 (sc : AV) (s : AV) : Loc := ⟨gr "script" sc :: gr "s" s :: [], [("pen", none), ("implicit", none)]⟩
noncomputable def rhoW2 (sc : AV) (s : AV) : Loc := ⟨gr "script" sc :: gr "s" s :: [], [("pen", some (.ref 0)), ("implicit", none)]⟩
noncomputable def rhoW3 (sc s rs lt : AV) : Loc := ⟨gr "script" sc :: gr "s" s :: gr "rules" rs :: gr "letters" lt :: [], [("pen", some (.ref 0)), ("implicit", some impO)]⟩
noncomputable def rhoW5 (sc s rs lt t wn : AV) : Loc := ⟨gr "script" sc :: gr "s" s :: gr "rules" rs :: gr "letters" lt :: gr "kinds" (.ref 4) :: gr "name" (.str "G1") :: gr "tree" t :: gr "want" wn :: [], [("pen", some (.ref 0)), ("implicit", some impO)]⟩
noncomputable def rhoW6 (sc s rs lt t wn f : AV) : Loc := ⟨gr "script" sc :: gr "s" s :: gr "rules" rs :: gr "letters" lt :: gr "kinds" (.ref 4) :: gr "name" (.str "G1") :: gr "tree" t :: gr "want" wn :: gr "found" f :: [], [("pen", some (.ref 0)), ("implicit", some impO)]⟩
section
variable {g : Glb} (Z : Real g) (K : Fl → Loc → Stt → Prop) (KE : KX) (sc : AV)
/-- the pen -/
theorem eqPen (sl : List AV) : steps (run (TT g) 59) 4 cfgW sgPen (rhoW1 sc (.lst sl)) ⟨[], [⟨1, some (.lst restL), []⟩]⟩ K KE
    = (Valid g 1 (.ref 342) [] [] (some (.lst restL)) [] ∧ 1 < 199 ∧ oK (gd (small sl) (some (AV.int sl.length))) fun n1 => oK (sliceV (.lst restL) (some n1) none) fun r => oK (binV .Add (.lst sl) r) fun pl => K .next (rhoW2 sc (.lst sl)) ⟨[.lst [pl, .int 0]], []⟩) := by kernel_rfl
theorem eqA0 {pl : List AV} {lv : AV} (d : Valid g 2 (.ref 386) [.ref 0, .int 3] [penM pl 0] (some (.int (0 : Nat))) [penM pl 1]) (lt : Valid g 10 (.ref 474) [.lst ([] : List AV)] [penM pl 1] (some lv) [penM pl 1]) (s : AV) :
    steps (run (TT g) 59) 4 cfgW sgA (rhoW2 sc s) ⟨[penM pl 0], ansOf (lim := 199) [.c d (by decide), .c lt (by decide), .c (c_impl Z (penM pl 1)) (by decide)]⟩ K KE
    = conj g 199 (K .next (rhoW3 sc s (.lst []) lv) ⟨stI (penM pl 1) L0 F0, []⟩) [.c d (by decide), .c lt (by decide), .c (c_impl Z (penM pl 1)) (by decide)] := by kernel_rfl
theorem eqA1 {pl : List AV} {lv : AV} {r : Rl} (d : Valid g 2 (.ref 386) [.ref 0, .int 3] [penM pl 0] (some (.int (1 : Nat))) [penM pl 1]) (d1 : Valid g 5 (.ref 469) [.ref 0] [penM pl 1] (some r.v) [penM pl 4]) (lt : Valid g 10 (.ref 474) [.lst [r.v]] [penM pl 4] (some lv) [penM pl 4]) (s : AV) :
    steps (run (TT g) 59) 4 cfgW sgA (rhoW2 sc s) ⟨[penM pl 0], ansOf (lim := 199) [.c d (by decide), .c d1 (by decide), .c lt (by decide), .c (c_impl Z (penM pl 4)) (by decide)]⟩ K KE
    = conj g 199 (K .next (rhoW3 sc s (.lst [r.v]) lv) ⟨stI (penM pl 4) L0 F0, []⟩) [.c d (by decide), .c d1 (by decide), .c lt (by decide), .c (c_impl Z (penM pl 4)) (by decide)] := by kernel_rfl
theorem eqA2 {pl : List AV} {lv : AV} {r r' : Rl} (d : Valid g 2 (.ref 386) [.ref 0, .int 3] [penM pl 0] (some (.int (2 : Nat))) [penM pl 1]) (d1 : Valid g 5 (.ref 469) [.ref 0] [penM pl 1] (some r.v) [penM pl 4]) (d2 : Valid g 5 (.ref 469) [.ref 0] [penM pl 4] (some r'.v) [penM pl 7]) (lt : Valid g 10 (.ref 474) [.lst [r.v, r'.v]] [penM pl 7] (some lv) [penM pl 7]) (s : AV) :
    steps (run (TT g) 59) 4 cfgW sgA (rhoW2 sc s) ⟨[penM pl 0], ansOf (lim := 199) [.c d (by decide), .c d1 (by decide), .c d2 (by decide), .c lt (by decide), .c (c_impl Z (penM pl 7)) (by decide)]⟩ K KE
    = conj g 199 (K .next (rhoW3 sc s (.lst [r.v, r'.v]) lv) ⟨stI (penM pl 7) L0 F0, []⟩) [.c d (by decide), .c d1 (by decide), .c d2 (by decide), .c lt (by decide), .c (c_impl Z (penM pl 7)) (by decide)] := by kernel_rfl
end
section
variable {g : Glb} (Z : Real g) (KO : KO) (KE : KX) (sc : AV)
theorem eqT1n {pn : MO} {rs : List AV} {s lv : AV} {σ' : List MO} (h : Valid g 10 (.ref 271) [impO, .lst rs] (stI pn L0 F0) none σ') :
    run (TT g) 59 4 cfgW (.sts (tryBody try1)) (rhoW3 sc s (.lst rs) lv) ⟨stI pn L0 F0, ansOf (lim := 199) [.c h (by decide)]⟩ KO KE = conj g 199 (KE (rhoW3 sc s (.lst rs) lv) ⟨σ', []⟩) [.c h (by decide)] := by kernel_rfl
theorem eqT1s {pn : MO} {rs : List AV} {s lv : AV} {σ' : List MO} (h : Valid g 10 (.ref 271) [impO, .lst rs] (stI pn L0 F0) (some .none) σ') :
    run (TT g) 59 4 cfgW (.sts (tryBody try1)) (rhoW3 sc s (.lst rs) lv) ⟨stI pn L0 F0, ansOf (lim := 199) [.c h (by decide)]⟩ KO KE = conj g 199 (KO (.fl .next (rhoW3 sc s (.lst rs) lv)) ⟨σ', []⟩) [.c h (by decide)] := by kernel_rfl
end
theorem okRs (L : Nat → Nat) : okV (.lst (Rs L)) = true := by kernel_rfl
section
variable {g : Glb} (Z : Real g) (K : Fl → Loc → Stt → Prop) (KE : KX) (sc : AV) (pn : MO) (L : Nat → Nat) (T : Nat → Bool)
noncomputable def ofCalls : List (CE g 199) :=
  .c (c_of Z pn L T (p := 0) (by decide)) (by decide) ::
  .c (c_of Z pn L T (p := 1) (by decide)) (by decide) ::
  .c (c_of Z pn L T (p := 2) (by decide)) (by decide) ::
  .c (c_of Z pn L T (p := 3) (by decide)) (by decide) ::
  .c (c_of Z pn L T (p := 4) (by decide)) (by decide) ::
  .c (c_of Z pn L T (p := 5) (by decide)) (by decide) ::
  .c (c_of Z pn L T (p := 6) (by decide)) (by decide) ::
  .c (c_of Z pn L T (p := 7) (by decide)) (by decide) ::
  .c (c_of Z pn L T (p := 8) (by decide)) (by decide) ::
  .c (c_of Z pn L T (p := 9) (by decide)) (by decide) ::
  .c (c_of Z pn L T (p := 10) (by decide)) (by decide) ::
  .c (c_of Z pn L T (p := 11) (by decide)) (by decide) ::
  .c (c_of Z pn L T (p := 12) (by decide)) (by decide) ::
  .c (c_of Z pn L T (p := 13) (by decide)) (by decide) ::
  .c (c_of Z pn L T (p := 14) (by decide)) (by decide) ::
  .c (c_of Z pn L T (p := 15) (by decide)) (by decide) ::
  .c (c_of Z pn L T (p := 16) (by decide)) (by decide) ::
  .c (c_of Z pn L T (p := 17) (by decide)) (by decide) ::
  .c (c_of Z pn L T (p := 18) (by decide)) (by decide) ::
  .c (c_of Z pn L T (p := 19) (by decide)) (by decide) ::
  .c (c_of Z pn L T (p := 20) (by decide)) (by decide) ::
  .c (c_of Z pn L T (p := 21) (by decide)) (by decide) ::
  .c (c_of Z pn L T (p := 22) (by decide)) (by decide) ::
  .c (c_of Z pn L T (p := 23) (by decide)) (by decide) ::
  .c (c_of Z pn L T (p := 24) (by decide)) (by decide) ::
  .c (c_of Z pn L T (p := 25) (by decide)) (by decide) ::
  .ok (okRs L) (okRs L) :: []
theorem eqIf {s rs : AV} : steps (run (TT g) 59) 4 cfgW sgIf (rhoW3 sc s rs (.lst (Ls L))) ⟨stI pn L T, ansOf (ofCalls Z pn L T)⟩ K KE
    = conj g 199 (cnd (!(PyData.eqv (pd (.lst (Rs L))) (pd (.lst (Rs L))))) (K (.ret (.bool false)) (rhoW3 sc s rs (.lst (Ls L))) ⟨stI pn L T, []⟩) (K .next (rhoW3 sc s rs (.lst (Ls L))) ⟨stI pn L T, []⟩)) (ofCalls Z pn L T) := by kernel_rfl
noncomputable def toldCalls (rest : List (CE g 199)) : List (CE g 199) :=
  .c (c_told Z (stI pn L T ++ [.dct (kdL (qOf L) 0)])) (by decide) ::
  .c (c_told Z (stI pn L T ++ [.dct (kdL (qOf L) 1)])) (by decide) ::
  .c (c_told Z (stI pn L T ++ [.dct (kdL (qOf L) 2)])) (by decide) ::
  .c (c_told Z (stI pn L T ++ [.dct (kdL (qOf L) 3)])) (by decide) ::
  .c (c_told Z (stI pn L T ++ [.dct (kdL (qOf L) 4)])) (by decide) ::
  .c (c_told Z (stI pn L T ++ [.dct (kdL (qOf L) 5)])) (by decide) ::
  .c (c_told Z (stI pn L T ++ [.dct (kdL (qOf L) 6)])) (by decide) ::
  .c (c_told Z (stI pn L T ++ [.dct (kdL (qOf L) 7)])) (by decide) ::
  .c (c_told Z (stI pn L T ++ [.dct (kdL (qOf L) 8)])) (by decide) ::
  .c (c_told Z (stI pn L T ++ [.dct (kdL (qOf L) 9)])) (by decide) ::
  .c (c_told Z (stI pn L T ++ [.dct (kdL (qOf L) 10)])) (by decide) ::
  .c (c_told Z (stI pn L T ++ [.dct (kdL (qOf L) 11)])) (by decide) ::
  .c (c_told Z (stI pn L T ++ [.dct (kdL (qOf L) 12)])) (by decide) ::
  .c (c_told Z (stI pn L T ++ [.dct (kdL (qOf L) 13)])) (by decide) :: rest
end
end Mine
end
section
set_option maxHeartbeats 400000
open PySem PySem.W PySem.Spec PySem.Calls PyProof.Rows
namespace Mine
section
variable {g : Glb} (Z : Real g) (K : Fl → Loc → Stt → Prop) (KO : KO) (KE : KX) (sc : AV)
theorem eqB {pl : List AV} {at_ at' : Nat} {L : Nat → Nat} {T : Nat → Bool} {s rs lv t : AV} {r : Option AV}
    (h1 : Valid g 40 (.ref 391) [.ref 0, .int 3] (penM pl at_ :: [impD, .lst (Rs L), .lst (Ts T), .dct (kdL (qOf L) 14)]) (some t) (penM pl at' :: [impD, .lst (Rs L), .lst (Ts T), .dct (kdL (qOf L) 14)]))
    (h2 : Valid g 150 (.ref 448) [t, .ref 4] (stT ⟨penM pl at', impD, .lst (Rs L), .lst (Ts T)⟩ (qOf L)) (some (orN r)) (stT ⟨penM pl at', impD, .lst (Rs L), .lst (Ts T)⟩ (qOf L))) :
    steps (run (TT g) 59) 4 cfgW sgB (rhoW3 sc s rs (.lst (Ls L))) ⟨stI (penM pl at_) L T, ansOf (toldCalls Z (penM pl at_) L T [.c h1 (by decide), .c h2 (by decide)])⟩ K KE
    = conj g 199 (K .next (rhoW5 sc s rs (.lst (Ls L)) t (orN r)) ⟨stT ⟨penM pl at', impD, .lst (Rs L), .lst (Ts T)⟩ (qOf L), []⟩) (toldCalls Z (penM pl at_) L T [.c h1 (by decide), .c h2 (by decide)]) := by kernel_rfl
theorem eqT2n {m : MM} {q : KK} {s rs lv t wn : AV} (h : Valid g 150 (.ref 243) [t, scO] (stR m q) none (stR m q)) :
    run (TT g) 59 4 cfgW (.sts (tryBody try2)) (rhoW5 sc s rs lv t wn) ⟨stT m q, ansOf (lim := 199) [.c (c_syms Z m q) (by decide), .c (c_limits Z m q) (by decide), .c (c_scope Z m q) (by decide), .c h (by decide)]⟩ KO KE
    = conj g 199 (KE (rhoW5 sc s rs lv t wn) ⟨stR m q, []⟩) [.c (c_syms Z m q) (by decide), .c (c_limits Z m q) (by decide), .c (c_scope Z m q) (by decide), .c h (by decide)] := by kernel_rfl
theorem eqT2s {m : MM} {q : KK} {s rs lv t wn x : AV} (h : Valid g 150 (.ref 243) [t, scO] (stR m q) (some x) (stR m q)) :
    run (TT g) 59 4 cfgW (.sts (tryBody try2)) (rhoW5 sc s rs lv t wn) ⟨stT m q, ansOf (lim := 199) [.c (c_syms Z m q) (by decide), .c (c_limits Z m q) (by decide), .c (c_scope Z m q) (by decide), .c h (by decide)]⟩ KO KE
    = conj g 199 (KO (.fl .next (rhoW6 sc s rs lv t wn x)) ⟨stR m q, []⟩) [.c (c_syms Z m q) (by decide), .c (c_limits Z m q) (by decide), .c (c_scope Z m q) (by decide), .c h (by decide)] := by kernel_rfl
theorem eqR {σ : List MO} {s rs lv t x : AV} : steps (run (TT g) 59) 4 cfgW sgR (rhoW6 sc s rs lv t x x) ⟨σ, []⟩ K KE = cmpK σ .Eq x x (fun r => K (.ret (.bool r)) (rhoW6 sc s rs lv t x x) ⟨σ, []⟩) := by kernel_rfl
end
theorem cmpK_self {σ : List MO} {n : Nat} {l : List AV} (h : WF n (.tup l)) (hn : n ≤ 64) {k : Bool → Prop} (hk : k true) : cmpK σ .Eq (.tup l) (.tup l) k := by
  have ok := h.ok hn
  have e := h.eq_self
  have hd : eqDeep (.tup l) (.tup l) = some true := by unfold eqDeep; rw [ok, e]
  show (match gEq (.tup l) (.tup l) with
    | some (x, y, r) => okV x = true ∧ okV y = true ∧ k r
    | none => oK (eqDeep (.tup l) (.tup l)) k)
  unfold gEq
  cases deep (.tup l) || deep (.tup l) with
  | true => exact ⟨ok, ok, by rw [e]; exact hk⟩
  | false => rw [hd]; exact hk
theorem intsB {n : Nat} {l : List AV} (h : IntsL l) : belowL n l = true := by
  induction l with
  | nil => rfl
  | cons a l ih =>
    obtain ⟨i, rfl⟩ := h a (.head _)
    exact ih fun b hb => h b (.tail _ hb)
theorem pen_below {n : Nat} {l : List AV} {at_ : Nat} (h : IntsL l) : belowM n (penM l at_) = true := and2_t (intsB h) rfl
theorem pen_below1 {l : List AV} {at_ : Nat} (h : IntsL l) : belowS 1 [penM l at_] = true := and2_t (pen_below h) rfl
theorem mm_ok {l : List AV} {at_ : Nat} (h : IntsL l) (L : Nat → Nat) (T : Nat → Bool) : (⟨penM l at_, impD, .lst (Rs L), .lst (Ts T)⟩ : MM).Ok :=
  ⟨fun n hn => and2_t (pen_below h) (and2_t (and2_t (Nat.ble_eq_true_of_le (Nat.le_trans (by decide : 3 ≤ 5) hn)) (and2_t (Nat.ble_eq_true_of_le (Nat.le_trans (by decide : 4 ≤ 5) hn)) rfl))
    (and2_t (okL_below n _ (by kernel_rfl)) (and2_t (okL_below n _ (by kernel_rfl)) rfl)))⟩
theorem q_ok {L : Nat → Nat} (h : ∀ p, L p < 6) : (qOf L).Ok := ⟨h _, h _, h _, h _⟩
end Mine
end
section
set_option maxHeartbeats 400000
open PySem PySem.W PySem.Spec PySem.Calls PyProof.Rows
namespace Mine
theorem ints_app {l r : List AV} (h : IntsL l) (k : IntsL r) : IntsL (l ++ r) := fun a ha => (List.mem_append.mp ha).elim (h a) (k a)
theorem ints_take {l : List AV} (n : Nat) (h : IntsL l) : IntsL (l.take n) := fun a ha => h a (List.mem_of_mem_take ha)
theorem ints_drop {l : List AV} (n : Nat) (h : IntsL l) : IntsL (l.drop n) := fun a ha => h a (List.mem_of_mem_drop ha)
theorem restL_ints : IntsL restL := fun a ha => by
  unfold restL at ha
  simp only [List.mem_cons, List.not_mem_nil, or_false] at ha
  rcases ha with rfl | rfl | rfl | rfl | rfl | rfl | rfl | rfl | rfl | rfl | rfl | rfl | rfl | rfl | rfl | rfl | rfl | rfl <;> exact ⟨_, rfl⟩
theorem oK_in {α : Type} {o : Option α} {a : α} {k : α → Prop} (e : o = some a) (h : k a) : oK o k := by rw [e]; exact h
noncomputable def penL (ds : List AV) : List AV := ds.take 30 ++ restL.drop (ds.take 30).length
theorem penL_ok {ds : List AV} (h : IntsL ds) : PenOk (penL ds) := by
  have hr : restL.length = 18 := rfl
  refine ⟨ints_app (ints_take _ h) (ints_drop _ restL_ints), ?_, ?_⟩
  · unfold penL
    rw [List.length_append, List.length_drop, hr]; omega
  · unfold penL
    rw [List.length_append, List.length_drop, hr, List.length_take]; omega
section
variable {g : Glb} (Z : Real g) (sc : AV)
include Z
theorem seg_pen {ds : List AV} : steps (run (TT g) 59) 4 cfgW sgPen (rhoW1 sc (.lst (ds.take 30))) ⟨[], [⟨1, some (.lst restL), []⟩]⟩ (fun f ρ' s' => f = .next ∧ ρ' = rhoW2 sc (.lst (ds.take 30)) ∧ s'.σ = [penM (penL ds) 0]) (fun _ _ => False) := by
  refine Eq.mpr (eqPen _ _ sc (ds.take 30)) ⟨c_rest Z [], by decide, ?_⟩
  have hlen : (ds.take 30).length ≤ 30 := by rw [List.length_take]; omega
  have hsm : small (ds.take 30) = true := Nat.ble_eq_true_of_le (by omega)
  have e0 : gd (small (ds.take 30)) (some (AV.int (ds.take 30).length)) = some (AV.int (ds.take 30).length) := by rw [hsm]; rfl
  have e1 : sliceV (.lst restL) (some (.int (ds.take 30).length)) none = some (.lst (restL.drop (ds.take 30).length)) := by
    show gd (decide (0 ≤ ((ds.take 30).length : Int))) (gd (small restL) (some (AV.lst (restL.drop (Int.toNat ((ds.take 30).length : Int)))))) = _
    rw [gd_t (decide_eq_true (Int.natCast_nonneg _)), gd_t (show small restL = true from rfl), Int.toNat_natCast]
  have h2 : small (restL.drop (ds.take 30).length) = true := Nat.ble_eq_true_of_le (by rw [List.length_drop]; have : restL.length = 18 := rfl; omega)
  have e2 : binV .Add (.lst (ds.take 30)) (.lst (restL.drop (ds.take 30).length)) = some (.lst (penL ds)) := (gd_t hsm).trans ((gd_t h2).trans rfl)
  exact oK_in e0 (oK_in e1 (oK_in e2 ⟨rfl, rfl, rfl⟩))
theorem seg_A {l : List AV} (hl : PenOk l) (s : AV) : ∃ (rs : List Rl) (at_ : Nat) (ans : List Ans), rs.length ≤ 2 ∧ (∀ r ∈ rs, r.Ok) ∧ at_ ≤ 7 ∧
    steps (run (TT g) 59) 4 cfgW sgA (rhoW2 sc s) ⟨[penM l 0], ans⟩ (fun f ρ' s' => f = .next ∧ ρ' = rhoW3 sc s (.lst (rs.map Rl.v)) (lettersV (goR rs L0 [])) ∧ s'.σ = stI (penM l at_) L0 F0) (fun _ _ => False) := by
  obtain ⟨v, hv, d⟩ := c_draw Z hl (at_ := 0) (by omega) 3 (by decide) []
  rcases k3 hv with rfl | rfl | rfl
  · have lt := c_letters Z (pn := penM l 1) (pen_below1 hl.i) [] (by decide) (fun r hr => (List.not_mem_nil hr).elim)
    exact ⟨[], 1, _, by simp, fun r hr => (List.not_mem_nil hr).elim, by omega, Eq.mpr (eqA0 Z _ _ sc d lt s) (conj_in ⟨rfl, rfl, rfl⟩ _)⟩
  · obtain ⟨r, hr, d1⟩ := c_rule Z hl (at_ := 1) (by omega) []
    have ok : ∀ x ∈ [r], x.Ok := fun x hx => by rw [List.mem_singleton.mp hx]; exact hr
    have lt := c_letters Z (pn := penM l 4) (pen_below1 hl.i) [r] (by simp) ok
    exact ⟨[r], 4, _, by simp, ok, by omega, Eq.mpr (eqA1 Z _ _ sc d d1 lt s) (conj_in ⟨rfl, rfl, rfl⟩ _)⟩
  · obtain ⟨r, hr, d1⟩ := c_rule Z hl (at_ := 1) (by omega) []
    obtain ⟨r', hr', d2⟩ := c_rule Z hl (at_ := 4) (by omega) []
    have ok : ∀ x ∈ [r, r'], x.Ok := fun x hx => by
      cases hx with
      | head => exact hr
      | tail _ hx => rw [List.mem_singleton.mp hx]; exact hr'
    have lt := c_letters Z (pn := penM l 7) (pen_below1 hl.i) [r, r'] (by simp) ok
    exact ⟨[r, r'], 7, _, by simp, ok, by omega, Eq.mpr (eqA2 Z _ _ sc d d1 d2 lt s) (conj_in ⟨rfl, rfl, rfl⟩ _)⟩
end
theorem law_runs {g : Glb} (Z : Real g) (GX : g.K.In g.base) (GT : Top g.p g.loose g.mean g.mg g.mb g.base) {A : Around} (hA : AOk A []) (R : Room A 200 2) {B : Heap} (b : BOk0 g [] B) {sh : Shared} (H : Hp g B ⟨[], []⟩ [] sh) {sa : Addr} {vs : List Value} {ds : List AV}
    (hIL : g.base.IsList sa vs.toArray) (hds : ∀ W, VA g W vs ds) (hi : IntsL ds) (hsm : small ds = true) {Rr : Result → Shared → Prop} (hR : ∀ sh', g.base.StaysIn sh'.heap → sh'.gens = g.gens → sh'.os = g.os → Rr (.ok (.ret (.bool true))) sh') :
    codeAny (Md g) A (.call (.ref 479) ⟨[.ref sa], []⟩) Rr sh := by
  refine def_enter (d_law Z.k) (need := 200) (k := 4) (mu := ["pen", "kinds"]) (as := [.raw (.ref sa)]) (by decide) (by decide) rfl hA R b H (.cons (.raw _) .nil) fun x A' sh1 O R' a' S => ?_
  have C : Ctx g (TT g) (run (TT g) 59) 4 cfgW x A' := ⟨run_sound (tok Z) 59, (tok Z).tab, O, R', a'⟩
  generalize hE0 : (fun (e : Value) (s' : Shared) => wpAny (Md g) A' (leaving x.env e) (fun _ s'' => Rr (.error e) s'') (fun e' s'' => Rr (.error e') s'') s') = E
  generalize hQ0 : (fun (f : Flow) (s' : Shared) => Rr (.ok (.ret (match f with | .ret v => v | _ => .none))) s') = Q
  have hEF : PX g x (fun _ _ => False) E := fun _ _ _ _ _ h => h.elim
  have hQt : ∀ sh', g.base.StaysIn sh'.heap → sh'.gens = g.gens → sh'.os = g.os → Q (.ret (.bool true)) sh' := fun sh' h1 h2 h3 => by
    rw [← hQ0]; exact hR sh' h1 h2 h3
  have fin : ∀ {ρ' σ' W' sh'}, St g x W' ρ' σ' sh' → Q (.ret (.bool true)) sh' := fun {ρ' σ' W' sh'} S' => by
    refine S'.e fun m ms cs D => ?_
    exact hQt sh' (fun c o e => D.F.keep c o (O.bs c o e)) D.ge D.os
  have hIL0 : x.h₀.IsList sa vs.toArray := by
    obtain ⟨o, ho, hc, nn, hd⟩ := hIL
    exact ⟨o, O.bs _ _ ho, hc, nn, hd⟩
  show wpAny (Md g) A' (execs bd x.env) Q E sh1
  rw [bd_split]
  rw [cut_eq, List.singleton_append]
  refine wpAny_execs_cons (s_cut (KE := fun _ _ => False) (s := ⟨[], []⟩) (ρ2 := rhoW1 (.raw (.ref sa)) (.lst (ds.take 30))) C S hIL0 hds hsm (by kernel_rfl) (by decide) (by kernel_rfl) fun W1 sh2 _ S1 => ?_)
  refine s_prefix C hEF sgPen W1 _ ⟨[], [⟨1, some (.lst restL), []⟩]⟩ sh2 _ S1 (seg_pen Z (.raw (.ref sa)) (ds := ds)) (fun ρ' s' W2 sh3 _ S2 hk => ?_) fun a ρ' s' W2 v sh3 _ S2 hv hk => by cases hk.1
  obtain ⟨_, rfl, hσ⟩ := hk
  rw [hσ] at S2
  have hpl := penL_ok hi
  generalize penL ds = l at *
  obtain ⟨rs, at_, ans, h2, hrs, hat, hsA⟩ := seg_A Z (.raw (.ref sa)) hpl (.lst (ds.take 30))
  refine s_prefix C hEF sgA W2 _ ⟨[penM l 0], ans⟩ sh3 _ S2 hsA (fun ρ' s' W3 sh4 _ S3 hk => ?_) fun a ρ' s' W2 v sh3 _ S2 hv hk => by cases hk.1
  obtain ⟨_, rfl, hσ⟩ := hk
  rw [hσ] at S3
  rw [try1_eq, List.singleton_append]
  have ha := c_add Z (penM l at_) rs h2 hrs
  rcases goRI rs L0 [] F0 (fun p _ => rfl) hrs with ⟨eR, eI⟩ | ⟨L, T, eR, eI⟩
  · rw [eR] at S3
    rw [eI] at ha
    refine wpAny_execs_cons (s_TryCF (K := fun _ _ => False) (KE := fun ρ' s' => ρ' = rhoW3 (.raw (.ref sa)) (.lst (ds.take 30)) (.lst (rs.map Rl.v)) .none) (s := ⟨stI (penM l at_) L0 F0, _⟩) (cfOk Z) GX GT C S3 (by kernel_rfl) (by decide) (by kernel_rfl)
      (Eq.mpr (eqT1n _ _ (.raw (.ref sa)) (lv := .none) ha) (conj_in rfl _)) (fun _ _ _ _ _ _ h => h.elim) (fun _ _ _ _ _ _ _ _ _ h => h.elim) fun ρ' s' hk => ?_)
    subst hk
    exact ⟨.none, true, rfl, rfl, fun sh' h1 h2 h3 => hQt sh' h1 h2 h3⟩
  · rw [eR] at S3
    rw [eI] at ha
    have hL : ∀ p, L p < 6 := goR_lt rs L0 [] L L0_lt hrs eR
    refine wpAny_execs_cons (s_TryCF (K := fun o s' => o = .fl .next (rhoW3 (.raw (.ref sa)) (.lst (ds.take 30)) (.lst (rs.map Rl.v)) (.lst (Ls L))) ∧ s'.σ = stI (penM l at_) L T) (KE := fun _ _ => False) (s := ⟨stI (penM l at_) L0 F0, _⟩) (cfOk Z) GX GT C S3 (by kernel_rfl) (by decide) (by kernel_rfl)
      (Eq.mpr (eqT1s _ _ (.raw (.ref sa)) (lv := .lst (Ls L)) ha) (conj_in ⟨rfl, rfl⟩ _)) (fun ρ' s' W4 sh5 _ S4 hk => ?_) (fun _ _ _ _ _ _ _ _ _ h => by cases h.1) fun _ _ h => h.elim)
    obtain ⟨hk, hσ⟩ := hk
    cases hk
    rw [hσ] at S4
    show wpAny (Md g) A' (execs (sgIf ++ (sgB ++ (try2 ++ sgR))) x.env) Q E sh5
    refine s_prefix C hEF sgIf W4 _ ⟨stI (penM l at_) L T, _⟩ sh5 (fun f ρ' s' => f = .next ∧ ρ' = rhoW3 (.raw (.ref sa)) (.lst (ds.take 30)) (.lst (rs.map Rl.v)) (.lst (Ls L)) ∧ s'.σ = stI (penM l at_) L T) S4
      (Eq.mpr (eqIf Z _ _ (.raw (.ref sa)) (penM l at_) L T) (conj_in ?_ _)) (fun ρ' s' W5 sh6 _ S5 hk => ?_) fun a ρ' s' W2 v sh3 _ S2 hv hk => by cases hk.1
    · have hw : WF 2 (.lst (Rs L)) := WF.of (by kernel_rfl)
      rw [hw.eq_self]
      exact ⟨rfl, rfl, rfl⟩
    · obtain ⟨_, rfl, hσ⟩ := hk
      rw [hσ] at S5
      obtain ⟨t, at2, g1, g2, g3, g4⟩ := tree_3 Z hpl at_ (by omega) [impD, .lst (Rs L), .lst (Ts T), .dct (kdL (qOf L) 14)]
      obtain ⟨r, hj⟩ := j_tree Z ⟨penM l at2, impD, .lst (Rs L), .lst (Ts T)⟩ (qOf L) (mm_ok hpl.i L T) (q_ok hL) g3 (by decide)
      refine s_prefix C hEF sgB W5 _ ⟨stI (penM l at_) L T, _⟩ sh6 (fun f ρ' s' => f = .next ∧ ρ' = rhoW5 (.raw (.ref sa)) (.lst (ds.take 30)) (.lst (rs.map Rl.v)) (.lst (Ls L)) t (orN r) ∧ s'.σ = stT ⟨penM l at2, impD, .lst (Rs L), .lst (Ts T)⟩ (qOf L)) S5
        (Eq.mpr (eqB (lv := .none) Z _ _ (.raw (.ref sa)) g4 hj.a) (conj_in ⟨rfl, rfl, rfl⟩ _)) (fun ρ' s' W6 sh7 _ S6 hk => ?_) fun a ρ' s' W2 v sh3 _ S2 hv hk => by cases hk.1
      obtain ⟨_, rfl, hσ⟩ := hk
      rw [hσ] at S6
      rw [try2_eq, List.singleton_append]
      have hb := hj.b
      cases r with
      | none =>
        refine wpAny_execs_cons (s_TryCF (K := fun _ _ => False) (KE := fun ρ' s' => ρ' = rhoW5 (.raw (.ref sa)) (.lst (ds.take 30)) (.lst (rs.map Rl.v)) (.lst (Ls L)) t .none) (s := ⟨stT ⟨penM l at2, impD, .lst (Rs L), .lst (Ts T)⟩ (qOf L), _⟩) (cfOk Z) GX GT C S6 (by kernel_rfl) (by decide) (by kernel_rfl)
          (Eq.mpr (eqT2n Z _ _ (.raw (.ref sa)) hb) (conj_in rfl _)) (fun _ _ _ _ _ _ h => h.elim) (fun _ _ _ _ _ _ _ _ _ h => h.elim) fun ρ' s' hk => ?_)
        subst hk
        exact ⟨.none, true, rfl, rfl, fun sh' h1 h2 h3 => hQt sh' h1 h2 h3⟩
      | some y =>
        obtain ⟨hrk, hwf⟩ := hj.k y rfl
        obtain ⟨yl, rfl⟩ := hrk.tup
        refine wpAny_execs_cons (s_TryCF (K := fun o s' => o = .fl .next (rhoW6 (.raw (.ref sa)) (.lst (ds.take 30)) (.lst (rs.map Rl.v)) (.lst (Ls L)) t (.tup yl) (.tup yl)) ∧ s'.σ = stR ⟨penM l at2, impD, .lst (Rs L), .lst (Ts T)⟩ (qOf L)) (KE := fun _ _ => False) (s := ⟨stT ⟨penM l at2, impD, .lst (Rs L), .lst (Ts T)⟩ (qOf L), _⟩) (cfOk Z) GX GT C S6 (by kernel_rfl) (by decide) (by kernel_rfl)
          (Eq.mpr (eqT2s Z _ _ (.raw (.ref sa)) hb) (conj_in ⟨rfl, rfl⟩ _)) (fun ρ' s' W7 sh8 _ S7 hk => ?_) (fun _ _ _ _ _ _ _ _ _ h => by cases h.1) fun _ _ h => h.elim)
        obtain ⟨hk, hσ⟩ := hk
        cases hk
        rw [hσ] at S7
        show wpAny (Md g) A' (execs sgR x.env) Q E sh8
        refine s_steps C hEF sgR W7 _ ⟨stR ⟨penM l at2, impD, .lst (Rs L), .lst (Ts T)⟩ (qOf L), []⟩ sh8 (fun f ρ' s' => f = .ret (.bool true)) Q S7 (Eq.mpr (eqR _ _ (.raw (.ref sa))) (cmpK_self hwf (by decide) rfl)) fun f ρ' s' W8 fl sh9 _ S8 hf hk => ?_
        subst hk
        cases hf with
        | ret hv =>
          cases hv
          exact fin S8
end Mine
end
section
set_option maxHeartbeats 1000000
open PySem PySem.W PySem.Spec PySem.Calls PyProof.Rows
namespace Mine
theorem ints_are {g : Glb} {vs : List Value} {ns : List Int} (h : IntsAre vs ns) (W : Wd) : VA g W vs (ns.map AV.int) := by
  induction h with
  | nil => exact .nil
  | cons n t _ ih => exact .cons (.int n t) ih
theorem intsL_map (ns : List Int) : IntsL (ns.map AV.int) := fun a ha => by
  obtain ⟨i, _, rfl⟩ := List.mem_map.mp ha
  exact ⟨i, rfl⟩
theorem law_end {prog : Program} {w : World} {p : Program} {loose : List PySem.Str} {mean : ExcName → Option Value} {mg mb : PySem.Str → Option Value} {s₁ : Shared} {fa sa : Addr} {vs : List Value} {ns : List Int} {Rr : Result → Shared → Prop} (KX : (hd.heap_39 w.params).In s₁.heap) (T : Top p loose mean mg mb s₁.heap) (hm : mg "law" = some (.ref fa))
    (hL : s₁.heap.IsList sa vs.toArray) (hI : IntsAre vs ns) (hn : ns.length ≤ 1000) (hR : ∀ s', (∀ b o, s₁.heap.get? b = some o → s'.heap.get? b = some o) → s'.gens = s₁.gens → s'.os = s₁.os → Rr (.ok (.ret (.bool true))) s') :
    codeAny (model prog w) callerA (.call (.ref fa) ⟨[.ref sa], []⟩) Rr s₁ := by
  have h1 : mg "law" = some (.ref 479) := mg_of KX T.g (by kernel_rfl)
  rw [h1] at hm
  cases hm
  exact law_runs (g := ⟨prog, w, hd.heap_39 w.params, p, loose, mean, mg, mb, s₁.heap, s₁.gens, s₁.drawn, s₁.os, 44⟩) ⟨⟨w.params, rfl, rfl⟩, rfl, ⟨s₁.heap, KX, T⟩⟩ KX T (A := callerA) ⟨rfl, rfl⟩
    ⟨by show 1 + claimMargin + 200 < recursionLimit; decide, by show 4 + 8 * 200 + 2 + 90 < cLine; decide⟩ (B := s₁.heap) ⟨KX, T, fun _ _ e => e, fun e he => (List.not_mem_nil he).elim⟩
    ⟨[], fun _ _ e => e, Nat.le_refl _, fun p hp => (List.not_mem_nil hp).elim, rfl, trivial, .nil, fun p hp => (List.not_mem_nil hp).elim, fun p hp => (List.not_mem_nil hp).elim, rfl, rfl, rfl⟩ hL (ints_are hI) (intsL_map ns)
    (Nat.ble_eq_true_of_le (by rw [List.length_map]; omega)) hR
end Mine
set_option maxHeartbeats 8000000 in
theorem PySem.Challenge.cw_no0256_01_holds : PySem.Challenge.rw_no0256_01.Holds :=
  Mine.hd (by
  k_fill
  intro w s₀ s₁ mg mb G Y fa o pm cd doc dV kV ho hd hcd hD hmg hg args vals as hpre hlay hrd hwl hlo
  have KX := kIn_of Y
  refine Ground.open G ?_
  intro T B D TE TW
  wrow_args hpre hlay hrd hwl hlo
  all_goals (
    first | refine callC_kw (enter_call ?_) | refine enter_call ?_ | refine callC_kw (enter_callW ?_) | refine enter_callW ?_ | w_how
    w_top on
    try refine codeAny_mono ?_ (fun _ _ g => GoodW.toG g)
    refine Mine.law_end KX T hmg (by assumption) (by assumption) (by omega) fun s' h1 h2 h3 => ?_
    exact ⟨.inl ⟨_, .bool true, [], rfl, fun _ => by kernel_rfl, .bool true, by kernel_rfl, unshared_nil⟩, h1, h3, h2.trans hg⟩))
end
