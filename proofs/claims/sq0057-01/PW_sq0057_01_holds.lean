import PyProof.Rows.All
import Wide.All
import OpenK.AllK
import Wide.FinOn
import PySem.Challenge.RW_sq0057_01
set_option Elab.async false
set_option maxRecDepth 100000
set_option maxHeartbeats 0
set_option linter.all false
namespace Mine
section
open PySem PySem.W PySem.Calls PyProof.Rows
noncomputable section
noncomputable abbrev pw : Program := PySem.Challenge.pw_sq0057_01
noncomputable def nth (l : List Stmt) (n : Nat) : Stmt := (l[n]?).getD (.Pass ⟨0, 0, 0, 0⟩)
noncomputable def st (n : Nat) : Stmt := nth pw.main.body n
noncomputable def cst (n k : Nat) : Stmt := match st n with | .ClassDef _ _ _ b _ _ _ _ _ _ _ => nth b k | s => s
noncomputable def fd (s : Stmt) (qual : Str) (g : Addr) (cl : List (Str × Addr)) (dV kV doc pm : Value) (an : Option Addr) (cd ct : Value) (bn : Addr) : FuncData := match s with
  | .FunctionDef name args body _ _ _ scope _ _ _ => { name := name, qualname := qual, params := args, body := .stmts body, scope := scope, globals := g, closure := cl, defaults := dV, kwdefaults := kV, doc := doc, pyModule := pm, annotations := an, code := cd, closureTuple := ct, builtins := bn }
  | _ => default
noncomputable def en (P : Params) (x : Str) (t : Tok) (v : Value) : DictEntry := ⟨PyData.keyHash P x, .str x t, v⟩
noncomputable def puts : BT → List (Nat × Obj) → BT
  | t, [] => t
  | t, q :: r => puts (t.ins q.1 q.2) r
noncomputable def sts (i n : Nat) : List Stmt := (pw.main.body.drop i).take n
noncomputable def o11_0 (P : Params) : Obj := ⟨.type "tuple", none, .seq #[] 0, #[]⟩
noncomputable def o12_0 (P : Params) : Obj := ⟨.none, none, .fields #[], #[]⟩
noncomputable def o13_0 (P : Params) : Obj := ⟨.type "code", none, .fields #[.str "<module>" 182, .str "<module>" 183, .str "/claim/cut.py" 184, .int 1 0, .int 0 0, .int 0 0, .int 0 0, .int 0 0, .ref 11, .bool false, .int 181 0, .ref 12, .none, .none, .none, .none, .int 185 0, .int 1 0, .str "/claim/cut.py" 186], #[]⟩
noncomputable def o14_0 (P : Params) : Obj := ⟨.type "frame", none, .plain, #[some (.ref 13), some (.ref 3), some (.ref 3), none, some (.str "__main__" 164), none, some (.ref 0)]⟩
noncomputable def hA (P : Params) : Heap := ⟨⟨[PySem.W.boot_o_0 P, PySem.W.boot_o_1 P, PySem.W.boot_o_2 P, PySem.W.boot_o_3 P, PySem.W.boot_o_4 P, PySem.W.boot_o_5 P, PySem.W.boot_o_6 P, PySem.W.boot_o_7 P, PySem.W.boot_o_8 P, PySem.W.boot_o_9 P, PySem.W.boot_o_10 P, o11_0 P, o12_0 P, o13_0 P, o14_0 P]⟩, {}⟩
noncomputable def tr0 (P : Params) : BT := puts .nil [(0, PySem.W.boot_o_0 P), (1, PySem.W.boot_o_1 P), (2, PySem.W.boot_o_2 P), (3, PySem.W.boot_o_3 P), (4, PySem.W.boot_o_4 P), (5, PySem.W.boot_o_5 P), (6, PySem.W.boot_o_6 P), (7, PySem.W.boot_o_7 P), (8, PySem.W.boot_o_8 P), (9, PySem.W.boot_o_9 P), (10, PySem.W.boot_o_10 P), (11, o11_0 P), (12, o12_0 P), (13, o13_0 P), (14, o14_0 P)]
noncomputable def o3_2 (P : Params) : Obj := ⟨.type "dict", none, .dict #[en P "__name__" 165 (.str "gluepage.errors" 206), en P "__doc__" 166 (.none), en P "__package__" 167 (.none), en P "__loader__" 168 (.builtin "__main__.__loader__#opaque"), en P "__spec__" 169 (.none), en P "__annotations__" 170 (.ref 6), en P "__builtins__" 171 (.ref 4), en P "__file__" 173 (.str "/claim/cut.py" 172), en P "__cached__" 174 (.none), en P "_wall" 193 (.ref 21), en P "TOP_SKIP" 200 (.int 7 194), en P "SPLIT_TOP_SKIP" 201 (.int 8 195), en P "TAB_SKIP" 202 (.int 9 196), en P "SPACE_SKIP" 203 (.int 10 197), en P "XSPACE_SKIP" 204 (.int 11 198), en P "PAR_FILL_SKIP" 205 (.int 12 199), en P "PageError" 235 (.ref 43), en P "BadArgument" 251 (.ref 56), en P "Overflow" 267 (.ref 68)] 19, #[]⟩
noncomputable def o12_2 (P : Params) : Obj := ⟨.none, none, .fields #[.int 1 0, .int 0 0, .ref 20, .int 6 0, .int 0 0, .ref 31, .int 10 0, .int 0 0, .ref 52, .int 12 0, .int 0 0, .ref 64], #[]⟩
noncomputable def o15_2 (P : Params) : Obj := ⟨.type "tuple", none, .seq #[] 0, #[]⟩
noncomputable def o16_2 (P : Params) : Obj := ⟨.none, none, .fields #[], #[]⟩
noncomputable def o17_2 (P : Params) : Obj := ⟨.type "tuple", none, .seq #[.str "k" 190] 0, #[]⟩
noncomputable def o18_2 (P : Params) : Obj := ⟨.type "tuple", none, .seq #[] 0, #[]⟩
noncomputable def o19_2 (P : Params) : Obj := ⟨.none, none, .func (fd (st 0) "_wall" 0 [] (.none) (.none) (.none) (.none) none (.none) (.none) 0), #[]⟩
noncomputable def o20_2 (P : Params) : Obj := ⟨.type "code", none, .fields #[.str "_wall" 187, .str "_wall" 188, .str "/claim/cut.py" 189, .int 1 0, .int 1 0, .int 0 0, .int 0 0, .int 3 0, .ref 15, .bool true, .int 181 0, .ref 16, .none, .ref 17, .ref 18, .ref 19, .int 191 0, .int 1 0, .str "/claim/cut.py" 192], #[]⟩
noncomputable def o21_2 (P : Params) : Obj := ⟨.type "function", none, .func (fd (st 0) "_wall" 3 [] (.none) (.none) (.none) (.str "__main__" 164) none (.ref 20) (.none) 0), #[]⟩
noncomputable def o22_2 (P : Params) : Obj := ⟨.type "tuple", none, .seq #[.int 7 194, .int 8 195, .int 9 196, .int 10 197, .int 11 198, .int 12 199] 0, #[]⟩
noncomputable def o23_2 (P : Params) : Obj := ⟨.type "tuple_iterator", none, .fields #[.none, .int 6 0], #[]⟩
noncomputable def o24_2 (P : Params) : Obj := ⟨.type "tuple", none, .seq #[] 0, #[]⟩
noncomputable def o25_2 (P : Params) : Obj := ⟨.type "StopIteration", none, .fields #[.ref 24, .none, .none, .none, .bool false, .none], #[]⟩
noncomputable def o26_2 (P : Params) : Obj := ⟨.type "tuple", none, .seq #[.type "ValueError"] 0, #[]⟩
noncomputable def o27_2 (P : Params) : Obj := ⟨.type "builtin_function_or_method", none, .fields #[.builtin "type.__prepare__", .type "type"], #[]⟩
noncomputable def o28_2 (P : Params) : Obj := ⟨.type "dict", none, .dict #[en P "__module__" 215 (.str "gluepage.errors" 206), en P "__qualname__" 217 (.str "PageError" 216), en P "__firstlineno__" 219 (.int 6 218), en P "__init__" 228 (.ref 40), en P "__static_attributes__" 230 (.ref 41)] 5, #[]⟩
noncomputable def o29_2 (P : Params) : Obj := ⟨.type "tuple", none, .seq #[] 0, #[]⟩
noncomputable def o30_2 (P : Params) : Obj := ⟨.none, none, .fields #[.int 8 0, .int 4 0, .ref 39], #[]⟩
noncomputable def o31_2 (P : Params) : Obj := ⟨.type "code", none, .fields #[.str "PageError" 210, .str "PageError" 211, .str "/claim/cut.py" 212, .int 6 0, .int 0 0, .int 0 0, .int 0 0, .int 0 0, .ref 29, .bool false, .int 181 0, .ref 30, .none, .none, .none, .none, .int 213 0, .int 6 0, .str "/claim/cut.py" 214], #[]⟩
noncomputable def o32_2 (P : Params) : Obj := ⟨.type "frame", none, .plain, #[some (.ref 31), some (.ref 3), some (.ref 28), none, some (.str "gluepage.errors" 206), none, some (.ref 0)]⟩
noncomputable def o33_2 (P : Params) : Obj := ⟨.type "tuple", none, .seq #[.str "" 220] 0, #[]⟩
noncomputable def o34_2 (P : Params) : Obj := ⟨.type "tuple", none, .seq #[] 0, #[]⟩
noncomputable def o35_2 (P : Params) : Obj := ⟨.none, none, .fields #[], #[]⟩
noncomputable def o36_2 (P : Params) : Obj := ⟨.type "tuple", none, .seq #[.str "self" 224, .str "reason" 225] 0, #[]⟩
noncomputable def o37_2 (P : Params) : Obj := ⟨.type "tuple", none, .seq #[] 0, #[]⟩
noncomputable def o38_2 (P : Params) : Obj := ⟨.none, none, .func (fd (cst 3 0) "PageError.__init__" 0 [] (.none) (.none) (.none) (.none) none (.none) (.none) 0), #[]⟩
noncomputable def o39_2 (P : Params) : Obj := ⟨.type "code", none, .fields #[.str "__init__" 221, .str "PageError.__init__" 222, .str "/claim/cut.py" 223, .int 8 0, .int 2 0, .int 0 0, .int 0 0, .int 3 0, .ref 34, .bool true, .int 181 0, .ref 35, .none, .ref 36, .ref 37, .ref 38, .int 226 0, .int 8 0, .str "/claim/cut.py" 227], #[]⟩
noncomputable def o40_2 (P : Params) : Obj := ⟨.type "function", none, .func (fd (cst 3 0) "PageError.__init__" 3 [] (.ref 33) (.none) (.none) (.str "gluepage.errors" 206) none (.ref 39) (.none) 0), #[]⟩
noncomputable def o41_2 (P : Params) : Obj := ⟨.type "tuple", none, .seq #[.str "reason" 229] 0, #[]⟩
noncomputable def o42_2 (P : Params) : Obj := ⟨.type "dict", none, .dict #[en P "__module__" 215 (.str "gluepage.errors" 206), en P "__firstlineno__" 219 (.int 6 218), en P "__init__" 228 (.ref 40), en P "__static_attributes__" 230 (.ref 41), en P "__weakref__" 232 (.ref 44), en P "__doc__" 233 (.none)] 3, #[]⟩
noncomputable def o43_2 (P : Params) : Obj := ⟨.type "type", none, .cls ⟨"PageError", [.type "ValueError"], [.ref 43, .type "ValueError", .type "Exception", .type "BaseException", .type "object"], 42, "PageError", true, [], [.ref 56, .ref 68], false, none, false⟩, #[some (.ref 26), none, some (.str "PageError" 208), some (.str "PageError" 216), some (.builtin "ValueError.__new__"), some (.bool true)]⟩
noncomputable def o44_2 (P : Params) : Obj := ⟨.type "getset_descriptor", none, .fields #[.str "__weakref__" 231, .ref 43, .builtin "ExceptionGroup.__weakref__", .none], #[]⟩
noncomputable def o45_2 (P : Params) : Obj := ⟨.type "super", none, .fields #[.ref 43, .ref 43, .ref 43], #[]⟩
noncomputable def o46_2 (P : Params) : Obj := ⟨.type "builtin_function_or_method", none, .fields #[.builtin "object.__init_subclass__", .ref 43], #[]⟩
noncomputable def o47_2 (P : Params) : Obj := ⟨.type "tuple", none, .seq #[.ref 43] 0, #[]⟩
noncomputable def o48_2 (P : Params) : Obj := ⟨.type "builtin_function_or_method", none, .fields #[.builtin "type.__prepare__", .type "type"], #[]⟩
noncomputable def o49_2 (P : Params) : Obj := ⟨.type "dict", none, .dict #[en P "__module__" 243 (.str "gluepage.errors" 206), en P "__qualname__" 245 (.str "BadArgument" 244), en P "__firstlineno__" 247 (.int 10 246), en P "__static_attributes__" 248 (.ref 54)] 4, #[]⟩
noncomputable def o50_2 (P : Params) : Obj := ⟨.type "tuple", none, .seq #[] 0, #[]⟩
noncomputable def o51_2 (P : Params) : Obj := ⟨.none, none, .fields #[], #[]⟩
noncomputable def o52_2 (P : Params) : Obj := ⟨.type "code", none, .fields #[.str "BadArgument" 238, .str "BadArgument" 239, .str "/claim/cut.py" 240, .int 10 0, .int 0 0, .int 0 0, .int 0 0, .int 0 0, .ref 50, .bool false, .int 181 0, .ref 51, .none, .none, .none, .none, .int 241 0, .int 10 0, .str "/claim/cut.py" 242], #[]⟩
noncomputable def o53_2 (P : Params) : Obj := ⟨.type "frame", none, .plain, #[some (.ref 52), some (.ref 3), some (.ref 49), none, some (.str "gluepage.errors" 206), none, some (.ref 0)]⟩
noncomputable def o54_2 (P : Params) : Obj := ⟨.type "tuple", none, .seq #[] 0, #[]⟩
noncomputable def o55_2 (P : Params) : Obj := ⟨.type "dict", none, .dict #[en P "__module__" 243 (.str "gluepage.errors" 206), en P "__firstlineno__" 247 (.int 10 246), en P "__static_attributes__" 248 (.ref 54), en P "__doc__" 249 (.none)] 2, #[]⟩
noncomputable def o56_2 (P : Params) : Obj := ⟨.type "type", none, .cls ⟨"BadArgument", [.ref 43], [.ref 56, .ref 43, .type "ValueError", .type "Exception", .type "BaseException", .type "object"], 55, "BadArgument", true, [], [], false, none, false⟩, #[some (.ref 47), none, some (.str "BadArgument" 236), some (.str "BadArgument" 244), some (.builtin "ValueError.__new__"), some (.bool true)]⟩
noncomputable def o57_2 (P : Params) : Obj := ⟨.type "super", none, .fields #[.ref 56, .ref 56, .ref 56], #[]⟩
noncomputable def o58_2 (P : Params) : Obj := ⟨.type "builtin_function_or_method", none, .fields #[.builtin "object.__init_subclass__", .ref 56], #[]⟩
noncomputable def o59_2 (P : Params) : Obj := ⟨.type "tuple", none, .seq #[.ref 43] 0, #[]⟩
noncomputable def o60_2 (P : Params) : Obj := ⟨.type "builtin_function_or_method", none, .fields #[.builtin "type.__prepare__", .type "type"], #[]⟩
noncomputable def o61_2 (P : Params) : Obj := ⟨.type "dict", none, .dict #[en P "__module__" 259 (.str "gluepage.errors" 206), en P "__qualname__" 261 (.str "Overflow" 260), en P "__firstlineno__" 263 (.int 12 262), en P "__static_attributes__" 264 (.ref 66)] 4, #[]⟩
noncomputable def o62_2 (P : Params) : Obj := ⟨.type "tuple", none, .seq #[] 0, #[]⟩
noncomputable def o63_2 (P : Params) : Obj := ⟨.none, none, .fields #[], #[]⟩
noncomputable def o64_2 (P : Params) : Obj := ⟨.type "code", none, .fields #[.str "Overflow" 254, .str "Overflow" 255, .str "/claim/cut.py" 256, .int 12 0, .int 0 0, .int 0 0, .int 0 0, .int 0 0, .ref 62, .bool false, .int 181 0, .ref 63, .none, .none, .none, .none, .int 257 0, .int 12 0, .str "/claim/cut.py" 258], #[]⟩
noncomputable def o65_2 (P : Params) : Obj := ⟨.type "frame", none, .plain, #[some (.ref 64), some (.ref 3), some (.ref 61), none, some (.str "gluepage.errors" 206), none, some (.ref 0)]⟩
noncomputable def o66_2 (P : Params) : Obj := ⟨.type "tuple", none, .seq #[] 0, #[]⟩
noncomputable def o67_2 (P : Params) : Obj := ⟨.type "dict", none, .dict #[en P "__module__" 259 (.str "gluepage.errors" 206), en P "__firstlineno__" 263 (.int 12 262), en P "__static_attributes__" 264 (.ref 66), en P "__doc__" 265 (.none)] 2, #[]⟩
noncomputable def o68_2 (P : Params) : Obj := ⟨.type "type", none, .cls ⟨"Overflow", [.ref 43], [.ref 68, .ref 43, .type "ValueError", .type "Exception", .type "BaseException", .type "object"], 67, "Overflow", true, [], [], false, none, false⟩, #[some (.ref 59), none, some (.str "Overflow" 252), some (.str "Overflow" 260), some (.builtin "ValueError.__new__"), some (.bool true)]⟩
noncomputable def o69_2 (P : Params) : Obj := ⟨.type "super", none, .fields #[.ref 68, .ref 68, .ref 68], #[]⟩
noncomputable def o70_2 (P : Params) : Obj := ⟨.type "builtin_function_or_method", none, .fields #[.builtin "object.__init_subclass__", .ref 68], #[]⟩
noncomputable def tr1 (P : Params) : BT := puts (tr0 P) [(3, o3_2 P), (12, o12_2 P), (15, o15_2 P), (16, o16_2 P), (17, o17_2 P), (18, o18_2 P), (19, o19_2 P), (20, o20_2 P), (21, o21_2 P), (22, o22_2 P), (23, o23_2 P), (24, o24_2 P), (25, o25_2 P), (26, o26_2 P), (27, o27_2 P), (28, o28_2 P), (29, o29_2 P), (30, o30_2 P), (31, o31_2 P), (32, o32_2 P), (33, o33_2 P), (34, o34_2 P), (35, o35_2 P), (36, o36_2 P), (37, o37_2 P), (38, o38_2 P), (39, o39_2 P), (40, o40_2 P), (41, o41_2 P), (42, o42_2 P), (43, o43_2 P), (44, o44_2 P), (45, o45_2 P), (46, o46_2 P), (47, o47_2 P), (48, o48_2 P), (49, o49_2 P), (50, o50_2 P), (51, o51_2 P), (52, o52_2 P), (53, o53_2 P), (54, o54_2 P), (55, o55_2 P), (56, o56_2 P), (57, o57_2 P), (58, o58_2 P), (59, o59_2 P), (60, o60_2 P), (61, o61_2 P), (62, o62_2 P), (63, o63_2 P), (64, o64_2 P), (65, o65_2 P), (66, o66_2 P), (67, o67_2 P), (68, o68_2 P), (69, o69_2 P), (70, o70_2 P)]
noncomputable def o3_3 (P : Params) : Obj := ⟨.type "dict", none, .dict #[en P "__name__" 165 (.str "gluepage.scaled" 300), en P "__doc__" 166 (.none), en P "__package__" 167 (.none), en P "__loader__" 168 (.builtin "__main__.__loader__#opaque"), en P "__spec__" 169 (.none), en P "__annotations__" 170 (.ref 6), en P "__builtins__" 171 (.ref 4), en P "__file__" 173 (.str "/claim/cut.py" 172), en P "__cached__" 174 (.none), en P "_wall" 193 (.ref 21), en P "TOP_SKIP" 200 (.int 7 194), en P "SPLIT_TOP_SKIP" 201 (.int 8 195), en P "TAB_SKIP" 202 (.int 9 196), en P "SPACE_SKIP" 203 (.int 10 197), en P "XSPACE_SKIP" 204 (.int 11 198), en P "PAR_FILL_SKIP" 205 (.int 12 199), en P "PageError" 235 (.ref 43), en P "BadArgument" 251 (.ref 56), en P "Overflow" 267 (.ref 68), en P "BadBox" 283 (.ref 80), en P "TooDeep" 299 (.ref 92), en P "UNITY" 303 (.int 65536 302), en P "MAX_DIMEN" 309 (.int 1073741823 308), en P "MAX_NUMBER" 315 (.int 2147483647 314), en P "INF_BAD" 317 (.int 10000 316), en P "NORMAL" 322 (.int 0 318), en P "FIL" 323 (.int 1 319), en P "FILL" 324 (.int 2 320), en P "FILLL" 325 (.int 3 321), en P "is_whole" 334 (.ref 105), en P "check_whole" 341 (.ref 112), en P "check_number" 348 (.ref 119), en P "check_dimen" 355 (.ref 126), en P "rounded" 363 (.ref 133), en P "reading" 371 (.ref 140), en P "decimal_text" 384 (.ref 147), en P "times" 393 (.ref 154), en P "times_scaled" 394 (.ref 154), en P "over" 404 (.ref 161), en P "over_scaled" 405 (.ref 161)] 40, #[]⟩
noncomputable def o12_3 (P : Params) : Obj := ⟨.none, none, .fields #[.int 1 0, .int 0 0, .ref 20, .int 6 0, .int 0 0, .ref 31, .int 10 0, .int 0 0, .ref 52, .int 12 0, .int 0 0, .ref 64, .int 14 0, .int 0 0, .ref 76, .int 16 0, .int 0 0, .ref 88, .int 24 0, .int 0 0, .ref 104, .int 26 0, .int 0 0, .ref 111, .int 30 0, .int 0 0, .ref 118, .int 34 0, .int 0 0, .ref 125, .int 38 0, .int 0 0, .ref 132, .int 44 0, .int 0 0, .ref 139, .int 46 0, .int 0 0, .ref 146, .int 57 0, .int 0 0, .ref 153, .int 60 0, .int 0 0, .ref 160], #[]⟩
noncomputable def o43_3 (P : Params) : Obj := ⟨.type "type", none, .cls ⟨"PageError", [.type "ValueError"], [.ref 43, .type "ValueError", .type "Exception", .type "BaseException", .type "object"], 42, "PageError", true, [], [.ref 56, .ref 68, .ref 80, .ref 92], false, none, false⟩, #[some (.ref 26), none, some (.str "PageError" 208), some (.str "PageError" 216), some (.builtin "ValueError.__new__"), some (.bool true)]⟩
noncomputable def o71_3 (P : Params) : Obj := ⟨.type "tuple", none, .seq #[.ref 43] 0, #[]⟩
noncomputable def o72_3 (P : Params) : Obj := ⟨.type "builtin_function_or_method", none, .fields #[.builtin "type.__prepare__", .type "type"], #[]⟩
noncomputable def o73_3 (P : Params) : Obj := ⟨.type "dict", none, .dict #[en P "__module__" 275 (.str "gluepage.errors" 206), en P "__qualname__" 277 (.str "BadBox" 276), en P "__firstlineno__" 279 (.int 14 278), en P "__static_attributes__" 280 (.ref 78)] 4, #[]⟩
noncomputable def o74_3 (P : Params) : Obj := ⟨.type "tuple", none, .seq #[] 0, #[]⟩
noncomputable def o75_3 (P : Params) : Obj := ⟨.none, none, .fields #[], #[]⟩
noncomputable def o76_3 (P : Params) : Obj := ⟨.type "code", none, .fields #[.str "BadBox" 270, .str "BadBox" 271, .str "/claim/cut.py" 272, .int 14 0, .int 0 0, .int 0 0, .int 0 0, .int 0 0, .ref 74, .bool false, .int 181 0, .ref 75, .none, .none, .none, .none, .int 273 0, .int 14 0, .str "/claim/cut.py" 274], #[]⟩
noncomputable def o77_3 (P : Params) : Obj := ⟨.type "frame", none, .plain, #[some (.ref 76), some (.ref 3), some (.ref 73), none, some (.str "gluepage.errors" 206), none, some (.ref 0)]⟩
noncomputable def o78_3 (P : Params) : Obj := ⟨.type "tuple", none, .seq #[] 0, #[]⟩
noncomputable def o79_3 (P : Params) : Obj := ⟨.type "dict", none, .dict #[en P "__module__" 275 (.str "gluepage.errors" 206), en P "__firstlineno__" 279 (.int 14 278), en P "__static_attributes__" 280 (.ref 78), en P "__doc__" 281 (.none)] 2, #[]⟩
noncomputable def o80_3 (P : Params) : Obj := ⟨.type "type", none, .cls ⟨"BadBox", [.ref 43], [.ref 80, .ref 43, .type "ValueError", .type "Exception", .type "BaseException", .type "object"], 79, "BadBox", true, [], [], false, none, false⟩, #[some (.ref 71), none, some (.str "BadBox" 268), some (.str "BadBox" 276), some (.builtin "ValueError.__new__"), some (.bool true)]⟩
noncomputable def o81_3 (P : Params) : Obj := ⟨.type "super", none, .fields #[.ref 80, .ref 80, .ref 80], #[]⟩
noncomputable def o82_3 (P : Params) : Obj := ⟨.type "builtin_function_or_method", none, .fields #[.builtin "object.__init_subclass__", .ref 80], #[]⟩
noncomputable def o83_3 (P : Params) : Obj := ⟨.type "tuple", none, .seq #[.ref 43] 0, #[]⟩
noncomputable def o84_3 (P : Params) : Obj := ⟨.type "builtin_function_or_method", none, .fields #[.builtin "type.__prepare__", .type "type"], #[]⟩
noncomputable def o85_3 (P : Params) : Obj := ⟨.type "dict", none, .dict #[en P "__module__" 291 (.str "gluepage.errors" 206), en P "__qualname__" 293 (.str "TooDeep" 292), en P "__firstlineno__" 295 (.int 16 294), en P "__static_attributes__" 296 (.ref 90)] 4, #[]⟩
noncomputable def o86_3 (P : Params) : Obj := ⟨.type "tuple", none, .seq #[] 0, #[]⟩
noncomputable def o87_3 (P : Params) : Obj := ⟨.none, none, .fields #[], #[]⟩
noncomputable def o88_3 (P : Params) : Obj := ⟨.type "code", none, .fields #[.str "TooDeep" 286, .str "TooDeep" 287, .str "/claim/cut.py" 288, .int 16 0, .int 0 0, .int 0 0, .int 0 0, .int 0 0, .ref 86, .bool false, .int 181 0, .ref 87, .none, .none, .none, .none, .int 289 0, .int 16 0, .str "/claim/cut.py" 290], #[]⟩
noncomputable def o89_3 (P : Params) : Obj := ⟨.type "frame", none, .plain, #[some (.ref 88), some (.ref 3), some (.ref 85), none, some (.str "gluepage.errors" 206), none, some (.ref 0)]⟩
noncomputable def o90_3 (P : Params) : Obj := ⟨.type "tuple", none, .seq #[] 0, #[]⟩
noncomputable def o91_3 (P : Params) : Obj := ⟨.type "dict", none, .dict #[en P "__module__" 291 (.str "gluepage.errors" 206), en P "__firstlineno__" 295 (.int 16 294), en P "__static_attributes__" 296 (.ref 90), en P "__doc__" 297 (.none)] 2, #[]⟩
noncomputable def o92_3 (P : Params) : Obj := ⟨.type "type", none, .cls ⟨"TooDeep", [.ref 43], [.ref 92, .ref 43, .type "ValueError", .type "Exception", .type "BaseException", .type "object"], 91, "TooDeep", true, [], [], false, none, false⟩, #[some (.ref 83), none, some (.str "TooDeep" 284), some (.str "TooDeep" 292), some (.builtin "ValueError.__new__"), some (.bool true)]⟩
noncomputable def o93_3 (P : Params) : Obj := ⟨.type "super", none, .fields #[.ref 92, .ref 92, .ref 92], #[]⟩
noncomputable def o94_3 (P : Params) : Obj := ⟨.type "builtin_function_or_method", none, .fields #[.builtin "object.__init_subclass__", .ref 92], #[]⟩
noncomputable def o95_3 (P : Params) : Obj := ⟨.type "tuple", none, .seq #[.int 0 318, .int 1 319, .int 2 320, .int 3 321] 0, #[]⟩
noncomputable def o96_3 (P : Params) : Obj := ⟨.type "tuple_iterator", none, .fields #[.none, .int 4 0], #[]⟩
noncomputable def o97_3 (P : Params) : Obj := ⟨.type "tuple", none, .seq #[] 0, #[]⟩
noncomputable def o98_3 (P : Params) : Obj := ⟨.type "StopIteration", none, .fields #[.ref 97, .none, .none, .none, .bool false, .none], #[]⟩
noncomputable def o99_3 (P : Params) : Obj := ⟨.type "tuple", none, .seq #[] 0, #[]⟩
noncomputable def o100_3 (P : Params) : Obj := ⟨.none, none, .fields #[], #[]⟩
noncomputable def o101_3 (P : Params) : Obj := ⟨.type "tuple", none, .seq #[.str "value" 329, .str "low" 330, .str "high" 331] 0, #[]⟩
noncomputable def o102_3 (P : Params) : Obj := ⟨.type "tuple", none, .seq #[] 0, #[]⟩
noncomputable def o103_3 (P : Params) : Obj := ⟨.none, none, .func (fd (st 14) "is_whole" 0 [] (.none) (.none) (.none) (.none) none (.none) (.none) 0), #[]⟩
noncomputable def o104_3 (P : Params) : Obj := ⟨.type "code", none, .fields #[.str "is_whole" 326, .str "is_whole" 327, .str "/claim/cut.py" 328, .int 24 0, .int 3 0, .int 0 0, .int 0 0, .int 3 0, .ref 99, .bool true, .int 181 0, .ref 100, .none, .ref 101, .ref 102, .ref 103, .int 332 0, .int 24 0, .str "/claim/cut.py" 333], #[]⟩
noncomputable def o105_3 (P : Params) : Obj := ⟨.type "function", none, .func (fd (st 14) "is_whole" 3 [] (.none) (.none) (.none) (.str "gluepage.scaled" 300) none (.ref 104) (.none) 0), #[]⟩
noncomputable def o106_3 (P : Params) : Obj := ⟨.type "tuple", none, .seq #[] 0, #[]⟩
noncomputable def o107_3 (P : Params) : Obj := ⟨.none, none, .fields #[], #[]⟩
noncomputable def o108_3 (P : Params) : Obj := ⟨.type "tuple", none, .seq #[.str "value" 338] 0, #[]⟩
noncomputable def o109_3 (P : Params) : Obj := ⟨.type "tuple", none, .seq #[] 0, #[]⟩
noncomputable def o110_3 (P : Params) : Obj := ⟨.none, none, .func (fd (st 15) "check_whole" 0 [] (.none) (.none) (.none) (.none) none (.none) (.none) 0), #[]⟩
noncomputable def o111_3 (P : Params) : Obj := ⟨.type "code", none, .fields #[.str "check_whole" 335, .str "check_whole" 336, .str "/claim/cut.py" 337, .int 26 0, .int 1 0, .int 0 0, .int 0 0, .int 3 0, .ref 106, .bool true, .int 181 0, .ref 107, .none, .ref 108, .ref 109, .ref 110, .int 339 0, .int 26 0, .str "/claim/cut.py" 340], #[]⟩
noncomputable def o112_3 (P : Params) : Obj := ⟨.type "function", none, .func (fd (st 15) "check_whole" 3 [] (.none) (.none) (.none) (.str "gluepage.scaled" 300) none (.ref 111) (.none) 0), #[]⟩
noncomputable def o113_3 (P : Params) : Obj := ⟨.type "tuple", none, .seq #[] 0, #[]⟩
noncomputable def o114_3 (P : Params) : Obj := ⟨.none, none, .fields #[], #[]⟩
noncomputable def o115_3 (P : Params) : Obj := ⟨.type "tuple", none, .seq #[.str "value" 345] 0, #[]⟩
noncomputable def o116_3 (P : Params) : Obj := ⟨.type "tuple", none, .seq #[] 0, #[]⟩
noncomputable def o117_3 (P : Params) : Obj := ⟨.none, none, .func (fd (st 16) "check_number" 0 [] (.none) (.none) (.none) (.none) none (.none) (.none) 0), #[]⟩
noncomputable def o118_3 (P : Params) : Obj := ⟨.type "code", none, .fields #[.str "check_number" 342, .str "check_number" 343, .str "/claim/cut.py" 344, .int 30 0, .int 1 0, .int 0 0, .int 0 0, .int 3 0, .ref 113, .bool true, .int 181 0, .ref 114, .none, .ref 115, .ref 116, .ref 117, .int 346 0, .int 30 0, .str "/claim/cut.py" 347], #[]⟩
noncomputable def o119_3 (P : Params) : Obj := ⟨.type "function", none, .func (fd (st 16) "check_number" 3 [] (.none) (.none) (.none) (.str "gluepage.scaled" 300) none (.ref 118) (.none) 0), #[]⟩
noncomputable def o120_3 (P : Params) : Obj := ⟨.type "tuple", none, .seq #[] 0, #[]⟩
noncomputable def o121_3 (P : Params) : Obj := ⟨.none, none, .fields #[], #[]⟩
noncomputable def o122_3 (P : Params) : Obj := ⟨.type "tuple", none, .seq #[.str "value" 352] 0, #[]⟩
noncomputable def o123_3 (P : Params) : Obj := ⟨.type "tuple", none, .seq #[] 0, #[]⟩
noncomputable def o124_3 (P : Params) : Obj := ⟨.none, none, .func (fd (st 17) "check_dimen" 0 [] (.none) (.none) (.none) (.none) none (.none) (.none) 0), #[]⟩
noncomputable def o125_3 (P : Params) : Obj := ⟨.type "code", none, .fields #[.str "check_dimen" 349, .str "check_dimen" 350, .str "/claim/cut.py" 351, .int 34 0, .int 1 0, .int 0 0, .int 0 0, .int 3 0, .ref 120, .bool true, .int 181 0, .ref 121, .none, .ref 122, .ref 123, .ref 124, .int 353 0, .int 34 0, .str "/claim/cut.py" 354], #[]⟩
noncomputable def o126_3 (P : Params) : Obj := ⟨.type "function", none, .func (fd (st 17) "check_dimen" 3 [] (.none) (.none) (.none) (.str "gluepage.scaled" 300) none (.ref 125) (.none) 0), #[]⟩
noncomputable def o127_3 (P : Params) : Obj := ⟨.type "tuple", none, .seq #[] 0, #[]⟩
noncomputable def o128_3 (P : Params) : Obj := ⟨.none, none, .fields #[], #[]⟩
noncomputable def o129_3 (P : Params) : Obj := ⟨.type "tuple", none, .seq #[.str "number" 359, .str "by" 360] 0, #[]⟩
noncomputable def o130_3 (P : Params) : Obj := ⟨.type "tuple", none, .seq #[] 0, #[]⟩
noncomputable def o131_3 (P : Params) : Obj := ⟨.none, none, .func (fd (st 18) "rounded" 0 [] (.none) (.none) (.none) (.none) none (.none) (.none) 0), #[]⟩
noncomputable def o132_3 (P : Params) : Obj := ⟨.type "code", none, .fields #[.str "rounded" 356, .str "rounded" 357, .str "/claim/cut.py" 358, .int 38 0, .int 2 0, .int 0 0, .int 0 0, .int 3 0, .ref 127, .bool true, .int 181 0, .ref 128, .none, .ref 129, .ref 130, .ref 131, .int 361 0, .int 38 0, .str "/claim/cut.py" 362], #[]⟩
noncomputable def o133_3 (P : Params) : Obj := ⟨.type "function", none, .func (fd (st 18) "rounded" 3 [] (.none) (.none) (.none) (.str "gluepage.scaled" 300) none (.ref 132) (.none) 0), #[]⟩
noncomputable def o134_3 (P : Params) : Obj := ⟨.type "tuple", none, .seq #[] 0, #[]⟩
noncomputable def o135_3 (P : Params) : Obj := ⟨.none, none, .fields #[], #[]⟩
noncomputable def o136_3 (P : Params) : Obj := ⟨.type "tuple", none, .seq #[.str "whole" 367, .str "scale" 368] 0, #[]⟩
noncomputable def o137_3 (P : Params) : Obj := ⟨.type "tuple", none, .seq #[] 0, #[]⟩
noncomputable def o138_3 (P : Params) : Obj := ⟨.none, none, .func (fd (st 19) "reading" 0 [] (.none) (.none) (.none) (.none) none (.none) (.none) 0), #[]⟩
noncomputable def o139_3 (P : Params) : Obj := ⟨.type "code", none, .fields #[.str "reading" 364, .str "reading" 365, .str "/claim/cut.py" 366, .int 44 0, .int 2 0, .int 0 0, .int 0 0, .int 3 0, .ref 134, .bool true, .int 181 0, .ref 135, .none, .ref 136, .ref 137, .ref 138, .int 369 0, .int 44 0, .str "/claim/cut.py" 370], #[]⟩
noncomputable def o140_3 (P : Params) : Obj := ⟨.type "function", none, .func (fd (st 19) "reading" 3 [] (.none) (.none) (.none) (.str "gluepage.scaled" 300) none (.ref 139) (.none) 0), #[]⟩
noncomputable def o141_3 (P : Params) : Obj := ⟨.type "tuple", none, .seq #[] 0, #[]⟩
noncomputable def o142_3 (P : Params) : Obj := ⟨.none, none, .fields #[], #[]⟩
noncomputable def o143_3 (P : Params) : Obj := ⟨.type "tuple", none, .seq #[.str "value" 375, .str "sign" 376, .str "points" 377, .str "part" 378, .str "scale" 379, .str "near" 380, .str "places" 381] 0, #[]⟩
noncomputable def o144_3 (P : Params) : Obj := ⟨.type "tuple", none, .seq #[] 0, #[]⟩
noncomputable def o145_3 (P : Params) : Obj := ⟨.none, none, .func (fd (st 20) "decimal_text" 0 [] (.none) (.none) (.none) (.none) none (.none) (.none) 0), #[]⟩
noncomputable def o146_3 (P : Params) : Obj := ⟨.type "code", none, .fields #[.str "decimal_text" 372, .str "decimal_text" 373, .str "/claim/cut.py" 374, .int 46 0, .int 1 0, .int 0 0, .int 0 0, .int 3 0, .ref 141, .bool true, .int 181 0, .ref 142, .none, .ref 143, .ref 144, .ref 145, .int 382 0, .int 46 0, .str "/claim/cut.py" 383], #[]⟩
noncomputable def o147_3 (P : Params) : Obj := ⟨.type "function", none, .func (fd (st 20) "decimal_text" 3 [] (.none) (.none) (.none) (.str "gluepage.scaled" 300) none (.ref 146) (.none) 0), #[]⟩
noncomputable def o148_3 (P : Params) : Obj := ⟨.type "tuple", none, .seq #[] 0, #[]⟩
noncomputable def o149_3 (P : Params) : Obj := ⟨.none, none, .fields #[], #[]⟩
noncomputable def o150_3 (P : Params) : Obj := ⟨.type "tuple", none, .seq #[.str "count" 388, .str "value" 389, .str "more" 390] 0, #[]⟩
noncomputable def o151_3 (P : Params) : Obj := ⟨.type "tuple", none, .seq #[] 0, #[]⟩
noncomputable def o152_3 (P : Params) : Obj := ⟨.none, none, .func (fd (st 21) "times" 0 [] (.none) (.none) (.none) (.none) none (.none) (.none) 0), #[]⟩
noncomputable def o153_3 (P : Params) : Obj := ⟨.type "code", none, .fields #[.str "times" 385, .str "times" 386, .str "/claim/cut.py" 387, .int 57 0, .int 3 0, .int 0 0, .int 0 0, .int 3 0, .ref 148, .bool true, .int 181 0, .ref 149, .none, .ref 150, .ref 151, .ref 152, .int 391 0, .int 57 0, .str "/claim/cut.py" 392], #[]⟩
noncomputable def o154_3 (P : Params) : Obj := ⟨.type "function", none, .func (fd (st 21) "times" 3 [] (.none) (.none) (.none) (.str "gluepage.scaled" 300) none (.ref 153) (.none) 0), #[]⟩
noncomputable def o155_3 (P : Params) : Obj := ⟨.type "tuple", none, .seq #[] 0, #[]⟩
noncomputable def o156_3 (P : Params) : Obj := ⟨.none, none, .fields #[], #[]⟩
noncomputable def o157_3 (P : Params) : Obj := ⟨.type "tuple", none, .seq #[.str "value" 398, .str "by" 399, .str "quotient" 400, .str "rest" 401] 0, #[]⟩
noncomputable def o158_3 (P : Params) : Obj := ⟨.type "tuple", none, .seq #[] 0, #[]⟩
noncomputable def o159_3 (P : Params) : Obj := ⟨.none, none, .func (fd (st 23) "over" 0 [] (.none) (.none) (.none) (.none) none (.none) (.none) 0), #[]⟩
noncomputable def o160_3 (P : Params) : Obj := ⟨.type "code", none, .fields #[.str "over" 395, .str "over" 396, .str "/claim/cut.py" 397, .int 60 0, .int 2 0, .int 0 0, .int 0 0, .int 3 0, .ref 155, .bool true, .int 181 0, .ref 156, .none, .ref 157, .ref 158, .ref 159, .int 402 0, .int 60 0, .str "/claim/cut.py" 403], #[]⟩
noncomputable def o161_3 (P : Params) : Obj := ⟨.type "function", none, .func (fd (st 23) "over" 3 [] (.none) (.none) (.none) (.str "gluepage.scaled" 300) none (.ref 160) (.none) 0), #[]⟩
noncomputable def tr2 (P : Params) : BT := puts (tr1 P) [(3, o3_3 P), (12, o12_3 P), (43, o43_3 P), (71, o71_3 P), (72, o72_3 P), (73, o73_3 P), (74, o74_3 P), (75, o75_3 P), (76, o76_3 P), (77, o77_3 P), (78, o78_3 P), (79, o79_3 P), (80, o80_3 P), (81, o81_3 P), (82, o82_3 P), (83, o83_3 P), (84, o84_3 P), (85, o85_3 P), (86, o86_3 P), (87, o87_3 P), (88, o88_3 P), (89, o89_3 P), (90, o90_3 P), (91, o91_3 P), (92, o92_3 P), (93, o93_3 P), (94, o94_3 P), (95, o95_3 P), (96, o96_3 P), (97, o97_3 P), (98, o98_3 P), (99, o99_3 P), (100, o100_3 P), (101, o101_3 P), (102, o102_3 P), (103, o103_3 P), (104, o104_3 P), (105, o105_3 P), (106, o106_3 P), (107, o107_3 P), (108, o108_3 P), (109, o109_3 P), (110, o110_3 P), (111, o111_3 P), (112, o112_3 P), (113, o113_3 P), (114, o114_3 P), (115, o115_3 P), (116, o116_3 P), (117, o117_3 P), (118, o118_3 P), (119, o119_3 P), (120, o120_3 P), (121, o121_3 P), (122, o122_3 P), (123, o123_3 P), (124, o124_3 P), (125, o125_3 P), (126, o126_3 P), (127, o127_3 P), (128, o128_3 P), (129, o129_3 P), (130, o130_3 P), (131, o131_3 P), (132, o132_3 P), (133, o133_3 P), (134, o134_3 P), (135, o135_3 P), (136, o136_3 P), (137, o137_3 P), (138, o138_3 P), (139, o139_3 P), (140, o140_3 P), (141, o141_3 P), (142, o142_3 P), (143, o143_3 P), (144, o144_3 P), (145, o145_3 P), (146, o146_3 P), (147, o147_3 P), (148, o148_3 P), (149, o149_3 P), (150, o150_3 P), (151, o151_3 P), (152, o152_3 P), (153, o153_3 P), (154, o154_3 P), (155, o155_3 P), (156, o156_3 P), (157, o157_3 P), (158, o158_3 P), (159, o159_3 P), (160, o160_3 P), (161, o161_3 P)]
noncomputable def o3_4 (P : Params) : Obj := ⟨.type "dict", none, .dict #[en P "__name__" 165 (.str "gluepage.scaled" 300), en P "__doc__" 166 (.none), en P "__package__" 167 (.none), en P "__loader__" 168 (.builtin "__main__.__loader__#opaque"), en P "__spec__" 169 (.none), en P "__annotations__" 170 (.ref 6), en P "__builtins__" 171 (.ref 4), en P "__file__" 173 (.str "/claim/cut.py" 172), en P "__cached__" 174 (.none), en P "_wall" 193 (.ref 21), en P "TOP_SKIP" 200 (.int 7 194), en P "SPLIT_TOP_SKIP" 201 (.int 8 195), en P "TAB_SKIP" 202 (.int 9 196), en P "SPACE_SKIP" 203 (.int 10 197), en P "XSPACE_SKIP" 204 (.int 11 198), en P "PAR_FILL_SKIP" 205 (.int 12 199), en P "PageError" 235 (.ref 43), en P "BadArgument" 251 (.ref 56), en P "Overflow" 267 (.ref 68), en P "BadBox" 283 (.ref 80), en P "TooDeep" 299 (.ref 92), en P "UNITY" 303 (.int 65536 302), en P "MAX_DIMEN" 309 (.int 1073741823 308), en P "MAX_NUMBER" 315 (.int 2147483647 314), en P "INF_BAD" 317 (.int 10000 316), en P "NORMAL" 322 (.int 0 318), en P "FIL" 323 (.int 1 319), en P "FILL" 324 (.int 2 320), en P "FILLL" 325 (.int 3 321), en P "is_whole" 334 (.ref 105), en P "check_whole" 341 (.ref 112), en P "check_number" 348 (.ref 119), en P "check_dimen" 355 (.ref 126), en P "rounded" 363 (.ref 133), en P "reading" 371 (.ref 140), en P "decimal_text" 384 (.ref 147), en P "times" 393 (.ref 154), en P "times_scaled" 394 (.ref 154), en P "over" 404 (.ref 161), en P "over_scaled" 405 (.ref 161), en P "badness" 414 (.ref 168), en P "order_text" 421 (.ref 175), en P "part_text" 430 (.ref 182), en P "Glue" 532 (.ref 250), en P "top_order" 540 (.ref 261)] 45, #[]⟩
noncomputable def o12_4 (P : Params) : Obj := ⟨.none, none, .fields #[.int 1 0, .int 0 0, .ref 20, .int 6 0, .int 0 0, .ref 31, .int 10 0, .int 0 0, .ref 52, .int 12 0, .int 0 0, .ref 64, .int 14 0, .int 0 0, .ref 76, .int 16 0, .int 0 0, .ref 88, .int 24 0, .int 0 0, .ref 104, .int 26 0, .int 0 0, .ref 111, .int 30 0, .int 0 0, .ref 118, .int 34 0, .int 0 0, .ref 125, .int 38 0, .int 0 0, .ref 132, .int 44 0, .int 0 0, .ref 139, .int 46 0, .int 0 0, .ref 146, .int 57 0, .int 0 0, .ref 153, .int 60 0, .int 0 0, .ref 160, .int 70 0, .int 0 0, .ref 167, .int 86 0, .int 0 0, .ref 174, .int 88 0, .int 0 0, .ref 181, .int 90 0, .int 0 0, .ref 188, .int 128 0, .int 0 0, .ref 260], #[]⟩
noncomputable def o162_4 (P : Params) : Obj := ⟨.type "tuple", none, .seq #[] 0, #[]⟩
noncomputable def o163_4 (P : Params) : Obj := ⟨.none, none, .fields #[], #[]⟩
noncomputable def o164_4 (P : Params) : Obj := ⟨.type "tuple", none, .seq #[.str "excess" 409, .str "total" 410, .str "ratio" 411] 0, #[]⟩
noncomputable def o165_4 (P : Params) : Obj := ⟨.type "tuple", none, .seq #[] 0, #[]⟩
noncomputable def o166_4 (P : Params) : Obj := ⟨.none, none, .func (fd (st 25) "badness" 0 [] (.none) (.none) (.none) (.none) none (.none) (.none) 0), #[]⟩
noncomputable def o167_4 (P : Params) : Obj := ⟨.type "code", none, .fields #[.str "badness" 406, .str "badness" 407, .str "/claim/cut.py" 408, .int 70 0, .int 2 0, .int 0 0, .int 0 0, .int 3 0, .ref 162, .bool true, .int 181 0, .ref 163, .none, .ref 164, .ref 165, .ref 166, .int 412 0, .int 70 0, .str "/claim/cut.py" 413], #[]⟩
noncomputable def o168_4 (P : Params) : Obj := ⟨.type "function", none, .func (fd (st 25) "badness" 3 [] (.none) (.none) (.none) (.str "gluepage.scaled" 300) none (.ref 167) (.none) 0), #[]⟩
noncomputable def o169_4 (P : Params) : Obj := ⟨.type "tuple", none, .seq #[] 0, #[]⟩
noncomputable def o170_4 (P : Params) : Obj := ⟨.none, none, .fields #[], #[]⟩
noncomputable def o171_4 (P : Params) : Obj := ⟨.type "tuple", none, .seq #[.str "order" 418] 0, #[]⟩
noncomputable def o172_4 (P : Params) : Obj := ⟨.type "tuple", none, .seq #[] 0, #[]⟩
noncomputable def o173_4 (P : Params) : Obj := ⟨.none, none, .func (fd (st 26) "order_text" 0 [] (.none) (.none) (.none) (.none) none (.none) (.none) 0), #[]⟩
noncomputable def o174_4 (P : Params) : Obj := ⟨.type "code", none, .fields #[.str "order_text" 415, .str "order_text" 416, .str "/claim/cut.py" 417, .int 86 0, .int 1 0, .int 0 0, .int 0 0, .int 3 0, .ref 169, .bool true, .int 181 0, .ref 170, .none, .ref 171, .ref 172, .ref 173, .int 419 0, .int 86 0, .str "/claim/cut.py" 420], #[]⟩
noncomputable def o175_4 (P : Params) : Obj := ⟨.type "function", none, .func (fd (st 26) "order_text" 3 [] (.none) (.none) (.none) (.str "gluepage.scaled" 300) none (.ref 174) (.none) 0), #[]⟩
noncomputable def o176_4 (P : Params) : Obj := ⟨.type "tuple", none, .seq #[] 0, #[]⟩
noncomputable def o177_4 (P : Params) : Obj := ⟨.none, none, .fields #[], #[]⟩
noncomputable def o178_4 (P : Params) : Obj := ⟨.type "tuple", none, .seq #[.str "value" 425, .str "order" 426, .str "unit" 427] 0, #[]⟩
noncomputable def o179_4 (P : Params) : Obj := ⟨.type "tuple", none, .seq #[] 0, #[]⟩
noncomputable def o180_4 (P : Params) : Obj := ⟨.none, none, .func (fd (st 27) "part_text" 0 [] (.none) (.none) (.none) (.none) none (.none) (.none) 0), #[]⟩
noncomputable def o181_4 (P : Params) : Obj := ⟨.type "code", none, .fields #[.str "part_text" 422, .str "part_text" 423, .str "/claim/cut.py" 424, .int 88 0, .int 3 0, .int 0 0, .int 0 0, .int 3 0, .ref 176, .bool true, .int 181 0, .ref 177, .none, .ref 178, .ref 179, .ref 180, .int 428 0, .int 88 0, .str "/claim/cut.py" 429], #[]⟩
noncomputable def o182_4 (P : Params) : Obj := ⟨.type "function", none, .func (fd (st 27) "part_text" 3 [] (.none) (.none) (.none) (.str "gluepage.scaled" 300) none (.ref 181) (.none) 0), #[]⟩
noncomputable def o183_4 (P : Params) : Obj := ⟨.type "tuple", none, .seq #[] 0, #[]⟩
noncomputable def o184_4 (P : Params) : Obj := ⟨.type "builtin_function_or_method", none, .fields #[.builtin "type.__prepare__", .type "type"], #[]⟩
noncomputable def o185_4 (P : Params) : Obj := ⟨.type "dict", none, .dict #[en P "__module__" 438 (.str "gluepage.scaled" 300), en P "__qualname__" 440 (.str "Glue" 439), en P "__firstlineno__" 442 (.int 90 441), en P "__init__" 459 (.ref 197), en P "parts" 466 (.ref 204), en P "same" 474 (.ref 211), en P "added" 482 (.ref 218), en P "times" 492 (.ref 225), en P "over" 502 (.ref 232), en P "negated" 509 (.ref 239), en P "text" 519 (.ref 247), en P "__static_attributes__" 525 (.ref 248)] 12, #[]⟩
noncomputable def o186_4 (P : Params) : Obj := ⟨.type "tuple", none, .seq #[] 0, #[]⟩
noncomputable def o187_4 (P : Params) : Obj := ⟨.none, none, .fields #[.int 92 0, .int 4 0, .ref 196, .int 101 0, .int 4 0, .ref 203, .int 104 0, .int 4 0, .ref 210, .int 107 0, .int 4 0, .ref 217, .int 110 0, .int 4 0, .ref 224, .int 114 0, .int 4 0, .ref 231, .int 118 0, .int 4 0, .ref 238, .int 121 0, .int 4 0, .ref 246], #[]⟩
noncomputable def o188_4 (P : Params) : Obj := ⟨.type "code", none, .fields #[.str "Glue" 433, .str "Glue" 434, .str "/claim/cut.py" 435, .int 90 0, .int 0 0, .int 0 0, .int 0 0, .int 0 0, .ref 186, .bool false, .int 181 0, .ref 187, .none, .none, .none, .none, .int 436 0, .int 90 0, .str "/claim/cut.py" 437], #[]⟩
noncomputable def o189_4 (P : Params) : Obj := ⟨.type "frame", none, .plain, #[some (.ref 188), some (.ref 3), some (.ref 185), none, some (.str "gluepage.scaled" 300), none, some (.ref 0)]⟩
noncomputable def o190_4 (P : Params) : Obj := ⟨.type "tuple", none, .seq #[.int 0 443, .int 0 444, .int 0 445, .int 0 446, .int 0 447] 0, #[]⟩
noncomputable def o191_4 (P : Params) : Obj := ⟨.type "tuple", none, .seq #[] 0, #[]⟩
noncomputable def o192_4 (P : Params) : Obj := ⟨.none, none, .fields #[], #[]⟩
noncomputable def o193_4 (P : Params) : Obj := ⟨.type "tuple", none, .seq #[.str "self" 451, .str "width" 452, .str "stretch" 453, .str "stretch_order" 454, .str "shrink" 455, .str "shrink_order" 456] 0, #[]⟩
noncomputable def o194_4 (P : Params) : Obj := ⟨.type "tuple", none, .seq #[] 0, #[]⟩
noncomputable def o195_4 (P : Params) : Obj := ⟨.none, none, .func (fd (cst 28 0) "Glue.__init__" 0 [] (.none) (.none) (.none) (.none) none (.none) (.none) 0), #[]⟩
noncomputable def o196_4 (P : Params) : Obj := ⟨.type "code", none, .fields #[.str "__init__" 448, .str "Glue.__init__" 449, .str "/claim/cut.py" 450, .int 92 0, .int 6 0, .int 0 0, .int 0 0, .int 3 0, .ref 191, .bool true, .int 181 0, .ref 192, .none, .ref 193, .ref 194, .ref 195, .int 457 0, .int 92 0, .str "/claim/cut.py" 458], #[]⟩
noncomputable def o197_4 (P : Params) : Obj := ⟨.type "function", none, .func (fd (cst 28 0) "Glue.__init__" 3 [] (.ref 190) (.none) (.none) (.str "gluepage.scaled" 300) none (.ref 196) (.none) 0), #[]⟩
noncomputable def o198_4 (P : Params) : Obj := ⟨.type "tuple", none, .seq #[] 0, #[]⟩
noncomputable def o199_4 (P : Params) : Obj := ⟨.none, none, .fields #[], #[]⟩
noncomputable def o200_4 (P : Params) : Obj := ⟨.type "tuple", none, .seq #[.str "self" 463] 0, #[]⟩
noncomputable def o201_4 (P : Params) : Obj := ⟨.type "tuple", none, .seq #[] 0, #[]⟩
noncomputable def o202_4 (P : Params) : Obj := ⟨.none, none, .func (fd (cst 28 1) "Glue.parts" 0 [] (.none) (.none) (.none) (.none) none (.none) (.none) 0), #[]⟩
noncomputable def o203_4 (P : Params) : Obj := ⟨.type "code", none, .fields #[.str "parts" 460, .str "Glue.parts" 461, .str "/claim/cut.py" 462, .int 101 0, .int 1 0, .int 0 0, .int 0 0, .int 3 0, .ref 198, .bool true, .int 181 0, .ref 199, .none, .ref 200, .ref 201, .ref 202, .int 464 0, .int 101 0, .str "/claim/cut.py" 465], #[]⟩
noncomputable def o204_4 (P : Params) : Obj := ⟨.type "function", none, .func (fd (cst 28 1) "Glue.parts" 3 [] (.none) (.none) (.none) (.str "gluepage.scaled" 300) none (.ref 203) (.none) 0), #[]⟩
noncomputable def o205_4 (P : Params) : Obj := ⟨.type "tuple", none, .seq #[] 0, #[]⟩
noncomputable def o206_4 (P : Params) : Obj := ⟨.none, none, .fields #[], #[]⟩
noncomputable def o207_4 (P : Params) : Obj := ⟨.type "tuple", none, .seq #[.str "self" 470, .str "other" 471] 0, #[]⟩
noncomputable def o208_4 (P : Params) : Obj := ⟨.type "tuple", none, .seq #[] 0, #[]⟩
noncomputable def o209_4 (P : Params) : Obj := ⟨.none, none, .func (fd (cst 28 2) "Glue.same" 0 [] (.none) (.none) (.none) (.none) none (.none) (.none) 0), #[]⟩
noncomputable def o210_4 (P : Params) : Obj := ⟨.type "code", none, .fields #[.str "same" 467, .str "Glue.same" 468, .str "/claim/cut.py" 469, .int 104 0, .int 2 0, .int 0 0, .int 0 0, .int 3 0, .ref 205, .bool true, .int 181 0, .ref 206, .none, .ref 207, .ref 208, .ref 209, .int 472 0, .int 104 0, .str "/claim/cut.py" 473], #[]⟩
noncomputable def o211_4 (P : Params) : Obj := ⟨.type "function", none, .func (fd (cst 28 2) "Glue.same" 3 [] (.none) (.none) (.none) (.str "gluepage.scaled" 300) none (.ref 210) (.none) 0), #[]⟩
noncomputable def o212_4 (P : Params) : Obj := ⟨.type "tuple", none, .seq #[] 0, #[]⟩
noncomputable def o213_4 (P : Params) : Obj := ⟨.none, none, .fields #[], #[]⟩
noncomputable def o214_4 (P : Params) : Obj := ⟨.type "tuple", none, .seq #[.str "self" 478, .str "other" 479] 0, #[]⟩
noncomputable def o215_4 (P : Params) : Obj := ⟨.type "tuple", none, .seq #[] 0, #[]⟩
noncomputable def o216_4 (P : Params) : Obj := ⟨.none, none, .func (fd (cst 28 3) "Glue.added" 0 [] (.none) (.none) (.none) (.none) none (.none) (.none) 0), #[]⟩
noncomputable def o217_4 (P : Params) : Obj := ⟨.type "code", none, .fields #[.str "added" 475, .str "Glue.added" 476, .str "/claim/cut.py" 477, .int 107 0, .int 2 0, .int 0 0, .int 0 0, .int 3 0, .ref 212, .bool true, .int 181 0, .ref 213, .none, .ref 214, .ref 215, .ref 216, .int 480 0, .int 107 0, .str "/claim/cut.py" 481], #[]⟩
noncomputable def o218_4 (P : Params) : Obj := ⟨.type "function", none, .func (fd (cst 28 3) "Glue.added" 3 [] (.none) (.none) (.none) (.str "gluepage.scaled" 300) none (.ref 217) (.none) 0), #[]⟩
noncomputable def o219_4 (P : Params) : Obj := ⟨.type "tuple", none, .seq #[] 0, #[]⟩
noncomputable def o220_4 (P : Params) : Obj := ⟨.none, none, .fields #[], #[]⟩
noncomputable def o221_4 (P : Params) : Obj := ⟨.type "tuple", none, .seq #[.str "self" 486, .str "count" 487, .str "stretch" 488, .str "shrink" 489] 0, #[]⟩
noncomputable def o222_4 (P : Params) : Obj := ⟨.type "tuple", none, .seq #[] 0, #[]⟩
noncomputable def o223_4 (P : Params) : Obj := ⟨.none, none, .func (fd (cst 28 4) "Glue.times" 0 [] (.none) (.none) (.none) (.none) none (.none) (.none) 0), #[]⟩
noncomputable def o224_4 (P : Params) : Obj := ⟨.type "code", none, .fields #[.str "times" 483, .str "Glue.times" 484, .str "/claim/cut.py" 485, .int 110 0, .int 2 0, .int 0 0, .int 0 0, .int 3 0, .ref 219, .bool true, .int 181 0, .ref 220, .none, .ref 221, .ref 222, .ref 223, .int 490 0, .int 110 0, .str "/claim/cut.py" 491], #[]⟩
noncomputable def o225_4 (P : Params) : Obj := ⟨.type "function", none, .func (fd (cst 28 4) "Glue.times" 3 [] (.none) (.none) (.none) (.str "gluepage.scaled" 300) none (.ref 224) (.none) 0), #[]⟩
noncomputable def o226_4 (P : Params) : Obj := ⟨.type "tuple", none, .seq #[] 0, #[]⟩
noncomputable def o227_4 (P : Params) : Obj := ⟨.none, none, .fields #[], #[]⟩
noncomputable def o228_4 (P : Params) : Obj := ⟨.type "tuple", none, .seq #[.str "self" 496, .str "by" 497, .str "stretch" 498, .str "shrink" 499] 0, #[]⟩
noncomputable def o229_4 (P : Params) : Obj := ⟨.type "tuple", none, .seq #[] 0, #[]⟩
noncomputable def o230_4 (P : Params) : Obj := ⟨.none, none, .func (fd (cst 28 5) "Glue.over" 0 [] (.none) (.none) (.none) (.none) none (.none) (.none) 0), #[]⟩
noncomputable def o231_4 (P : Params) : Obj := ⟨.type "code", none, .fields #[.str "over" 493, .str "Glue.over" 494, .str "/claim/cut.py" 495, .int 114 0, .int 2 0, .int 0 0, .int 0 0, .int 3 0, .ref 226, .bool true, .int 181 0, .ref 227, .none, .ref 228, .ref 229, .ref 230, .int 500 0, .int 114 0, .str "/claim/cut.py" 501], #[]⟩
noncomputable def o232_4 (P : Params) : Obj := ⟨.type "function", none, .func (fd (cst 28 5) "Glue.over" 3 [] (.none) (.none) (.none) (.str "gluepage.scaled" 300) none (.ref 231) (.none) 0), #[]⟩
noncomputable def o233_4 (P : Params) : Obj := ⟨.type "tuple", none, .seq #[] 0, #[]⟩
noncomputable def o234_4 (P : Params) : Obj := ⟨.none, none, .fields #[], #[]⟩
noncomputable def o235_4 (P : Params) : Obj := ⟨.type "tuple", none, .seq #[.str "self" 506] 0, #[]⟩
noncomputable def o236_4 (P : Params) : Obj := ⟨.type "tuple", none, .seq #[] 0, #[]⟩
noncomputable def o237_4 (P : Params) : Obj := ⟨.none, none, .func (fd (cst 28 6) "Glue.negated" 0 [] (.none) (.none) (.none) (.none) none (.none) (.none) 0), #[]⟩
noncomputable def o238_4 (P : Params) : Obj := ⟨.type "code", none, .fields #[.str "negated" 503, .str "Glue.negated" 504, .str "/claim/cut.py" 505, .int 118 0, .int 1 0, .int 0 0, .int 0 0, .int 3 0, .ref 233, .bool true, .int 181 0, .ref 234, .none, .ref 235, .ref 236, .ref 237, .int 507 0, .int 118 0, .str "/claim/cut.py" 508], #[]⟩
noncomputable def o239_4 (P : Params) : Obj := ⟨.type "function", none, .func (fd (cst 28 6) "Glue.negated" 3 [] (.none) (.none) (.none) (.str "gluepage.scaled" 300) none (.ref 238) (.none) 0), #[]⟩
noncomputable def o240_4 (P : Params) : Obj := ⟨.type "tuple", none, .seq #[.str "pt" 510] 0, #[]⟩
noncomputable def o241_4 (P : Params) : Obj := ⟨.type "tuple", none, .seq #[] 0, #[]⟩
noncomputable def o242_4 (P : Params) : Obj := ⟨.none, none, .fields #[], #[]⟩
noncomputable def o243_4 (P : Params) : Obj := ⟨.type "tuple", none, .seq #[.str "self" 514, .str "unit" 515, .str "found" 516] 0, #[]⟩
noncomputable def o244_4 (P : Params) : Obj := ⟨.type "tuple", none, .seq #[] 0, #[]⟩
noncomputable def o245_4 (P : Params) : Obj := ⟨.none, none, .func (fd (cst 28 7) "Glue.text" 0 [] (.none) (.none) (.none) (.none) none (.none) (.none) 0), #[]⟩
noncomputable def o246_4 (P : Params) : Obj := ⟨.type "code", none, .fields #[.str "text" 511, .str "Glue.text" 512, .str "/claim/cut.py" 513, .int 121 0, .int 2 0, .int 0 0, .int 0 0, .int 3 0, .ref 241, .bool true, .int 181 0, .ref 242, .none, .ref 243, .ref 244, .ref 245, .int 517 0, .int 121 0, .str "/claim/cut.py" 518], #[]⟩
noncomputable def o247_4 (P : Params) : Obj := ⟨.type "function", none, .func (fd (cst 28 7) "Glue.text" 3 [] (.ref 240) (.none) (.none) (.str "gluepage.scaled" 300) none (.ref 246) (.none) 0), #[]⟩
noncomputable def o248_4 (P : Params) : Obj := ⟨.type "tuple", none, .seq #[.str "shrink" 520, .str "shrink_order" 521, .str "stretch" 522, .str "stretch_order" 523, .str "width" 524] 0, #[]⟩
noncomputable def o249_4 (P : Params) : Obj := ⟨.type "dict", none, .dict #[en P "__module__" 438 (.str "gluepage.scaled" 300), en P "__firstlineno__" 442 (.int 90 441), en P "__init__" 459 (.ref 197), en P "parts" 466 (.ref 204), en P "same" 474 (.ref 211), en P "added" 482 (.ref 218), en P "times" 492 (.ref 225), en P "over" 502 (.ref 232), en P "negated" 509 (.ref 239), en P "text" 519 (.ref 247), en P "__static_attributes__" 525 (.ref 248), en P "__dict__" 527 (.ref 251), en P "__weakref__" 529 (.ref 252), en P "__doc__" 530 (.none)] 4, #[]⟩
noncomputable def o250_4 (P : Params) : Obj := ⟨.type "type", none, .cls ⟨"Glue", [.type "object"], [.ref 250, .type "object"], 249, "Glue", true, [], [], false, none, false⟩, #[none, none, some (.str "Glue" 431), some (.str "Glue" 439), some (.builtin "object.__new__"), some (.bool true)]⟩
noncomputable def o251_4 (P : Params) : Obj := ⟨.type "getset_descriptor", none, .fields #[.str "__dict__" 526, .ref 250, .builtin "function.__dict__", .builtin "function.__dict__#set"], #[]⟩
noncomputable def o252_4 (P : Params) : Obj := ⟨.type "getset_descriptor", none, .fields #[.str "__weakref__" 528, .ref 250, .builtin "ExceptionGroup.__weakref__", .none], #[]⟩
noncomputable def o253_4 (P : Params) : Obj := ⟨.type "super", none, .fields #[.ref 250, .ref 250, .ref 250], #[]⟩
noncomputable def o254_4 (P : Params) : Obj := ⟨.type "builtin_function_or_method", none, .fields #[.builtin "object.__init_subclass__", .ref 250], #[]⟩
noncomputable def o255_4 (P : Params) : Obj := ⟨.type "tuple", none, .seq #[] 0, #[]⟩
noncomputable def o256_4 (P : Params) : Obj := ⟨.none, none, .fields #[], #[]⟩
noncomputable def o257_4 (P : Params) : Obj := ⟨.type "tuple", none, .seq #[.str "sums" 536, .str "order" 537] 0, #[]⟩
noncomputable def o258_4 (P : Params) : Obj := ⟨.type "tuple", none, .seq #[] 0, #[]⟩
noncomputable def o259_4 (P : Params) : Obj := ⟨.none, none, .func (fd (st 29) "top_order" 0 [] (.none) (.none) (.none) (.none) none (.none) (.none) 0), #[]⟩
noncomputable def o260_4 (P : Params) : Obj := ⟨.type "code", none, .fields #[.str "top_order" 533, .str "top_order" 534, .str "/claim/cut.py" 535, .int 128 0, .int 1 0, .int 0 0, .int 0 0, .int 3 0, .ref 255, .bool true, .int 181 0, .ref 256, .none, .ref 257, .ref 258, .ref 259, .int 538 0, .int 128 0, .str "/claim/cut.py" 539], #[]⟩
noncomputable def o261_4 (P : Params) : Obj := ⟨.type "function", none, .func (fd (st 29) "top_order" 3 [] (.none) (.none) (.none) (.str "gluepage.scaled" 300) none (.ref 260) (.none) 0), #[]⟩
noncomputable def tr3 (P : Params) : BT := puts (tr2 P) [(3, o3_4 P), (12, o12_4 P), (162, o162_4 P), (163, o163_4 P), (164, o164_4 P), (165, o165_4 P), (166, o166_4 P), (167, o167_4 P), (168, o168_4 P), (169, o169_4 P), (170, o170_4 P), (171, o171_4 P), (172, o172_4 P), (173, o173_4 P), (174, o174_4 P), (175, o175_4 P), (176, o176_4 P), (177, o177_4 P), (178, o178_4 P), (179, o179_4 P), (180, o180_4 P), (181, o181_4 P), (182, o182_4 P), (183, o183_4 P), (184, o184_4 P), (185, o185_4 P), (186, o186_4 P), (187, o187_4 P), (188, o188_4 P), (189, o189_4 P), (190, o190_4 P), (191, o191_4 P), (192, o192_4 P), (193, o193_4 P), (194, o194_4 P), (195, o195_4 P), (196, o196_4 P), (197, o197_4 P), (198, o198_4 P), (199, o199_4 P), (200, o200_4 P), (201, o201_4 P), (202, o202_4 P), (203, o203_4 P), (204, o204_4 P), (205, o205_4 P), (206, o206_4 P), (207, o207_4 P), (208, o208_4 P), (209, o209_4 P), (210, o210_4 P), (211, o211_4 P), (212, o212_4 P), (213, o213_4 P), (214, o214_4 P), (215, o215_4 P), (216, o216_4 P), (217, o217_4 P), (218, o218_4 P), (219, o219_4 P), (220, o220_4 P), (221, o221_4 P), (222, o222_4 P), (223, o223_4 P), (224, o224_4 P), (225, o225_4 P), (226, o226_4 P), (227, o227_4 P), (228, o228_4 P), (229, o229_4 P), (230, o230_4 P), (231, o231_4 P), (232, o232_4 P), (233, o233_4 P), (234, o234_4 P), (235, o235_4 P), (236, o236_4 P), (237, o237_4 P), (238, o238_4 P), (239, o239_4 P), (240, o240_4 P), (241, o241_4 P), (242, o242_4 P), (243, o243_4 P), (244, o244_4 P), (245, o245_4 P), (246, o246_4 P), (247, o247_4 P), (248, o248_4 P), (249, o249_4 P), (250, o250_4 P), (251, o251_4 P), (252, o252_4 P), (253, o253_4 P), (254, o254_4 P), (255, o255_4 P), (256, o256_4 P), (257, o257_4 P), (258, o258_4 P), (259, o259_4 P), (260, o260_4 P), (261, o261_4 P)]
noncomputable def o3_5 (P : Params) : Obj := ⟨.type "dict", none, .dict #[en P "__name__" 165 (.str "gluepage.nodes" 608), en P "__doc__" 166 (.none), en P "__package__" 167 (.none), en P "__loader__" 168 (.builtin "__main__.__loader__#opaque"), en P "__spec__" 169 (.none), en P "__annotations__" 170 (.ref 6), en P "__builtins__" 171 (.ref 4), en P "__file__" 173 (.str "/claim/cut.py" 172), en P "__cached__" 174 (.none), en P "_wall" 193 (.ref 21), en P "TOP_SKIP" 200 (.int 7 194), en P "SPLIT_TOP_SKIP" 201 (.int 8 195), en P "TAB_SKIP" 202 (.int 9 196), en P "SPACE_SKIP" 203 (.int 10 197), en P "XSPACE_SKIP" 204 (.int 11 198), en P "PAR_FILL_SKIP" 205 (.int 12 199), en P "PageError" 235 (.ref 43), en P "BadArgument" 251 (.ref 56), en P "Overflow" 267 (.ref 68), en P "BadBox" 283 (.ref 80), en P "TooDeep" 299 (.ref 92), en P "UNITY" 303 (.int 65536 302), en P "MAX_DIMEN" 309 (.int 1073741823 308), en P "MAX_NUMBER" 315 (.int 2147483647 314), en P "INF_BAD" 317 (.int 10000 316), en P "NORMAL" 322 (.int 0 318), en P "FIL" 323 (.int 1 319), en P "FILL" 324 (.int 2 320), en P "FILLL" 325 (.int 3 321), en P "is_whole" 334 (.ref 105), en P "check_whole" 341 (.ref 112), en P "check_number" 348 (.ref 119), en P "check_dimen" 355 (.ref 126), en P "rounded" 363 (.ref 133), en P "reading" 371 (.ref 140), en P "decimal_text" 384 (.ref 147), en P "times" 393 (.ref 154), en P "times_scaled" 394 (.ref 154), en P "over" 404 (.ref 161), en P "over_scaled" 405 (.ref 161), en P "badness" 414 (.ref 168), en P "order_text" 421 (.ref 175), en P "part_text" 430 (.ref 182), en P "Glue" 532 (.ref 250), en P "top_order" 540 (.ref 261), en P "Totals" 607 (.ref 313), en P "CHAR" 618 (.int 0 610), en P "LIGATURE" 619 (.int 1 611), en P "HBOX" 620 (.int 2 612), en P "VBOX" 621 (.int 3 613), en P "RULE" 622 (.int 4 614), en P "KERN" 623 (.int 5 615), en P "GLUE" 624 (.int 6 616), en P "PENALTY" 625 (.int 7 617), en P "DISC" 633 (.int 8 626), en P "MARK" 634 (.int 9 627), en P "INSERT" 635 (.int 10 628), en P "ADJUST" 636 (.int 11 629), en P "MATH" 637 (.int 12 630), en P "SPECIAL" 638 (.int 13 631), en P "UNSET" 639 (.int 14 632), en P "NATURAL" 643 (.int 0 640), en P "STRETCHED" 644 (.int 1 641), en P "SHRUNK" 645 (.int 2 642)] 64, #[]⟩
noncomputable def o12_5 (P : Params) : Obj := ⟨.none, none, .fields #[.int 1 0, .int 0 0, .ref 20, .int 6 0, .int 0 0, .ref 31, .int 10 0, .int 0 0, .ref 52, .int 12 0, .int 0 0, .ref 64, .int 14 0, .int 0 0, .ref 76, .int 16 0, .int 0 0, .ref 88, .int 24 0, .int 0 0, .ref 104, .int 26 0, .int 0 0, .ref 111, .int 30 0, .int 0 0, .ref 118, .int 34 0, .int 0 0, .ref 125, .int 38 0, .int 0 0, .ref 132, .int 44 0, .int 0 0, .ref 139, .int 46 0, .int 0 0, .ref 146, .int 57 0, .int 0 0, .ref 153, .int 60 0, .int 0 0, .ref 160, .int 70 0, .int 0 0, .ref 167, .int 86 0, .int 0 0, .ref 174, .int 88 0, .int 0 0, .ref 181, .int 90 0, .int 0 0, .ref 188, .int 128 0, .int 0 0, .ref 260, .int 133 0, .int 0 0, .ref 267], #[]⟩
noncomputable def o262_5 (P : Params) : Obj := ⟨.type "tuple", none, .seq #[] 0, #[]⟩
noncomputable def o263_5 (P : Params) : Obj := ⟨.type "builtin_function_or_method", none, .fields #[.builtin "type.__prepare__", .type "type"], #[]⟩
noncomputable def o264_5 (P : Params) : Obj := ⟨.type "dict", none, .dict #[en P "__module__" 548 (.str "gluepage.scaled" 300), en P "__qualname__" 550 (.str "Totals" 549), en P "__firstlineno__" 552 (.int 133 551), en P "__init__" 559 (.ref 275), en P "add" 567 (.ref 282), en P "widen" 575 (.ref 289), en P "stretch_top" 582 (.ref 296), en P "shrink_top" 589 (.ref 303), en P "copy" 596 (.ref 310), en P "__static_attributes__" 600 (.ref 311)] 10, #[]⟩
noncomputable def o265_5 (P : Params) : Obj := ⟨.type "tuple", none, .seq #[] 0, #[]⟩
noncomputable def o266_5 (P : Params) : Obj := ⟨.none, none, .fields #[.int 135 0, .int 4 0, .ref 274, .int 140 0, .int 4 0, .ref 281, .int 145 0, .int 4 0, .ref 288, .int 148 0, .int 4 0, .ref 295, .int 151 0, .int 4 0, .ref 302, .int 154 0, .int 4 0, .ref 309], #[]⟩
noncomputable def o267_5 (P : Params) : Obj := ⟨.type "code", none, .fields #[.str "Totals" 543, .str "Totals" 544, .str "/claim/cut.py" 545, .int 133 0, .int 0 0, .int 0 0, .int 0 0, .int 0 0, .ref 265, .bool false, .int 181 0, .ref 266, .none, .none, .none, .none, .int 546 0, .int 133 0, .str "/claim/cut.py" 547], #[]⟩
noncomputable def o268_5 (P : Params) : Obj := ⟨.type "frame", none, .plain, #[some (.ref 267), some (.ref 3), some (.ref 264), none, some (.str "gluepage.scaled" 300), none, some (.ref 0)]⟩
noncomputable def o269_5 (P : Params) : Obj := ⟨.type "tuple", none, .seq #[] 0, #[]⟩
noncomputable def o270_5 (P : Params) : Obj := ⟨.none, none, .fields #[], #[]⟩
noncomputable def o271_5 (P : Params) : Obj := ⟨.type "tuple", none, .seq #[.str "self" 556] 0, #[]⟩
noncomputable def o272_5 (P : Params) : Obj := ⟨.type "tuple", none, .seq #[] 0, #[]⟩
noncomputable def o273_5 (P : Params) : Obj := ⟨.none, none, .func (fd (cst 30 0) "Totals.__init__" 0 [] (.none) (.none) (.none) (.none) none (.none) (.none) 0), #[]⟩
noncomputable def o274_5 (P : Params) : Obj := ⟨.type "code", none, .fields #[.str "__init__" 553, .str "Totals.__init__" 554, .str "/claim/cut.py" 555, .int 135 0, .int 1 0, .int 0 0, .int 0 0, .int 3 0, .ref 269, .bool true, .int 181 0, .ref 270, .none, .ref 271, .ref 272, .ref 273, .int 557 0, .int 135 0, .str "/claim/cut.py" 558], #[]⟩
noncomputable def o275_5 (P : Params) : Obj := ⟨.type "function", none, .func (fd (cst 30 0) "Totals.__init__" 3 [] (.none) (.none) (.none) (.str "gluepage.scaled" 300) none (.ref 274) (.none) 0), #[]⟩
noncomputable def o276_5 (P : Params) : Obj := ⟨.type "tuple", none, .seq #[] 0, #[]⟩
noncomputable def o277_5 (P : Params) : Obj := ⟨.none, none, .fields #[], #[]⟩
noncomputable def o278_5 (P : Params) : Obj := ⟨.type "tuple", none, .seq #[.str "self" 563, .str "glue" 564] 0, #[]⟩
noncomputable def o279_5 (P : Params) : Obj := ⟨.type "tuple", none, .seq #[] 0, #[]⟩
noncomputable def o280_5 (P : Params) : Obj := ⟨.none, none, .func (fd (cst 30 1) "Totals.add" 0 [] (.none) (.none) (.none) (.none) none (.none) (.none) 0), #[]⟩
noncomputable def o281_5 (P : Params) : Obj := ⟨.type "code", none, .fields #[.str "add" 560, .str "Totals.add" 561, .str "/claim/cut.py" 562, .int 140 0, .int 2 0, .int 0 0, .int 0 0, .int 3 0, .ref 276, .bool true, .int 181 0, .ref 277, .none, .ref 278, .ref 279, .ref 280, .int 565 0, .int 140 0, .str "/claim/cut.py" 566], #[]⟩
noncomputable def o282_5 (P : Params) : Obj := ⟨.type "function", none, .func (fd (cst 30 1) "Totals.add" 3 [] (.none) (.none) (.none) (.str "gluepage.scaled" 300) none (.ref 281) (.none) 0), #[]⟩
noncomputable def o283_5 (P : Params) : Obj := ⟨.type "tuple", none, .seq #[] 0, #[]⟩
noncomputable def o284_5 (P : Params) : Obj := ⟨.none, none, .fields #[], #[]⟩
noncomputable def o285_5 (P : Params) : Obj := ⟨.type "tuple", none, .seq #[.str "self" 571, .str "width" 572] 0, #[]⟩
noncomputable def o286_5 (P : Params) : Obj := ⟨.type "tuple", none, .seq #[] 0, #[]⟩
noncomputable def o287_5 (P : Params) : Obj := ⟨.none, none, .func (fd (cst 30 2) "Totals.widen" 0 [] (.none) (.none) (.none) (.none) none (.none) (.none) 0), #[]⟩
noncomputable def o288_5 (P : Params) : Obj := ⟨.type "code", none, .fields #[.str "widen" 568, .str "Totals.widen" 569, .str "/claim/cut.py" 570, .int 145 0, .int 2 0, .int 0 0, .int 0 0, .int 3 0, .ref 283, .bool true, .int 181 0, .ref 284, .none, .ref 285, .ref 286, .ref 287, .int 573 0, .int 145 0, .str "/claim/cut.py" 574], #[]⟩
noncomputable def o289_5 (P : Params) : Obj := ⟨.type "function", none, .func (fd (cst 30 2) "Totals.widen" 3 [] (.none) (.none) (.none) (.str "gluepage.scaled" 300) none (.ref 288) (.none) 0), #[]⟩
noncomputable def o290_5 (P : Params) : Obj := ⟨.type "tuple", none, .seq #[] 0, #[]⟩
noncomputable def o291_5 (P : Params) : Obj := ⟨.none, none, .fields #[], #[]⟩
noncomputable def o292_5 (P : Params) : Obj := ⟨.type "tuple", none, .seq #[.str "self" 579] 0, #[]⟩
noncomputable def o293_5 (P : Params) : Obj := ⟨.type "tuple", none, .seq #[] 0, #[]⟩
noncomputable def o294_5 (P : Params) : Obj := ⟨.none, none, .func (fd (cst 30 3) "Totals.stretch_top" 0 [] (.none) (.none) (.none) (.none) none (.none) (.none) 0), #[]⟩
noncomputable def o295_5 (P : Params) : Obj := ⟨.type "code", none, .fields #[.str "stretch_top" 576, .str "Totals.stretch_top" 577, .str "/claim/cut.py" 578, .int 148 0, .int 1 0, .int 0 0, .int 0 0, .int 3 0, .ref 290, .bool true, .int 181 0, .ref 291, .none, .ref 292, .ref 293, .ref 294, .int 580 0, .int 148 0, .str "/claim/cut.py" 581], #[]⟩
noncomputable def o296_5 (P : Params) : Obj := ⟨.type "function", none, .func (fd (cst 30 3) "Totals.stretch_top" 3 [] (.none) (.none) (.none) (.str "gluepage.scaled" 300) none (.ref 295) (.none) 0), #[]⟩
noncomputable def o297_5 (P : Params) : Obj := ⟨.type "tuple", none, .seq #[] 0, #[]⟩
noncomputable def o298_5 (P : Params) : Obj := ⟨.none, none, .fields #[], #[]⟩
noncomputable def o299_5 (P : Params) : Obj := ⟨.type "tuple", none, .seq #[.str "self" 586] 0, #[]⟩
noncomputable def o300_5 (P : Params) : Obj := ⟨.type "tuple", none, .seq #[] 0, #[]⟩
noncomputable def o301_5 (P : Params) : Obj := ⟨.none, none, .func (fd (cst 30 4) "Totals.shrink_top" 0 [] (.none) (.none) (.none) (.none) none (.none) (.none) 0), #[]⟩
noncomputable def o302_5 (P : Params) : Obj := ⟨.type "code", none, .fields #[.str "shrink_top" 583, .str "Totals.shrink_top" 584, .str "/claim/cut.py" 585, .int 151 0, .int 1 0, .int 0 0, .int 0 0, .int 3 0, .ref 297, .bool true, .int 181 0, .ref 298, .none, .ref 299, .ref 300, .ref 301, .int 587 0, .int 151 0, .str "/claim/cut.py" 588], #[]⟩
noncomputable def o303_5 (P : Params) : Obj := ⟨.type "function", none, .func (fd (cst 30 4) "Totals.shrink_top" 3 [] (.none) (.none) (.none) (.str "gluepage.scaled" 300) none (.ref 302) (.none) 0), #[]⟩
noncomputable def o304_5 (P : Params) : Obj := ⟨.type "tuple", none, .seq #[] 0, #[]⟩
noncomputable def o305_5 (P : Params) : Obj := ⟨.none, none, .fields #[], #[]⟩
noncomputable def o306_5 (P : Params) : Obj := ⟨.type "tuple", none, .seq #[.str "self" 593] 0, #[]⟩
noncomputable def o307_5 (P : Params) : Obj := ⟨.type "tuple", none, .seq #[] 0, #[]⟩
noncomputable def o308_5 (P : Params) : Obj := ⟨.none, none, .func (fd (cst 30 5) "Totals.copy" 0 [] (.none) (.none) (.none) (.none) none (.none) (.none) 0), #[]⟩
noncomputable def o309_5 (P : Params) : Obj := ⟨.type "code", none, .fields #[.str "copy" 590, .str "Totals.copy" 591, .str "/claim/cut.py" 592, .int 154 0, .int 1 0, .int 0 0, .int 0 0, .int 3 0, .ref 304, .bool true, .int 181 0, .ref 305, .none, .ref 306, .ref 307, .ref 308, .int 594 0, .int 154 0, .str "/claim/cut.py" 595], #[]⟩
noncomputable def o310_5 (P : Params) : Obj := ⟨.type "function", none, .func (fd (cst 30 5) "Totals.copy" 3 [] (.none) (.none) (.none) (.str "gluepage.scaled" 300) none (.ref 309) (.none) 0), #[]⟩
noncomputable def o311_5 (P : Params) : Obj := ⟨.type "tuple", none, .seq #[.str "natural" 597, .str "shrink" 598, .str "stretch" 599] 0, #[]⟩
noncomputable def o312_5 (P : Params) : Obj := ⟨.type "dict", none, .dict #[en P "__module__" 548 (.str "gluepage.scaled" 300), en P "__firstlineno__" 552 (.int 133 551), en P "__init__" 559 (.ref 275), en P "add" 567 (.ref 282), en P "widen" 575 (.ref 289), en P "stretch_top" 582 (.ref 296), en P "shrink_top" 589 (.ref 303), en P "copy" 596 (.ref 310), en P "__static_attributes__" 600 (.ref 311), en P "__dict__" 602 (.ref 314), en P "__weakref__" 604 (.ref 315), en P "__doc__" 605 (.none)] 4, #[]⟩
noncomputable def o313_5 (P : Params) : Obj := ⟨.type "type", none, .cls ⟨"Totals", [.type "object"], [.ref 313, .type "object"], 312, "Totals", true, [], [], false, none, false⟩, #[none, none, some (.str "Totals" 541), some (.str "Totals" 549), some (.builtin "object.__new__"), some (.bool true)]⟩
noncomputable def o314_5 (P : Params) : Obj := ⟨.type "getset_descriptor", none, .fields #[.str "__dict__" 601, .ref 313, .builtin "function.__dict__", .builtin "function.__dict__#set"], #[]⟩
noncomputable def o315_5 (P : Params) : Obj := ⟨.type "getset_descriptor", none, .fields #[.str "__weakref__" 603, .ref 313, .builtin "ExceptionGroup.__weakref__", .none], #[]⟩
noncomputable def o316_5 (P : Params) : Obj := ⟨.type "super", none, .fields #[.ref 313, .ref 313, .ref 313], #[]⟩
noncomputable def o317_5 (P : Params) : Obj := ⟨.type "builtin_function_or_method", none, .fields #[.builtin "object.__init_subclass__", .ref 313], #[]⟩
noncomputable def o318_5 (P : Params) : Obj := ⟨.type "tuple", none, .seq #[.int 0 610, .int 1 611, .int 2 612, .int 3 613, .int 4 614, .int 5 615, .int 6 616, .int 7 617] 0, #[]⟩
noncomputable def o319_5 (P : Params) : Obj := ⟨.type "tuple_iterator", none, .fields #[.none, .int 8 0], #[]⟩
noncomputable def o320_5 (P : Params) : Obj := ⟨.type "tuple", none, .seq #[] 0, #[]⟩
noncomputable def o321_5 (P : Params) : Obj := ⟨.type "StopIteration", none, .fields #[.ref 320, .none, .none, .none, .bool false, .none], #[]⟩
noncomputable def o322_5 (P : Params) : Obj := ⟨.type "tuple", none, .seq #[.int 8 626, .int 9 627, .int 10 628, .int 11 629, .int 12 630, .int 13 631, .int 14 632] 0, #[]⟩
noncomputable def o323_5 (P : Params) : Obj := ⟨.type "tuple_iterator", none, .fields #[.none, .int 7 0], #[]⟩
noncomputable def o324_5 (P : Params) : Obj := ⟨.type "tuple", none, .seq #[] 0, #[]⟩
noncomputable def o325_5 (P : Params) : Obj := ⟨.type "StopIteration", none, .fields #[.ref 324, .none, .none, .none, .bool false, .none], #[]⟩
noncomputable def o326_5 (P : Params) : Obj := ⟨.type "tuple", none, .seq #[.int 0 640, .int 1 641, .int 2 642] 0, #[]⟩
noncomputable def o327_5 (P : Params) : Obj := ⟨.type "tuple_iterator", none, .fields #[.none, .int 3 0], #[]⟩
noncomputable def o328_5 (P : Params) : Obj := ⟨.type "tuple", none, .seq #[] 0, #[]⟩
noncomputable def o329_5 (P : Params) : Obj := ⟨.type "StopIteration", none, .fields #[.ref 328, .none, .none, .none, .bool false, .none], #[]⟩
noncomputable def tr4 (P : Params) : BT := puts (tr3 P) [(3, o3_5 P), (12, o12_5 P), (262, o262_5 P), (263, o263_5 P), (264, o264_5 P), (265, o265_5 P), (266, o266_5 P), (267, o267_5 P), (268, o268_5 P), (269, o269_5 P), (270, o270_5 P), (271, o271_5 P), (272, o272_5 P), (273, o273_5 P), (274, o274_5 P), (275, o275_5 P), (276, o276_5 P), (277, o277_5 P), (278, o278_5 P), (279, o279_5 P), (280, o280_5 P), (281, o281_5 P), (282, o282_5 P), (283, o283_5 P), (284, o284_5 P), (285, o285_5 P), (286, o286_5 P), (287, o287_5 P), (288, o288_5 P), (289, o289_5 P), (290, o290_5 P), (291, o291_5 P), (292, o292_5 P), (293, o293_5 P), (294, o294_5 P), (295, o295_5 P), (296, o296_5 P), (297, o297_5 P), (298, o298_5 P), (299, o299_5 P), (300, o300_5 P), (301, o301_5 P), (302, o302_5 P), (303, o303_5 P), (304, o304_5 P), (305, o305_5 P), (306, o306_5 P), (307, o307_5 P), (308, o308_5 P), (309, o309_5 P), (310, o310_5 P), (311, o311_5 P), (312, o312_5 P), (313, o313_5 P), (314, o314_5 P), (315, o315_5 P), (316, o316_5 P), (317, o317_5 P), (318, o318_5 P), (319, o319_5 P), (320, o320_5 P), (321, o321_5 P), (322, o322_5 P), (323, o323_5 P), (324, o324_5 P), (325, o325_5 P), (326, o326_5 P), (327, o327_5 P), (328, o328_5 P), (329, o329_5 P)]
noncomputable def o3_6 (P : Params) : Obj := ⟨.type "dict", none, .dict #[en P "__name__" 165 (.str "gluepage.nodes" 608), en P "__doc__" 166 (.none), en P "__package__" 167 (.none), en P "__loader__" 168 (.builtin "__main__.__loader__#opaque"), en P "__spec__" 169 (.none), en P "__annotations__" 170 (.ref 6), en P "__builtins__" 171 (.ref 4), en P "__file__" 173 (.str "/claim/cut.py" 172), en P "__cached__" 174 (.none), en P "_wall" 193 (.ref 21), en P "TOP_SKIP" 200 (.int 7 194), en P "SPLIT_TOP_SKIP" 201 (.int 8 195), en P "TAB_SKIP" 202 (.int 9 196), en P "SPACE_SKIP" 203 (.int 10 197), en P "XSPACE_SKIP" 204 (.int 11 198), en P "PAR_FILL_SKIP" 205 (.int 12 199), en P "PageError" 235 (.ref 43), en P "BadArgument" 251 (.ref 56), en P "Overflow" 267 (.ref 68), en P "BadBox" 283 (.ref 80), en P "TooDeep" 299 (.ref 92), en P "UNITY" 303 (.int 65536 302), en P "MAX_DIMEN" 309 (.int 1073741823 308), en P "MAX_NUMBER" 315 (.int 2147483647 314), en P "INF_BAD" 317 (.int 10000 316), en P "NORMAL" 322 (.int 0 318), en P "FIL" 323 (.int 1 319), en P "FILL" 324 (.int 2 320), en P "FILLL" 325 (.int 3 321), en P "is_whole" 334 (.ref 105), en P "check_whole" 341 (.ref 112), en P "check_number" 348 (.ref 119), en P "check_dimen" 355 (.ref 126), en P "rounded" 363 (.ref 133), en P "reading" 371 (.ref 140), en P "decimal_text" 384 (.ref 147), en P "times" 393 (.ref 154), en P "times_scaled" 394 (.ref 154), en P "over" 404 (.ref 161), en P "over_scaled" 405 (.ref 161), en P "badness" 414 (.ref 168), en P "order_text" 421 (.ref 175), en P "part_text" 430 (.ref 182), en P "Glue" 532 (.ref 250), en P "top_order" 540 (.ref 261), en P "Totals" 607 (.ref 313), en P "CHAR" 618 (.int 0 610), en P "LIGATURE" 619 (.int 1 611), en P "HBOX" 620 (.int 2 612), en P "VBOX" 621 (.int 3 613), en P "RULE" 622 (.int 4 614), en P "KERN" 623 (.int 5 615), en P "GLUE" 624 (.int 6 616), en P "PENALTY" 625 (.int 7 617), en P "DISC" 633 (.int 8 626), en P "MARK" 634 (.int 9 627), en P "INSERT" 635 (.int 10 628), en P "ADJUST" 636 (.int 11 629), en P "MATH" 637 (.int 12 630), en P "SPECIAL" 638 (.int 13 631), en P "UNSET" 639 (.int 14 632), en P "NATURAL" 643 (.int 0 640), en P "STRETCHED" 644 (.int 1 641), en P "SHRUNK" 645 (.int 2 642), en P "FONT_KERN" 650 (.int 0 646), en P "EXPLICIT" 651 (.int 1 647), en P "ACCENT_KERN" 652 (.int 2 648), en P "MU_KERN" 653 (.int 3 649), en P "PLAIN" 661 (.int 0 654), en P "ALEADERS" 662 (.int 1 655), en P "CLEADERS" 663 (.int 2 656), en P "XLEADERS" 664 (.int 3 657), en P "MU_SKIP" 665 (.int 4 658), en P "NONSCRIPT" 666 (.int 5 659), en P "NAMED" 667 (.int 100 660), en P "FOR_DEVICE" 672 (.int 0 668), en P "WRITING" 673 (.int 1 669), en P "OPENING" 674 (.int 2 670), en P "CLOSING" 675 (.int 3 671), en P "DEEPEST" 677 (.int 60 676), en P "Box" 718 (.ref 358), en P "Rule" 753 (.ref 379)] 82, #[]⟩
noncomputable def o12_6 (P : Params) : Obj := ⟨.none, none, .fields #[.int 1 0, .int 0 0, .ref 20, .int 6 0, .int 0 0, .ref 31, .int 10 0, .int 0 0, .ref 52, .int 12 0, .int 0 0, .ref 64, .int 14 0, .int 0 0, .ref 76, .int 16 0, .int 0 0, .ref 88, .int 24 0, .int 0 0, .ref 104, .int 26 0, .int 0 0, .ref 111, .int 30 0, .int 0 0, .ref 118, .int 34 0, .int 0 0, .ref 125, .int 38 0, .int 0 0, .ref 132, .int 44 0, .int 0 0, .ref 139, .int 46 0, .int 0 0, .ref 146, .int 57 0, .int 0 0, .ref 153, .int 60 0, .int 0 0, .ref 160, .int 70 0, .int 0 0, .ref 167, .int 86 0, .int 0 0, .ref 174, .int 88 0, .int 0 0, .ref 181, .int 90 0, .int 0 0, .ref 188, .int 128 0, .int 0 0, .ref 260, .int 133 0, .int 0 0, .ref 267, .int 164 0, .int 0 0, .ref 347, .int 178 0, .int 0 0, .ref 368], #[]⟩
noncomputable def o330_6 (P : Params) : Obj := ⟨.type "tuple", none, .seq #[.int 0 646, .int 1 647, .int 2 648, .int 3 649] 0, #[]⟩
noncomputable def o331_6 (P : Params) : Obj := ⟨.type "tuple_iterator", none, .fields #[.none, .int 4 0], #[]⟩
noncomputable def o332_6 (P : Params) : Obj := ⟨.type "tuple", none, .seq #[] 0, #[]⟩
noncomputable def o333_6 (P : Params) : Obj := ⟨.type "StopIteration", none, .fields #[.ref 332, .none, .none, .none, .bool false, .none], #[]⟩
noncomputable def o334_6 (P : Params) : Obj := ⟨.type "tuple", none, .seq #[.int 0 654, .int 1 655, .int 2 656, .int 3 657, .int 4 658, .int 5 659, .int 100 660] 0, #[]⟩
noncomputable def o335_6 (P : Params) : Obj := ⟨.type "tuple_iterator", none, .fields #[.none, .int 7 0], #[]⟩
noncomputable def o336_6 (P : Params) : Obj := ⟨.type "tuple", none, .seq #[] 0, #[]⟩
noncomputable def o337_6 (P : Params) : Obj := ⟨.type "StopIteration", none, .fields #[.ref 336, .none, .none, .none, .bool false, .none], #[]⟩
noncomputable def o338_6 (P : Params) : Obj := ⟨.type "tuple", none, .seq #[.int 0 668, .int 1 669, .int 2 670, .int 3 671] 0, #[]⟩
noncomputable def o339_6 (P : Params) : Obj := ⟨.type "tuple_iterator", none, .fields #[.none, .int 4 0], #[]⟩
noncomputable def o340_6 (P : Params) : Obj := ⟨.type "tuple", none, .seq #[] 0, #[]⟩
noncomputable def o341_6 (P : Params) : Obj := ⟨.type "StopIteration", none, .fields #[.ref 340, .none, .none, .none, .bool false, .none], #[]⟩
noncomputable def o342_6 (P : Params) : Obj := ⟨.type "tuple", none, .seq #[] 0, #[]⟩
noncomputable def o343_6 (P : Params) : Obj := ⟨.type "builtin_function_or_method", none, .fields #[.builtin "type.__prepare__", .type "type"], #[]⟩
noncomputable def o344_6 (P : Params) : Obj := ⟨.type "dict", none, .dict #[en P "__module__" 685 (.str "gluepage.nodes" 608), en P "__qualname__" 687 (.str "Box" 686), en P "__firstlineno__" 689 (.int 164 688), en P "__init__" 701 (.ref 355), en P "__static_attributes__" 711 (.ref 356)] 5, #[]⟩
noncomputable def o345_6 (P : Params) : Obj := ⟨.type "tuple", none, .seq #[] 0, #[]⟩
noncomputable def o346_6 (P : Params) : Obj := ⟨.none, none, .fields #[.int 166 0, .int 4 0, .ref 354], #[]⟩
noncomputable def o347_6 (P : Params) : Obj := ⟨.type "code", none, .fields #[.str "Box" 680, .str "Box" 681, .str "/claim/cut.py" 682, .int 164 0, .int 0 0, .int 0 0, .int 0 0, .int 0 0, .ref 345, .bool false, .int 181 0, .ref 346, .none, .none, .none, .none, .int 683 0, .int 164 0, .str "/claim/cut.py" 684], #[]⟩
noncomputable def o348_6 (P : Params) : Obj := ⟨.type "frame", none, .plain, #[some (.ref 347), some (.ref 3), some (.ref 344), none, some (.str "gluepage.nodes" 608), none, some (.ref 0)]⟩
noncomputable def o349_6 (P : Params) : Obj := ⟨.type "tuple", none, .seq #[] 0, #[]⟩
noncomputable def o350_6 (P : Params) : Obj := ⟨.none, none, .fields #[], #[]⟩
noncomputable def o351_6 (P : Params) : Obj := ⟨.type "tuple", none, .seq #[.str "self" 693, .str "kind" 694, .str "width" 695, .str "height" 696, .str "depth" 697, .str "items" 698] 0, #[]⟩
noncomputable def o352_6 (P : Params) : Obj := ⟨.type "tuple", none, .seq #[] 0, #[]⟩
noncomputable def o353_6 (P : Params) : Obj := ⟨.none, none, .func (fd (cst 39 0) "Box.__init__" 0 [] (.none) (.none) (.none) (.none) none (.none) (.none) 0), #[]⟩
noncomputable def o354_6 (P : Params) : Obj := ⟨.type "code", none, .fields #[.str "__init__" 690, .str "Box.__init__" 691, .str "/claim/cut.py" 692, .int 166 0, .int 6 0, .int 0 0, .int 0 0, .int 3 0, .ref 349, .bool true, .int 181 0, .ref 350, .none, .ref 351, .ref 352, .ref 353, .int 699 0, .int 166 0, .str "/claim/cut.py" 700], #[]⟩
noncomputable def o355_6 (P : Params) : Obj := ⟨.type "function", none, .func (fd (cst 39 0) "Box.__init__" 3 [] (.none) (.none) (.none) (.str "gluepage.nodes" 608) none (.ref 354) (.none) 0), #[]⟩
noncomputable def o356_6 (P : Params) : Obj := ⟨.type "tuple", none, .seq #[.str "depth" 702, .str "height" 703, .str "items" 704, .str "kind" 705, .str "order" 706, .str "ratio" 707, .str "shift" 708, .str "sign" 709, .str "width" 710] 0, #[]⟩
noncomputable def o357_6 (P : Params) : Obj := ⟨.type "dict", none, .dict #[en P "__module__" 685 (.str "gluepage.nodes" 608), en P "__firstlineno__" 689 (.int 164 688), en P "__init__" 701 (.ref 355), en P "__static_attributes__" 711 (.ref 356), en P "__dict__" 713 (.ref 359), en P "__weakref__" 715 (.ref 360), en P "__doc__" 716 (.none)] 4, #[]⟩
noncomputable def o358_6 (P : Params) : Obj := ⟨.type "type", none, .cls ⟨"Box", [.type "object"], [.ref 358, .type "object"], 357, "Box", true, [], [], false, none, false⟩, #[none, none, some (.str "Box" 678), some (.str "Box" 686), some (.builtin "object.__new__"), some (.bool true)]⟩
noncomputable def o359_6 (P : Params) : Obj := ⟨.type "getset_descriptor", none, .fields #[.str "__dict__" 712, .ref 358, .builtin "function.__dict__", .builtin "function.__dict__#set"], #[]⟩
noncomputable def o360_6 (P : Params) : Obj := ⟨.type "getset_descriptor", none, .fields #[.str "__weakref__" 714, .ref 358, .builtin "ExceptionGroup.__weakref__", .none], #[]⟩
noncomputable def o361_6 (P : Params) : Obj := ⟨.type "super", none, .fields #[.ref 358, .ref 358, .ref 358], #[]⟩
noncomputable def o362_6 (P : Params) : Obj := ⟨.type "builtin_function_or_method", none, .fields #[.builtin "object.__init_subclass__", .ref 358], #[]⟩
noncomputable def o363_6 (P : Params) : Obj := ⟨.type "tuple", none, .seq #[] 0, #[]⟩
noncomputable def o364_6 (P : Params) : Obj := ⟨.type "builtin_function_or_method", none, .fields #[.builtin "type.__prepare__", .type "type"], #[]⟩
noncomputable def o365_6 (P : Params) : Obj := ⟨.type "dict", none, .dict #[en P "__module__" 726 (.str "gluepage.nodes" 608), en P "__qualname__" 728 (.str "Rule" 727), en P "__firstlineno__" 730 (.int 178 729), en P "kind" 731 (.int 4 614), en P "__init__" 742 (.ref 376), en P "__static_attributes__" 746 (.ref 377)] 6, #[]⟩
noncomputable def o366_6 (P : Params) : Obj := ⟨.type "tuple", none, .seq #[] 0, #[]⟩
noncomputable def o367_6 (P : Params) : Obj := ⟨.none, none, .fields #[.int 181 0, .int 4 0, .ref 375], #[]⟩
noncomputable def o368_6 (P : Params) : Obj := ⟨.type "code", none, .fields #[.str "Rule" 721, .str "Rule" 722, .str "/claim/cut.py" 723, .int 178 0, .int 0 0, .int 0 0, .int 0 0, .int 0 0, .ref 366, .bool false, .int 181 0, .ref 367, .none, .none, .none, .none, .int 724 0, .int 178 0, .str "/claim/cut.py" 725], #[]⟩
noncomputable def o369_6 (P : Params) : Obj := ⟨.type "frame", none, .plain, #[some (.ref 368), some (.ref 3), some (.ref 365), none, some (.str "gluepage.nodes" 608), none, some (.ref 0)]⟩
noncomputable def o370_6 (P : Params) : Obj := ⟨.type "tuple", none, .seq #[] 0, #[]⟩
noncomputable def o371_6 (P : Params) : Obj := ⟨.none, none, .fields #[], #[]⟩
noncomputable def o372_6 (P : Params) : Obj := ⟨.type "tuple", none, .seq #[.str "self" 735, .str "width" 736, .str "height" 737, .str "depth" 738, .str "size" 739] 0, #[]⟩
noncomputable def o373_6 (P : Params) : Obj := ⟨.type "tuple", none, .seq #[] 0, #[]⟩
noncomputable def o374_6 (P : Params) : Obj := ⟨.none, none, .func (fd (cst 40 1) "Rule.__init__" 0 [] (.none) (.none) (.none) (.none) none (.none) (.none) 0), #[]⟩
noncomputable def o375_6 (P : Params) : Obj := ⟨.type "code", none, .fields #[.str "__init__" 732, .str "Rule.__init__" 733, .str "/claim/cut.py" 734, .int 181 0, .int 4 0, .int 0 0, .int 0 0, .int 3 0, .ref 370, .bool true, .int 181 0, .ref 371, .none, .ref 372, .ref 373, .ref 374, .int 740 0, .int 181 0, .str "/claim/cut.py" 741], #[]⟩
noncomputable def o376_6 (P : Params) : Obj := ⟨.type "function", none, .func (fd (cst 40 1) "Rule.__init__" 3 [] (.none) (.none) (.none) (.str "gluepage.nodes" 608) none (.ref 375) (.none) 0), #[]⟩
noncomputable def o377_6 (P : Params) : Obj := ⟨.type "tuple", none, .seq #[.str "depth" 743, .str "height" 744, .str "width" 745] 0, #[]⟩
noncomputable def o378_6 (P : Params) : Obj := ⟨.type "dict", none, .dict #[en P "__module__" 726 (.str "gluepage.nodes" 608), en P "__firstlineno__" 730 (.int 178 729), en P "kind" 731 (.int 4 614), en P "__init__" 742 (.ref 376), en P "__static_attributes__" 746 (.ref 377), en P "__dict__" 748 (.ref 380), en P "__weakref__" 750 (.ref 381), en P "__doc__" 751 (.none)] 4, #[]⟩
noncomputable def o379_6 (P : Params) : Obj := ⟨.type "type", none, .cls ⟨"Rule", [.type "object"], [.ref 379, .type "object"], 378, "Rule", true, [], [], false, none, false⟩, #[none, none, some (.str "Rule" 719), some (.str "Rule" 727), some (.builtin "object.__new__"), some (.bool true)]⟩
noncomputable def o380_6 (P : Params) : Obj := ⟨.type "getset_descriptor", none, .fields #[.str "__dict__" 747, .ref 379, .builtin "function.__dict__", .builtin "function.__dict__#set"], #[]⟩
noncomputable def o381_6 (P : Params) : Obj := ⟨.type "getset_descriptor", none, .fields #[.str "__weakref__" 749, .ref 379, .builtin "ExceptionGroup.__weakref__", .none], #[]⟩
noncomputable def o382_6 (P : Params) : Obj := ⟨.type "super", none, .fields #[.ref 379, .ref 379, .ref 379], #[]⟩
noncomputable def o383_6 (P : Params) : Obj := ⟨.type "builtin_function_or_method", none, .fields #[.builtin "object.__init_subclass__", .ref 379], #[]⟩
noncomputable def tr5 (P : Params) : BT := puts (tr4 P) [(3, o3_6 P), (12, o12_6 P), (330, o330_6 P), (331, o331_6 P), (332, o332_6 P), (333, o333_6 P), (334, o334_6 P), (335, o335_6 P), (336, o336_6 P), (337, o337_6 P), (338, o338_6 P), (339, o339_6 P), (340, o340_6 P), (341, o341_6 P), (342, o342_6 P), (343, o343_6 P), (344, o344_6 P), (345, o345_6 P), (346, o346_6 P), (347, o347_6 P), (348, o348_6 P), (349, o349_6 P), (350, o350_6 P), (351, o351_6 P), (352, o352_6 P), (353, o353_6 P), (354, o354_6 P), (355, o355_6 P), (356, o356_6 P), (357, o357_6 P), (358, o358_6 P), (359, o359_6 P), (360, o360_6 P), (361, o361_6 P), (362, o362_6 P), (363, o363_6 P), (364, o364_6 P), (365, o365_6 P), (366, o366_6 P), (367, o367_6 P), (368, o368_6 P), (369, o369_6 P), (370, o370_6 P), (371, o371_6 P), (372, o372_6 P), (373, o373_6 P), (374, o374_6 P), (375, o375_6 P), (376, o376_6 P), (377, o377_6 P), (378, o378_6 P), (379, o379_6 P), (380, o380_6 P), (381, o381_6 P), (382, o382_6 P), (383, o383_6 P)]
noncomputable def o3_7 (P : Params) : Obj := ⟨.type "dict", none, .dict #[en P "__name__" 165 (.str "gluepage.nodes" 608), en P "__doc__" 166 (.none), en P "__package__" 167 (.none), en P "__loader__" 168 (.builtin "__main__.__loader__#opaque"), en P "__spec__" 169 (.none), en P "__annotations__" 170 (.ref 6), en P "__builtins__" 171 (.ref 4), en P "__file__" 173 (.str "/claim/cut.py" 172), en P "__cached__" 174 (.none), en P "_wall" 193 (.ref 21), en P "TOP_SKIP" 200 (.int 7 194), en P "SPLIT_TOP_SKIP" 201 (.int 8 195), en P "TAB_SKIP" 202 (.int 9 196), en P "SPACE_SKIP" 203 (.int 10 197), en P "XSPACE_SKIP" 204 (.int 11 198), en P "PAR_FILL_SKIP" 205 (.int 12 199), en P "PageError" 235 (.ref 43), en P "BadArgument" 251 (.ref 56), en P "Overflow" 267 (.ref 68), en P "BadBox" 283 (.ref 80), en P "TooDeep" 299 (.ref 92), en P "UNITY" 303 (.int 65536 302), en P "MAX_DIMEN" 309 (.int 1073741823 308), en P "MAX_NUMBER" 315 (.int 2147483647 314), en P "INF_BAD" 317 (.int 10000 316), en P "NORMAL" 322 (.int 0 318), en P "FIL" 323 (.int 1 319), en P "FILL" 324 (.int 2 320), en P "FILLL" 325 (.int 3 321), en P "is_whole" 334 (.ref 105), en P "check_whole" 341 (.ref 112), en P "check_number" 348 (.ref 119), en P "check_dimen" 355 (.ref 126), en P "rounded" 363 (.ref 133), en P "reading" 371 (.ref 140), en P "decimal_text" 384 (.ref 147), en P "times" 393 (.ref 154), en P "times_scaled" 394 (.ref 154), en P "over" 404 (.ref 161), en P "over_scaled" 405 (.ref 161), en P "badness" 414 (.ref 168), en P "order_text" 421 (.ref 175), en P "part_text" 430 (.ref 182), en P "Glue" 532 (.ref 250), en P "top_order" 540 (.ref 261), en P "Totals" 607 (.ref 313), en P "CHAR" 618 (.int 0 610), en P "LIGATURE" 619 (.int 1 611), en P "HBOX" 620 (.int 2 612), en P "VBOX" 621 (.int 3 613), en P "RULE" 622 (.int 4 614), en P "KERN" 623 (.int 5 615), en P "GLUE" 624 (.int 6 616), en P "PENALTY" 625 (.int 7 617), en P "DISC" 633 (.int 8 626), en P "MARK" 634 (.int 9 627), en P "INSERT" 635 (.int 10 628), en P "ADJUST" 636 (.int 11 629), en P "MATH" 637 (.int 12 630), en P "SPECIAL" 638 (.int 13 631), en P "UNSET" 639 (.int 14 632), en P "NATURAL" 643 (.int 0 640), en P "STRETCHED" 644 (.int 1 641), en P "SHRUNK" 645 (.int 2 642), en P "FONT_KERN" 650 (.int 0 646), en P "EXPLICIT" 651 (.int 1 647), en P "ACCENT_KERN" 652 (.int 2 648), en P "MU_KERN" 653 (.int 3 649), en P "PLAIN" 661 (.int 0 654), en P "ALEADERS" 662 (.int 1 655), en P "CLEADERS" 663 (.int 2 656), en P "XLEADERS" 664 (.int 3 657), en P "MU_SKIP" 665 (.int 4 658), en P "NONSCRIPT" 666 (.int 5 659), en P "NAMED" 667 (.int 100 660), en P "FOR_DEVICE" 672 (.int 0 668), en P "WRITING" 673 (.int 1 669), en P "OPENING" 674 (.int 2 670), en P "CLOSING" 675 (.int 3 671), en P "DEEPEST" 677 (.int 60 676), en P "Box" 718 (.ref 358), en P "Rule" 753 (.ref 379), en P "Kern" 785 (.ref 400), en P "Skip" 819 (.ref 422), en P "Penalty" 849 (.ref 443)] 85, #[]⟩
noncomputable def o12_7 (P : Params) : Obj := ⟨.none, none, .fields #[.int 1 0, .int 0 0, .ref 20, .int 6 0, .int 0 0, .ref 31, .int 10 0, .int 0 0, .ref 52, .int 12 0, .int 0 0, .ref 64, .int 14 0, .int 0 0, .ref 76, .int 16 0, .int 0 0, .ref 88, .int 24 0, .int 0 0, .ref 104, .int 26 0, .int 0 0, .ref 111, .int 30 0, .int 0 0, .ref 118, .int 34 0, .int 0 0, .ref 125, .int 38 0, .int 0 0, .ref 132, .int 44 0, .int 0 0, .ref 139, .int 46 0, .int 0 0, .ref 146, .int 57 0, .int 0 0, .ref 153, .int 60 0, .int 0 0, .ref 160, .int 70 0, .int 0 0, .ref 167, .int 86 0, .int 0 0, .ref 174, .int 88 0, .int 0 0, .ref 181, .int 90 0, .int 0 0, .ref 188, .int 128 0, .int 0 0, .ref 260, .int 133 0, .int 0 0, .ref 267, .int 164 0, .int 0 0, .ref 347, .int 178 0, .int 0 0, .ref 368, .int 188 0, .int 0 0, .ref 389, .int 196 0, .int 0 0, .ref 410, .int 209 0, .int 0 0, .ref 432], #[]⟩
noncomputable def o384_7 (P : Params) : Obj := ⟨.type "tuple", none, .seq #[] 0, #[]⟩
noncomputable def o385_7 (P : Params) : Obj := ⟨.type "builtin_function_or_method", none, .fields #[.builtin "type.__prepare__", .type "type"], #[]⟩
noncomputable def o386_7 (P : Params) : Obj := ⟨.type "dict", none, .dict #[en P "__module__" 761 (.str "gluepage.nodes" 608), en P "__qualname__" 763 (.str "Kern" 762), en P "__firstlineno__" 765 (.int 188 764), en P "kind" 766 (.int 5 615), en P "__init__" 775 (.ref 397), en P "__static_attributes__" 778 (.ref 398)] 6, #[]⟩
noncomputable def o387_7 (P : Params) : Obj := ⟨.type "tuple", none, .seq #[] 0, #[]⟩
noncomputable def o388_7 (P : Params) : Obj := ⟨.none, none, .fields #[.int 191 0, .int 4 0, .ref 396], #[]⟩
noncomputable def o389_7 (P : Params) : Obj := ⟨.type "code", none, .fields #[.str "Kern" 756, .str "Kern" 757, .str "/claim/cut.py" 758, .int 188 0, .int 0 0, .int 0 0, .int 0 0, .int 0 0, .ref 387, .bool false, .int 181 0, .ref 388, .none, .none, .none, .none, .int 759 0, .int 188 0, .str "/claim/cut.py" 760], #[]⟩
noncomputable def o390_7 (P : Params) : Obj := ⟨.type "frame", none, .plain, #[some (.ref 389), some (.ref 3), some (.ref 386), none, some (.str "gluepage.nodes" 608), none, some (.ref 0)]⟩
noncomputable def o391_7 (P : Params) : Obj := ⟨.type "tuple", none, .seq #[] 0, #[]⟩
noncomputable def o392_7 (P : Params) : Obj := ⟨.none, none, .fields #[], #[]⟩
noncomputable def o393_7 (P : Params) : Obj := ⟨.type "tuple", none, .seq #[.str "self" 770, .str "width" 771, .str "sort" 772] 0, #[]⟩
noncomputable def o394_7 (P : Params) : Obj := ⟨.type "tuple", none, .seq #[] 0, #[]⟩
noncomputable def o395_7 (P : Params) : Obj := ⟨.none, none, .func (fd (cst 41 1) "Kern.__init__" 0 [] (.none) (.none) (.none) (.none) none (.none) (.none) 0), #[]⟩
noncomputable def o396_7 (P : Params) : Obj := ⟨.type "code", none, .fields #[.str "__init__" 767, .str "Kern.__init__" 768, .str "/claim/cut.py" 769, .int 191 0, .int 3 0, .int 0 0, .int 0 0, .int 3 0, .ref 391, .bool true, .int 181 0, .ref 392, .none, .ref 393, .ref 394, .ref 395, .int 773 0, .int 191 0, .str "/claim/cut.py" 774], #[]⟩
noncomputable def o397_7 (P : Params) : Obj := ⟨.type "function", none, .func (fd (cst 41 1) "Kern.__init__" 3 [] (.none) (.none) (.none) (.str "gluepage.nodes" 608) none (.ref 396) (.none) 0), #[]⟩
noncomputable def o398_7 (P : Params) : Obj := ⟨.type "tuple", none, .seq #[.str "sort" 776, .str "width" 777] 0, #[]⟩
noncomputable def o399_7 (P : Params) : Obj := ⟨.type "dict", none, .dict #[en P "__module__" 761 (.str "gluepage.nodes" 608), en P "__firstlineno__" 765 (.int 188 764), en P "kind" 766 (.int 5 615), en P "__init__" 775 (.ref 397), en P "__static_attributes__" 778 (.ref 398), en P "__dict__" 780 (.ref 401), en P "__weakref__" 782 (.ref 402), en P "__doc__" 783 (.none)] 4, #[]⟩
noncomputable def o400_7 (P : Params) : Obj := ⟨.type "type", none, .cls ⟨"Kern", [.type "object"], [.ref 400, .type "object"], 399, "Kern", true, [], [], false, none, false⟩, #[none, none, some (.str "Kern" 754), some (.str "Kern" 762), some (.builtin "object.__new__"), some (.bool true)]⟩
noncomputable def o401_7 (P : Params) : Obj := ⟨.type "getset_descriptor", none, .fields #[.str "__dict__" 779, .ref 400, .builtin "function.__dict__", .builtin "function.__dict__#set"], #[]⟩
noncomputable def o402_7 (P : Params) : Obj := ⟨.type "getset_descriptor", none, .fields #[.str "__weakref__" 781, .ref 400, .builtin "ExceptionGroup.__weakref__", .none], #[]⟩
noncomputable def o403_7 (P : Params) : Obj := ⟨.type "super", none, .fields #[.ref 400, .ref 400, .ref 400], #[]⟩
noncomputable def o404_7 (P : Params) : Obj := ⟨.type "builtin_function_or_method", none, .fields #[.builtin "object.__init_subclass__", .ref 400], #[]⟩
noncomputable def o405_7 (P : Params) : Obj := ⟨.type "tuple", none, .seq #[] 0, #[]⟩
noncomputable def o406_7 (P : Params) : Obj := ⟨.type "builtin_function_or_method", none, .fields #[.builtin "type.__prepare__", .type "type"], #[]⟩
noncomputable def o407_7 (P : Params) : Obj := ⟨.type "dict", none, .dict #[en P "__module__" 793 (.str "gluepage.nodes" 608), en P "__qualname__" 795 (.str "Skip" 794), en P "__firstlineno__" 797 (.int 196 796), en P "kind" 798 (.int 6 616), en P "__init__" 808 (.ref 419), en P "__static_attributes__" 812 (.ref 420)] 6, #[]⟩
noncomputable def o408_7 (P : Params) : Obj := ⟨.type "tuple", none, .seq #[] 0, #[]⟩
noncomputable def o409_7 (P : Params) : Obj := ⟨.none, none, .fields #[.int 199 0, .int 4 0, .ref 418], #[]⟩
noncomputable def o410_7 (P : Params) : Obj := ⟨.type "code", none, .fields #[.str "Skip" 788, .str "Skip" 789, .str "/claim/cut.py" 790, .int 196 0, .int 0 0, .int 0 0, .int 0 0, .int 0 0, .ref 408, .bool false, .int 181 0, .ref 409, .none, .none, .none, .none, .int 791 0, .int 196 0, .str "/claim/cut.py" 792], #[]⟩
noncomputable def o411_7 (P : Params) : Obj := ⟨.type "frame", none, .plain, #[some (.ref 410), some (.ref 3), some (.ref 407), none, some (.str "gluepage.nodes" 608), none, some (.ref 0)]⟩
noncomputable def o412_7 (P : Params) : Obj := ⟨.type "tuple", none, .seq #[.none] 0, #[]⟩
noncomputable def o413_7 (P : Params) : Obj := ⟨.type "tuple", none, .seq #[] 0, #[]⟩
noncomputable def o414_7 (P : Params) : Obj := ⟨.none, none, .fields #[], #[]⟩
noncomputable def o415_7 (P : Params) : Obj := ⟨.type "tuple", none, .seq #[.str "self" 802, .str "glue" 803, .str "sort" 804, .str "leader" 805] 0, #[]⟩
noncomputable def o416_7 (P : Params) : Obj := ⟨.type "tuple", none, .seq #[] 0, #[]⟩
noncomputable def o417_7 (P : Params) : Obj := ⟨.none, none, .func (fd (cst 42 1) "Skip.__init__" 0 [] (.none) (.none) (.none) (.none) none (.none) (.none) 0), #[]⟩
noncomputable def o418_7 (P : Params) : Obj := ⟨.type "code", none, .fields #[.str "__init__" 799, .str "Skip.__init__" 800, .str "/claim/cut.py" 801, .int 199 0, .int 4 0, .int 0 0, .int 0 0, .int 3 0, .ref 413, .bool true, .int 181 0, .ref 414, .none, .ref 415, .ref 416, .ref 417, .int 806 0, .int 199 0, .str "/claim/cut.py" 807], #[]⟩
noncomputable def o419_7 (P : Params) : Obj := ⟨.type "function", none, .func (fd (cst 42 1) "Skip.__init__" 3 [] (.ref 412) (.none) (.none) (.str "gluepage.nodes" 608) none (.ref 418) (.none) 0), #[]⟩
noncomputable def o420_7 (P : Params) : Obj := ⟨.type "tuple", none, .seq #[.str "glue" 809, .str "leader" 810, .str "sort" 811] 0, #[]⟩
noncomputable def o421_7 (P : Params) : Obj := ⟨.type "dict", none, .dict #[en P "__module__" 793 (.str "gluepage.nodes" 608), en P "__firstlineno__" 797 (.int 196 796), en P "kind" 798 (.int 6 616), en P "__init__" 808 (.ref 419), en P "__static_attributes__" 812 (.ref 420), en P "__dict__" 814 (.ref 423), en P "__weakref__" 816 (.ref 424), en P "__doc__" 817 (.none)] 4, #[]⟩
noncomputable def o422_7 (P : Params) : Obj := ⟨.type "type", none, .cls ⟨"Skip", [.type "object"], [.ref 422, .type "object"], 421, "Skip", true, [], [], false, none, false⟩, #[none, none, some (.str "Skip" 786), some (.str "Skip" 794), some (.builtin "object.__new__"), some (.bool true)]⟩
noncomputable def o423_7 (P : Params) : Obj := ⟨.type "getset_descriptor", none, .fields #[.str "__dict__" 813, .ref 422, .builtin "function.__dict__", .builtin "function.__dict__#set"], #[]⟩
noncomputable def o424_7 (P : Params) : Obj := ⟨.type "getset_descriptor", none, .fields #[.str "__weakref__" 815, .ref 422, .builtin "ExceptionGroup.__weakref__", .none], #[]⟩
noncomputable def o425_7 (P : Params) : Obj := ⟨.type "super", none, .fields #[.ref 422, .ref 422, .ref 422], #[]⟩
noncomputable def o426_7 (P : Params) : Obj := ⟨.type "builtin_function_or_method", none, .fields #[.builtin "object.__init_subclass__", .ref 422], #[]⟩
noncomputable def o427_7 (P : Params) : Obj := ⟨.type "tuple", none, .seq #[] 0, #[]⟩
noncomputable def o428_7 (P : Params) : Obj := ⟨.type "builtin_function_or_method", none, .fields #[.builtin "type.__prepare__", .type "type"], #[]⟩
noncomputable def o429_7 (P : Params) : Obj := ⟨.type "dict", none, .dict #[en P "__module__" 827 (.str "gluepage.nodes" 608), en P "__qualname__" 829 (.str "Penalty" 828), en P "__firstlineno__" 831 (.int 209 830), en P "kind" 832 (.int 7 617), en P "__init__" 840 (.ref 440), en P "__static_attributes__" 842 (.ref 441)] 6, #[]⟩
noncomputable def o430_7 (P : Params) : Obj := ⟨.type "tuple", none, .seq #[] 0, #[]⟩
noncomputable def o431_7 (P : Params) : Obj := ⟨.none, none, .fields #[.int 212 0, .int 4 0, .ref 439], #[]⟩
noncomputable def o432_7 (P : Params) : Obj := ⟨.type "code", none, .fields #[.str "Penalty" 822, .str "Penalty" 823, .str "/claim/cut.py" 824, .int 209 0, .int 0 0, .int 0 0, .int 0 0, .int 0 0, .ref 430, .bool false, .int 181 0, .ref 431, .none, .none, .none, .none, .int 825 0, .int 209 0, .str "/claim/cut.py" 826], #[]⟩
noncomputable def o433_7 (P : Params) : Obj := ⟨.type "frame", none, .plain, #[some (.ref 432), some (.ref 3), some (.ref 429), none, some (.str "gluepage.nodes" 608), none, some (.ref 0)]⟩
noncomputable def o434_7 (P : Params) : Obj := ⟨.type "tuple", none, .seq #[] 0, #[]⟩
noncomputable def o435_7 (P : Params) : Obj := ⟨.none, none, .fields #[], #[]⟩
noncomputable def o436_7 (P : Params) : Obj := ⟨.type "tuple", none, .seq #[.str "self" 836, .str "value" 837] 0, #[]⟩
noncomputable def o437_7 (P : Params) : Obj := ⟨.type "tuple", none, .seq #[] 0, #[]⟩
noncomputable def o438_7 (P : Params) : Obj := ⟨.none, none, .func (fd (cst 43 1) "Penalty.__init__" 0 [] (.none) (.none) (.none) (.none) none (.none) (.none) 0), #[]⟩
noncomputable def o439_7 (P : Params) : Obj := ⟨.type "code", none, .fields #[.str "__init__" 833, .str "Penalty.__init__" 834, .str "/claim/cut.py" 835, .int 212 0, .int 2 0, .int 0 0, .int 0 0, .int 3 0, .ref 434, .bool true, .int 181 0, .ref 435, .none, .ref 436, .ref 437, .ref 438, .int 838 0, .int 212 0, .str "/claim/cut.py" 839], #[]⟩
noncomputable def o440_7 (P : Params) : Obj := ⟨.type "function", none, .func (fd (cst 43 1) "Penalty.__init__" 3 [] (.none) (.none) (.none) (.str "gluepage.nodes" 608) none (.ref 439) (.none) 0), #[]⟩
noncomputable def o441_7 (P : Params) : Obj := ⟨.type "tuple", none, .seq #[.str "value" 841] 0, #[]⟩
noncomputable def o442_7 (P : Params) : Obj := ⟨.type "dict", none, .dict #[en P "__module__" 827 (.str "gluepage.nodes" 608), en P "__firstlineno__" 831 (.int 209 830), en P "kind" 832 (.int 7 617), en P "__init__" 840 (.ref 440), en P "__static_attributes__" 842 (.ref 441), en P "__dict__" 844 (.ref 444), en P "__weakref__" 846 (.ref 445), en P "__doc__" 847 (.none)] 4, #[]⟩
noncomputable def o443_7 (P : Params) : Obj := ⟨.type "type", none, .cls ⟨"Penalty", [.type "object"], [.ref 443, .type "object"], 442, "Penalty", true, [], [], false, none, false⟩, #[none, none, some (.str "Penalty" 820), some (.str "Penalty" 828), some (.builtin "object.__new__"), some (.bool true)]⟩
noncomputable def o444_7 (P : Params) : Obj := ⟨.type "getset_descriptor", none, .fields #[.str "__dict__" 843, .ref 443, .builtin "function.__dict__", .builtin "function.__dict__#set"], #[]⟩
noncomputable def o445_7 (P : Params) : Obj := ⟨.type "getset_descriptor", none, .fields #[.str "__weakref__" 845, .ref 443, .builtin "ExceptionGroup.__weakref__", .none], #[]⟩
noncomputable def o446_7 (P : Params) : Obj := ⟨.type "super", none, .fields #[.ref 443, .ref 443, .ref 443], #[]⟩
noncomputable def o447_7 (P : Params) : Obj := ⟨.type "builtin_function_or_method", none, .fields #[.builtin "object.__init_subclass__", .ref 443], #[]⟩
noncomputable def tr6 (P : Params) : BT := puts (tr5 P) [(3, o3_7 P), (12, o12_7 P), (384, o384_7 P), (385, o385_7 P), (386, o386_7 P), (387, o387_7 P), (388, o388_7 P), (389, o389_7 P), (390, o390_7 P), (391, o391_7 P), (392, o392_7 P), (393, o393_7 P), (394, o394_7 P), (395, o395_7 P), (396, o396_7 P), (397, o397_7 P), (398, o398_7 P), (399, o399_7 P), (400, o400_7 P), (401, o401_7 P), (402, o402_7 P), (403, o403_7 P), (404, o404_7 P), (405, o405_7 P), (406, o406_7 P), (407, o407_7 P), (408, o408_7 P), (409, o409_7 P), (410, o410_7 P), (411, o411_7 P), (412, o412_7 P), (413, o413_7 P), (414, o414_7 P), (415, o415_7 P), (416, o416_7 P), (417, o417_7 P), (418, o418_7 P), (419, o419_7 P), (420, o420_7 P), (421, o421_7 P), (422, o422_7 P), (423, o423_7 P), (424, o424_7 P), (425, o425_7 P), (426, o426_7 P), (427, o427_7 P), (428, o428_7 P), (429, o429_7 P), (430, o430_7 P), (431, o431_7 P), (432, o432_7 P), (433, o433_7 P), (434, o434_7 P), (435, o435_7 P), (436, o436_7 P), (437, o437_7 P), (438, o438_7 P), (439, o439_7 P), (440, o440_7 P), (441, o441_7 P), (442, o442_7 P), (443, o443_7 P), (444, o444_7 P), (445, o445_7 P), (446, o446_7 P), (447, o447_7 P)]
noncomputable def o3_8 (P : Params) : Obj := ⟨.type "dict", none, .dict #[en P "__name__" 165 (.str "gluepage.nodes" 608), en P "__doc__" 166 (.none), en P "__package__" 167 (.none), en P "__loader__" 168 (.builtin "__main__.__loader__#opaque"), en P "__spec__" 169 (.none), en P "__annotations__" 170 (.ref 6), en P "__builtins__" 171 (.ref 4), en P "__file__" 173 (.str "/claim/cut.py" 172), en P "__cached__" 174 (.none), en P "_wall" 193 (.ref 21), en P "TOP_SKIP" 200 (.int 7 194), en P "SPLIT_TOP_SKIP" 201 (.int 8 195), en P "TAB_SKIP" 202 (.int 9 196), en P "SPACE_SKIP" 203 (.int 10 197), en P "XSPACE_SKIP" 204 (.int 11 198), en P "PAR_FILL_SKIP" 205 (.int 12 199), en P "PageError" 235 (.ref 43), en P "BadArgument" 251 (.ref 56), en P "Overflow" 267 (.ref 68), en P "BadBox" 283 (.ref 80), en P "TooDeep" 299 (.ref 92), en P "UNITY" 303 (.int 65536 302), en P "MAX_DIMEN" 309 (.int 1073741823 308), en P "MAX_NUMBER" 315 (.int 2147483647 314), en P "INF_BAD" 317 (.int 10000 316), en P "NORMAL" 322 (.int 0 318), en P "FIL" 323 (.int 1 319), en P "FILL" 324 (.int 2 320), en P "FILLL" 325 (.int 3 321), en P "is_whole" 334 (.ref 105), en P "check_whole" 341 (.ref 112), en P "check_number" 348 (.ref 119), en P "check_dimen" 355 (.ref 126), en P "rounded" 363 (.ref 133), en P "reading" 371 (.ref 140), en P "decimal_text" 384 (.ref 147), en P "times" 393 (.ref 154), en P "times_scaled" 394 (.ref 154), en P "over" 404 (.ref 161), en P "over_scaled" 405 (.ref 161), en P "badness" 414 (.ref 168), en P "order_text" 421 (.ref 175), en P "part_text" 430 (.ref 182), en P "Glue" 532 (.ref 250), en P "top_order" 540 (.ref 261), en P "Totals" 607 (.ref 313), en P "CHAR" 618 (.int 0 610), en P "LIGATURE" 619 (.int 1 611), en P "HBOX" 620 (.int 2 612), en P "VBOX" 621 (.int 3 613), en P "RULE" 622 (.int 4 614), en P "KERN" 623 (.int 5 615), en P "GLUE" 624 (.int 6 616), en P "PENALTY" 625 (.int 7 617), en P "DISC" 633 (.int 8 626), en P "MARK" 634 (.int 9 627), en P "INSERT" 635 (.int 10 628), en P "ADJUST" 636 (.int 11 629), en P "MATH" 637 (.int 12 630), en P "SPECIAL" 638 (.int 13 631), en P "UNSET" 639 (.int 14 632), en P "NATURAL" 643 (.int 0 640), en P "STRETCHED" 644 (.int 1 641), en P "SHRUNK" 645 (.int 2 642), en P "FONT_KERN" 650 (.int 0 646), en P "EXPLICIT" 651 (.int 1 647), en P "ACCENT_KERN" 652 (.int 2 648), en P "MU_KERN" 653 (.int 3 649), en P "PLAIN" 661 (.int 0 654), en P "ALEADERS" 662 (.int 1 655), en P "CLEADERS" 663 (.int 2 656), en P "XLEADERS" 664 (.int 3 657), en P "MU_SKIP" 665 (.int 4 658), en P "NONSCRIPT" 666 (.int 5 659), en P "NAMED" 667 (.int 100 660), en P "FOR_DEVICE" 672 (.int 0 668), en P "WRITING" 673 (.int 1 669), en P "OPENING" 674 (.int 2 670), en P "CLOSING" 675 (.int 3 671), en P "DEEPEST" 677 (.int 60 676), en P "Box" 718 (.ref 358), en P "Rule" 753 (.ref 379), en P "Kern" 785 (.ref 400), en P "Skip" 819 (.ref 422), en P "Penalty" 849 (.ref 443), en P "Mark" 879 (.ref 464), en P "Insert" 919 (.ref 485), en P "Special" 951 (.ref 506), en P "check_depth" 958 (.ref 517), en P "described_special" 964 (.ref 522), en P "described_rest" 975 (.ref 529), en P "described" 982 (.ref 535), en P "described_list" 989 (.ref 541), en P "width_of" 995 (.ref 546)] 94, #[]⟩
noncomputable def o12_8 (P : Params) : Obj := ⟨.none, none, .fields #[.int 1 0, .int 0 0, .ref 20, .int 6 0, .int 0 0, .ref 31, .int 10 0, .int 0 0, .ref 52, .int 12 0, .int 0 0, .ref 64, .int 14 0, .int 0 0, .ref 76, .int 16 0, .int 0 0, .ref 88, .int 24 0, .int 0 0, .ref 104, .int 26 0, .int 0 0, .ref 111, .int 30 0, .int 0 0, .ref 118, .int 34 0, .int 0 0, .ref 125, .int 38 0, .int 0 0, .ref 132, .int 44 0, .int 0 0, .ref 139, .int 46 0, .int 0 0, .ref 146, .int 57 0, .int 0 0, .ref 153, .int 60 0, .int 0 0, .ref 160, .int 70 0, .int 0 0, .ref 167, .int 86 0, .int 0 0, .ref 174, .int 88 0, .int 0 0, .ref 181, .int 90 0, .int 0 0, .ref 188, .int 128 0, .int 0 0, .ref 260, .int 133 0, .int 0 0, .ref 267, .int 164 0, .int 0 0, .ref 347, .int 178 0, .int 0 0, .ref 368, .int 188 0, .int 0 0, .ref 389, .int 196 0, .int 0 0, .ref 410, .int 209 0, .int 0 0, .ref 432, .int 214 0, .int 0 0, .ref 453, .int 219 0, .int 0 0, .ref 474, .int 231 0, .int 0 0, .ref 495, .int 242 0, .int 0 0, .ref 516, .int 245 0, .int 0 0, .ref 521, .int 251 0, .int 0 0, .ref 528, .int 266 0, .int 0 0, .ref 534, .int 289 0, .int 0 0, .ref 540, .int 291 0, .int 0 0, .ref 545], #[]⟩
noncomputable def o448_8 (P : Params) : Obj := ⟨.type "tuple", none, .seq #[] 0, #[]⟩
noncomputable def o449_8 (P : Params) : Obj := ⟨.type "builtin_function_or_method", none, .fields #[.builtin "type.__prepare__", .type "type"], #[]⟩
noncomputable def o450_8 (P : Params) : Obj := ⟨.type "dict", none, .dict #[en P "__module__" 857 (.str "gluepage.nodes" 608), en P "__qualname__" 859 (.str "Mark" 858), en P "__firstlineno__" 861 (.int 214 860), en P "kind" 862 (.int 9 627), en P "__init__" 870 (.ref 461), en P "__static_attributes__" 872 (.ref 462)] 6, #[]⟩
noncomputable def o451_8 (P : Params) : Obj := ⟨.type "tuple", none, .seq #[] 0, #[]⟩
noncomputable def o452_8 (P : Params) : Obj := ⟨.none, none, .fields #[.int 217 0, .int 4 0, .ref 460], #[]⟩
noncomputable def o453_8 (P : Params) : Obj := ⟨.type "code", none, .fields #[.str "Mark" 852, .str "Mark" 853, .str "/claim/cut.py" 854, .int 214 0, .int 0 0, .int 0 0, .int 0 0, .int 0 0, .ref 451, .bool false, .int 181 0, .ref 452, .none, .none, .none, .none, .int 855 0, .int 214 0, .str "/claim/cut.py" 856], #[]⟩
noncomputable def o454_8 (P : Params) : Obj := ⟨.type "frame", none, .plain, #[some (.ref 453), some (.ref 3), some (.ref 450), none, some (.str "gluepage.nodes" 608), none, some (.ref 0)]⟩
noncomputable def o455_8 (P : Params) : Obj := ⟨.type "tuple", none, .seq #[] 0, #[]⟩
noncomputable def o456_8 (P : Params) : Obj := ⟨.none, none, .fields #[], #[]⟩
noncomputable def o457_8 (P : Params) : Obj := ⟨.type "tuple", none, .seq #[.str "self" 866, .str "tokens" 867] 0, #[]⟩
noncomputable def o458_8 (P : Params) : Obj := ⟨.type "tuple", none, .seq #[] 0, #[]⟩
noncomputable def o459_8 (P : Params) : Obj := ⟨.none, none, .func (fd (cst 44 1) "Mark.__init__" 0 [] (.none) (.none) (.none) (.none) none (.none) (.none) 0), #[]⟩
noncomputable def o460_8 (P : Params) : Obj := ⟨.type "code", none, .fields #[.str "__init__" 863, .str "Mark.__init__" 864, .str "/claim/cut.py" 865, .int 217 0, .int 2 0, .int 0 0, .int 0 0, .int 3 0, .ref 455, .bool true, .int 181 0, .ref 456, .none, .ref 457, .ref 458, .ref 459, .int 868 0, .int 217 0, .str "/claim/cut.py" 869], #[]⟩
noncomputable def o461_8 (P : Params) : Obj := ⟨.type "function", none, .func (fd (cst 44 1) "Mark.__init__" 3 [] (.none) (.none) (.none) (.str "gluepage.nodes" 608) none (.ref 460) (.none) 0), #[]⟩
noncomputable def o462_8 (P : Params) : Obj := ⟨.type "tuple", none, .seq #[.str "tokens" 871] 0, #[]⟩
noncomputable def o463_8 (P : Params) : Obj := ⟨.type "dict", none, .dict #[en P "__module__" 857 (.str "gluepage.nodes" 608), en P "__firstlineno__" 861 (.int 214 860), en P "kind" 862 (.int 9 627), en P "__init__" 870 (.ref 461), en P "__static_attributes__" 872 (.ref 462), en P "__dict__" 874 (.ref 465), en P "__weakref__" 876 (.ref 466), en P "__doc__" 877 (.none)] 4, #[]⟩
noncomputable def o464_8 (P : Params) : Obj := ⟨.type "type", none, .cls ⟨"Mark", [.type "object"], [.ref 464, .type "object"], 463, "Mark", true, [], [], false, none, false⟩, #[none, none, some (.str "Mark" 850), some (.str "Mark" 858), some (.builtin "object.__new__"), some (.bool true)]⟩
noncomputable def o465_8 (P : Params) : Obj := ⟨.type "getset_descriptor", none, .fields #[.str "__dict__" 873, .ref 464, .builtin "function.__dict__", .builtin "function.__dict__#set"], #[]⟩
noncomputable def o466_8 (P : Params) : Obj := ⟨.type "getset_descriptor", none, .fields #[.str "__weakref__" 875, .ref 464, .builtin "ExceptionGroup.__weakref__", .none], #[]⟩
noncomputable def o467_8 (P : Params) : Obj := ⟨.type "super", none, .fields #[.ref 464, .ref 464, .ref 464], #[]⟩
noncomputable def o468_8 (P : Params) : Obj := ⟨.type "builtin_function_or_method", none, .fields #[.builtin "object.__init_subclass__", .ref 464], #[]⟩
noncomputable def o469_8 (P : Params) : Obj := ⟨.type "tuple", none, .seq #[] 0, #[]⟩
noncomputable def o470_8 (P : Params) : Obj := ⟨.type "builtin_function_or_method", none, .fields #[.builtin "type.__prepare__", .type "type"], #[]⟩
noncomputable def o471_8 (P : Params) : Obj := ⟨.type "dict", none, .dict #[en P "__module__" 887 (.str "gluepage.nodes" 608), en P "__qualname__" 889 (.str "Insert" 888), en P "__firstlineno__" 891 (.int 219 890), en P "kind" 892 (.int 10 628), en P "__init__" 905 (.ref 482), en P "__static_attributes__" 912 (.ref 483)] 6, #[]⟩
noncomputable def o472_8 (P : Params) : Obj := ⟨.type "tuple", none, .seq #[] 0, #[]⟩
noncomputable def o473_8 (P : Params) : Obj := ⟨.none, none, .fields #[.int 222 0, .int 4 0, .ref 481], #[]⟩
noncomputable def o474_8 (P : Params) : Obj := ⟨.type "code", none, .fields #[.str "Insert" 882, .str "Insert" 883, .str "/claim/cut.py" 884, .int 219 0, .int 0 0, .int 0 0, .int 0 0, .int 0 0, .ref 472, .bool false, .int 181 0, .ref 473, .none, .none, .none, .none, .int 885 0, .int 219 0, .str "/claim/cut.py" 886], #[]⟩
noncomputable def o475_8 (P : Params) : Obj := ⟨.type "frame", none, .plain, #[some (.ref 474), some (.ref 3), some (.ref 471), none, some (.str "gluepage.nodes" 608), none, some (.ref 0)]⟩
noncomputable def o476_8 (P : Params) : Obj := ⟨.type "tuple", none, .seq #[] 0, #[]⟩
noncomputable def o477_8 (P : Params) : Obj := ⟨.none, none, .fields #[], #[]⟩
noncomputable def o478_8 (P : Params) : Obj := ⟨.type "tuple", none, .seq #[.str "self" 896, .str "number" 897, .str "size" 898, .str "depth" 899, .str "top" 900, .str "cost" 901, .str "items" 902] 0, #[]⟩
noncomputable def o479_8 (P : Params) : Obj := ⟨.type "tuple", none, .seq #[] 0, #[]⟩
noncomputable def o480_8 (P : Params) : Obj := ⟨.none, none, .func (fd (cst 45 1) "Insert.__init__" 0 [] (.none) (.none) (.none) (.none) none (.none) (.none) 0), #[]⟩
noncomputable def o481_8 (P : Params) : Obj := ⟨.type "code", none, .fields #[.str "__init__" 893, .str "Insert.__init__" 894, .str "/claim/cut.py" 895, .int 222 0, .int 7 0, .int 0 0, .int 0 0, .int 3 0, .ref 476, .bool true, .int 181 0, .ref 477, .none, .ref 478, .ref 479, .ref 480, .int 903 0, .int 222 0, .str "/claim/cut.py" 904], #[]⟩
noncomputable def o482_8 (P : Params) : Obj := ⟨.type "function", none, .func (fd (cst 45 1) "Insert.__init__" 3 [] (.none) (.none) (.none) (.str "gluepage.nodes" 608) none (.ref 481) (.none) 0), #[]⟩
noncomputable def o483_8 (P : Params) : Obj := ⟨.type "tuple", none, .seq #[.str "cost" 906, .str "depth" 907, .str "items" 908, .str "number" 909, .str "size" 910, .str "top" 911] 0, #[]⟩
noncomputable def o484_8 (P : Params) : Obj := ⟨.type "dict", none, .dict #[en P "__module__" 887 (.str "gluepage.nodes" 608), en P "__firstlineno__" 891 (.int 219 890), en P "kind" 892 (.int 10 628), en P "__init__" 905 (.ref 482), en P "__static_attributes__" 912 (.ref 483), en P "__dict__" 914 (.ref 486), en P "__weakref__" 916 (.ref 487), en P "__doc__" 917 (.none)] 4, #[]⟩
noncomputable def o485_8 (P : Params) : Obj := ⟨.type "type", none, .cls ⟨"Insert", [.type "object"], [.ref 485, .type "object"], 484, "Insert", true, [], [], false, none, false⟩, #[none, none, some (.str "Insert" 880), some (.str "Insert" 888), some (.builtin "object.__new__"), some (.bool true)]⟩
noncomputable def o486_8 (P : Params) : Obj := ⟨.type "getset_descriptor", none, .fields #[.str "__dict__" 913, .ref 485, .builtin "function.__dict__", .builtin "function.__dict__#set"], #[]⟩
noncomputable def o487_8 (P : Params) : Obj := ⟨.type "getset_descriptor", none, .fields #[.str "__weakref__" 915, .ref 485, .builtin "ExceptionGroup.__weakref__", .none], #[]⟩
noncomputable def o488_8 (P : Params) : Obj := ⟨.type "super", none, .fields #[.ref 485, .ref 485, .ref 485], #[]⟩
noncomputable def o489_8 (P : Params) : Obj := ⟨.type "builtin_function_or_method", none, .fields #[.builtin "object.__init_subclass__", .ref 485], #[]⟩
noncomputable def o490_8 (P : Params) : Obj := ⟨.type "tuple", none, .seq #[] 0, #[]⟩
noncomputable def o491_8 (P : Params) : Obj := ⟨.type "builtin_function_or_method", none, .fields #[.builtin "type.__prepare__", .type "type"], #[]⟩
noncomputable def o492_8 (P : Params) : Obj := ⟨.type "dict", none, .dict #[en P "__module__" 927 (.str "gluepage.nodes" 608), en P "__qualname__" 929 (.str "Special" 928), en P "__firstlineno__" 931 (.int 231 930), en P "kind" 932 (.int 13 631), en P "sort" 933 (.int 0 668), en P "__init__" 942 (.ref 503), en P "__static_attributes__" 944 (.ref 504)] 7, #[]⟩
noncomputable def o493_8 (P : Params) : Obj := ⟨.type "tuple", none, .seq #[] 0, #[]⟩
noncomputable def o494_8 (P : Params) : Obj := ⟨.none, none, .fields #[.int 235 0, .int 4 0, .ref 502], #[]⟩
noncomputable def o495_8 (P : Params) : Obj := ⟨.type "code", none, .fields #[.str "Special" 922, .str "Special" 923, .str "/claim/cut.py" 924, .int 231 0, .int 0 0, .int 0 0, .int 0 0, .int 0 0, .ref 493, .bool false, .int 181 0, .ref 494, .none, .none, .none, .none, .int 925 0, .int 231 0, .str "/claim/cut.py" 926], #[]⟩
noncomputable def o496_8 (P : Params) : Obj := ⟨.type "frame", none, .plain, #[some (.ref 495), some (.ref 3), some (.ref 492), none, some (.str "gluepage.nodes" 608), none, some (.ref 0)]⟩
noncomputable def o497_8 (P : Params) : Obj := ⟨.type "tuple", none, .seq #[] 0, #[]⟩
noncomputable def o498_8 (P : Params) : Obj := ⟨.none, none, .fields #[], #[]⟩
noncomputable def o499_8 (P : Params) : Obj := ⟨.type "tuple", none, .seq #[.str "self" 937, .str "octets" 938, .str "octet" 939] 0, #[]⟩
noncomputable def o500_8 (P : Params) : Obj := ⟨.type "tuple", none, .seq #[] 0, #[]⟩
noncomputable def o501_8 (P : Params) : Obj := ⟨.none, none, .func (fd (cst 46 2) "Special.__init__" 0 [] (.none) (.none) (.none) (.none) none (.none) (.none) 0), #[]⟩
noncomputable def o502_8 (P : Params) : Obj := ⟨.type "code", none, .fields #[.str "__init__" 934, .str "Special.__init__" 935, .str "/claim/cut.py" 936, .int 235 0, .int 2 0, .int 0 0, .int 0 0, .int 3 0, .ref 497, .bool true, .int 181 0, .ref 498, .none, .ref 499, .ref 500, .ref 501, .int 940 0, .int 235 0, .str "/claim/cut.py" 941], #[]⟩
noncomputable def o503_8 (P : Params) : Obj := ⟨.type "function", none, .func (fd (cst 46 2) "Special.__init__" 3 [] (.none) (.none) (.none) (.str "gluepage.nodes" 608) none (.ref 502) (.none) 0), #[]⟩
noncomputable def o504_8 (P : Params) : Obj := ⟨.type "tuple", none, .seq #[.str "octets" 943] 0, #[]⟩
noncomputable def o505_8 (P : Params) : Obj := ⟨.type "dict", none, .dict #[en P "__module__" 927 (.str "gluepage.nodes" 608), en P "__firstlineno__" 931 (.int 231 930), en P "kind" 932 (.int 13 631), en P "sort" 933 (.int 0 668), en P "__init__" 942 (.ref 503), en P "__static_attributes__" 944 (.ref 504), en P "__dict__" 946 (.ref 507), en P "__weakref__" 948 (.ref 508), en P "__doc__" 949 (.none)] 4, #[]⟩
noncomputable def o506_8 (P : Params) : Obj := ⟨.type "type", none, .cls ⟨"Special", [.type "object"], [.ref 506, .type "object"], 505, "Special", true, [], [], false, none, false⟩, #[none, none, some (.str "Special" 920), some (.str "Special" 928), some (.builtin "object.__new__"), some (.bool true)]⟩
noncomputable def o507_8 (P : Params) : Obj := ⟨.type "getset_descriptor", none, .fields #[.str "__dict__" 945, .ref 506, .builtin "function.__dict__", .builtin "function.__dict__#set"], #[]⟩
noncomputable def o508_8 (P : Params) : Obj := ⟨.type "getset_descriptor", none, .fields #[.str "__weakref__" 947, .ref 506, .builtin "ExceptionGroup.__weakref__", .none], #[]⟩
noncomputable def o509_8 (P : Params) : Obj := ⟨.type "super", none, .fields #[.ref 506, .ref 506, .ref 506], #[]⟩
noncomputable def o510_8 (P : Params) : Obj := ⟨.type "builtin_function_or_method", none, .fields #[.builtin "object.__init_subclass__", .ref 506], #[]⟩
noncomputable def o511_8 (P : Params) : Obj := ⟨.type "tuple", none, .seq #[] 0, #[]⟩
noncomputable def o512_8 (P : Params) : Obj := ⟨.none, none, .fields #[], #[]⟩
noncomputable def o513_8 (P : Params) : Obj := ⟨.type "tuple", none, .seq #[.str "depth" 955] 0, #[]⟩
noncomputable def o514_8 (P : Params) : Obj := ⟨.type "tuple", none, .seq #[] 0, #[]⟩
noncomputable def o515_8 (P : Params) : Obj := ⟨.none, none, .func (fd (st 47) "check_depth" 0 [] (.none) (.none) (.none) (.none) none (.none) (.none) 0), #[]⟩
noncomputable def o516_8 (P : Params) : Obj := ⟨.type "code", none, .fields #[.str "check_depth" 952, .str "check_depth" 953, .str "/claim/cut.py" 954, .int 242 0, .int 1 0, .int 0 0, .int 0 0, .int 3 0, .ref 511, .bool true, .int 181 0, .ref 512, .none, .ref 513, .ref 514, .ref 515, .int 956 0, .int 242 0, .str "/claim/cut.py" 957], #[]⟩
noncomputable def o517_8 (P : Params) : Obj := ⟨.type "function", none, .func (fd (st 47) "check_depth" 3 [] (.none) (.none) (.none) (.str "gluepage.nodes" 608) none (.ref 516) (.none) 0), #[]⟩
noncomputable def o518_8 (P : Params) : Obj := ⟨.type "tuple", none, .seq #[] 0, #[]⟩
noncomputable def o519_8 (P : Params) : Obj := ⟨.none, none, .fields #[], #[]⟩
noncomputable def o520_8 (P : Params) : Obj := ⟨.none, none, .func (fd (st 48) "described_special" 0 [] (.none) (.none) (.none) (.none) none (.none) (.none) 0), #[]⟩
noncomputable def o521_8 (P : Params) : Obj := ⟨.type "code", none, .fields #[.str "described_special" 959, .str "described_special" 960, .str "/claim/cut.py" 961, .int 245 0, .int 1 0, .int 0 0, .int 0 0, .int 3 0, .ref 518, .bool true, .int 181 0, .ref 519, .none, .none, .none, .ref 520, .int 962 0, .int 245 0, .str "/claim/cut.py" 963], #[]⟩
noncomputable def o522_8 (P : Params) : Obj := ⟨.type "function", none, .func (fd (st 48) "described_special" 3 [] (.none) (.none) (.none) (.str "gluepage.nodes" 608) none (.ref 521) (.none) 0), #[]⟩
noncomputable def o523_8 (P : Params) : Obj := ⟨.type "tuple", none, .seq #[] 0, #[]⟩
noncomputable def o524_8 (P : Params) : Obj := ⟨.none, none, .fields #[], #[]⟩
noncomputable def o525_8 (P : Params) : Obj := ⟨.type "tuple", none, .seq #[.str "node" 968, .str "depth" 969, .str "kind" 970, .str "sums" 971, .str "sizes" 972] 0, #[]⟩
noncomputable def o526_8 (P : Params) : Obj := ⟨.type "tuple", none, .seq #[] 0, #[]⟩
noncomputable def o527_8 (P : Params) : Obj := ⟨.none, none, .func (fd (st 49) "described_rest" 0 [] (.none) (.none) (.none) (.none) none (.none) (.none) 0), #[]⟩
noncomputable def o528_8 (P : Params) : Obj := ⟨.type "code", none, .fields #[.str "described_rest" 965, .str "described_rest" 966, .str "/claim/cut.py" 967, .int 251 0, .int 2 0, .int 0 0, .int 0 0, .int 3 0, .ref 523, .bool true, .int 181 0, .ref 524, .none, .ref 525, .ref 526, .ref 527, .int 973 0, .int 251 0, .str "/claim/cut.py" 974], #[]⟩
noncomputable def o529_8 (P : Params) : Obj := ⟨.type "function", none, .func (fd (st 49) "described_rest" 3 [] (.none) (.none) (.none) (.str "gluepage.nodes" 608) none (.ref 528) (.none) 0), #[]⟩
noncomputable def o530_8 (P : Params) : Obj := ⟨.type "tuple", none, .seq #[.int 0 976] 0, #[]⟩
noncomputable def o531_8 (P : Params) : Obj := ⟨.type "tuple", none, .seq #[] 0, #[]⟩
noncomputable def o532_8 (P : Params) : Obj := ⟨.none, none, .fields #[], #[]⟩
noncomputable def o533_8 (P : Params) : Obj := ⟨.none, none, .func (fd (st 50) "described" 0 [] (.none) (.none) (.none) (.none) none (.none) (.none) 0), #[]⟩
noncomputable def o534_8 (P : Params) : Obj := ⟨.type "code", none, .fields #[.str "described" 977, .str "described" 978, .str "/claim/cut.py" 979, .int 266 0, .int 2 0, .int 0 0, .int 0 0, .int 3 0, .ref 531, .bool true, .int 181 0, .ref 532, .none, .none, .none, .ref 533, .int 980 0, .int 266 0, .str "/claim/cut.py" 981], #[]⟩
noncomputable def o535_8 (P : Params) : Obj := ⟨.type "function", none, .func (fd (st 50) "described" 3 [] (.ref 530) (.none) (.none) (.str "gluepage.nodes" 608) none (.ref 534) (.none) 0), #[]⟩
noncomputable def o536_8 (P : Params) : Obj := ⟨.type "tuple", none, .seq #[.int 0 983] 0, #[]⟩
noncomputable def o537_8 (P : Params) : Obj := ⟨.type "tuple", none, .seq #[] 0, #[]⟩
noncomputable def o538_8 (P : Params) : Obj := ⟨.none, none, .fields #[], #[]⟩
noncomputable def o539_8 (P : Params) : Obj := ⟨.none, none, .func (fd (st 51) "described_list" 0 [] (.none) (.none) (.none) (.none) none (.none) (.none) 0), #[]⟩
noncomputable def o540_8 (P : Params) : Obj := ⟨.type "code", none, .fields #[.str "described_list" 984, .str "described_list" 985, .str "/claim/cut.py" 986, .int 289 0, .int 2 0, .int 0 0, .int 0 0, .int 3 0, .ref 537, .bool true, .int 181 0, .ref 538, .none, .none, .none, .ref 539, .int 987 0, .int 289 0, .str "/claim/cut.py" 988], #[]⟩
noncomputable def o541_8 (P : Params) : Obj := ⟨.type "function", none, .func (fd (st 51) "described_list" 3 [] (.ref 536) (.none) (.none) (.str "gluepage.nodes" 608) none (.ref 540) (.none) 0), #[]⟩
noncomputable def o542_8 (P : Params) : Obj := ⟨.type "tuple", none, .seq #[] 0, #[]⟩
noncomputable def o543_8 (P : Params) : Obj := ⟨.none, none, .fields #[], #[]⟩
noncomputable def o544_8 (P : Params) : Obj := ⟨.none, none, .func (fd (st 52) "width_of" 0 [] (.none) (.none) (.none) (.none) none (.none) (.none) 0), #[]⟩
noncomputable def o545_8 (P : Params) : Obj := ⟨.type "code", none, .fields #[.str "width_of" 990, .str "width_of" 991, .str "/claim/cut.py" 992, .int 291 0, .int 1 0, .int 0 0, .int 0 0, .int 3 0, .ref 542, .bool true, .int 181 0, .ref 543, .none, .none, .none, .ref 544, .int 993 0, .int 291 0, .str "/claim/cut.py" 994], #[]⟩
noncomputable def o546_8 (P : Params) : Obj := ⟨.type "function", none, .func (fd (st 52) "width_of" 3 [] (.none) (.none) (.none) (.str "gluepage.nodes" 608) none (.ref 545) (.none) 0), #[]⟩
noncomputable def tr7 (P : Params) : BT := puts (tr6 P) [(3, o3_8 P), (12, o12_8 P), (448, o448_8 P), (449, o449_8 P), (450, o450_8 P), (451, o451_8 P), (452, o452_8 P), (453, o453_8 P), (454, o454_8 P), (455, o455_8 P), (456, o456_8 P), (457, o457_8 P), (458, o458_8 P), (459, o459_8 P), (460, o460_8 P), (461, o461_8 P), (462, o462_8 P), (463, o463_8 P), (464, o464_8 P), (465, o465_8 P), (466, o466_8 P), (467, o467_8 P), (468, o468_8 P), (469, o469_8 P), (470, o470_8 P), (471, o471_8 P), (472, o472_8 P), (473, o473_8 P), (474, o474_8 P), (475, o475_8 P), (476, o476_8 P), (477, o477_8 P), (478, o478_8 P), (479, o479_8 P), (480, o480_8 P), (481, o481_8 P), (482, o482_8 P), (483, o483_8 P), (484, o484_8 P), (485, o485_8 P), (486, o486_8 P), (487, o487_8 P), (488, o488_8 P), (489, o489_8 P), (490, o490_8 P), (491, o491_8 P), (492, o492_8 P), (493, o493_8 P), (494, o494_8 P), (495, o495_8 P), (496, o496_8 P), (497, o497_8 P), (498, o498_8 P), (499, o499_8 P), (500, o500_8 P), (501, o501_8 P), (502, o502_8 P), (503, o503_8 P), (504, o504_8 P), (505, o505_8 P), (506, o506_8 P), (507, o507_8 P), (508, o508_8 P), (509, o509_8 P), (510, o510_8 P), (511, o511_8 P), (512, o512_8 P), (513, o513_8 P), (514, o514_8 P), (515, o515_8 P), (516, o516_8 P), (517, o517_8 P), (518, o518_8 P), (519, o519_8 P), (520, o520_8 P), (521, o521_8 P), (522, o522_8 P), (523, o523_8 P), (524, o524_8 P), (525, o525_8 P), (526, o526_8 P), (527, o527_8 P), (528, o528_8 P), (529, o529_8 P), (530, o530_8 P), (531, o531_8 P), (532, o532_8 P), (533, o533_8 P), (534, o534_8 P), (535, o535_8 P), (536, o536_8 P), (537, o537_8 P), (538, o538_8 P), (539, o539_8 P), (540, o540_8 P), (541, o541_8 P), (542, o542_8 P), (543, o543_8 P), (544, o544_8 P), (545, o545_8 P), (546, o546_8 P)]
noncomputable def o3_9 (P : Params) : Obj := ⟨.type "dict", none, .dict #[en P "__name__" 165 (.str "law_sq0057_01" 1187), en P "__doc__" 166 (.none), en P "__package__" 167 (.none), en P "__loader__" 168 (.builtin "__main__.__loader__#opaque"), en P "__spec__" 169 (.none), en P "__annotations__" 170 (.ref 6), en P "__builtins__" 171 (.ref 4), en P "__file__" 173 (.str "/claim/cut.py" 172), en P "__cached__" 174 (.none), en P "_wall" 193 (.ref 21), en P "TOP_SKIP" 200 (.int 7 194), en P "SPLIT_TOP_SKIP" 201 (.int 8 195), en P "TAB_SKIP" 202 (.int 9 196), en P "SPACE_SKIP" 203 (.int 10 197), en P "XSPACE_SKIP" 204 (.int 11 198), en P "PAR_FILL_SKIP" 205 (.int 12 199), en P "PageError" 235 (.ref 43), en P "BadArgument" 251 (.ref 56), en P "Overflow" 267 (.ref 68), en P "BadBox" 283 (.ref 80), en P "TooDeep" 299 (.ref 92), en P "UNITY" 303 (.int 65536 302), en P "MAX_DIMEN" 309 (.int 1073741823 308), en P "MAX_NUMBER" 315 (.int 2147483647 314), en P "INF_BAD" 317 (.int 10000 316), en P "NORMAL" 322 (.int 0 318), en P "FIL" 323 (.int 1 319), en P "FILL" 324 (.int 2 320), en P "FILLL" 325 (.int 3 321), en P "is_whole" 334 (.ref 105), en P "check_whole" 341 (.ref 112), en P "check_number" 348 (.ref 119), en P "check_dimen" 355 (.ref 126), en P "rounded" 363 (.ref 133), en P "reading" 371 (.ref 140), en P "decimal_text" 384 (.ref 147), en P "times" 393 (.ref 154), en P "times_scaled" 394 (.ref 154), en P "over" 404 (.ref 161), en P "over_scaled" 405 (.ref 161), en P "badness" 414 (.ref 168), en P "order_text" 421 (.ref 175), en P "part_text" 430 (.ref 182), en P "Glue" 532 (.ref 250), en P "top_order" 540 (.ref 261), en P "Totals" 607 (.ref 313), en P "CHAR" 618 (.int 0 610), en P "LIGATURE" 619 (.int 1 611), en P "HBOX" 620 (.int 2 612), en P "VBOX" 621 (.int 3 613), en P "RULE" 622 (.int 4 614), en P "KERN" 623 (.int 5 615), en P "GLUE" 624 (.int 6 616), en P "PENALTY" 625 (.int 7 617), en P "DISC" 633 (.int 8 626), en P "MARK" 634 (.int 9 627), en P "INSERT" 635 (.int 10 628), en P "ADJUST" 636 (.int 11 629), en P "MATH" 637 (.int 12 630), en P "SPECIAL" 638 (.int 13 631), en P "UNSET" 639 (.int 14 632), en P "NATURAL" 643 (.int 0 640), en P "STRETCHED" 644 (.int 1 641), en P "SHRUNK" 645 (.int 2 642), en P "FONT_KERN" 650 (.int 0 646), en P "EXPLICIT" 651 (.int 1 647), en P "ACCENT_KERN" 652 (.int 2 648), en P "MU_KERN" 653 (.int 3 649), en P "PLAIN" 661 (.int 0 654), en P "ALEADERS" 662 (.int 1 655), en P "CLEADERS" 663 (.int 2 656), en P "XLEADERS" 664 (.int 3 657), en P "MU_SKIP" 665 (.int 4 658), en P "NONSCRIPT" 666 (.int 5 659), en P "NAMED" 667 (.int 100 660), en P "FOR_DEVICE" 672 (.int 0 668), en P "WRITING" 673 (.int 1 669), en P "OPENING" 674 (.int 2 670), en P "CLOSING" 675 (.int 3 671), en P "DEEPEST" 677 (.int 60 676), en P "Box" 718 (.ref 358), en P "Rule" 753 (.ref 379), en P "Kern" 785 (.ref 400), en P "Skip" 819 (.ref 422), en P "Penalty" 849 (.ref 443), en P "Mark" 879 (.ref 464), en P "Insert" 919 (.ref 485), en P "Special" 951 (.ref 506), en P "check_depth" 958 (.ref 517), en P "described_special" 964 (.ref 522), en P "described_rest" 975 (.ref 529), en P "described" 982 (.ref 535), en P "described_list" 989 (.ref 541), en P "width_of" 995 (.ref 546), en P "height_of" 1001 (.ref 551), en P "depth_of" 1007 (.ref 556), en P "line_height" 1014 (.ref 563), en P "line_depth" 1021 (.ref 570), en P "STANDING" 1024 (.ref 571), en P "pruned" 1037 (.ref 578), en P "unboxed" 1045 (.ref 585), en P "last_box" 1053 (.ref 592), en P "EXACTLY" 1058 (.int 0 1056), en P "SPREAD" 1059 (.int 1 1057), en P "FINE" 1064 (.int 0 1060), en P "LOOSE" 1065 (.int 1 1061), en P "TIGHT" 1066 (.int 2 1062), en P "OVERFULL" 1067 (.int 3 1063), en P "natural_line" 1078 (.ref 607), en P "across" 1085 (.ref 614), en P "check_column" 1093 (.ref 621), en P "natural_column" 1104 (.ref 628), en P "quotient" 1112 (.ref 635), en P "set_glue" 1123 (.ref 642), en P "moved" 1133 (.ref 649), en P "goal_size" 1142 (.ref 656), en P "set_box" 1152 (.ref 663), en P "hpack" 1170 (.ref 671), en P "vpack" 1186 (.ref 679), en P "_law_heap" 1197 (.ref 686), en P "_law_take" 1206 (.ref 693), en P "_law_size" 1213 (.ref 700)] 122, #[]⟩
noncomputable def o12_9 (P : Params) : Obj := ⟨.none, none, .fields #[.int 1 0, .int 0 0, .ref 20, .int 6 0, .int 0 0, .ref 31, .int 10 0, .int 0 0, .ref 52, .int 12 0, .int 0 0, .ref 64, .int 14 0, .int 0 0, .ref 76, .int 16 0, .int 0 0, .ref 88, .int 24 0, .int 0 0, .ref 104, .int 26 0, .int 0 0, .ref 111, .int 30 0, .int 0 0, .ref 118, .int 34 0, .int 0 0, .ref 125, .int 38 0, .int 0 0, .ref 132, .int 44 0, .int 0 0, .ref 139, .int 46 0, .int 0 0, .ref 146, .int 57 0, .int 0 0, .ref 153, .int 60 0, .int 0 0, .ref 160, .int 70 0, .int 0 0, .ref 167, .int 86 0, .int 0 0, .ref 174, .int 88 0, .int 0 0, .ref 181, .int 90 0, .int 0 0, .ref 188, .int 128 0, .int 0 0, .ref 260, .int 133 0, .int 0 0, .ref 267, .int 164 0, .int 0 0, .ref 347, .int 178 0, .int 0 0, .ref 368, .int 188 0, .int 0 0, .ref 389, .int 196 0, .int 0 0, .ref 410, .int 209 0, .int 0 0, .ref 432, .int 214 0, .int 0 0, .ref 453, .int 219 0, .int 0 0, .ref 474, .int 231 0, .int 0 0, .ref 495, .int 242 0, .int 0 0, .ref 516, .int 245 0, .int 0 0, .ref 521, .int 251 0, .int 0 0, .ref 528, .int 266 0, .int 0 0, .ref 534, .int 289 0, .int 0 0, .ref 540, .int 291 0, .int 0 0, .ref 545, .int 304 0, .int 0 0, .ref 550, .int 317 0, .int 0 0, .ref 555, .int 330 0, .int 0 0, .ref 562, .int 334 0, .int 0 0, .ref 569, .int 340 0, .int 0 0, .ref 577, .int 351 0, .int 0 0, .ref 584, .int 357 0, .int 0 0, .ref 591, .int 366 0, .int 0 0, .ref 606, .int 377 0, .int 0 0, .ref 613, .int 383 0, .int 0 0, .ref 620, .int 387 0, .int 0 0, .ref 627, .int 404 0, .int 0 0, .ref 634, .int 406 0, .int 0 0, .ref 641, .int 421 0, .int 0 0, .ref 648, .int 431 0, .int 0 0, .ref 655, .int 436 0, .int 0 0, .ref 662, .int 439 0, .int 0 0, .ref 670, .int 447 0, .int 0 0, .ref 678, .int 457 0, .int 0 0, .ref 685, .int 462 0, .int 0 0, .ref 692, .int 469 0, .int 0 0, .ref 699], #[]⟩
noncomputable def o547_9 (P : Params) : Obj := ⟨.type "tuple", none, .seq #[] 0, #[]⟩
noncomputable def o548_9 (P : Params) : Obj := ⟨.none, none, .fields #[], #[]⟩
noncomputable def o549_9 (P : Params) : Obj := ⟨.none, none, .func (fd (st 53) "height_of" 0 [] (.none) (.none) (.none) (.none) none (.none) (.none) 0), #[]⟩
noncomputable def o550_9 (P : Params) : Obj := ⟨.type "code", none, .fields #[.str "height_of" 996, .str "height_of" 997, .str "/claim/cut.py" 998, .int 304 0, .int 1 0, .int 0 0, .int 0 0, .int 3 0, .ref 547, .bool true, .int 181 0, .ref 548, .none, .none, .none, .ref 549, .int 999 0, .int 304 0, .str "/claim/cut.py" 1000], #[]⟩
noncomputable def o551_9 (P : Params) : Obj := ⟨.type "function", none, .func (fd (st 53) "height_of" 3 [] (.none) (.none) (.none) (.str "gluepage.nodes" 608) none (.ref 550) (.none) 0), #[]⟩
noncomputable def o552_9 (P : Params) : Obj := ⟨.type "tuple", none, .seq #[] 0, #[]⟩
noncomputable def o553_9 (P : Params) : Obj := ⟨.none, none, .fields #[], #[]⟩
noncomputable def o554_9 (P : Params) : Obj := ⟨.none, none, .func (fd (st 54) "depth_of" 0 [] (.none) (.none) (.none) (.none) none (.none) (.none) 0), #[]⟩
noncomputable def o555_9 (P : Params) : Obj := ⟨.type "code", none, .fields #[.str "depth_of" 1002, .str "depth_of" 1003, .str "/claim/cut.py" 1004, .int 317 0, .int 1 0, .int 0 0, .int 0 0, .int 3 0, .ref 552, .bool true, .int 181 0, .ref 553, .none, .none, .none, .ref 554, .int 1005 0, .int 317 0, .str "/claim/cut.py" 1006], #[]⟩
noncomputable def o556_9 (P : Params) : Obj := ⟨.type "function", none, .func (fd (st 54) "depth_of" 3 [] (.none) (.none) (.none) (.str "gluepage.nodes" 608) none (.ref 555) (.none) 0), #[]⟩
noncomputable def o557_9 (P : Params) : Obj := ⟨.type "tuple", none, .seq #[] 0, #[]⟩
noncomputable def o558_9 (P : Params) : Obj := ⟨.none, none, .fields #[], #[]⟩
noncomputable def o559_9 (P : Params) : Obj := ⟨.type "tuple", none, .seq #[.str "node" 1011] 0, #[]⟩
noncomputable def o560_9 (P : Params) : Obj := ⟨.type "tuple", none, .seq #[] 0, #[]⟩
noncomputable def o561_9 (P : Params) : Obj := ⟨.none, none, .func (fd (st 55) "line_height" 0 [] (.none) (.none) (.none) (.none) none (.none) (.none) 0), #[]⟩
noncomputable def o562_9 (P : Params) : Obj := ⟨.type "code", none, .fields #[.str "line_height" 1008, .str "line_height" 1009, .str "/claim/cut.py" 1010, .int 330 0, .int 1 0, .int 0 0, .int 0 0, .int 3 0, .ref 557, .bool true, .int 181 0, .ref 558, .none, .ref 559, .ref 560, .ref 561, .int 1012 0, .int 330 0, .str "/claim/cut.py" 1013], #[]⟩
noncomputable def o563_9 (P : Params) : Obj := ⟨.type "function", none, .func (fd (st 55) "line_height" 3 [] (.none) (.none) (.none) (.str "gluepage.nodes" 608) none (.ref 562) (.none) 0), #[]⟩
noncomputable def o564_9 (P : Params) : Obj := ⟨.type "tuple", none, .seq #[] 0, #[]⟩
noncomputable def o565_9 (P : Params) : Obj := ⟨.none, none, .fields #[], #[]⟩
noncomputable def o566_9 (P : Params) : Obj := ⟨.type "tuple", none, .seq #[.str "node" 1018] 0, #[]⟩
noncomputable def o567_9 (P : Params) : Obj := ⟨.type "tuple", none, .seq #[] 0, #[]⟩
noncomputable def o568_9 (P : Params) : Obj := ⟨.none, none, .func (fd (st 56) "line_depth" 0 [] (.none) (.none) (.none) (.none) none (.none) (.none) 0), #[]⟩
noncomputable def o569_9 (P : Params) : Obj := ⟨.type "code", none, .fields #[.str "line_depth" 1015, .str "line_depth" 1016, .str "/claim/cut.py" 1017, .int 334 0, .int 1 0, .int 0 0, .int 0 0, .int 3 0, .ref 564, .bool true, .int 181 0, .ref 565, .none, .ref 566, .ref 567, .ref 568, .int 1019 0, .int 334 0, .str "/claim/cut.py" 1020], #[]⟩
noncomputable def o570_9 (P : Params) : Obj := ⟨.type "function", none, .func (fd (st 56) "line_depth" 3 [] (.none) (.none) (.none) (.str "gluepage.nodes" 608) none (.ref 569) (.none) 0), #[]⟩
noncomputable def o571_9 (P : Params) : Obj := ⟨.type "tuple", none, .seq #[.int 2 612, .int 3 613, .int 4 614, .int 14 632] 0, #[]⟩
noncomputable def o572_9 (P : Params) : Obj := ⟨.type "tuple", none, .seq #[] 0, #[]⟩
noncomputable def o573_9 (P : Params) : Obj := ⟨.none, none, .fields #[], #[]⟩
noncomputable def o574_9 (P : Params) : Obj := ⟨.type "tuple", none, .seq #[.str "items" 1028, .str "top" 1029, .str "kept" 1030, .str "place" 1031, .str "node" 1032, .str "height" 1033, .str "room" 1034] 0, #[]⟩
noncomputable def o575_9 (P : Params) : Obj := ⟨.type "tuple", none, .seq #[] 0, #[]⟩
noncomputable def o576_9 (P : Params) : Obj := ⟨.none, none, .func (fd (st 59) "pruned" 0 [] (.none) (.none) (.none) (.none) none (.none) (.none) 0), #[]⟩
noncomputable def o577_9 (P : Params) : Obj := ⟨.type "code", none, .fields #[.str "pruned" 1025, .str "pruned" 1026, .str "/claim/cut.py" 1027, .int 340 0, .int 2 0, .int 0 0, .int 0 0, .int 3 0, .ref 572, .bool true, .int 181 0, .ref 573, .none, .ref 574, .ref 575, .ref 576, .int 1035 0, .int 340 0, .str "/claim/cut.py" 1036], #[]⟩
noncomputable def o578_9 (P : Params) : Obj := ⟨.type "function", none, .func (fd (st 59) "pruned" 3 [] (.none) (.none) (.none) (.str "gluepage.boxops" 1022) none (.ref 577) (.none) 0), #[]⟩
noncomputable def o579_9 (P : Params) : Obj := ⟨.type "tuple", none, .seq #[] 0, #[]⟩
noncomputable def o580_9 (P : Params) : Obj := ⟨.none, none, .fields #[], #[]⟩
noncomputable def o581_9 (P : Params) : Obj := ⟨.type "tuple", none, .seq #[.str "box" 1041, .str "kind" 1042] 0, #[]⟩
noncomputable def o582_9 (P : Params) : Obj := ⟨.type "tuple", none, .seq #[] 0, #[]⟩
noncomputable def o583_9 (P : Params) : Obj := ⟨.none, none, .func (fd (st 60) "unboxed" 0 [] (.none) (.none) (.none) (.none) none (.none) (.none) 0), #[]⟩
noncomputable def o584_9 (P : Params) : Obj := ⟨.type "code", none, .fields #[.str "unboxed" 1038, .str "unboxed" 1039, .str "/claim/cut.py" 1040, .int 351 0, .int 2 0, .int 0 0, .int 0 0, .int 3 0, .ref 579, .bool true, .int 181 0, .ref 580, .none, .ref 581, .ref 582, .ref 583, .int 1043 0, .int 351 0, .str "/claim/cut.py" 1044], #[]⟩
noncomputable def o585_9 (P : Params) : Obj := ⟨.type "function", none, .func (fd (st 60) "unboxed" 3 [] (.none) (.none) (.none) (.str "gluepage.boxops" 1022) none (.ref 584) (.none) 0), #[]⟩
noncomputable def o586_9 (P : Params) : Obj := ⟨.type "tuple", none, .seq #[] 0, #[]⟩
noncomputable def o587_9 (P : Params) : Obj := ⟨.none, none, .fields #[], #[]⟩
noncomputable def o588_9 (P : Params) : Obj := ⟨.type "tuple", none, .seq #[.str "items" 1049, .str "box" 1050] 0, #[]⟩
noncomputable def o589_9 (P : Params) : Obj := ⟨.type "tuple", none, .seq #[] 0, #[]⟩
noncomputable def o590_9 (P : Params) : Obj := ⟨.none, none, .func (fd (st 61) "last_box" 0 [] (.none) (.none) (.none) (.none) none (.none) (.none) 0), #[]⟩
noncomputable def o591_9 (P : Params) : Obj := ⟨.type "code", none, .fields #[.str "last_box" 1046, .str "last_box" 1047, .str "/claim/cut.py" 1048, .int 357 0, .int 1 0, .int 0 0, .int 0 0, .int 3 0, .ref 586, .bool true, .int 181 0, .ref 587, .none, .ref 588, .ref 589, .ref 590, .int 1051 0, .int 357 0, .str "/claim/cut.py" 1052], #[]⟩
noncomputable def o592_9 (P : Params) : Obj := ⟨.type "function", none, .func (fd (st 61) "last_box" 3 [] (.none) (.none) (.none) (.str "gluepage.boxops" 1022) none (.ref 591) (.none) 0), #[]⟩
noncomputable def o593_9 (P : Params) : Obj := ⟨.type "tuple", none, .seq #[.int 0 1056, .int 1 1057] 0, #[]⟩
noncomputable def o594_9 (P : Params) : Obj := ⟨.type "tuple_iterator", none, .fields #[.none, .int 2 0], #[]⟩
noncomputable def o595_9 (P : Params) : Obj := ⟨.type "tuple", none, .seq #[] 0, #[]⟩
noncomputable def o596_9 (P : Params) : Obj := ⟨.type "StopIteration", none, .fields #[.ref 595, .none, .none, .none, .bool false, .none], #[]⟩
noncomputable def o597_9 (P : Params) : Obj := ⟨.type "tuple", none, .seq #[.int 0 1060, .int 1 1061, .int 2 1062, .int 3 1063] 0, #[]⟩
noncomputable def o598_9 (P : Params) : Obj := ⟨.type "tuple_iterator", none, .fields #[.none, .int 4 0], #[]⟩
noncomputable def o599_9 (P : Params) : Obj := ⟨.type "tuple", none, .seq #[] 0, #[]⟩
noncomputable def o600_9 (P : Params) : Obj := ⟨.type "StopIteration", none, .fields #[.ref 599, .none, .none, .none, .bool false, .none], #[]⟩
noncomputable def o601_9 (P : Params) : Obj := ⟨.type "tuple", none, .seq #[] 0, #[]⟩
noncomputable def o602_9 (P : Params) : Obj := ⟨.none, none, .fields #[], #[]⟩
noncomputable def o603_9 (P : Params) : Obj := ⟨.type "tuple", none, .seq #[.str "items" 1071, .str "totals" 1072, .str "height" 1073, .str "depth" 1074, .str "node" 1075] 0, #[]⟩
noncomputable def o604_9 (P : Params) : Obj := ⟨.type "tuple", none, .seq #[] 0, #[]⟩
noncomputable def o605_9 (P : Params) : Obj := ⟨.none, none, .func (fd (st 65) "natural_line" 0 [] (.none) (.none) (.none) (.none) none (.none) (.none) 0), #[]⟩
noncomputable def o606_9 (P : Params) : Obj := ⟨.type "code", none, .fields #[.str "natural_line" 1068, .str "natural_line" 1069, .str "/claim/cut.py" 1070, .int 366 0, .int 1 0, .int 0 0, .int 0 0, .int 3 0, .ref 601, .bool true, .int 181 0, .ref 602, .none, .ref 603, .ref 604, .ref 605, .int 1076 0, .int 366 0, .str "/claim/cut.py" 1077], #[]⟩
noncomputable def o607_9 (P : Params) : Obj := ⟨.type "function", none, .func (fd (st 65) "natural_line" 3 [] (.none) (.none) (.none) (.str "gluepage.packing" 1054) none (.ref 606) (.none) 0), #[]⟩
noncomputable def o608_9 (P : Params) : Obj := ⟨.type "tuple", none, .seq #[] 0, #[]⟩
noncomputable def o609_9 (P : Params) : Obj := ⟨.none, none, .fields #[], #[]⟩
noncomputable def o610_9 (P : Params) : Obj := ⟨.type "tuple", none, .seq #[.str "node" 1082] 0, #[]⟩
noncomputable def o611_9 (P : Params) : Obj := ⟨.type "tuple", none, .seq #[] 0, #[]⟩
noncomputable def o612_9 (P : Params) : Obj := ⟨.none, none, .func (fd (st 66) "across" 0 [] (.none) (.none) (.none) (.none) none (.none) (.none) 0), #[]⟩
noncomputable def o613_9 (P : Params) : Obj := ⟨.type "code", none, .fields #[.str "across" 1079, .str "across" 1080, .str "/claim/cut.py" 1081, .int 377 0, .int 1 0, .int 0 0, .int 0 0, .int 3 0, .ref 608, .bool true, .int 181 0, .ref 609, .none, .ref 610, .ref 611, .ref 612, .int 1083 0, .int 377 0, .str "/claim/cut.py" 1084], #[]⟩
noncomputable def o614_9 (P : Params) : Obj := ⟨.type "function", none, .func (fd (st 66) "across" 3 [] (.none) (.none) (.none) (.str "gluepage.packing" 1054) none (.ref 613) (.none) 0), #[]⟩
noncomputable def o615_9 (P : Params) : Obj := ⟨.type "tuple", none, .seq #[] 0, #[]⟩
noncomputable def o616_9 (P : Params) : Obj := ⟨.none, none, .fields #[], #[]⟩
noncomputable def o617_9 (P : Params) : Obj := ⟨.type "tuple", none, .seq #[.str "items" 1089, .str "node" 1090] 0, #[]⟩
noncomputable def o618_9 (P : Params) : Obj := ⟨.type "tuple", none, .seq #[] 0, #[]⟩
noncomputable def o619_9 (P : Params) : Obj := ⟨.none, none, .func (fd (st 67) "check_column" 0 [] (.none) (.none) (.none) (.none) none (.none) (.none) 0), #[]⟩
noncomputable def o620_9 (P : Params) : Obj := ⟨.type "code", none, .fields #[.str "check_column" 1086, .str "check_column" 1087, .str "/claim/cut.py" 1088, .int 383 0, .int 1 0, .int 0 0, .int 0 0, .int 3 0, .ref 615, .bool true, .int 181 0, .ref 616, .none, .ref 617, .ref 618, .ref 619, .int 1091 0, .int 383 0, .str "/claim/cut.py" 1092], #[]⟩
noncomputable def o621_9 (P : Params) : Obj := ⟨.type "function", none, .func (fd (st 67) "check_column" 3 [] (.none) (.none) (.none) (.str "gluepage.packing" 1054) none (.ref 620) (.none) 0), #[]⟩
noncomputable def o622_9 (P : Params) : Obj := ⟨.type "tuple", none, .seq #[] 0, #[]⟩
noncomputable def o623_9 (P : Params) : Obj := ⟨.none, none, .fields #[], #[]⟩
noncomputable def o624_9 (P : Params) : Obj := ⟨.type "tuple", none, .seq #[.str "items" 1097, .str "totals" 1098, .str "width" 1099, .str "depth" 1100, .str "node" 1101] 0, #[]⟩
noncomputable def o625_9 (P : Params) : Obj := ⟨.type "tuple", none, .seq #[] 0, #[]⟩
noncomputable def o626_9 (P : Params) : Obj := ⟨.none, none, .func (fd (st 68) "natural_column" 0 [] (.none) (.none) (.none) (.none) none (.none) (.none) 0), #[]⟩
noncomputable def o627_9 (P : Params) : Obj := ⟨.type "code", none, .fields #[.str "natural_column" 1094, .str "natural_column" 1095, .str "/claim/cut.py" 1096, .int 387 0, .int 1 0, .int 0 0, .int 0 0, .int 3 0, .ref 622, .bool true, .int 181 0, .ref 623, .none, .ref 624, .ref 625, .ref 626, .int 1102 0, .int 387 0, .str "/claim/cut.py" 1103], #[]⟩
noncomputable def o628_9 (P : Params) : Obj := ⟨.type "function", none, .func (fd (st 68) "natural_column" 3 [] (.none) (.none) (.none) (.str "gluepage.packing" 1054) none (.ref 627) (.none) 0), #[]⟩
noncomputable def o629_9 (P : Params) : Obj := ⟨.type "tuple", none, .seq #[] 0, #[]⟩
noncomputable def o630_9 (P : Params) : Obj := ⟨.none, none, .fields #[], #[]⟩
noncomputable def o631_9 (P : Params) : Obj := ⟨.type "tuple", none, .seq #[.str "up" 1108, .str "down" 1109] 0, #[]⟩
noncomputable def o632_9 (P : Params) : Obj := ⟨.type "tuple", none, .seq #[] 0, #[]⟩
noncomputable def o633_9 (P : Params) : Obj := ⟨.none, none, .func (fd (st 69) "quotient" 0 [] (.none) (.none) (.none) (.none) none (.none) (.none) 0), #[]⟩
noncomputable def o634_9 (P : Params) : Obj := ⟨.type "code", none, .fields #[.str "quotient" 1105, .str "quotient" 1106, .str "/claim/cut.py" 1107, .int 404 0, .int 2 0, .int 0 0, .int 0 0, .int 3 0, .ref 629, .bool true, .int 181 0, .ref 630, .none, .ref 631, .ref 632, .ref 633, .int 1110 0, .int 404 0, .str "/claim/cut.py" 1111], #[]⟩
noncomputable def o635_9 (P : Params) : Obj := ⟨.type "function", none, .func (fd (st 69) "quotient" 3 [] (.none) (.none) (.none) (.str "gluepage.packing" 1054) none (.ref 634) (.none) 0), #[]⟩
noncomputable def o636_9 (P : Params) : Obj := ⟨.type "tuple", none, .seq #[] 0, #[]⟩
noncomputable def o637_9 (P : Params) : Obj := ⟨.none, none, .fields #[], #[]⟩
noncomputable def o638_9 (P : Params) : Obj := ⟨.type "tuple", none, .seq #[.str "totals" 1116, .str "excess" 1117, .str "order" 1118, .str "total" 1119, .str "report" 1120] 0, #[]⟩
noncomputable def o639_9 (P : Params) : Obj := ⟨.type "tuple", none, .seq #[] 0, #[]⟩
noncomputable def o640_9 (P : Params) : Obj := ⟨.none, none, .func (fd (st 70) "set_glue" 0 [] (.none) (.none) (.none) (.none) none (.none) (.none) 0), #[]⟩
noncomputable def o641_9 (P : Params) : Obj := ⟨.type "code", none, .fields #[.str "set_glue" 1113, .str "set_glue" 1114, .str "/claim/cut.py" 1115, .int 406 0, .int 2 0, .int 0 0, .int 0 0, .int 3 0, .ref 636, .bool true, .int 181 0, .ref 637, .none, .ref 638, .ref 639, .ref 640, .int 1121 0, .int 406 0, .str "/claim/cut.py" 1122], #[]⟩
noncomputable def o642_9 (P : Params) : Obj := ⟨.type "function", none, .func (fd (st 70) "set_glue" 3 [] (.none) (.none) (.none) (.str "gluepage.packing" 1054) none (.ref 641) (.none) 0), #[]⟩
noncomputable def o643_9 (P : Params) : Obj := ⟨.type "tuple", none, .seq #[] 0, #[]⟩
noncomputable def o644_9 (P : Params) : Obj := ⟨.none, none, .fields #[], #[]⟩
noncomputable def o645_9 (P : Params) : Obj := ⟨.type "tuple", none, .seq #[.str "items" 1127, .str "kept" 1128, .str "out" 1129, .str "node" 1130] 0, #[]⟩
noncomputable def o646_9 (P : Params) : Obj := ⟨.type "tuple", none, .seq #[] 0, #[]⟩
noncomputable def o647_9 (P : Params) : Obj := ⟨.none, none, .func (fd (st 71) "moved" 0 [] (.none) (.none) (.none) (.none) none (.none) (.none) 0), #[]⟩
noncomputable def o648_9 (P : Params) : Obj := ⟨.type "code", none, .fields #[.str "moved" 1124, .str "moved" 1125, .str "/claim/cut.py" 1126, .int 421 0, .int 1 0, .int 0 0, .int 0 0, .int 3 0, .ref 643, .bool true, .int 181 0, .ref 644, .none, .ref 645, .ref 646, .ref 647, .int 1131 0, .int 421 0, .str "/claim/cut.py" 1132], #[]⟩
noncomputable def o649_9 (P : Params) : Obj := ⟨.type "function", none, .func (fd (st 71) "moved" 3 [] (.none) (.none) (.none) (.str "gluepage.packing" 1054) none (.ref 648) (.none) 0), #[]⟩
noncomputable def o650_9 (P : Params) : Obj := ⟨.type "tuple", none, .seq #[] 0, #[]⟩
noncomputable def o651_9 (P : Params) : Obj := ⟨.none, none, .fields #[], #[]⟩
noncomputable def o652_9 (P : Params) : Obj := ⟨.type "tuple", none, .seq #[.str "own" 1137, .str "mode" 1138, .str "amount" 1139] 0, #[]⟩
noncomputable def o653_9 (P : Params) : Obj := ⟨.type "tuple", none, .seq #[] 0, #[]⟩
noncomputable def o654_9 (P : Params) : Obj := ⟨.none, none, .func (fd (st 72) "goal_size" 0 [] (.none) (.none) (.none) (.none) none (.none) (.none) 0), #[]⟩
noncomputable def o655_9 (P : Params) : Obj := ⟨.type "code", none, .fields #[.str "goal_size" 1134, .str "goal_size" 1135, .str "/claim/cut.py" 1136, .int 431 0, .int 3 0, .int 0 0, .int 0 0, .int 3 0, .ref 650, .bool true, .int 181 0, .ref 651, .none, .ref 652, .ref 653, .ref 654, .int 1140 0, .int 431 0, .str "/claim/cut.py" 1141], #[]⟩
noncomputable def o656_9 (P : Params) : Obj := ⟨.type "function", none, .func (fd (st 72) "goal_size" 3 [] (.none) (.none) (.none) (.str "gluepage.packing" 1054) none (.ref 655) (.none) 0), #[]⟩
noncomputable def o657_9 (P : Params) : Obj := ⟨.type "tuple", none, .seq #[] 0, #[]⟩
noncomputable def o658_9 (P : Params) : Obj := ⟨.none, none, .fields #[], #[]⟩
noncomputable def o659_9 (P : Params) : Obj := ⟨.type "tuple", none, .seq #[.str "box" 1146, .str "totals" 1147, .str "excess" 1148, .str "report" 1149] 0, #[]⟩
noncomputable def o660_9 (P : Params) : Obj := ⟨.type "tuple", none, .seq #[] 0, #[]⟩
noncomputable def o661_9 (P : Params) : Obj := ⟨.none, none, .func (fd (st 73) "set_box" 0 [] (.none) (.none) (.none) (.none) none (.none) (.none) 0), #[]⟩
noncomputable def o662_9 (P : Params) : Obj := ⟨.type "code", none, .fields #[.str "set_box" 1143, .str "set_box" 1144, .str "/claim/cut.py" 1145, .int 436 0, .int 3 0, .int 0 0, .int 0 0, .int 3 0, .ref 657, .bool true, .int 181 0, .ref 658, .none, .ref 659, .ref 660, .ref 661, .int 1150 0, .int 436 0, .str "/claim/cut.py" 1151], #[]⟩
noncomputable def o663_9 (P : Params) : Obj := ⟨.type "function", none, .func (fd (st 73) "set_box" 3 [] (.none) (.none) (.none) (.str "gluepage.packing" 1054) none (.ref 662) (.none) 0), #[]⟩
noncomputable def o664_9 (P : Params) : Obj := ⟨.type "tuple", none, .seq #[.int 1 1057, .int 0 1153, .none] 0, #[]⟩
noncomputable def o665_9 (P : Params) : Obj := ⟨.type "tuple", none, .seq #[] 0, #[]⟩
noncomputable def o666_9 (P : Params) : Obj := ⟨.none, none, .fields #[], #[]⟩
noncomputable def o667_9 (P : Params) : Obj := ⟨.type "tuple", none, .seq #[.str "items" 1157, .str "mode" 1158, .str "amount" 1159, .str "outside" 1160, .str "kept" 1161, .str "out" 1162, .str "totals" 1163, .str "height" 1164, .str "depth" 1165, .str "width" 1166, .str "box" 1167] 0, #[]⟩
noncomputable def o668_9 (P : Params) : Obj := ⟨.type "tuple", none, .seq #[] 0, #[]⟩
noncomputable def o669_9 (P : Params) : Obj := ⟨.none, none, .func (fd (st 74) "hpack" 0 [] (.none) (.none) (.none) (.none) none (.none) (.none) 0), #[]⟩
noncomputable def o670_9 (P : Params) : Obj := ⟨.type "code", none, .fields #[.str "hpack" 1154, .str "hpack" 1155, .str "/claim/cut.py" 1156, .int 439 0, .int 4 0, .int 0 0, .int 0 0, .int 3 0, .ref 665, .bool true, .int 181 0, .ref 666, .none, .ref 667, .ref 668, .ref 669, .int 1168 0, .int 439 0, .str "/claim/cut.py" 1169], #[]⟩
noncomputable def o671_9 (P : Params) : Obj := ⟨.type "function", none, .func (fd (st 74) "hpack" 3 [] (.ref 664) (.none) (.none) (.str "gluepage.packing" 1054) none (.ref 670) (.none) 0), #[]⟩
noncomputable def o672_9 (P : Params) : Obj := ⟨.type "tuple", none, .seq #[.int 1 1057, .int 0 1171, .int 1073741823 308] 0, #[]⟩
noncomputable def o673_9 (P : Params) : Obj := ⟨.type "tuple", none, .seq #[] 0, #[]⟩
noncomputable def o674_9 (P : Params) : Obj := ⟨.none, none, .fields #[], #[]⟩
noncomputable def o675_9 (P : Params) : Obj := ⟨.type "tuple", none, .seq #[.str "items" 1175, .str "mode" 1176, .str "amount" 1177, .str "most_depth" 1178, .str "totals" 1179, .str "width" 1180, .str "depth" 1181, .str "height" 1182, .str "box" 1183] 0, #[]⟩
noncomputable def o676_9 (P : Params) : Obj := ⟨.type "tuple", none, .seq #[] 0, #[]⟩
noncomputable def o677_9 (P : Params) : Obj := ⟨.none, none, .func (fd (st 75) "vpack" 0 [] (.none) (.none) (.none) (.none) none (.none) (.none) 0), #[]⟩
noncomputable def o678_9 (P : Params) : Obj := ⟨.type "code", none, .fields #[.str "vpack" 1172, .str "vpack" 1173, .str "/claim/cut.py" 1174, .int 447 0, .int 4 0, .int 0 0, .int 0 0, .int 3 0, .ref 673, .bool true, .int 181 0, .ref 674, .none, .ref 675, .ref 676, .ref 677, .int 1184 0, .int 447 0, .str "/claim/cut.py" 1185], #[]⟩
noncomputable def o679_9 (P : Params) : Obj := ⟨.type "function", none, .func (fd (st 75) "vpack" 3 [] (.ref 672) (.none) (.none) (.str "gluepage.packing" 1054) none (.ref 678) (.none) 0), #[]⟩
noncomputable def o680_9 (P : Params) : Obj := ⟨.type "tuple", none, .seq #[] 0, #[]⟩
noncomputable def o681_9 (P : Params) : Obj := ⟨.none, none, .fields #[], #[]⟩
noncomputable def o682_9 (P : Params) : Obj := ⟨.type "tuple", none, .seq #[.str "script" 1192, .str "whole_one" 1193, .str "cell" 1194] 0, #[]⟩
noncomputable def o683_9 (P : Params) : Obj := ⟨.type "tuple", none, .seq #[] 0, #[]⟩
noncomputable def o684_9 (P : Params) : Obj := ⟨.none, none, .func (fd (st 77) "_law_heap" 0 [] (.none) (.none) (.none) (.none) none (.none) (.none) 0), #[]⟩
noncomputable def o685_9 (P : Params) : Obj := ⟨.type "code", none, .fields #[.str "_law_heap" 1189, .str "_law_heap" 1190, .str "/claim/cut.py" 1191, .int 457 0, .int 1 0, .int 0 0, .int 0 0, .int 3 0, .ref 680, .bool true, .int 181 0, .ref 681, .none, .ref 682, .ref 683, .ref 684, .int 1195 0, .int 457 0, .str "/claim/cut.py" 1196], #[]⟩
noncomputable def o686_9 (P : Params) : Obj := ⟨.type "function", none, .func (fd (st 77) "_law_heap" 3 [] (.none) (.none) (.none) (.str "law_sq0057_01" 1187) none (.ref 685) (.none) 0), #[]⟩
noncomputable def o687_9 (P : Params) : Obj := ⟨.type "tuple", none, .seq #[] 0, #[]⟩
noncomputable def o688_9 (P : Params) : Obj := ⟨.none, none, .fields #[], #[]⟩
noncomputable def o689_9 (P : Params) : Obj := ⟨.type "tuple", none, .seq #[.str "heap" 1201, .str "many" 1202, .str "digit" 1203] 0, #[]⟩
noncomputable def o690_9 (P : Params) : Obj := ⟨.type "tuple", none, .seq #[] 0, #[]⟩
noncomputable def o691_9 (P : Params) : Obj := ⟨.none, none, .func (fd (st 78) "_law_take" 0 [] (.none) (.none) (.none) (.none) none (.none) (.none) 0), #[]⟩
noncomputable def o692_9 (P : Params) : Obj := ⟨.type "code", none, .fields #[.str "_law_take" 1198, .str "_law_take" 1199, .str "/claim/cut.py" 1200, .int 462 0, .int 2 0, .int 0 0, .int 0 0, .int 3 0, .ref 687, .bool true, .int 181 0, .ref 688, .none, .ref 689, .ref 690, .ref 691, .int 1204 0, .int 462 0, .str "/claim/cut.py" 1205], #[]⟩
noncomputable def o693_9 (P : Params) : Obj := ⟨.type "function", none, .func (fd (st 78) "_law_take" 3 [] (.none) (.none) (.none) (.str "law_sq0057_01" 1187) none (.ref 692) (.none) 0), #[]⟩
noncomputable def o694_9 (P : Params) : Obj := ⟨.type "tuple", none, .seq #[] 0, #[]⟩
noncomputable def o695_9 (P : Params) : Obj := ⟨.none, none, .fields #[], #[]⟩
noncomputable def o696_9 (P : Params) : Obj := ⟨.type "tuple", none, .seq #[.str "heap" 1210] 0, #[]⟩
noncomputable def o697_9 (P : Params) : Obj := ⟨.type "tuple", none, .seq #[] 0, #[]⟩
noncomputable def o698_9 (P : Params) : Obj := ⟨.none, none, .func (fd (st 79) "_law_size" 0 [] (.none) (.none) (.none) (.none) none (.none) (.none) 0), #[]⟩
noncomputable def o699_9 (P : Params) : Obj := ⟨.type "code", none, .fields #[.str "_law_size" 1207, .str "_law_size" 1208, .str "/claim/cut.py" 1209, .int 469 0, .int 1 0, .int 0 0, .int 0 0, .int 3 0, .ref 694, .bool true, .int 181 0, .ref 695, .none, .ref 696, .ref 697, .ref 698, .int 1211 0, .int 469 0, .str "/claim/cut.py" 1212], #[]⟩
noncomputable def o700_9 (P : Params) : Obj := ⟨.type "function", none, .func (fd (st 79) "_law_size" 3 [] (.none) (.none) (.none) (.str "law_sq0057_01" 1187) none (.ref 699) (.none) 0), #[]⟩
noncomputable def tr8 (P : Params) : BT := puts (tr7 P) [(3, o3_9 P), (12, o12_9 P), (547, o547_9 P), (548, o548_9 P), (549, o549_9 P), (550, o550_9 P), (551, o551_9 P), (552, o552_9 P), (553, o553_9 P), (554, o554_9 P), (555, o555_9 P), (556, o556_9 P), (557, o557_9 P), (558, o558_9 P), (559, o559_9 P), (560, o560_9 P), (561, o561_9 P), (562, o562_9 P), (563, o563_9 P), (564, o564_9 P), (565, o565_9 P), (566, o566_9 P), (567, o567_9 P), (568, o568_9 P), (569, o569_9 P), (570, o570_9 P), (571, o571_9 P), (572, o572_9 P), (573, o573_9 P), (574, o574_9 P), (575, o575_9 P), (576, o576_9 P), (577, o577_9 P), (578, o578_9 P), (579, o579_9 P), (580, o580_9 P), (581, o581_9 P), (582, o582_9 P), (583, o583_9 P), (584, o584_9 P), (585, o585_9 P), (586, o586_9 P), (587, o587_9 P), (588, o588_9 P), (589, o589_9 P), (590, o590_9 P), (591, o591_9 P), (592, o592_9 P), (593, o593_9 P), (594, o594_9 P), (595, o595_9 P), (596, o596_9 P), (597, o597_9 P), (598, o598_9 P), (599, o599_9 P), (600, o600_9 P), (601, o601_9 P), (602, o602_9 P), (603, o603_9 P), (604, o604_9 P), (605, o605_9 P), (606, o606_9 P), (607, o607_9 P), (608, o608_9 P), (609, o609_9 P), (610, o610_9 P), (611, o611_9 P), (612, o612_9 P), (613, o613_9 P), (614, o614_9 P), (615, o615_9 P), (616, o616_9 P), (617, o617_9 P), (618, o618_9 P), (619, o619_9 P), (620, o620_9 P), (621, o621_9 P), (622, o622_9 P), (623, o623_9 P), (624, o624_9 P), (625, o625_9 P), (626, o626_9 P), (627, o627_9 P), (628, o628_9 P), (629, o629_9 P), (630, o630_9 P), (631, o631_9 P), (632, o632_9 P), (633, o633_9 P), (634, o634_9 P), (635, o635_9 P), (636, o636_9 P), (637, o637_9 P), (638, o638_9 P), (639, o639_9 P), (640, o640_9 P), (641, o641_9 P), (642, o642_9 P), (643, o643_9 P), (644, o644_9 P), (645, o645_9 P), (646, o646_9 P), (647, o647_9 P), (648, o648_9 P), (649, o649_9 P), (650, o650_9 P), (651, o651_9 P), (652, o652_9 P), (653, o653_9 P), (654, o654_9 P), (655, o655_9 P), (656, o656_9 P), (657, o657_9 P), (658, o658_9 P), (659, o659_9 P), (660, o660_9 P), (661, o661_9 P), (662, o662_9 P), (663, o663_9 P), (664, o664_9 P), (665, o665_9 P), (666, o666_9 P), (667, o667_9 P), (668, o668_9 P), (669, o669_9 P), (670, o670_9 P), (671, o671_9 P), (672, o672_9 P), (673, o673_9 P), (674, o674_9 P), (675, o675_9 P), (676, o676_9 P), (677, o677_9 P), (678, o678_9 P), (679, o679_9 P), (680, o680_9 P), (681, o681_9 P), (682, o682_9 P), (683, o683_9 P), (684, o684_9 P), (685, o685_9 P), (686, o686_9 P), (687, o687_9 P), (688, o688_9 P), (689, o689_9 P), (690, o690_9 P), (691, o691_9 P), (692, o692_9 P), (693, o693_9 P), (694, o694_9 P), (695, o695_9 P), (696, o696_9 P), (697, o697_9 P), (698, o698_9 P), (699, o699_9 P), (700, o700_9 P)]
noncomputable def o3_10 (P : Params) : Obj := ⟨.type "dict", none, .dict #[en P "__name__" 165 (.str "law_sq0057_01" 1187), en P "__doc__" 166 (.none), en P "__package__" 167 (.none), en P "__loader__" 168 (.builtin "__main__.__loader__#opaque"), en P "__spec__" 169 (.none), en P "__annotations__" 170 (.ref 6), en P "__builtins__" 171 (.ref 4), en P "__file__" 173 (.str "/claim/cut.py" 172), en P "__cached__" 174 (.none), en P "_wall" 193 (.ref 21), en P "TOP_SKIP" 200 (.int 7 194), en P "SPLIT_TOP_SKIP" 201 (.int 8 195), en P "TAB_SKIP" 202 (.int 9 196), en P "SPACE_SKIP" 203 (.int 10 197), en P "XSPACE_SKIP" 204 (.int 11 198), en P "PAR_FILL_SKIP" 205 (.int 12 199), en P "PageError" 235 (.ref 43), en P "BadArgument" 251 (.ref 56), en P "Overflow" 267 (.ref 68), en P "BadBox" 283 (.ref 80), en P "TooDeep" 299 (.ref 92), en P "UNITY" 303 (.int 65536 302), en P "MAX_DIMEN" 309 (.int 1073741823 308), en P "MAX_NUMBER" 315 (.int 2147483647 314), en P "INF_BAD" 317 (.int 10000 316), en P "NORMAL" 322 (.int 0 318), en P "FIL" 323 (.int 1 319), en P "FILL" 324 (.int 2 320), en P "FILLL" 325 (.int 3 321), en P "is_whole" 334 (.ref 105), en P "check_whole" 341 (.ref 112), en P "check_number" 348 (.ref 119), en P "check_dimen" 355 (.ref 126), en P "rounded" 363 (.ref 133), en P "reading" 371 (.ref 140), en P "decimal_text" 384 (.ref 147), en P "times" 393 (.ref 154), en P "times_scaled" 394 (.ref 154), en P "over" 404 (.ref 161), en P "over_scaled" 405 (.ref 161), en P "badness" 414 (.ref 168), en P "order_text" 421 (.ref 175), en P "part_text" 430 (.ref 182), en P "Glue" 532 (.ref 250), en P "top_order" 540 (.ref 261), en P "Totals" 607 (.ref 313), en P "CHAR" 618 (.int 0 610), en P "LIGATURE" 619 (.int 1 611), en P "HBOX" 620 (.int 2 612), en P "VBOX" 621 (.int 3 613), en P "RULE" 622 (.int 4 614), en P "KERN" 623 (.int 5 615), en P "GLUE" 624 (.int 6 616), en P "PENALTY" 625 (.int 7 617), en P "DISC" 633 (.int 8 626), en P "MARK" 634 (.int 9 627), en P "INSERT" 635 (.int 10 628), en P "ADJUST" 636 (.int 11 629), en P "MATH" 637 (.int 12 630), en P "SPECIAL" 638 (.int 13 631), en P "UNSET" 639 (.int 14 632), en P "NATURAL" 643 (.int 0 640), en P "STRETCHED" 644 (.int 1 641), en P "SHRUNK" 645 (.int 2 642), en P "FONT_KERN" 650 (.int 0 646), en P "EXPLICIT" 651 (.int 1 647), en P "ACCENT_KERN" 652 (.int 2 648), en P "MU_KERN" 653 (.int 3 649), en P "PLAIN" 661 (.int 0 654), en P "ALEADERS" 662 (.int 1 655), en P "CLEADERS" 663 (.int 2 656), en P "XLEADERS" 664 (.int 3 657), en P "MU_SKIP" 665 (.int 4 658), en P "NONSCRIPT" 666 (.int 5 659), en P "NAMED" 667 (.int 100 660), en P "FOR_DEVICE" 672 (.int 0 668), en P "WRITING" 673 (.int 1 669), en P "OPENING" 674 (.int 2 670), en P "CLOSING" 675 (.int 3 671), en P "DEEPEST" 677 (.int 60 676), en P "Box" 718 (.ref 358), en P "Rule" 753 (.ref 379), en P "Kern" 785 (.ref 400), en P "Skip" 819 (.ref 422), en P "Penalty" 849 (.ref 443), en P "Mark" 879 (.ref 464), en P "Insert" 919 (.ref 485), en P "Special" 951 (.ref 506), en P "check_depth" 958 (.ref 517), en P "described_special" 964 (.ref 522), en P "described_rest" 975 (.ref 529), en P "described" 982 (.ref 535), en P "described_list" 989 (.ref 541), en P "width_of" 995 (.ref 546), en P "height_of" 1001 (.ref 551), en P "depth_of" 1007 (.ref 556), en P "line_height" 1014 (.ref 563), en P "line_depth" 1021 (.ref 570), en P "STANDING" 1024 (.ref 571), en P "pruned" 1037 (.ref 578), en P "unboxed" 1045 (.ref 585), en P "last_box" 1053 (.ref 592), en P "EXACTLY" 1058 (.int 0 1056), en P "SPREAD" 1059 (.int 1 1057), en P "FINE" 1064 (.int 0 1060), en P "LOOSE" 1065 (.int 1 1061), en P "TIGHT" 1066 (.int 2 1062), en P "OVERFULL" 1067 (.int 3 1063), en P "natural_line" 1078 (.ref 607), en P "across" 1085 (.ref 614), en P "check_column" 1093 (.ref 621), en P "natural_column" 1104 (.ref 628), en P "quotient" 1112 (.ref 635), en P "set_glue" 1123 (.ref 642), en P "moved" 1133 (.ref 649), en P "goal_size" 1142 (.ref 656), en P "set_box" 1152 (.ref 663), en P "hpack" 1170 (.ref 671), en P "vpack" 1186 (.ref 679), en P "_law_heap" 1197 (.ref 686), en P "_law_take" 1206 (.ref 693), en P "_law_size" 1213 (.ref 700), en P "_law_flow" 1220 (.ref 707), en P "_law_made_box" 1229 (.ref 714), en P "_law_part" 1237 (.ref 721), en P "_law_pack" 1247 (.ref 728), en P "_law_opened" 1262 (.ref 735), en P "_law_taken" 1268 (.ref 740), en P "_law_pruned" 1274 (.ref 745), en P "law" 1280 (.ref 750)] 130, #[]⟩
noncomputable def o12_10 (P : Params) : Obj := ⟨.none, none, .fields #[.int 1 0, .int 0 0, .ref 20, .int 6 0, .int 0 0, .ref 31, .int 10 0, .int 0 0, .ref 52, .int 12 0, .int 0 0, .ref 64, .int 14 0, .int 0 0, .ref 76, .int 16 0, .int 0 0, .ref 88, .int 24 0, .int 0 0, .ref 104, .int 26 0, .int 0 0, .ref 111, .int 30 0, .int 0 0, .ref 118, .int 34 0, .int 0 0, .ref 125, .int 38 0, .int 0 0, .ref 132, .int 44 0, .int 0 0, .ref 139, .int 46 0, .int 0 0, .ref 146, .int 57 0, .int 0 0, .ref 153, .int 60 0, .int 0 0, .ref 160, .int 70 0, .int 0 0, .ref 167, .int 86 0, .int 0 0, .ref 174, .int 88 0, .int 0 0, .ref 181, .int 90 0, .int 0 0, .ref 188, .int 128 0, .int 0 0, .ref 260, .int 133 0, .int 0 0, .ref 267, .int 164 0, .int 0 0, .ref 347, .int 178 0, .int 0 0, .ref 368, .int 188 0, .int 0 0, .ref 389, .int 196 0, .int 0 0, .ref 410, .int 209 0, .int 0 0, .ref 432, .int 214 0, .int 0 0, .ref 453, .int 219 0, .int 0 0, .ref 474, .int 231 0, .int 0 0, .ref 495, .int 242 0, .int 0 0, .ref 516, .int 245 0, .int 0 0, .ref 521, .int 251 0, .int 0 0, .ref 528, .int 266 0, .int 0 0, .ref 534, .int 289 0, .int 0 0, .ref 540, .int 291 0, .int 0 0, .ref 545, .int 304 0, .int 0 0, .ref 550, .int 317 0, .int 0 0, .ref 555, .int 330 0, .int 0 0, .ref 562, .int 334 0, .int 0 0, .ref 569, .int 340 0, .int 0 0, .ref 577, .int 351 0, .int 0 0, .ref 584, .int 357 0, .int 0 0, .ref 591, .int 366 0, .int 0 0, .ref 606, .int 377 0, .int 0 0, .ref 613, .int 383 0, .int 0 0, .ref 620, .int 387 0, .int 0 0, .ref 627, .int 404 0, .int 0 0, .ref 634, .int 406 0, .int 0 0, .ref 641, .int 421 0, .int 0 0, .ref 648, .int 431 0, .int 0 0, .ref 655, .int 436 0, .int 0 0, .ref 662, .int 439 0, .int 0 0, .ref 670, .int 447 0, .int 0 0, .ref 678, .int 457 0, .int 0 0, .ref 685, .int 462 0, .int 0 0, .ref 692, .int 469 0, .int 0 0, .ref 699, .int 471 0, .int 0 0, .ref 706, .int 473 0, .int 0 0, .ref 713, .int 478 0, .int 0 0, .ref 720, .int 493 0, .int 0 0, .ref 727, .int 495 0, .int 0 0, .ref 734, .int 508 0, .int 0 0, .ref 739, .int 523 0, .int 0 0, .ref 744, .int 531 0, .int 0 0, .ref 749], #[]⟩
noncomputable def o701_10 (P : Params) : Obj := ⟨.type "tuple", none, .seq #[] 0, #[]⟩
noncomputable def o702_10 (P : Params) : Obj := ⟨.none, none, .fields #[], #[]⟩
noncomputable def o703_10 (P : Params) : Obj := ⟨.type "tuple", none, .seq #[.str "heap" 1217] 0, #[]⟩
noncomputable def o704_10 (P : Params) : Obj := ⟨.type "tuple", none, .seq #[] 0, #[]⟩
noncomputable def o705_10 (P : Params) : Obj := ⟨.none, none, .func (fd (st 80) "_law_flow" 0 [] (.none) (.none) (.none) (.none) none (.none) (.none) 0), #[]⟩
noncomputable def o706_10 (P : Params) : Obj := ⟨.type "code", none, .fields #[.str "_law_flow" 1214, .str "_law_flow" 1215, .str "/claim/cut.py" 1216, .int 471 0, .int 1 0, .int 0 0, .int 0 0, .int 3 0, .ref 701, .bool true, .int 181 0, .ref 702, .none, .ref 703, .ref 704, .ref 705, .int 1218 0, .int 471 0, .str "/claim/cut.py" 1219], #[]⟩
noncomputable def o707_10 (P : Params) : Obj := ⟨.type "function", none, .func (fd (st 80) "_law_flow" 3 [] (.none) (.none) (.none) (.str "law_sq0057_01" 1187) none (.ref 706) (.none) 0), #[]⟩
noncomputable def o708_10 (P : Params) : Obj := ⟨.type "tuple", none, .seq #[] 0, #[]⟩
noncomputable def o709_10 (P : Params) : Obj := ⟨.none, none, .fields #[], #[]⟩
noncomputable def o710_10 (P : Params) : Obj := ⟨.type "tuple", none, .seq #[.str "heap" 1224, .str "inner" 1225, .str "made" 1226] 0, #[]⟩
noncomputable def o711_10 (P : Params) : Obj := ⟨.type "tuple", none, .seq #[] 0, #[]⟩
noncomputable def o712_10 (P : Params) : Obj := ⟨.none, none, .func (fd (st 81) "_law_made_box" 0 [] (.none) (.none) (.none) (.none) none (.none) (.none) 0), #[]⟩
noncomputable def o713_10 (P : Params) : Obj := ⟨.type "code", none, .fields #[.str "_law_made_box" 1221, .str "_law_made_box" 1222, .str "/claim/cut.py" 1223, .int 473 0, .int 1 0, .int 0 0, .int 0 0, .int 3 0, .ref 708, .bool true, .int 181 0, .ref 709, .none, .ref 710, .ref 711, .ref 712, .int 1227 0, .int 473 0, .str "/claim/cut.py" 1228], #[]⟩
noncomputable def o714_10 (P : Params) : Obj := ⟨.type "function", none, .func (fd (st 81) "_law_made_box" 3 [] (.none) (.none) (.none) (.str "law_sq0057_01" 1187) none (.ref 713) (.none) 0), #[]⟩
noncomputable def o715_10 (P : Params) : Obj := ⟨.type "tuple", none, .seq #[] 0, #[]⟩
noncomputable def o716_10 (P : Params) : Obj := ⟨.none, none, .fields #[], #[]⟩
noncomputable def o717_10 (P : Params) : Obj := ⟨.type "tuple", none, .seq #[.str "heap" 1233, .str "way" 1234] 0, #[]⟩
noncomputable def o718_10 (P : Params) : Obj := ⟨.type "tuple", none, .seq #[] 0, #[]⟩
noncomputable def o719_10 (P : Params) : Obj := ⟨.none, none, .func (fd (st 82) "_law_part" 0 [] (.none) (.none) (.none) (.none) none (.none) (.none) 0), #[]⟩
noncomputable def o720_10 (P : Params) : Obj := ⟨.type "code", none, .fields #[.str "_law_part" 1230, .str "_law_part" 1231, .str "/claim/cut.py" 1232, .int 478 0, .int 1 0, .int 0 0, .int 0 0, .int 3 0, .ref 715, .bool true, .int 181 0, .ref 716, .none, .ref 717, .ref 718, .ref 719, .int 1235 0, .int 478 0, .str "/claim/cut.py" 1236], #[]⟩
noncomputable def o721_10 (P : Params) : Obj := ⟨.type "function", none, .func (fd (st 82) "_law_part" 3 [] (.none) (.none) (.none) (.str "law_sq0057_01" 1187) none (.ref 720) (.none) 0), #[]⟩
noncomputable def o722_10 (P : Params) : Obj := ⟨.type "tuple", none, .seq #[] 0, #[]⟩
noncomputable def o723_10 (P : Params) : Obj := ⟨.none, none, .fields #[], #[]⟩
noncomputable def o724_10 (P : Params) : Obj := ⟨.type "tuple", none, .seq #[.str "items" 1241, .str "upright" 1242, .str "mode" 1243, .str "amount" 1244] 0, #[]⟩
noncomputable def o725_10 (P : Params) : Obj := ⟨.type "tuple", none, .seq #[] 0, #[]⟩
noncomputable def o726_10 (P : Params) : Obj := ⟨.none, none, .func (fd (st 83) "_law_pack" 0 [] (.none) (.none) (.none) (.none) none (.none) (.none) 0), #[]⟩
noncomputable def o727_10 (P : Params) : Obj := ⟨.type "code", none, .fields #[.str "_law_pack" 1238, .str "_law_pack" 1239, .str "/claim/cut.py" 1240, .int 493 0, .int 4 0, .int 0 0, .int 0 0, .int 3 0, .ref 722, .bool true, .int 181 0, .ref 723, .none, .ref 724, .ref 725, .ref 726, .int 1245 0, .int 493 0, .str "/claim/cut.py" 1246], #[]⟩
noncomputable def o728_10 (P : Params) : Obj := ⟨.type "function", none, .func (fd (st 83) "_law_pack" 3 [] (.none) (.none) (.none) (.str "law_sq0057_01" 1187) none (.ref 727) (.none) 0), #[]⟩
noncomputable def o729_10 (P : Params) : Obj := ⟨.type "tuple", none, .seq #[] 0, #[]⟩
noncomputable def o730_10 (P : Params) : Obj := ⟨.none, none, .fields #[], #[]⟩
noncomputable def o731_10 (P : Params) : Obj := ⟨.type "tuple", none, .seq #[.str "items" 1251, .str "upright" 1252, .str "mode" 1253, .str "amount" 1254, .str "found" 1255, .str "report" 1256, .str "as_was" 1257, .str "parts" 1258, .str "again" 1259] 0, #[]⟩
noncomputable def o732_10 (P : Params) : Obj := ⟨.type "tuple", none, .seq #[] 0, #[]⟩
noncomputable def o733_10 (P : Params) : Obj := ⟨.none, none, .func (fd (st 84) "_law_opened" 0 [] (.none) (.none) (.none) (.none) none (.none) (.none) 0), #[]⟩
noncomputable def o734_10 (P : Params) : Obj := ⟨.type "code", none, .fields #[.str "_law_opened" 1248, .str "_law_opened" 1249, .str "/claim/cut.py" 1250, .int 495 0, .int 4 0, .int 0 0, .int 0 0, .int 3 0, .ref 729, .bool true, .int 181 0, .ref 730, .none, .ref 731, .ref 732, .ref 733, .int 1260 0, .int 495 0, .str "/claim/cut.py" 1261], #[]⟩
noncomputable def o735_10 (P : Params) : Obj := ⟨.type "function", none, .func (fd (st 84) "_law_opened" 3 [] (.none) (.none) (.none) (.str "law_sq0057_01" 1187) none (.ref 734) (.none) 0), #[]⟩
noncomputable def o736_10 (P : Params) : Obj := ⟨.type "tuple", none, .seq #[] 0, #[]⟩
noncomputable def o737_10 (P : Params) : Obj := ⟨.none, none, .fields #[], #[]⟩
noncomputable def o738_10 (P : Params) : Obj := ⟨.none, none, .func (fd (st 85) "_law_taken" 0 [] (.none) (.none) (.none) (.none) none (.none) (.none) 0), #[]⟩
noncomputable def o739_10 (P : Params) : Obj := ⟨.type "code", none, .fields #[.str "_law_taken" 1263, .str "_law_taken" 1264, .str "/claim/cut.py" 1265, .int 508 0, .int 1 0, .int 0 0, .int 0 0, .int 3 0, .ref 736, .bool true, .int 181 0, .ref 737, .none, .none, .none, .ref 738, .int 1266 0, .int 508 0, .str "/claim/cut.py" 1267], #[]⟩
noncomputable def o740_10 (P : Params) : Obj := ⟨.type "function", none, .func (fd (st 85) "_law_taken" 3 [] (.none) (.none) (.none) (.str "law_sq0057_01" 1187) none (.ref 739) (.none) 0), #[]⟩
noncomputable def o741_10 (P : Params) : Obj := ⟨.type "tuple", none, .seq #[] 0, #[]⟩
noncomputable def o742_10 (P : Params) : Obj := ⟨.none, none, .fields #[], #[]⟩
noncomputable def o743_10 (P : Params) : Obj := ⟨.none, none, .func (fd (st 86) "_law_pruned" 0 [] (.none) (.none) (.none) (.none) none (.none) (.none) 0), #[]⟩
noncomputable def o744_10 (P : Params) : Obj := ⟨.type "code", none, .fields #[.str "_law_pruned" 1269, .str "_law_pruned" 1270, .str "/claim/cut.py" 1271, .int 523 0, .int 4 0, .int 0 0, .int 0 0, .int 3 0, .ref 741, .bool true, .int 181 0, .ref 742, .none, .none, .none, .ref 743, .int 1272 0, .int 523 0, .str "/claim/cut.py" 1273], #[]⟩
noncomputable def o745_10 (P : Params) : Obj := ⟨.type "function", none, .func (fd (st 86) "_law_pruned" 3 [] (.none) (.none) (.none) (.str "law_sq0057_01" 1187) none (.ref 744) (.none) 0), #[]⟩
noncomputable def o746_10 (P : Params) : Obj := ⟨.type "tuple", none, .seq #[] 0, #[]⟩
noncomputable def o747_10 (P : Params) : Obj := ⟨.none, none, .fields #[], #[]⟩
noncomputable def o748_10 (P : Params) : Obj := ⟨.none, none, .func (fd (st 87) "law" 0 [] (.none) (.none) (.none) (.none) none (.none) (.none) 0), #[]⟩
noncomputable def o749_10 (P : Params) : Obj := ⟨.type "code", none, .fields #[.str "law" 1275, .str "law" 1276, .str "/claim/cut.py" 1277, .int 531 0, .int 1 0, .int 0 0, .int 0 0, .int 3 0, .ref 746, .bool true, .int 181 0, .ref 747, .none, .none, .none, .ref 748, .int 1278 0, .int 531 0, .str "/claim/cut.py" 1279], #[]⟩
noncomputable def o750_10 (P : Params) : Obj := ⟨.type "function", none, .func (fd (st 87) "law" 3 [] (.none) (.none) (.none) (.str "law_sq0057_01" 1187) none (.ref 749) (.none) 0), #[]⟩
noncomputable def tr9 (P : Params) : BT := puts (tr8 P) [(3, o3_10 P), (12, o12_10 P), (701, o701_10 P), (702, o702_10 P), (703, o703_10 P), (704, o704_10 P), (705, o705_10 P), (706, o706_10 P), (707, o707_10 P), (708, o708_10 P), (709, o709_10 P), (710, o710_10 P), (711, o711_10 P), (712, o712_10 P), (713, o713_10 P), (714, o714_10 P), (715, o715_10 P), (716, o716_10 P), (717, o717_10 P), (718, o718_10 P), (719, o719_10 P), (720, o720_10 P), (721, o721_10 P), (722, o722_10 P), (723, o723_10 P), (724, o724_10 P), (725, o725_10 P), (726, o726_10 P), (727, o727_10 P), (728, o728_10 P), (729, o729_10 P), (730, o730_10 P), (731, o731_10 P), (732, o732_10 P), (733, o733_10 P), (734, o734_10 P), (735, o735_10 P), (736, o736_10 P), (737, o737_10 P), (738, o738_10 P), (739, o739_10 P), (740, o740_10 P), (741, o741_10 P), (742, o742_10 P), (743, o743_10 P), (744, o744_10 P), (745, o745_10 P), (746, o746_10 P), (747, o747_10 P), (748, o748_10 P), (749, o749_10 P), (750, o750_10 P)]
noncomputable def hF (P : Params) : Heap := ⟨⟨[PySem.W.boot_o_0 P, PySem.W.boot_o_1 P, PySem.W.boot_o_2 P, o3_10 P, PySem.W.boot_o_4 P, PySem.W.boot_o_5 P, PySem.W.boot_o_6 P, PySem.W.boot_o_7 P, PySem.W.boot_o_8 P, PySem.W.boot_o_9 P, PySem.W.boot_o_10 P, o11_0 P, o12_10 P, o13_0 P, o14_0 P, o15_2 P, o16_2 P, o17_2 P, o18_2 P, o19_2 P, o20_2 P, o21_2 P, o22_2 P, o23_2 P, o24_2 P, o25_2 P, o26_2 P, o27_2 P, o28_2 P, o29_2 P, o30_2 P, o31_2 P, o32_2 P, o33_2 P, o34_2 P, o35_2 P, o36_2 P, o37_2 P, o38_2 P, o39_2 P, o40_2 P, o41_2 P, o42_2 P, o43_3 P, o44_2 P, o45_2 P, o46_2 P, o47_2 P, o48_2 P, o49_2 P, o50_2 P, o51_2 P, o52_2 P, o53_2 P, o54_2 P, o55_2 P, o56_2 P, o57_2 P, o58_2 P, o59_2 P, o60_2 P, o61_2 P, o62_2 P, o63_2 P, o64_2 P, o65_2 P, o66_2 P, o67_2 P, o68_2 P, o69_2 P, o70_2 P, o71_3 P, o72_3 P, o73_3 P, o74_3 P, o75_3 P, o76_3 P, o77_3 P, o78_3 P, o79_3 P, o80_3 P, o81_3 P, o82_3 P, o83_3 P, o84_3 P, o85_3 P, o86_3 P, o87_3 P, o88_3 P, o89_3 P, o90_3 P, o91_3 P, o92_3 P, o93_3 P, o94_3 P, o95_3 P, o96_3 P, o97_3 P, o98_3 P, o99_3 P, o100_3 P, o101_3 P, o102_3 P, o103_3 P, o104_3 P, o105_3 P, o106_3 P, o107_3 P, o108_3 P, o109_3 P, o110_3 P, o111_3 P, o112_3 P, o113_3 P, o114_3 P, o115_3 P, o116_3 P, o117_3 P, o118_3 P, o119_3 P, o120_3 P, o121_3 P, o122_3 P, o123_3 P, o124_3 P, o125_3 P, o126_3 P, o127_3 P, o128_3 P, o129_3 P, o130_3 P, o131_3 P, o132_3 P, o133_3 P, o134_3 P, o135_3 P, o136_3 P, o137_3 P, o138_3 P, o139_3 P, o140_3 P, o141_3 P, o142_3 P, o143_3 P, o144_3 P, o145_3 P, o146_3 P, o147_3 P, o148_3 P, o149_3 P, o150_3 P, o151_3 P, o152_3 P, o153_3 P, o154_3 P, o155_3 P, o156_3 P, o157_3 P, o158_3 P, o159_3 P, o160_3 P, o161_3 P, o162_4 P, o163_4 P, o164_4 P, o165_4 P, o166_4 P, o167_4 P, o168_4 P, o169_4 P, o170_4 P, o171_4 P, o172_4 P, o173_4 P, o174_4 P, o175_4 P, o176_4 P, o177_4 P, o178_4 P, o179_4 P, o180_4 P, o181_4 P, o182_4 P, o183_4 P, o184_4 P, o185_4 P, o186_4 P, o187_4 P, o188_4 P, o189_4 P, o190_4 P, o191_4 P, o192_4 P, o193_4 P, o194_4 P, o195_4 P, o196_4 P, o197_4 P, o198_4 P, o199_4 P, o200_4 P, o201_4 P, o202_4 P, o203_4 P, o204_4 P, o205_4 P, o206_4 P, o207_4 P, o208_4 P, o209_4 P, o210_4 P, o211_4 P, o212_4 P, o213_4 P, o214_4 P, o215_4 P, o216_4 P, o217_4 P, o218_4 P, o219_4 P, o220_4 P, o221_4 P, o222_4 P, o223_4 P, o224_4 P, o225_4 P, o226_4 P, o227_4 P, o228_4 P, o229_4 P, o230_4 P, o231_4 P, o232_4 P, o233_4 P, o234_4 P, o235_4 P, o236_4 P, o237_4 P, o238_4 P, o239_4 P, o240_4 P, o241_4 P, o242_4 P, o243_4 P, o244_4 P, o245_4 P, o246_4 P, o247_4 P, o248_4 P, o249_4 P, o250_4 P, o251_4 P, o252_4 P, o253_4 P, o254_4 P, o255_4 P, o256_4 P, o257_4 P, o258_4 P, o259_4 P, o260_4 P, o261_4 P, o262_5 P, o263_5 P, o264_5 P, o265_5 P, o266_5 P, o267_5 P, o268_5 P, o269_5 P, o270_5 P, o271_5 P, o272_5 P, o273_5 P, o274_5 P, o275_5 P, o276_5 P, o277_5 P, o278_5 P, o279_5 P, o280_5 P, o281_5 P, o282_5 P, o283_5 P, o284_5 P, o285_5 P, o286_5 P, o287_5 P, o288_5 P, o289_5 P, o290_5 P, o291_5 P, o292_5 P, o293_5 P, o294_5 P, o295_5 P, o296_5 P, o297_5 P, o298_5 P, o299_5 P, o300_5 P, o301_5 P, o302_5 P, o303_5 P, o304_5 P, o305_5 P, o306_5 P, o307_5 P, o308_5 P, o309_5 P, o310_5 P, o311_5 P, o312_5 P, o313_5 P, o314_5 P, o315_5 P, o316_5 P, o317_5 P, o318_5 P, o319_5 P, o320_5 P, o321_5 P, o322_5 P, o323_5 P, o324_5 P, o325_5 P, o326_5 P, o327_5 P, o328_5 P, o329_5 P, o330_6 P, o331_6 P, o332_6 P, o333_6 P, o334_6 P, o335_6 P, o336_6 P, o337_6 P, o338_6 P, o339_6 P, o340_6 P, o341_6 P, o342_6 P, o343_6 P, o344_6 P, o345_6 P, o346_6 P, o347_6 P, o348_6 P, o349_6 P, o350_6 P, o351_6 P, o352_6 P, o353_6 P, o354_6 P, o355_6 P, o356_6 P, o357_6 P, o358_6 P, o359_6 P, o360_6 P, o361_6 P, o362_6 P, o363_6 P, o364_6 P, o365_6 P, o366_6 P, o367_6 P, o368_6 P, o369_6 P, o370_6 P, o371_6 P, o372_6 P, o373_6 P, o374_6 P, o375_6 P, o376_6 P, o377_6 P, o378_6 P, o379_6 P, o380_6 P, o381_6 P, o382_6 P, o383_6 P, o384_7 P, o385_7 P, o386_7 P, o387_7 P, o388_7 P, o389_7 P, o390_7 P, o391_7 P, o392_7 P, o393_7 P, o394_7 P, o395_7 P, o396_7 P, o397_7 P, o398_7 P, o399_7 P, o400_7 P, o401_7 P, o402_7 P, o403_7 P, o404_7 P, o405_7 P, o406_7 P, o407_7 P, o408_7 P, o409_7 P, o410_7 P, o411_7 P, o412_7 P, o413_7 P, o414_7 P, o415_7 P, o416_7 P, o417_7 P, o418_7 P, o419_7 P, o420_7 P, o421_7 P, o422_7 P, o423_7 P, o424_7 P, o425_7 P, o426_7 P, o427_7 P, o428_7 P, o429_7 P, o430_7 P, o431_7 P, o432_7 P, o433_7 P, o434_7 P, o435_7 P, o436_7 P, o437_7 P, o438_7 P, o439_7 P, o440_7 P, o441_7 P, o442_7 P, o443_7 P, o444_7 P, o445_7 P, o446_7 P, o447_7 P, o448_8 P, o449_8 P, o450_8 P, o451_8 P, o452_8 P, o453_8 P, o454_8 P, o455_8 P, o456_8 P, o457_8 P, o458_8 P, o459_8 P, o460_8 P, o461_8 P, o462_8 P, o463_8 P, o464_8 P, o465_8 P, o466_8 P, o467_8 P, o468_8 P, o469_8 P, o470_8 P, o471_8 P, o472_8 P, o473_8 P, o474_8 P, o475_8 P, o476_8 P, o477_8 P, o478_8 P, o479_8 P, o480_8 P, o481_8 P, o482_8 P, o483_8 P, o484_8 P, o485_8 P, o486_8 P, o487_8 P, o488_8 P, o489_8 P, o490_8 P, o491_8 P, o492_8 P, o493_8 P, o494_8 P, o495_8 P, o496_8 P, o497_8 P, o498_8 P, o499_8 P, o500_8 P, o501_8 P, o502_8 P, o503_8 P, o504_8 P, o505_8 P, o506_8 P, o507_8 P, o508_8 P, o509_8 P, o510_8 P, o511_8 P, o512_8 P, o513_8 P, o514_8 P, o515_8 P, o516_8 P, o517_8 P, o518_8 P, o519_8 P, o520_8 P, o521_8 P, o522_8 P, o523_8 P, o524_8 P, o525_8 P, o526_8 P, o527_8 P, o528_8 P, o529_8 P, o530_8 P, o531_8 P, o532_8 P, o533_8 P, o534_8 P, o535_8 P, o536_8 P, o537_8 P, o538_8 P, o539_8 P, o540_8 P, o541_8 P, o542_8 P, o543_8 P, o544_8 P, o545_8 P, o546_8 P, o547_9 P, o548_9 P, o549_9 P, o550_9 P, o551_9 P, o552_9 P, o553_9 P, o554_9 P, o555_9 P, o556_9 P, o557_9 P, o558_9 P, o559_9 P, o560_9 P, o561_9 P, o562_9 P, o563_9 P, o564_9 P, o565_9 P, o566_9 P, o567_9 P, o568_9 P, o569_9 P, o570_9 P, o571_9 P, o572_9 P, o573_9 P, o574_9 P, o575_9 P, o576_9 P, o577_9 P, o578_9 P, o579_9 P, o580_9 P, o581_9 P, o582_9 P, o583_9 P, o584_9 P, o585_9 P, o586_9 P, o587_9 P, o588_9 P, o589_9 P, o590_9 P, o591_9 P, o592_9 P, o593_9 P, o594_9 P, o595_9 P, o596_9 P, o597_9 P, o598_9 P, o599_9 P, o600_9 P, o601_9 P, o602_9 P, o603_9 P, o604_9 P, o605_9 P, o606_9 P, o607_9 P, o608_9 P, o609_9 P, o610_9 P, o611_9 P, o612_9 P, o613_9 P, o614_9 P, o615_9 P, o616_9 P, o617_9 P, o618_9 P, o619_9 P, o620_9 P, o621_9 P, o622_9 P, o623_9 P, o624_9 P, o625_9 P, o626_9 P, o627_9 P, o628_9 P, o629_9 P, o630_9 P, o631_9 P, o632_9 P, o633_9 P, o634_9 P, o635_9 P, o636_9 P, o637_9 P, o638_9 P, o639_9 P, o640_9 P, o641_9 P, o642_9 P, o643_9 P, o644_9 P, o645_9 P, o646_9 P, o647_9 P, o648_9 P, o649_9 P, o650_9 P, o651_9 P, o652_9 P, o653_9 P, o654_9 P, o655_9 P, o656_9 P, o657_9 P, o658_9 P, o659_9 P, o660_9 P, o661_9 P, o662_9 P, o663_9 P, o664_9 P, o665_9 P, o666_9 P, o667_9 P, o668_9 P, o669_9 P, o670_9 P, o671_9 P, o672_9 P, o673_9 P, o674_9 P, o675_9 P, o676_9 P, o677_9 P, o678_9 P, o679_9 P, o680_9 P, o681_9 P, o682_9 P, o683_9 P, o684_9 P, o685_9 P, o686_9 P, o687_9 P, o688_9 P, o689_9 P, o690_9 P, o691_9 P, o692_9 P, o693_9 P, o694_9 P, o695_9 P, o696_9 P, o697_9 P, o698_9 P, o699_9 P, o700_9 P, o701_10 P, o702_10 P, o703_10 P, o704_10 P, o705_10 P, o706_10 P, o707_10 P, o708_10 P, o709_10 P, o710_10 P, o711_10 P, o712_10 P, o713_10 P, o714_10 P, o715_10 P, o716_10 P, o717_10 P, o718_10 P, o719_10 P, o720_10 P, o721_10 P, o722_10 P, o723_10 P, o724_10 P, o725_10 P, o726_10 P, o727_10 P, o728_10 P, o729_10 P, o730_10 P, o731_10 P, o732_10 P, o733_10 P, o734_10 P, o735_10 P, o736_10 P, o737_10 P, o738_10 P, o739_10 P, o740_10 P, o741_10 P, o742_10 P, o743_10 P, o744_10 P, o745_10 P, o746_10 P, o747_10 P, o748_10 P, o749_10 P, o750_10 P]⟩, {}⟩
noncomputable def env0 : Env := { scope := pw.main.scope, locals := mainNs, globals := mainNs, cells := [], code := .ref 13, frame := some 14 }
noncomputable abbrev d0 : Drawn := ⟨0, 0, 0, 0⟩
noncomputable abbrev fp : Pos := ⟨0, 0, 0, 0⟩
noncomputable def ann0 : Option Value := some (.ref 6)
noncomputable abbrev gn : Array GenState := Array.mk []
noncomputable abbrev SA (w : World) (os : OsState) : Shared := ⟨hA w.params, gn, d0, 187, os⟩
noncomputable abbrev sT (t : Params → BT) (n k : Nat) (w : World) (os : OsState) : SharedT := ⟨t w.params, n, {}, gn, d0, k, os⟩
noncomputable abbrev cE (b : List Stmt) : Code := .body b env0
noncomputable def Pc1 (w : World) : Prop := ∀ (p : Program) (b : List Stmt) (os : OsState), PySem.W.Fast.tw10110043849684766642 PySem.W.Fast.tw14364793385576792824 p w 11 ann0 1 822 (sT tr0 15 187 w os) (piecesOf (sts 0 6) env0 (cE b) ⟨0, 0, 0, 0⟩ [topFrame fp]) = some (Flow.next, sT tr1 71 268 w os, cE b, ⟨12, 0, 13, 8⟩)
theorem pc1false (w : World) : Pc1 (w.withFollow "special-get-raises" false) := fun p b os => by kernel_rfl
theorem pc1true (w : World) : Pc1 (w.withFollow "special-get-raises" true) := fun p b os => by kernel_rfl
theorem pc1 : ∀ w, Pc1 w := byRow2 "special-get-raises" pc1false pc1true
theorem ps1 (w : World) (p : Program) (b : List Stmt) (os : OsState) : segRun treeTable p w 11 ann0 1 822 (sT tr0 15 187 w os).abs (piecesOf (sts 0 6) env0 (cE b) ⟨0, 0, 0, 0⟩ [topFrame fp]) = some (Flow.next, (sT tr1 71 268 w os).abs, cE b, ⟨12, 0, 13, 8⟩) := by
  have h := pc1 w p b os
  rewrite [← PySem.W.Fast.te10110043849684766642, ← PySem.W.Fast.te14364793385576792824] at h
  exact segRun_of h
noncomputable def Pc2 (w : World) : Prop := ∀ (p : Program) (b : List Stmt) (os : OsState), PySem.W.Fast.tw10110043849684766642 PySem.W.Fast.tw14364793385576792824 p w 11 ann0 1 893 (sT tr1 71 268 w os) (piecesOf (sts 6 19) env0 (cE b) ⟨12, 0, 13, 8⟩ [topFrame fp]) = some (Flow.next, sT tr2 162 406 w os, cE b, ⟨69, 0, 69, 11⟩)
theorem pc2false (w : World) : Pc2 (w.withFollow "special-get-raises" false) := fun p b os => by kernel_rfl
theorem pc2true (w : World) : Pc2 (w.withFollow "special-get-raises" true) := fun p b os => by kernel_rfl
theorem pc2 : ∀ w, Pc2 w := byRow2 "special-get-raises" pc2false pc2true
theorem ps2 (w : World) (p : Program) (b : List Stmt) (os : OsState) : segRun treeTable p w 11 ann0 1 893 (sT tr1 71 268 w os).abs (piecesOf (sts 6 19) env0 (cE b) ⟨12, 0, 13, 8⟩ [topFrame fp]) = some (Flow.next, (sT tr2 162 406 w os).abs, cE b, ⟨69, 0, 69, 11⟩) := by
  have h := pc2 w p b os
  rewrite [← PySem.W.Fast.te10110043849684766642, ← PySem.W.Fast.te14364793385576792824] at h
  exact segRun_of h
noncomputable def Pc3 (w : World) : Prop := ∀ (p : Program) (b : List Stmt) (os : OsState), PySem.W.Fast.tw10110043849684766642 PySem.W.Fast.tw14364793385576792824 p w 11 ann0 1 587 (sT tr2 162 406 w os) (piecesOf (sts 25 5) env0 (cE b) ⟨69, 0, 69, 11⟩ [topFrame fp]) = some (Flow.next, sT tr3 262 541 w os, cE b, ⟨128, 0, 132, 17⟩)
theorem pc3 : ∀ w, Pc3 w := fun w p b os => by kernel_rfl
theorem ps3 (w : World) (p : Program) (b : List Stmt) (os : OsState) : segRun treeTable p w 11 ann0 1 587 (sT tr2 162 406 w os).abs (piecesOf (sts 25 5) env0 (cE b) ⟨69, 0, 69, 11⟩ [topFrame fp]) = some (Flow.next, (sT tr3 262 541 w os).abs, cE b, ⟨128, 0, 132, 17⟩) := by
  have h := pc3 w p b os
  rewrite [← PySem.W.Fast.te10110043849684766642, ← PySem.W.Fast.te14364793385576792824] at h
  exact segRun_of h
noncomputable def Pc4 (w : World) : Prop := ∀ (p : Program) (b : List Stmt) (os : OsState), PySem.W.Fast.tw10110043849684766642 PySem.W.Fast.tw14364793385576792824 p w 11 ann0 1 801 (sT tr3 262 541 w os) (piecesOf (sts 30 5) env0 (cE b) ⟨128, 0, 132, 17⟩ [topFrame fp]) = some (Flow.next, sT tr4 330 646 w os, cE b, ⟨159, 20, 159, 26⟩)
theorem pc4false (w : World) : Pc4 (w.withFollow "special-get-raises" false) := fun p b os => by kernel_rfl
theorem pc4true (w : World) : Pc4 (w.withFollow "special-get-raises" true) := fun p b os => by kernel_rfl
theorem pc4 : ∀ w, Pc4 w := byRow2 "special-get-raises" pc4false pc4true
theorem ps4 (w : World) (p : Program) (b : List Stmt) (os : OsState) : segRun treeTable p w 11 ann0 1 801 (sT tr3 262 541 w os).abs (piecesOf (sts 30 5) env0 (cE b) ⟨128, 0, 132, 17⟩ [topFrame fp]) = some (Flow.next, (sT tr4 330 646 w os).abs, cE b, ⟨159, 20, 159, 26⟩) := by
  have h := pc4 w p b os
  rewrite [← PySem.W.Fast.te10110043849684766642, ← PySem.W.Fast.te14364793385576792824] at h
  exact segRun_of h
noncomputable def Pc5 (w : World) : Prop := ∀ (p : Program) (b : List Stmt) (os : OsState), PySem.W.Fast.tw10110043849684766642 PySem.W.Fast.tw14364793385576792824 p w 11 ann0 1 841 (sT tr4 330 646 w os) (piecesOf (sts 35 6) env0 (cE b) ⟨159, 20, 159, 26⟩ [topFrame fp]) = some (Flow.next, sT tr5 384 754 w os, cE b, ⟨178, 0, 187, 26⟩)
theorem pc5false (w : World) : Pc5 (w.withFollow "special-get-raises" false) := fun p b os => by kernel_rfl
theorem pc5true (w : World) : Pc5 (w.withFollow "special-get-raises" true) := fun p b os => by kernel_rfl
theorem pc5 : ∀ w, Pc5 w := byRow2 "special-get-raises" pc5false pc5true
theorem ps5 (w : World) (p : Program) (b : List Stmt) (os : OsState) : segRun treeTable p w 11 ann0 1 841 (sT tr4 330 646 w os).abs (piecesOf (sts 35 6) env0 (cE b) ⟨159, 20, 159, 26⟩ [topFrame fp]) = some (Flow.next, (sT tr5 384 754 w os).abs, cE b, ⟨178, 0, 187, 26⟩) := by
  have h := pc5 w p b os
  rewrite [← PySem.W.Fast.te10110043849684766642, ← PySem.W.Fast.te14364793385576792824] at h
  exact segRun_of h
noncomputable def Pc6 (w : World) : Prop := ∀ (p : Program) (b : List Stmt) (os : OsState), PySem.W.Fast.tw10110043849684766642 PySem.W.Fast.tw14364793385576792824 p w 11 ann0 1 713 (sT tr5 384 754 w os) (piecesOf (sts 41 3) env0 (cE b) ⟨178, 0, 187, 26⟩ [topFrame fp]) = some (Flow.next, sT tr6 448 850 w os, cE b, ⟨209, 0, 213, 40⟩)
theorem pc6 : ∀ w, Pc6 w := fun w p b os => by kernel_rfl
theorem ps6 (w : World) (p : Program) (b : List Stmt) (os : OsState) : segRun treeTable p w 11 ann0 1 713 (sT tr5 384 754 w os).abs (piecesOf (sts 41 3) env0 (cE b) ⟨178, 0, 187, 26⟩ [topFrame fp]) = some (Flow.next, (sT tr6 448 850 w os).abs, cE b, ⟨209, 0, 213, 40⟩) := by
  have h := pc6 w p b os
  rewrite [← PySem.W.Fast.te10110043849684766642, ← PySem.W.Fast.te14364793385576792824] at h
  exact segRun_of h
noncomputable def Pc7 (w : World) : Prop := ∀ (p : Program) (b : List Stmt) (os : OsState), PySem.W.Fast.tw10110043849684766642 PySem.W.Fast.tw14364793385576792824 p w 11 ann0 1 900 (sT tr6 448 850 w os) (piecesOf (sts 44 9) env0 (cE b) ⟨209, 0, 213, 40⟩ [topFrame fp]) = some (Flow.next, sT tr7 547 996 w os, cE b, ⟨291, 0, 303, 12⟩)
theorem pc7 : ∀ w, Pc7 w := fun w p b os => by kernel_rfl
theorem ps7 (w : World) (p : Program) (b : List Stmt) (os : OsState) : segRun treeTable p w 11 ann0 1 900 (sT tr6 448 850 w os).abs (piecesOf (sts 44 9) env0 (cE b) ⟨209, 0, 213, 40⟩ [topFrame fp]) = some (Flow.next, (sT tr7 547 996 w os).abs, cE b, ⟨291, 0, 303, 12⟩) := by
  have h := pc7 w p b os
  rewrite [← PySem.W.Fast.te10110043849684766642, ← PySem.W.Fast.te14364793385576792824] at h
  exact segRun_of h
noncomputable def Pc8 (w : World) : Prop := ∀ (p : Program) (b : List Stmt) (os : OsState), PySem.W.Fast.tw10110043849684766642 PySem.W.Fast.tw14364793385576792824 p w 11 ann0 1 877 (sT tr7 547 996 w os) (piecesOf (sts 53 27) env0 (cE b) ⟨291, 0, 303, 12⟩ [topFrame fp]) = some (Flow.next, sT tr8 701 1214 w os, cE b, ⟨469, 0, 470, 34⟩)
theorem pc8false (w : World) : Pc8 (w.withFollow "special-get-raises" false) := fun p b os => by kernel_rfl
theorem pc8true (w : World) : Pc8 (w.withFollow "special-get-raises" true) := fun p b os => by kernel_rfl
theorem pc8 : ∀ w, Pc8 w := byRow2 "special-get-raises" pc8false pc8true
theorem ps8 (w : World) (p : Program) (b : List Stmt) (os : OsState) : segRun treeTable p w 11 ann0 1 877 (sT tr7 547 996 w os).abs (piecesOf (sts 53 27) env0 (cE b) ⟨291, 0, 303, 12⟩ [topFrame fp]) = some (Flow.next, (sT tr8 701 1214 w os).abs, cE b, ⟨469, 0, 470, 34⟩) := by
  have h := pc8 w p b os
  rewrite [← PySem.W.Fast.te10110043849684766642, ← PySem.W.Fast.te14364793385576792824] at h
  exact segRun_of h
noncomputable def Pc9 (w : World) : Prop := ∀ (p : Program) (b : List Stmt) (os : OsState), PySem.W.Fast.tw10110043849684766642 PySem.W.Fast.tw14364793385576792824 p w 11 ann0 1 238 (sT tr8 701 1214 w os) (piecesOf (sts 80 8) env0 (cE b) ⟨469, 0, 470, 34⟩ [topFrame fp]) = some (Flow.next, sT tr9 751 1281 w os, cE b, ⟨531, 0, 540, 108⟩)
theorem pc9 : ∀ w, Pc9 w := fun w p b os => by kernel_rfl
theorem ps9 (w : World) (p : Program) (b : List Stmt) (os : OsState) : segRun treeTable p w 11 ann0 1 238 (sT tr8 701 1214 w os).abs (piecesOf (sts 80 8) env0 (cE b) ⟨469, 0, 470, 34⟩ [topFrame fp]) = some (Flow.next, (sT tr9 751 1281 w os).abs, cE b, ⟨531, 0, 540, 108⟩) := by
  have h := pc9 w p b os
  rewrite [← PySem.W.Fast.te10110043849684766642, ← PySem.W.Fast.te14364793385576792824] at h
  exact segRun_of h
theorem pre0 (w : World) (os : OsState) : topGo treeTable pw w 11 ann0 12 ⟨boot_heap w.params, gn, boot_drawn, boot_toks, os⟩ (topStub pw) = some (SA w os, Thread.mk (denote treeTable (cE (behindTheImports pw))) (cE (behindTheImports pw)) ⟨0, 0, 0, 0⟩ [topFrame fp]) := by
  rewrite [PySem.W.Fast.te15667345088766844465, PySem.W.Fast.te14364793385576792824, PySem.W.Fast.te11892475500146522536]
  kernel_rfl
theorem blk0 (w : World) (os : OsState) : segRun treeTable pw w 11 ann0 1 1 (SA w os) (blockOf (behindTheImports pw) env0 (cE (behindTheImports pw)) ⟨0, 0, 0, 0⟩ [topFrame fp]) = some (Flow.next, (sT tr0 15 187 w os).abs, cE (behindTheImports pw), ⟨0, 0, 0, 0⟩) := by
  rewrite [PySem.W.Fast.te14374325043358763698, PySem.W.Fast.te14364793385576792824]
  kernel_rfl
theorem fin0 (w : World) (os : OsState) : topRun treeTable pw w 11 ann0 2 (sT tr9 751 1281 w os).abs ⟨doneF .next, cE (behindTheImports pw), ⟨531, 0, 540, 108⟩, [topFrame fp]⟩ = some ⟨hF w.params, gn, d0, 1281, os⟩ := by
  rewrite [PySem.W.Fast.te14082659384304107361, PySem.W.Fast.te14364793385576792824]
  kernel_rfl
theorem body0 : behindTheImports pw = sts 0 6 ++ (sts 6 19 ++ (sts 25 5 ++ (sts 30 5 ++ (sts 35 6 ++ (sts 41 3 ++ (sts 44 9 ++ (sts 53 27 ++ (sts 80 8 ++ [])))))))) := by kernel_rfl
theorem run0 (w : World) (os : OsState) : topRun treeTable pw w 11 ann0 (12 + (1 + (822 + (893 + (587 + (801 + (841 + (713 + (900 + (877 + (238 + 2))))))))))) ⟨boot_heap w.params, gn, boot_drawn, boot_toks, os⟩ (topStub pw) = some ⟨hF w.params, gn, d0, 1281, os⟩ := by
  refine go_top (pre0 w os) (piece_block (blk0 w os) ?_)
  rewrite [body0]
  exact piece_app (ps1 w pw _ os) (piece_app (ps2 w pw _ os) (piece_app (ps3 w pw _ os) (piece_app (ps4 w pw _ os) (piece_app (ps5 w pw _ os) (piece_app (ps6 w pw _ os) (piece_app (ps7 w pw _ os) (piece_app (ps8 w pw _ os) (piece_app (ps9 w pw _ os) (piece_nil (fin0 w os))))))))))
end
end
section
open PySem PySem.W PySem.Calls PyProof.Rows
noncomputable section
noncomputable def q0 : Program := { pw with main := { pw.main with body := [st 87] } }
noncomputable def loose0 : List Str := pw.boundNames.filter (fun x => x != "law")
theorem said0 : OpenLaw.wellSaid PySem.Challenge.rw_sq0057_01 = true := by
  rewrite [PySem.W.Fast.te9446332074065402090]
  kernel_rfl
theorem size0 (w : World) : ((boot_heap w.params).isNs mainGlobals && gn.size == 0, (boot_heap w.params).objs.size, (boot_heap w.params).nsMap mainGlobals "__annotations__") = (true, 11, ann0) := by kernel_rfl
theorem open0 : ∀ w : World, (fencedOpening treeTable pw w 13500).map (fun s => (s.heap, s.gens, s.drawn, s.toks)) = some (boot_heap w.params, gn, boot_drawn, boot_toks) := boot_open (by kernel_rfl) (by decide) (fun s => by kernel_rfl)
theorem lookA (w : World) (os : OsState) : (staticsOk (importedModules pw.main.body) (boot_heap w.params) (hF w.params) && namesBound pw (hF w.params) && gensDone ⟨hF w.params, gn, d0, 1281, os⟩ && laidKept (boot_heap w.params) (hF w.params)) = true := by kernel_rfl
theorem lookB (w : World) (os : OsState) : openSeen q0 loose0 (importedModules pw.main.body) (fun s => xlAt q0 [] s && recOk (RowW.records (OpenRow.toRowW (OpenLaw.row PySem.Challenge.rw_sq0057_01))) s) true ⟨hF w.params, gn, d0, 1281, os⟩ = openGood q0 loose0 := by
  rewrite [PySem.W.Fast.te4187177175401517315, PySem.W.Fast.te5923862056798008813]
  kernel_rfl
theorem look0 {as : List Addr} {K : Params → Frag} {e : ∀ P, as = (K P).map (·.1)} (h : ∀ w : World, as.map (hF w.params).get? = (K w.params).map fun p => some p.2) :
    LeftO pw q0 loose0 (fun s => xlAt q0 [] s && recOk (RowW.records (OpenRow.toRowW (OpenLaw.row PySem.Challenge.rw_sq0057_01))) s) (Hook.obs (kHook K as e)) (Hook.val (kHook K as e)) 13500 :=
  LeftO.of_pieces open0 size0 run0 (by decide) fun w => funext fun os => looks_pair (lookA w os) (looks_pair (lookB w os) (h w))
theorem headQ {H : Hook} {d : DefRec} {kwd : List (Str × PySem.Expr)} (hl : LeftO pw q0 loose0 (fun s => xlAt q0 [] s && recOk (RowW.records (OpenRow.toRowW (OpenLaw.row PySem.Challenge.rw_sq0057_01))) s) (Hook.obs H) (Hook.val H) 13500) (hdef : defOf q0 (OpenRow.toRowW (OpenLaw.row PySem.Challenge.rw_sq0057_01)).name = some (d, kwd)) (hp : (OpenRow.toRowW (OpenLaw.row PySem.Challenge.rw_sq0057_01)).prog.theDef (OpenRow.toRowW (OpenLaw.row PySem.Challenge.rw_sq0057_01)).name = some (d.params, d.body, d.scope))
    (hk : kwWritten? d.params.kwonlyargs d.params.kw_defaults = some kwd) (hw : (OpenRow.toRowW (OpenLaw.row PySem.Challenge.rw_sq0057_01)).promised) (hc : WalkO q0 loose0 (XL q0 []) (Hook.says H) (OpenRow.toRowW (OpenLaw.row PySem.Challenge.rw_sq0057_01)) d kwd fun f vs => PySem.call f vs) : OpenRow.Holds (OpenLaw.row PySem.Challenge.rw_sq0057_01) :=
  holds_open (q := q0) (loose := loose0) (Xt := (fun s => xlAt q0 [] s && recOk (RowW.records (OpenRow.toRowW (OpenLaw.row PySem.Challenge.rw_sq0057_01))) s)) (XP := XL q0 []) (Yf := Hook.obs H) (Ya := Hook.val H) (YP := Hook.says H) (N := 13500) hl (Hook.of H) (Hook.keeps H) (fun s e => xl_of s (Bool.and_eq_true_iff.mp e).1) XL.keeps hdef hp hk (fun s e => recFacts_of (Bool.and_eq_true_iff.mp e).2) (by rfl) (row_said said0) (by decide +kernel) ⟨rfl, rfl, rfl, rfl, rfl, by decide +kernel⟩ hw hc
end
end
section
open PySem PySem.W PySem.Calls PyProof.Rows
theorem reg_hd : True := by
  k_with "pyIter ref" => fail
  k_with "o_law" => refine holds_law said0 fun said => ?_
  trivial
local macro_rules | `(tactic| o_head $H) => `(tactic| (refine headQ (H := $H) ?hl (by rfl) (by rfl) (by rfl) ?hw ?hc; (case hl => exact look0 (fun w => by kernel_rfl))))
local macro_rules | `(tactic| o_law) => `(tactic| k_extra "o_law")
open_top hd for PySem.Challenge.rw_sq0057_01
end
section
open PySem PySem.W PySem.Calls PySem.Spec PyProof.Rows
noncomputable abbrev Led := List (Addr × Obj)
noncomputable section
noncomputable abbrev PG : Program := PySem.Challenge.rw_sq0057_01.row.prog

noncomputable def Ct (w : World) (p : Program) (loose : List Str) (mean : ExcName → Option Value) (mg mb : Str → Option Value) (n : Nat) (f : Value) (vs : List Value) (kw : List (Str × Value)) (led : Led) (Post : Value → Led → Prop) : Prop :=
  ∀ (dp un : Nat) (gd : Option (List Code)) (cn : Str) (cs : Scope) (L a : Addr) (ccd : Value) (cl : List (Str × Addr)) (outer : List Env) (A₀ : Around) (base h₀ : Heap) (m : Str → Option Value) (s : Shared) (Q E : Value → Shared → Prop),
    Below A₀ base outer h₀ → Fr h₀ L s.heap m → (Mine.hd.heap_1 w.params).In h₀ → News h₀ L s.heap led → Top p loose mean mg mb h₀ → cs.kind = .function → dp + n < recursionLimit → un + 8 * n + 100 < cLine →
    (∀ r led' h' tk', Fr h₀ L h' m → News h₀ L h' led' → Post r led' → Q r { s with heap := h', toks := tk' }) →
    wpAny (model PG w) (ktrTop dp un gd cn cs L a ccd cl outer) (call f vs kw) Q E s

section
variable {w : World} {p : Program} {loose : List Str} {mean : ExcName → Option Value} {mg mb : Str → Option Value} {n : Nat} {f : Value} {vs : List Value} {kw : List (Str × Value)} {led : Led} {Post : Value → Led → Prop}
theorem Ct.use (C : Ct w p loose mean mg mb n f vs kw led Post) {A : Around} {cn : Str} {cs : Scope} {L a : Addr} {ccd : Value} {cl : List (Str × Addr)} {outer : List Env} {A₀ : Around} {base h₀ : Heap} {m : Str → Option Value} {s : Shared} {Q E : Value → Shared → Prop}
    (hh : A.handled = none) (hf : A.frames = some (envX cn cs L a ccd cl :: outer)) (B : Below A₀ base outer h₀) (F : Fr h₀ L s.heap m) (X : (Mine.hd.heap_1 w.params).In h₀) (N : News h₀ L s.heap led) (T : Top p loose mean mg mb h₀) (hk : cs.kind = .function)
    (hd : A.depth + n < recursionLimit) (hu : A.units + 8 * n + 100 < cLine)
    (ret : ∀ r led' h' tk', Fr h₀ L h' m → News h₀ L h' led' → Post r led' → Q r { s with heap := h', toks := tk' }) :
    wpAny (model PG w) A (call f vs kw) Q E s := by
  obtain ⟨hd', d, fr, g, u⟩ := A
  subst hh hf
  exact C d u g cn cs L a ccd cl outer A₀ base h₀ m s Q E B F X N T hk hd hu ret
theorem Ct.mono (C : Ct w p loose mean mg mb n f vs kw led Post) {Post' : Value → Led → Prop} (h : ∀ r l, Post r l → Post' r l) : Ct w p loose mean mg mb n f vs kw led Post' :=
  fun dp un gd cn cs L a ccd cl outer A₀ base h₀ m s Q E B F X N T hk hd hu ret => C dp un gd cn cs L a ccd cl outer A₀ base h₀ m s Q E B F X N T hk hd hu fun r l h' tk' F' N' P => ret r l h' tk' F' N' (h r l P)
inductive Pick (x : Addr × Obj) : Led → Led → Prop
  | head {r} : Pick x (x :: r) r
  | tail {q r r'} : Pick x r r' → Pick x (q :: r) (q :: r')
theorem Pick.sub {x : Addr × Obj} : ∀ {l r : Led}, Pick x l r → ∀ q ∈ x :: r, q ∈ l
  | _, _, .head, q, h => h
  | _, _, .tail k, q, h => by
    rcases List.mem_cons.mp h with rfl | h
    · exact List.mem_cons_of_mem _ (k.sub _ (.head _))
    · rcases List.mem_cons.mp h with rfl | h
      · exact .head _
      · exact List.mem_cons_of_mem _ (k.sub _ (.tail _ h))
theorem Ct.weak {led' : Led} (C : Ct w p loose mean mg mb n f vs kw led' Post) (hs : ∀ q ∈ led', q ∈ led) : Ct w p loose mean mg mb n f vs kw led Post :=
  fun dp un gd cn cs L a ccd cl outer A₀ base h₀ m s Q E B F X N T hk hd hu ret => C dp un gd cn cs L a ccd cl outer A₀ base h₀ m s Q E B F X (fun q hq => N q (hs q hq)) T hk hd hu ret
theorem Ct.pick {x : Addr × Obj} {rest : Led} (k : Pick x led rest) (C : Ct w p loose mean mg mb n f vs kw (x :: rest) Post) : Ct w p loose mean mg mb n f vs kw led Post := C.weak k.sub

noncomputable def At (w : World) (S : Led) (a : Addr) (name : Str) (v : Value) : Prop :=
  ∀ (A : Around) (E Q : Value → Shared → Prop) (s : Shared) (h₀ : Heap) (L : Addr) (m : Str → Option Value) (led : Led) (expr : Bool), Fr h₀ L s.heap m → (Mine.hd.heap_1 w.params).In h₀ → News h₀ L s.heap led → (∀ q ∈ S, q ∈ led) → Q v { s with toks := s.toks + 1 } →
    wpAny (model PG w) A (getAttr (.ref a) name expr) Q E s
theorem At.mono {S S' : Led} {a : Addr} {name : Str} {v : Value} (h : At w S a name v) (hs : ∀ q ∈ S, q ∈ S') : At w S' a name v :=
  fun A E Q s h₀ L m led e F X N hl k => h A E Q s h₀ L m led e F X N (fun q hq => hl q (hs q hq)) k
theorem At.own {S : Led} {a d C : Addr} {name : Str} {v : Value} {es : List DictEntry} {k : Nat} {attr : Option Value} (h1 : (a, instObj C d) ∈ S) (h2 : (d, dictOf es k) ∈ S) (hg : plainGet (Mine.hd.heap_1 w.params) C name = true) (hh : hasDictIn (Mine.hd.heap_1 w.params) C = true)
    (ha : findIn (Mine.hd.heap_1 w.params) (.ref C) name = some attr) (hn : noGet (Mine.hd.heap_1 w.params) attr = true) (hl : getL name es = some (some v)) (hv : handedIn v = true) : At w S a name v :=
  fun _ _ _ _ _ _ _ _ _ F X N hs k => get_own F X (InstAt.of_news N (hs _ h1) (hs _ h2)) hg hh ha hn hl hv k
theorem At.cls {S : Led} {a d C : Addr} {name : Str} {v : Value} {es : List DictEntry} {k : Nat} (h1 : (a, instObj C d) ∈ S) (h2 : (d, dictOf es k) ∈ S) (hg : plainGet (Mine.hd.heap_1 w.params) C name = true) (hh : hasDictIn (Mine.hd.heap_1 w.params) C = true)
    (ha : findIn (Mine.hd.heap_1 w.params) (.ref C) name = some (some v)) (hn : specialIn (Mine.hd.heap_1 w.params) v "__get__" = some none) (hv : handedIn v = true) (hc : copiedNames.contains name = false) (hl : getL name es = some none) : At w S a name v :=
  fun _ _ _ _ _ _ _ _ _ F X N hs k => get_cls F X (InstAt.of_news N (hs _ h1) (hs _ h2)) hg hh ha hn hv hc hl k
theorem at_get {S : Led} {a : Addr} {name : Str} {v : Value} {A : Around} {E Q : Value → Shared → Prop} {s : Shared} {h₀ : Heap} {L : Addr} {m : Str → Option Value} {led : Led} {expr : Bool} (h : At w S a name v) (F : Fr h₀ L s.heap m) (X : (Mine.hd.heap_1 w.params).In h₀) (N : News h₀ L s.heap led) (hs : ∀ q ∈ S, q ∈ led)
    (k : Q v { s with toks := s.toks + 1 }) : wpAny (model PG w) A (getAttr (.ref a) name expr) Q E s := h A E Q s h₀ L m led expr F X N hs k
end
section
variable {prog : Program} {w : World} {A : Around} {E : Value → Shared → Prop} {s : Shared} {h₀ : Heap} {L : Addr} {m : Str → Option Value} {led : Led}
theorem item_led {value slice : PySem.Expr} {l : Addr} {vs : List Value} {n : Nat} {k : Int} {u : Tok} {v : Value} {Q : Value → Shared → Prop} (N : News h₀ L s.heap led) (hm : (l, PySem.W.listOf vs.toArray n) ∈ led) (h0 : 0 ≤ k) (hhi : k < 2 ^ 63) (hx : vs[k.toNat]? = some v) (h : Q v s)
    (hs : subscripted slice false (.ref l) (.int k u) = operate [.ref l, .int k u] (getItem (.ref l) (.int k u)) := by with_unfolding_all rfl) :
    wpAny (model prog w) A (subscriptTail value slice (.ref l) (.int k u)) Q E s :=
  have hl : s.heap.IsList l vs.toArray := ⟨_, N.get hm, rfl, n, rfl⟩
  tail_any hl.typeIs slot_list_getitem.lookup (wpAny_getItem_list hl h0 hhi (by simpa using hx) h) hs
theorem Upd.app {d : Addr} {o o' : Obj} {r r' : Led} : ∀ {t : Led}, (∀ q ∈ t, q.1 ≠ d) → Upd d o o' r r' → Upd d o o' (t ++ r) (t ++ r')
  | [], _, h => h
  | q :: t, k, h => .tail (k q (.head _)) (Upd.app (fun x hx => k x (.tail _ hx)) h)
end
end
end
section
open PySem PySem.W PySem.Calls PySem.Spec PyProof.Rows
theorem bs_slot : typeLookup (.type "bytes") "__bytes__" = pure (some (.builtin "bytes.__bytes__")) := by rw [typeLookup_type, builtinLookup_eq_fast]; kernel_rfl
section
variable {prog : Program} {w : World} {A : Around} {E : Value → Shared → Prop} {s : Shared}
theorem bs_new {b : Array UInt8} {t : Tok} {Q : Value → Shared → Prop} (hQ : Q (.bytes b t) s) :
    codeAny (model prog w) A (.call (.builtin "bytes.__new__") ⟨[.type "bytes", .bytes b t], []⟩) (wants Q E) s := by
  refine codeAny_of_tree ?_
  show wpAny _ A.in1 (do checkBuiltinCall "bytes.__new__" ⟨[.type "bytes", .bytes b t], []⟩; again (.builtin "bytes.__new__" ⟨[.type "bytes", .bytes b t], []⟩)) _ _ s
  refine wpAny_bind (wpAny_of_eq (F.bm_newCall _) (wpAny_pure ⟨plainId_quiet F.bm_plain _, codeAny_builtin F.bm_entry ?_⟩))
  rw [Around.under_plainId F.bm_plain _]
  have hT : s.TypeIs (.bytes b t) "bytes" := PySem.W.typeIs_bytes _ _ _
  unfold Builtin.«bytes.__new__»
  refine wpAny_bind (wpAny_of_eq (a := true) rfl ?_)
  refine bm_if_false rfl ?_
  refine wpAny_bind (wpAny_of_eq F.bm_sub ?_)
  refine bm_if_false rfl ?_
  refine wpAny_bind (wpAny_of_eq (F.bm_bind _) ?_)
  refine wpAny_bind (wpAny_of_eq (a := ()) rfl ?_)
  refine wpAny_bind (wpAny_of_eq (a := ()) rfl ?_)
  refine bm_if_false rfl ?_
  refine wpAny_bind (wpAny_specialOf hT bs_slot ?_)
  dsimp only
  refine wpAny_bind (wpAny_rule ?_)
  refine wpAny_bind (wpAny_of_eq (a := Value.type "bytes") rfl ?_)
  refine bm_if_true (by decide) ?_
  exact wpAny_pure hQ
theorem call_bytes_same {b : Array UInt8} {t : Tok} {Q : Value → Shared → Prop} (hQ : Q (.bytes b t) s) : wpAny (model prog w) A (call (.type "bytes") [.bytes b t]) Q E s := by
  refine callType_codes (Q₁ := fun obj s₁ => s₁.TypeIs obj "bytes" ∧ Q obj s₁) F.bm_called (F.bm_typeCall _) F.entry_object_init
    (bs_new ⟨PySem.W.typeIs_bytes _ _ _, hQ⟩) fun obj s₁ h₁ => ?_
  exact ⟨h₁.1, F.args_object_init_2 obj _, object_init_meets F.bm_called.init.lookup F.bm_called.made (by decide) prog w A.in1 _ s₁ ⟨h₁.1, rfl, h₁.2⟩⟩
end
noncomputable section
theorem units_under_kw (A : Around) (C : Addr) (vals : List Value) (kw : List (Str × Value)) : (A.under (.builtin "type.__call__" ⟨.ref C :: vals, kw⟩)).units = A.units + 1 := rfl
noncomputable def Mt (w : World) (S : Led) (a : Addr) (name : Str) (f : Addr) : Prop :=
  ∀ (A : Around) (E : Value → Shared → Prop) (Q : Value × List Value → Shared → Prop) (s : Shared) (h₀ : Heap) (L : Addr) (m : Str → Option Value) (led : Led) (pl : Sem Bool), Fr h₀ L s.heap m → (Mine.hd.heap_1 w.params).In h₀ → News h₀ L s.heap led → (∀ q ∈ S, q ∈ led) → Q (.ref f, [.ref a]) s →
    wpAny (model PG w) A (getMethod (.ref a) name pl) Q E s
theorem Mt.mono {w : World} {S S' : Led} {a f : Addr} {name : Str} (h : Mt w S a name f) (hs : ∀ q ∈ S, q ∈ S') : Mt w S' a name f :=
  fun A E Q s h₀ L m led e F X N hl k => h A E Q s h₀ L m led e F X N (fun q hq => hl q (hs q hq)) k
theorem Mt.of {w : World} {S : Led} {a d C f : Addr} {name : Str} {es : List DictEntry} {k : Nat} (h1 : (a, instObj C d) ∈ S) (h2 : (d, dictOf es k) ∈ S) (hg : plainGet (Mine.hd.heap_1 w.params) C name = true)
    (hf : findIn (Mine.hd.heap_1 w.params) (.ref C) name = some (some (.ref f))) (ht : isFn (Mine.hd.heap_1 w.params) (.ref f) = true) (hl : getL name es = some none) : Mt w S a name f :=
  fun _ _ _ _ _ _ _ _ _ F X N hs k => method_inst F X (InstAt.of_news N (hs _ h1) (hs _ h2)) hg hf ht hl k
theorem mt_get {w : World} {S : Led} {a f : Addr} {name : Str} {A : Around} {E : Value → Shared → Prop} {Q : Value × List Value → Shared → Prop} {s : Shared} {h₀ : Heap} {L : Addr} {m : Str → Option Value} {led : Led} {pl : Sem Bool} (h : Mt w S a name f) (F : Fr h₀ L s.heap m) (X : (Mine.hd.heap_1 w.params).In h₀) (N : News h₀ L s.heap led) (hs : ∀ q ∈ S, q ∈ led)
    (k : Q (.ref f, [.ref a]) s) : wpAny (model PG w) A (getMethod (.ref a) name pl) Q E s := h A E Q s h₀ L m led pl F X N hs k

structure Gl where
  (w st so sh sho : Int)
inductive Nd where
  | box (k wd ht dp sf sg od r1 r2 : Int) (items : List Nd)
  | rule (wd ht : Option Int) (dp : Int)
  | kern (wd : Int)
  | skip (g : Gl) (sort : Int)
  | pen (v : Int)
  | mark (i : Int)
  | ins
  | spec
noncomputable def Nd.kind : Nd → Int
  | .box k .. => k
  | .rule .. => 4
  | .kern .. => 5
  | .skip .. => 6
  | .pen .. => 7
  | .mark .. => 9
  | .ins => 10
  | .spec => 13
noncomputable def Gl.dat (g : Gl) : Dat := .tuple [.int g.w, .int g.st, .int g.so, .int g.sh, .int g.sho]
noncomputable def optDat : Option Int → Dat
  | none => .tuple []
  | some i => .tuple [.int i]
mutual
noncomputable def Nd.dat : Nd → Dat
  | .box k wd ht dp sf sg od r1 r2 items => .tuple [.int k, .int wd, .int ht, .int dp, .int sf, .int sg, .int od, .tuple [.int r1, .int r2], .tuple (Nd.dats items)]
  | .rule wd ht dp => .tuple [.int 4, optDat wd, optDat ht, .tuple [.int dp]]
  | .kern wd => .tuple [.int 5, .int wd, .int 1]
  | .skip g sort => .tuple [.int 6, g.dat, .int sort, .tuple []]
  | .pen v => .tuple [.int 7, .int v]
  | .mark i => .tuple [.int 9, .tuple [.tuple [.int 11, .int i]]]
  | .ins => .tuple [.int 10, .int 1, .int 5, .int 0, .tuple [.int 0, .int 0, .int 0, .int 0, .int 0], .int 0, .tuple [.tuple [.int 5, .int 5, .int 1]]]
  | .spec => .tuple [.int 13, .int 0, .tuple [.int 98]]
noncomputable def Nd.dats : List Nd → List Dat
  | [] => []
  | n :: r => n.dat :: Nd.dats r
end
theorem Nd.dats_map : ∀ l : List Nd, Nd.dats l = l.map Nd.dat
  | [] => rfl
  | n :: r => by rw [Nd.dats, Nd.dats_map r]; rfl

structure GlueIn (w : World) (S : Led) (a : Addr) (g : Gl) : Prop where
  wd : ∃ t, At w S a "width" (.int g.w t)
  st : ∃ t, At w S a "stretch" (.int g.st t)
  so : ∃ t, At w S a "stretch_order" (.int g.so t)
  sh : ∃ t, At w S a "shrink" (.int g.sh t)
  sho : ∃ t, At w S a "shrink_order" (.int g.sho t)
  parts : Mt w S a "parts" 204
theorem GlueIn.mono {w : World} {S S' : Led} {a : Addr} {g : Gl} (h : GlueIn w S a g) (hs : ∀ q ∈ S, q ∈ S') : GlueIn w S' a g :=
  ⟨h.wd.imp fun _ x => x.mono hs, h.st.imp fun _ x => x.mono hs, h.so.imp fun _ x => x.mono hs, h.sh.imp fun _ x => x.mono hs, h.sho.imp fun _ x => x.mono hs, h.parts.mono hs⟩
noncomputable def optV (o : Option Int) (v : Value) : Prop := match o with
  | none => v = .none
  | some i => ∃ t, v = .int i t
noncomputable abbrev tupO (vs : List Value) (n : Nat) : Obj := { cls := .type "tuple", data := .seq vs.toArray n }
mutual
inductive NodeIn (w : World) (S : Led) : Value → Nd → Prop
  | box {a l rt : Addr} {k wd ht dp sf sg od r1 r2 : Int} {items : List Nd} {vs : List Value} {n n2 : Nat} {t1 t2 t3 t4 t5 t6 t7 t8 t9 : Tok} :
      At w S a "kind" (.int k t1) → At w S a "width" (.int wd t2) → At w S a "height" (.int ht t3) → At w S a "depth" (.int dp t4) → At w S a "items" (.ref l) → At w S a "shift" (.int sf t5) → At w S a "sign" (.int sg t6) → At w S a "order" (.int od t7) → At w S a "ratio" (.ref rt) →
      (rt, tupO [.int r1 t8, .int r2 t9] n2) ∈ S → (l, PySem.W.listOf vs.toArray n) ∈ S → NodesIn w S vs items → NodeIn w S (.ref a) (.box k wd ht dp sf sg od r1 r2 items)
  | rule {a : Addr} {wd ht : Option Int} {dp : Int} {v1 v2 : Value} {t1 t2 : Tok} : At w S a "kind" (.int 4 t1) → At w S a "width" v1 → optV wd v1 → At w S a "height" v2 → optV ht v2 → At w S a "depth" (.int dp t2) → NodeIn w S (.ref a) (.rule wd ht dp)
  | kern {a : Addr} {wd : Int} {t1 t2 t3 : Tok} : At w S a "kind" (.int 5 t1) → At w S a "width" (.int wd t2) → At w S a "sort" (.int 1 t3) → NodeIn w S (.ref a) (.kern wd)
  | skip {a ga : Addr} {g : Gl} {sort : Int} {t1 t2 : Tok} : At w S a "kind" (.int 6 t1) → At w S a "glue" (.ref ga) → GlueIn w S ga g → At w S a "sort" (.int sort t2) → At w S a "leader" .none → NodeIn w S (.ref a) (.skip g sort)
  | pen {a : Addr} {v : Int} {t1 t2 : Tok} : At w S a "kind" (.int 7 t1) → At w S a "value" (.int v t2) → NodeIn w S (.ref a) (.pen v)
  | mark {a tk : Addr} {i : Int} {t1 : Tok} : At w S a "kind" (.int 9 t1) → At w S a "tokens" (.ref tk) → DatIn S (.ref tk) (.tuple [.tuple [.int 11, .int i]]) → NodeIn w S (.ref a) (.mark i)
  | ins {a ga l kv : Addr} {n : Nat} {t1 t2 t3 t4 t5 : Tok} : At w S a "kind" (.int 10 t1) → At w S a "number" (.int 1 t2) → At w S a "size" (.int 5 t3) → At w S a "depth" (.int 0 t4) → At w S a "top" (.ref ga) → GlueIn w S ga ⟨0, 0, 0, 0, 0⟩ → At w S a "cost" (.int 0 t5) → At w S a "items" (.ref l) →
      (l, PySem.W.listOf [.ref kv].toArray n) ∈ S → NodeIn w S (.ref kv) (.kern 5) → NodeIn w S (.ref a) .ins
  | spec {a : Addr} {t1 t2 t3 : Tok} : At w S a "kind" (.int 13 t1) → At w S a "sort" (.int 0 t2) → At w S a "octets" (.bytes #[98] t3) → NodeIn w S (.ref a) .spec
inductive NodesIn (w : World) (S : Led) : List Value → List Nd → Prop
  | nil : NodesIn w S [] []
  | cons {v : Value} {vs : List Value} {d : Nd} {ds : List Nd} : NodeIn w S v d → NodesIn w S vs ds → NodesIn w S (v :: vs) (d :: ds)
end
theorem NodeIn.mono {w : World} {S S' : Led} (hs : ∀ q ∈ S, q ∈ S') {v : Value} {d : Nd} (h : NodeIn w S v d) : NodeIn w S' v d :=
  NodeIn.rec (motive_1 := fun v d _ => NodeIn w S' v d) (motive_2 := fun vs ds _ => NodesIn w S' vs ds)
    (fun a1 a2 a3 a4 a5 a6 a7 a8 a9 b1 b2 _ c => .box (a1.mono hs) (a2.mono hs) (a3.mono hs) (a4.mono hs) (a5.mono hs) (a6.mono hs) (a7.mono hs) (a8.mono hs) (a9.mono hs) (hs _ b1) (hs _ b2) c)
    (fun a1 a2 o2 a3 o3 a4 => .rule (a1.mono hs) (a2.mono hs) o2 (a3.mono hs) o3 (a4.mono hs))
    (fun a1 a2 a3 => .kern (a1.mono hs) (a2.mono hs) (a3.mono hs))
    (fun a1 a2 g a3 a4 => .skip (a1.mono hs) (a2.mono hs) (g.mono hs) (a3.mono hs) (a4.mono hs))
    (fun a1 a2 => .pen (a1.mono hs) (a2.mono hs))
    (fun a1 a2 d => .mark (a1.mono hs) (a2.mono hs) (d.mono hs))
    (fun a1 a2 a3 a4 a5 g a6 a7 m _ k => .ins (a1.mono hs) (a2.mono hs) (a3.mono hs) (a4.mono hs) (a5.mono hs) (g.mono hs) (a6.mono hs) (a7.mono hs) (hs _ m) k)
    (fun a1 a2 a3 => .spec (a1.mono hs) (a2.mono hs) (a3.mono hs))
    .nil (fun _ _ h r => .cons h r) h
theorem NodesIn.mono {w : World} {S S' : Led} (hs : ∀ q ∈ S, q ∈ S') {vs : List Value} {ds : List Nd} (h : NodesIn w S vs ds) : NodesIn w S' vs ds := by
  induction vs generalizing ds with
  | nil => cases h; exact .nil
  | cons v vs ih => cases h with | cons h r => exact .cons (NodeIn.mono hs h) (ih r)
theorem NodesIn.length {w : World} {S : Led} : ∀ {vs : List Value} {ds : List Nd}, NodesIn w S vs ds → vs.length = ds.length
  | [], _, h => by cases h; rfl
  | _ :: vs, _, h => by cases h with | cons _ r => rw [List.length_cons, List.length_cons, NodesIn.length r]
theorem NodesIn.get {w : World} {S : Led} : ∀ {vs : List Value} {ds : List Nd}, NodesIn w S vs ds → ∀ {i : Nat} {v : Value}, vs[i]? = some v → ∃ d, ds[i]? = some d ∧ NodeIn w S v d
  | [], _, _, i, v, e => by simp at e
  | u :: vs, _, h, i, v, e => by
    cases h with
    | cons h r =>
      cases i with
      | zero => simp only [List.getElem?_cons_zero, Option.some.injEq] at e; subst e; exact ⟨_, rfl, h⟩
      | succ i => simp only [List.getElem?_cons_succ] at e ⊢; exact r.get e
theorem NodesIn.snoc {w : World} {S : Led} {v : Value} {d : Nd} : ∀ {vs : List Value} {ds : List Nd}, NodesIn w S vs ds → NodeIn w S v d → NodesIn w S (vs ++ [v]) (ds ++ [d])
  | [], _, h, k => by cases h; exact .cons k .nil
  | _ :: vs, _, h, k => by cases h with | cons h r => exact .cons h (r.snoc k)
theorem NodesIn.append {w : World} {S : Led} : ∀ {vs us : List Value} {ds es : List Nd}, NodesIn w S vs ds → NodesIn w S us es → NodesIn w S (vs ++ us) (ds ++ es)
  | [], _, _, _, h, k => by cases h; exact k
  | _ :: vs, _, _, _, h, k => by cases h with | cons h r => exact .cons h (r.append k)
theorem NodesIn.drop {w : World} {S : Led} : ∀ (i : Nat) {vs : List Value} {ds : List Nd}, NodesIn w S vs ds → NodesIn w S (vs.drop i) (ds.drop i)
  | 0, _, _, h => h
  | i + 1, [], _, h => by cases h; exact .nil
  | i + 1, _ :: _, _, h => by cases h with | cons _ r => exact r.drop i
theorem NodesIn.take {w : World} {S : Led} : ∀ (i : Nat) {vs : List Value} {ds : List Nd}, NodesIn w S vs ds → NodesIn w S (vs.take i) (ds.take i)
  | 0, _, _, _ => .nil
  | i + 1, [], _, h => by cases h; exact .nil
  | i + 1, _ :: _, _, h => by cases h with | cons h r => exact .cons h (r.take i)
theorem Pick.app {x : Addr × Obj} {r r' : Led} : ∀ {t : Led}, Pick x r r' → Pick x (t ++ r) (t ++ r')
  | [], h => h
  | _ :: _, h => .tail (Pick.app h)
theorem UnrEnd.pick {h₀ : Heap} {L I : Addr} {it : Obj} {rest : (Str → Option Value) → List (Addr × Obj) → Prop} {s₁ : Shared} {h' : Heap} {tk : Nat} {m' : Str → Option Value} {all news' : List (Addr × Obj)} (F : Fr h₀ L h' m') (N : News h₀ L h' all)
    (k : Pick (I, it) all news') (off : ∀ p ∈ news', p.1 ≠ I) (r : rest m' news') : UnrEnd h₀ L s₁ I it rest { s₁ with heap := h', toks := tk } := UnrEnd.intro F N news' k.sub off r
theorem tup_led {h₀ h : Heap} {L t : Addr} {vs : List Value} {n : Nat} {led : Led} (N : News h₀ L h led) (hm : (t, tupO vs n) ∈ led) : IsTup h t vs.toArray := ⟨_, N.get hm, rfl, n, rfl⟩
noncomputable def Fresh (tl led : Led) : Prop := ∀ q ∈ tl, ∀ p ∈ led, @LT.lt Nat _ p.1 q.1
theorem Fresh.nil {led : Led} : Fresh [] led := fun _ h => nomatch h
theorem Fresh.cons {q : Addr × Obj} {tl led : Led} (h : AllLt q.1 led) (k : Fresh tl led) : Fresh (q :: tl) led := fun x hx => by
  rcases List.mem_cons.mp hx with rfl | hx
  · exact ktn_ltOf h
  · exact k x hx
theorem Fresh.app {a b led : Led} (h : Fresh a led) (k : Fresh b led) : Fresh (a ++ b) led := fun x hx => (List.mem_append.mp hx).elim (h x) (k x)
theorem Fresh.sub {a led led' : Led} (h : Fresh a led) (hs : ∀ q ∈ led', q ∈ led) : Fresh a led' := fun x hx p hp => h x hx p (hs p hp)
theorem Fresh.ne {a led : Led} (h : Fresh a led) {H : Addr} {o : Obj} (hm : (H, o) ∈ led) : ∀ p ∈ a, p.1 ≠ H := fun q hq e => by
  have h2 : @LT.lt Nat _ H q.1 := h q hq _ hm
  rw [e] at h2
  exact Nat.lt_irrefl _ h2
theorem ne_lt {x : Addr × Obj} {H : Addr} {o : Obj} {led : Led} (h : AllLt x.1 led) (hm : (H, o) ∈ led) : x.1 ≠ H := fun e => by
  have h2 := ktn_ltOf h _ hm
  rw [e] at h2
  exact Nat.lt_irrefl _ h2
theorem ne_gt {b H : Addr} {o o' : Obj} {led : Led} (h : AllLt H led) (hm : (b, o') ∈ led) : (b, o).1 ≠ H := fun e => by
  have h2 := ktn_ltOf h _ hm
  rw [e] at h2
  exact Nat.lt_irrefl _ h2
theorem AllLt.off {d : Addr} {led S : Led} (h : AllLt d led) (hs : ∀ q ∈ S, q ∈ led) : ∀ q ∈ S, q.1 ≠ d := fun q hq e => by
  have h2 := ktn_ltOf h q (hs q hq)
  rw [e] at h2
  exact Nat.lt_irrefl _ h2
inductive BoxEs (w : World) : List DictEntry → Value → Value → Value → Value → Value → Value → Value → Value → Value → Prop
  | mk {v1 v2 v3 v4 v5 v6 v7 v8 v9 : Value} (t1 t2 t3 t4 t5 t6 t7 t8 t9 : Tok) : BoxEs w [⟨PyData.keyHash w.params "kind", .str "kind" t1, v1⟩, ⟨PyData.keyHash w.params "width", .str "width" t2, v2⟩, ⟨PyData.keyHash w.params "height", .str "height" t3, v3⟩, ⟨PyData.keyHash w.params "depth", .str "depth" t4, v4⟩, ⟨PyData.keyHash w.params "items", .str "items" t5, v5⟩,
      ⟨PyData.keyHash w.params "shift", .str "shift" t6, v6⟩, ⟨PyData.keyHash w.params "sign", .str "sign" t7, v7⟩, ⟨PyData.keyHash w.params "order", .str "order" t8, v8⟩, ⟨PyData.keyHash w.params "ratio", .str "ratio" t9, v9⟩] v1 v2 v3 v4 v5 v6 v7 v8 v9
end
end
section
open PySem PySem.W PySem.Calls PySem.Spec PyProof.Rows
open Sem (wp)
theorem bytes_len_slot : typeLookup (.type "bytes") "__len__" = pure (some (.builtin "bytes.__len__")) := by rw [typeLookup_type, builtinLookup_eq_fast]; kernel_rfl
section
variable {prog : Program} {w : World} {A : Around} {E : Value → Shared → Prop} {s : Shared}
noncomputable def OctAt (b : Array UInt8) (i : Nat) (v : Value) : Prop := ∃ c u, b[i]? = some c ∧ v = .int (c.toNat : Int) u
theorem collect_bytes {Q : List Value → Shared → Prop} (hh : A.handled = none) (x : Array UInt8) (t : Tok)
    (hQ : ∀ s' acc, (∀ b o, s.heap.get? b = some o → s'.heap.get? b = some o) → s'.gens = s.gens → s'.drawn = s.drawn → s'.os = s.os → ItemsOf (OctAt x) acc x.size → Q acc.toList s') (hn : x.size ≤ sizeLine) :
    wpAny (model prog w) A (collect (.bytes x t)) Q E s := by
  unfold collect
  refine wpAny_bind (wpAny_runValue (codeAny_builtin F.entry_proto_collect ?_))
  rw [Around.under_plainId F.plain_proto_collect _]
  show wpAny _ A.in1 (newList [] >>= fun l => again (.builtin "list.__iadd__" ⟨[l, .bytes x t], []⟩)) _ _ s
  refine wpAny_bind (wpAny_newObj_type ?_)
  refine wpAny_pure ⟨plainId_quiet F.plain_list_iadd _, codeAny_builtin F.entry_list_iadd ?_⟩
  rw [Around.under_plainId F.plain_list_iadd _]
  show wpAny _ A.in1 (Builtin.List.listExtendWith (.ref s.heap.objs.size) (.bytes x t) (.ref s.heap.objs.size)) _ _ _
  unfold Builtin.List.listExtendWith
  refine wpAny_bind (wpAny_typeOf (T := "bytes") (v := .bytes x t) (PySem.W.typeIs_bytes _ _ _) ?_)
  have h1 : Builtin.List.listSameRef (.ref s.heap.objs.size) (.bytes x t) = false := rfl
  have h2 : (Value.type "bytes" == Value.type "list") = false := by decide
  have h3 : (Value.type "bytes" == Value.type "tuple") = false := by decide
  simp only [h1, h2, h3, Bool.or_false, Bool.false_eq_true, if_false]
  refine wpAny_bind (PySem.W.KBw.pyIter_bytes ?_)
  refine wpAny_bind (wpAny_holding ?_)
  unfold Builtin.List.listLengthHint
  refine wpAny_bind (wpAny_specialOf (T := "bytes") (v := .bytes x t) (PySem.W.typeIs_bytes _ _ _) bytes_len_slot ?_)
  wp_delta
  refine wpAny_bind (wpAny_isInstance (T := "bytes") (v := .bytes x t) (b := true) (PySem.W.typeIs_bytes _ _ _) (by rw [isSubtype_type]; kernel_rfl) ?_)
  show wpAny _ A.in1 (typeOf (Value.bytes x t) >>= _) _ _ _
  refine wpAny_bind (wpAny_typeOf (T := "bytes") (v := .bytes x t) (PySem.W.typeIs_bytes _ _ _) ?_)
  refine wpAny_pure ?_
  rw [if_neg (by decide)]
  generalize hH : s.heap.push { cls := .type "list", data := .seq ([] : List Value).toArray } = H at *
  have hHs : H.objs.size = s.heap.objs.size + 1 := by rw [← hH, Heap.size_push]
  have hSf : s.heap.objs.size ∉ [H.objs.size] := fun hm => by rw [List.mem_singleton.mp hm] at hHs; exact absurd hHs (Nat.ne_of_lt (Nat.lt_succ_self _))
  have hS : (H.push { cls := .type "bytes_iterator", data := .fields #[.bytes x t, .int 0 0] }).get? s.heap.objs.size = some { cls := .type "list", data := .seq ([] : List Value).toArray } := Heap.get?_push_of_some _ (hH ▸ Heap.get?_push_size _ rfl)
  refine wpAny_pure ⟨plainId_quiet F.plain_extend_loop _, codeAny_extend_loopS (PySem.W.KBw.walks (A := A.in1) hh H.objs.size x t).toS hn _ hSf _ x.size 0 _ _ _ rfl (Nat.zero_le _) ⟨_, Heap.get?_push_size _ rfl, rfl, rfl⟩ hS (ItemsOf.nil _) fun s' acc' c' hm hS' hacc => ?_⟩
  show wpAny _ A (load s.heap.objs.size >>= _) _ _ s'
  refine wpAny_bind (wpAny_load hS' ?_)
  refine wpAny_pure (hQ s' acc' (fun b ob e => hm.heap b ob (fun hb => ?_) (Heap.get?_push_of_some _ (hH ▸ Heap.get?_push_of_some _ e))) hm.gens hm.drawn hm.os hacc)
  have hlt := Heap.lt_size e
  rcases List.mem_cons.mp hb with h | h
  · exact absurd hlt (h ▸ Nat.lt_irrefl _)
  · rw [List.mem_singleton.mp h, hHs] at hlt; exact absurd hlt (Nat.not_lt.mpr (Nat.le_succ _))
theorem meets_tuple_new_bytes (x : Array UInt8) (t : Tok) (hsz : x.size ≤ sizeLine) :
    Meets (Builtin.«tuple.__new__» ⟨[.type "tuple", .bytes x t], []⟩)
      (fun A R s => A.handled = none ∧ ∀ (s' : Shared) (acc : Array Value), (∀ b o, s.heap.get? b = some o → s'.heap.get? b = some o) → s'.gens = s.gens → s'.drawn = s.drawn → s'.os = s.os → ItemsOf (OctAt x) acc x.size →
        R (.ok (.ret (.ref s'.heap.objs.size))) { s' with heap := s'.heap.push { cls := .type "tuple", data := .seq acc } }) :=
  .of_wp fun prog w A R s h => by
    obtain ⟨hh, h⟩ := h
    have hsub := sub_tuple_self
    have hinit := init_tuple_lookup
    have hmh := madeHere_tuple
    have hT : s.TypeIs (.bytes x t) "bytes" := PySem.W.typeIs_bytes _ _ _
    have hh1 : A.in1.handled = none := hh
    wp_walk using wpAny_typeOf hT, collect_bytes (hn := hsz) hh1 x t
    intro s' acc hk hg hd hos hacc
    show wpAny _ _ (Builtin.Tuple.tupleExact acc.toList.toArray >>= fun v => ret v) _ _ _
    unfold Builtin.Tuple.tupleExact
    refine wpAny_bind (wpAny_newObj_type ?_ (show acc.toList.toArray.size ≤ sizeLine by simp only [Array.toArray_toList]; rw [hacc.1]; exact hsz))
    refine wpAny_pure ⟨_, rfl, ?_⟩
    have e : acc.toList.toArray = acc := by simp
    rw [e]
    exact h s' acc hk hg hd hos hacc
theorem call_tuple_bytes {Q : Value → Shared → Prop} (hh : A.handled = none) (x : Array UInt8) (t : Tok)
    (h : ∀ (h' : Heap) (tk : Nat) (acc : Array Value), (∀ b o, s.heap.get? b = some o → h'.get? b = some o) → ItemsOf (OctAt x) acc x.size → Q (.ref h'.objs.size) { s with heap := h'.push { cls := .type "tuple", data := .seq acc }, toks := tk })
    (hsz : x.size ≤ sizeLine) :
    wpAny (model prog w) A (call (.type "tuple") [.bytes x t]) Q E s := by
  refine callType_new F.called_tuple (by decide) (F.typeCall_tuple_1 _) (F.newCall_tuple_1 _) (fun obj => F.args_object_init_2 obj _) F.entry_tuple_new
    (meets_tuple_new_bytes x t hsz) ⟨hh, fun s' acc hk hg hd hos hacc => ⟨⟨_, Heap.get?_push_size _ rfl, rfl⟩, ?_⟩⟩
  obtain ⟨h', g', d', tk', os'⟩ := s'
  have e1 : g' = s.gens := hg
  have e2 : d' = s.drawn := hd
  have e3 : os' = s.os := hos
  subst e1 e2 e3
  exact h h' tk' acc hk hacc
theorem tuple_b98 {h₀ : Heap} {L : Addr} {m : Str → Option Value} {news : List (Addr × Obj)} {Q : Value → Shared → Prop} {t : Tok} (hh : A.handled = none) (F : Fr h₀ L s.heap m) (N : News h₀ L s.heap news)
    (h : ∀ D h' tk u, Fr h₀ L h' m → News h₀ L h' ((D, ({ cls := .type "tuple", data := .seq [Value.int 98 u].toArray } : Obj)) :: news) → (∀ p ∈ news, p.1 < D) → Q (.ref D) { s with heap := h', toks := tk }) : wpAny (model prog w) A (call (.type "tuple") [.bytes #[98] t]) Q E s := by
  refine call_tuple_bytes hh _ _ (fun h' tk acc hk hacc => ?_) (by rw [sizeLine_eq]; decide)
  obtain ⟨h1, h2⟩ := hacc
  obtain ⟨l⟩ := acc
  match l, h1, h2 with
  | [v], h1, h2 =>
    obtain ⟨c, u, hc, rfl⟩ := h2 0 v rfl
    have e : c = 98 := by simpa using hc.symm
    subst e
    have F' : Fr h₀ L h' m := F.keeps hk
    have N' : News h₀ L h' news := fun p hp => ⟨hk _ _ (N p hp).1, (N p hp).2⟩
    exact h _ _ tk u (F'.push _) (N'.push F' _) fun p hp => Heap.lt_size (N' p hp).1
end
section
variable {prog : Program} {w : World} {A : Around} {E : Value → Shared → Prop} {s : Shared} {h₀ : Heap} {L : Addr} {m : Str → Option Value} {env : Env}
noncomputable def TSrcAt (h₀ : Heap) (ax : Addr) (its : Array Value) (news : List (Addr × Obj)) : Prop := h₀.IsTuple ax its ∨ ∃ o, (ax, o) ∈ news ∧ o.cls = .type "tuple" ∧ ∃ n, o.data = .seq its n
theorem TSrcAt.tup {h₀ h : Heap} {L ax : Addr} {its : Array Value} {news : List (Addr × Obj)} (x : TSrcAt h₀ ax its news) (k : ∀ b o, h₀.get? b = some o → h.get? b = some o) (N : News h₀ L h news) : h.IsTuple ax its := by
  rcases x with ⟨o, e, r⟩ | ⟨o, hm, r⟩
  · exact ⟨o, k _ _ e, r⟩
  · exact ⟨o, (N _ hm).1, r⟩
noncomputable def TupSrc (prog : Program) (w : World) (A : Around) (h₀ : Heap) (L : Addr) (m : Str → Option Value) (env : Env) (elt : PySem.Expr) (x : Str) (scope : Scope) (cl : List (Str × Addr)) (Fin : Shared → List Value → List (Addr × Obj) → Prop) (xv : Value) (s₁ : Shared) : Prop :=
  ∃ ax its news, xv = .ref ax ∧ A.handled = none ∧ Fr h₀ L s₁.heap m ∧ News h₀ L s₁.heap news ∧ TSrcAt h₀ ax its news ∧ its.size ≤ sizeLine ∧
    ∀ s₂ : Shared, (∃ h, s₂ = { s₁ with heap := h }) → LCg.CompRest prog w A h₀ L m env elt x scope cl s₂ (TSrcAt h₀ ax its) (fun i v => its[i]? = some v) (Fin s₂) its.size 0 [] news
theorem TupSrc.intro {elt : PySem.Expr} {x : Str} {scope : Scope} {cl : List (Str × Addr)} {Fin : Shared → List Value → List (Addr × Obj) → Prop} {ax : Addr} {its : Array Value} {k : Nat} {news : List (Addr × Obj)} {s₁ : Shared}
    (hh : A.handled = none) (F : Fr h₀ L s₁.heap m) (N : News h₀ L s₁.heap news) (hm : (ax, ({ cls := .type "tuple", data := .seq its k } : Obj)) ∈ news) (hsz : its.size ≤ sizeLine)
    (h : ∀ g, LCg.CompRest prog w A h₀ L m env elt x scope cl { s₁ with heap := g } (TSrcAt h₀ ax its) (fun i v => its[i]? = some v) (Fin { s₁ with heap := g }) its.size 0 [] news) :
    TupSrc prog w A h₀ L m env elt x scope cl Fin (.ref ax) s₁ := ⟨ax, its, news, rfl, hh, F, N, .inr ⟨_, hm, rfl, _, rfl⟩, hsz, fun _ ⟨g, e⟩ => e ▸ h g⟩
theorem tup_st {ax I : Addr} {its : Array Value} : ∀ i (h h' : Heap) (o : Obj) (nw : List (Addr × Obj)), (h.IsTupleIter I ax i ∧ h.IsTuple ax its) → h.get? I = some o → h'.get? I = some o → (∀ b o, h₀.get? b = some o → h'.get? b = some o) → News h₀ L h' nw → TSrcAt h₀ ax its nw → (h'.IsTupleIter I ax i ∧ h'.IsTuple ax its) :=
  fun i h h' o nw st e e' k N S => ⟨by obtain ⟨o', q, r⟩ := st.1; rw [e] at q; cases q; exact ⟨o, e', r⟩, S.tup k N⟩
theorem ListComp_tup {elt iter : PySem.Expr} {x : Str} {px : Pos} {scope : Scope} {cl : List (Str × Addr)} {pos : Pos} {Q : Value → Shared → Prop} (F₀ : Fr h₀ L s.heap m)
    (hclos : closureFor scope env = pure cl) (hcell : ∀ y ∈ scope.names, y.2 ≠ .cell) (hkind : scope.kind = .function)
    (hnames : ∀ y ∈ scope.names, y.2 = .local → scope.names.lookup y.1 = some .local) (hx : scope.names.lookup x = some .local)
    (h : wpAny (model prog w) A (eval iter env) (TupSrc prog w A h₀ L m env elt x scope cl (fun s₂ => LCg.FinE h₀ L m s₂ Q)) E s)
    (hs : ∀ x, foldedSetIterable iter env x = pure x := by intro _; rfl) :
    wpAny (model prog w) A (eval (.ListComp elt [⟨.Name x px, iter, [], 0⟩] scope pos) env) Q E s := by
  rw [eval_ListComp]
  refine wpAny_comprehension_free (use := none) rfl hs hclos hkind hnames (wpAny_mono h (fun xv s₁ h₁ => ?_) fun _ _ e => e)
  obtain ⟨ax, its, news, rfl, hh, F, N, S, hsz, R⟩ := h₁
  have hl := S.tup F.keep N
  have hlt : ax < s₁.heap.objs.size := by obtain ⟨_, e, _⟩ := hl; exact Heap.lt_size e
  refine wpAny_pyIter_tuple hl ?_
  have up : ∀ b o, s₁.heap.get? b = some o → (s₁.heap.push { cls := .type "tuple_iterator", data := .fields #[.ref ax, .int 0 0] }).get? b = some o := fun b o e => Heap.get?_push_of_some _ e
  refine LCg.block_U (Walks.tuple hh s₁.heap.objs.size ax (Nat.ne_of_lt hlt) its) hsz (fun i h st => by obtain ⟨o, e, _⟩ := st.1; exact ⟨o, e⟩) tup_st hcell hkind hx ⟨⟨_, Heap.get?_push_size _ rfl, rfl, rfl⟩, hl.at fun o e => up _ o e⟩ (fun b hb => ?_)
    (F.keeps up) (N.grown up) (Nat.ne_of_lt F.ns.lt) (next_is_new F) (fun p hp => Nat.ne_of_lt (Heap.lt_size (N p hp).1)) S (R _ ⟨_, rfl⟩) ?_
  · show b < (s₁.heap.push _).objs.size
    rw [Heap.size_push]
    rcases List.mem_cons.mp hb with rfl | hb
    · exact Nat.lt_succ_self _
    · rw [List.mem_singleton.mp hb]; exact Nat.lt_succ_of_lt hlt
  · intro D C h tk m' ys news' F' N' o1 hn hC₀ hD₀ hCL hDL hCD offC fin
    refine ⟨m', hn, fun h'' hs'' => fin D h'' tk (F'.change hs'' hCL hC₀) (fun p hp => ?_) o1⟩
    refine ⟨hs''.extBut _ _ ?_ (N' p hp).1, (N' p hp).2⟩
    rcases List.mem_cons.mp hp with rfl | hp
    · exact Ne.symm hCD
    · exact offC p hp
theorem comp_inv {elt : PySem.Expr} {x : Str} {scope : Scope} {cl : List (Str × Addr)} {S : List (Addr × Obj) → Prop} {P : Nat → Value → Prop} {Fin : List Value → List (Addr × Obj) → Prop} (n : Nat) (Inv : Nat → List Value → List (Addr × Obj) → Prop) {news : List (Addr × Obj)}
    (h0 : Inv 0 [] news) (fin : ∀ ys nw, Inv n ys nw → Fin ys nw)
    (step : ∀ i ys nw v I oI C oC D m₂ h tk (E' : Value → Shared → Prop), i < n → Inv i ys nw → P i v → LCg.NsObj oC m₂ → m₂ x = some v → Fr h₀ L h m → News h₀ L h ((I, oI) :: (C, oC) :: (D, LCg.lst ys) :: nw) → LCg.Off3 I C D nw → ((@Ne Nat I C) ∧ (@Ne Nat I D) ∧ (@Ne Nat C D)) →
      wpAny (model prog w) A (eval elt (compEnvC scope cl C env)) (LCg.CompEnd h₀ L m { s with heap := h, toks := tk } I oI C oC D (LCg.lst ys) S (fun y nw' => Inv (i + 1) (ys ++ [y]) nw')) E' { s with heap := h, toks := tk }) :
    LCg.CompRest prog w A h₀ L m env elt x scope cl s S P Fin n 0 [] news := by
  have go : ∀ k i ys nw, i + k = n → Inv i ys nw → LCg.CompRest prog w A h₀ L m env elt x scope cl s S P Fin k i ys nw := by
    intro k
    induction k with
    | zero => intro i ys nw e hi; exact fin ys nw (by have : i = n := by omega
                                                      subst this; exact hi)
    | succ k ih =>
      intro i ys nw e hi v I oI C oC D m₂ h tk E' hv hC hx F N off ne
      refine wpAny_mono (step i ys nw v I oI C oC D m₂ h tk E' (by omega) hi hv hC hx F N off ne) (fun y s₂ hq => ?_) fun _ _ e => e
      obtain ⟨h', tk', nw', rfl, F', N', off', hS, r⟩ := hq
      exact ⟨h', tk', nw', rfl, F', N', off', hS, ih (i + 1) _ _ (by omega) r⟩
  exact go n 0 [] news (by omega) h0
end
theorem off_sub {I : Addr} {led S : List (Addr × Obj)} (h : ∀ p ∈ led, p.1 ≠ I) (hs : ∀ q ∈ S, q ∈ led) : ∀ q ∈ S, q.1 ≠ I := fun q hq => h q (hs q hq)
theorem off_mem {I a : Addr} {o o' : Obj} {led : List (Addr × Obj)} (h : ∀ p ∈ led, p.1 ≠ I) (hm : (a, o') ∈ led) : (a, o).1 ≠ I := h (a, o') hm
theorem comp_end {h₀ : Heap} {L I C D : Addr} {m : Str → Option Value} {s₁ : Shared} {oI oC oD : Obj} {S : List (Addr × Obj) → Prop} {rest : Value → List (Addr × Obj) → Prop} {y : Value} {h' : Heap} {tk : Nat} {all n1 n2 n3 : List (Addr × Obj)}
    (F : Fr h₀ L h' m) (N : News h₀ L h' all) (k1 : Pick (I, oI) all n1) (k2 : Pick (C, oC) n1 n2) (k3 : Pick (D, oD) n2 n3) (o1 : ∀ p ∈ n3, p.1 ≠ I) (o2 : ∀ p ∈ n3, p.1 ≠ C) (o3 : ∀ p ∈ n3, p.1 ≠ D) (hS : S n3) (r : rest y n3) :
    LCg.CompEnd h₀ L m s₁ I oI C oC D oD S rest y { s₁ with heap := h', toks := tk } := by
  refine LCg.CompEnd.intro F N n3 (fun p hp => ?_) (LCg.Off3.of fun p hp => ⟨o1 p hp, o2 p hp, o3 p hp⟩) hS r
  rcases List.mem_cons.mp hp with rfl | hp
  · exact k1.sub _ (.head _)
  · refine k1.sub _ (.tail _ ?_)
    rcases List.mem_cons.mp hp with rfl | hp
    · exact k2.sub _ (.head _)
    · exact k2.sub _ (.tail _ (k3.sub _ hp))
theorem Off1_mem {D : Addr} : ∀ {l : List (Addr × Obj)}, LCg.Off1 D l → ∀ p ∈ l, p.1 ≠ D
  | [], _, _, h => nomatch h
  | _ :: _, x, p, h => by
    rcases List.mem_cons.mp h with rfl | h
    · exact x.1
    · exact Off1_mem x.2 p h
noncomputable def Ap (tl led : List (Addr × Obj)) : Prop := ∀ q ∈ tl, ∀ p ∈ led, p.1 ≠ q.1
theorem Ap.nil {led : List (Addr × Obj)} : Ap [] led := fun _ h => nomatch h
theorem Ap.cons {q : Addr × Obj} {tl led : List (Addr × Obj)} (h : ∀ p ∈ led, p.1 ≠ q.1) (k : Ap tl led) : Ap (q :: tl) led := fun x hx => by
  rcases List.mem_cons.mp hx with rfl | hx
  · exact h
  · exact k x hx
theorem Ap.app {a b led : List (Addr × Obj)} (h : Ap a led) (k : Ap b led) : Ap (a ++ b) led := fun x hx => (List.mem_append.mp hx).elim (h x) (k x)
theorem Ap.sub {a led led' : List (Addr × Obj)} (h : Ap a led) (hs : ∀ q ∈ led', q ∈ led) : Ap a led' := fun x hx p hp => h x hx p (hs p hp)
theorem Ap.of_fresh {a led : List (Addr × Obj)} (h : Fresh a led) : Ap a led := fun x hx p hp => Nat.ne_of_lt (h x hx p hp)
theorem Ap.ne {a led : List (Addr × Obj)} (h : Ap a led) {H : Addr} {o : Obj} (hm : (H, o) ∈ led) : ∀ p ∈ a, p.1 ≠ H := fun q hq => Ne.symm (h q hq _ hm)
theorem AllLt_off {d : Addr} {led : List (Addr × Obj)} (h : AllLt d led) : ∀ q ∈ led, q.1 ≠ d := AllLt.off h fun _ h => h
end
section
open PySem PySem.W
noncomputable def Nd.bk : Nd → Prop
  | .box k .. => k = 2 ∨ k = 3
  | _ => True
noncomputable def Nd.width : Nd → Int
  | .box _ wd _ _ _ _ _ _ _ _ => wd
  | .rule wd _ _ => wd.getD 0
  | .kern wd => wd
  | .skip g _ => g.w
  | _ => 0
noncomputable def Nd.height : Nd → Int
  | .box _ _ ht _ _ _ _ _ _ _ => ht
  | .rule _ ht _ => ht.getD 0
  | _ => 0
noncomputable def Nd.depth : Nd → Int
  | .box _ _ _ dp _ _ _ _ _ _ => dp
  | .rule _ _ dp => dp
  | _ => 0
noncomputable def Nd.lheight : Nd → Int
  | .box _ _ ht _ sf _ _ _ _ _ => ht - sf
  | .rule _ ht _ => ht.getD 0
  | _ => 0
noncomputable def Nd.ldepth : Nd → Int
  | .box _ _ _ dp sf _ _ _ _ _ => dp + sf
  | .rule _ _ dp => dp
  | _ => 0
noncomputable def Nd.across : Nd → Int
  | .box _ wd _ _ sf _ _ _ _ _ => wd + sf
  | .rule wd _ _ => wd.getD 0
  | _ => 0
theorem NodeIn.kd {w : World} {S : Led} {v : Value} {nd : Nd} (h : NodeIn w S v nd) : ∃ a t, v = .ref a ∧ At w S a "kind" (.int nd.kind t) := by
  cases h <;> exact ⟨_, _, rfl, by assumption⟩
theorem NodeIn.kb {w : World} {S : Led} {v : Value} {nd : Nd} (h : NodeIn w S v nd) (hb : nd.bk) : 2 ≤ nd.kind ∧ nd.kind ≤ 13 ∧ nd.kind ≠ 8 ∧ nd.kind ≠ 11 ∧ nd.kind ≠ 12 := by
  cases h <;> first | (dsimp only [Nd.kind]; decide) | (dsimp only [Nd.bk, Nd.kind] at *; omega)
section
variable {w : World} {S : Led} {a : Addr} {nd : Nd}
theorem NodeIn.hwd (h : NodeIn w S (.ref a) nd) (hb : nd.bk) (k : nd.kind = 2 ∨ nd.kind = 3 ∨ nd.kind = 5) : ∃ t, At w S a "width" (.int nd.width t) := by
  cases h <;> first | exact ⟨_, by with_reducible assumption⟩ | ((dsimp only [Nd.width, Nd.height, Nd.depth]); exact ⟨_, by with_reducible assumption⟩) | (dsimp only [Nd.kind, Nd.bk] at *; omega)
theorem NodeIn.hht (h : NodeIn w S (.ref a) nd) (hb : nd.bk) (k : nd.kind = 2 ∨ nd.kind = 3) : ∃ t, At w S a "height" (.int nd.height t) := by
  cases h <;> first | exact ⟨_, by with_reducible assumption⟩ | ((dsimp only [Nd.width, Nd.height, Nd.depth]); exact ⟨_, by with_reducible assumption⟩) | (dsimp only [Nd.kind, Nd.bk] at *; omega)
theorem NodeIn.hdp (h : NodeIn w S (.ref a) nd) (hb : nd.bk) (k : nd.kind = 2 ∨ nd.kind = 3 ∨ nd.kind = 4) : ∃ t, At w S a "depth" (.int nd.depth t) := by
  cases h <;> first | exact ⟨_, by with_reducible assumption⟩ | ((dsimp only [Nd.width, Nd.height, Nd.depth]); exact ⟨_, by with_reducible assumption⟩) | (dsimp only [Nd.kind, Nd.bk] at *; omega)
theorem NodeIn.hsf (h : NodeIn w S (.ref a) nd) (hb : nd.bk) (k : nd.kind = 2 ∨ nd.kind = 3) : ∃ x t, At w S a "shift" (.int x t) ∧ nd.lheight = nd.height - x ∧ nd.ldepth = nd.depth + x ∧ nd.across = nd.width + x := by
  cases h <;> first | exact ⟨_, _, by with_reducible assumption, rfl, rfl, rfl⟩ | (dsimp only [Nd.kind, Nd.bk] at *; omega)
theorem NodeIn.hgl (h : NodeIn w S (.ref a) nd) (hb : nd.bk) (k : nd.kind = 6) : ∃ ga g s, At w S a "glue" (.ref ga) ∧ GlueIn w S ga g ∧ nd = .skip g s ∧ At w S a "leader" .none := by
  cases h <;> first | exact ⟨_, _, _, by with_reducible assumption, by with_reducible assumption, rfl, by with_reducible assumption⟩ | (dsimp only [Nd.kind, Nd.bk] at *; omega)
theorem NodeIn.hrw (h : NodeIn w S (.ref a) nd) (hb : nd.bk) (k : nd.kind = 4) : (∃ t, At w S a "width" (.int nd.width t)) ∨ (nd.width = 0 ∧ At w S a "width" .none) := by
  cases h with
  | rule a1 a2 o1 a3 o2 a4 =>
    rename_i wd ht dp v1 v2 t1 t2
    cases wd with
    | none => dsimp only [optV] at o1; subst o1; exact .inr ⟨rfl, a2⟩
    | some x => dsimp only [optV] at o1; obtain ⟨t, rfl⟩ := o1; exact .inl ⟨_, a2⟩
  | _ => dsimp only [Nd.kind, Nd.bk] at *; omega
theorem NodeIn.hrh (h : NodeIn w S (.ref a) nd) (hb : nd.bk) (k : nd.kind = 4) : (∃ t, At w S a "height" (.int nd.height t)) ∨ (nd.height = 0 ∧ At w S a "height" .none) := by
  cases h with
  | rule a1 a2 o1 a3 o2 a4 =>
    rename_i wd ht dp v1 v2 t1 t2
    cases ht with
    | none => dsimp only [optV] at o2; subst o2; exact .inr ⟨rfl, a3⟩
    | some x => dsimp only [optV] at o2; obtain ⟨t, rfl⟩ := o2; exact .inl ⟨_, a3⟩
  | _ => dsimp only [Nd.kind, Nd.bk] at *; omega
end
theorem Nd.width0 {nd : Nd} (k : nd.kind ≠ 2 ∧ nd.kind ≠ 3 ∧ nd.kind ≠ 4 ∧ nd.kind ≠ 5 ∧ nd.kind ≠ 6) (hb : nd.bk) : nd.width = 0 := by
  cases nd with
  | box => exact (hb.elim (fun e => absurd e k.1) fun e => absurd e k.2.1)
  | rule => exact absurd rfl k.2.2.1
  | kern => exact absurd rfl k.2.2.2.1
  | skip => exact absurd rfl k.2.2.2.2
  | _ => rfl
theorem Nd.height0 {nd : Nd} (k : nd.kind ≠ 2 ∧ nd.kind ≠ 3 ∧ nd.kind ≠ 4) (hb : nd.bk) : nd.height = 0 := by
  cases nd with
  | box => exact (hb.elim (fun e => absurd e k.1) fun e => absurd e k.2.1)
  | rule => exact absurd rfl k.2.2
  | _ => rfl
theorem Nd.depth0 {nd : Nd} (k : nd.kind ≠ 2 ∧ nd.kind ≠ 3 ∧ nd.kind ≠ 4) (hb : nd.bk) : nd.depth = 0 := by
  cases nd with
  | box => exact (hb.elim (fun e => absurd e k.1) fun e => absurd e k.2.1)
  | rule => exact absurd rfl k.2.2
  | _ => rfl
theorem Nd.lheightO {nd : Nd} (k : nd.kind ≠ 2 ∧ nd.kind ≠ 3) (hb : nd.bk) : nd.lheight = nd.height := by
  cases nd with
  | box => exact (hb.elim (fun e => absurd e k.1) fun e => absurd e k.2)
  | _ => rfl
theorem Nd.ldepthO {nd : Nd} (k : nd.kind ≠ 2 ∧ nd.kind ≠ 3) (hb : nd.bk) : nd.ldepth = nd.depth := by
  cases nd with
  | box => exact (hb.elim (fun e => absurd e k.1) fun e => absurd e k.2)
  | _ => rfl
theorem Nd.acrossO {nd : Nd} (k : nd.kind ≠ 2 ∧ nd.kind ≠ 3 ∧ nd.kind ≠ 5 ∧ nd.kind ≠ 6) (hb : nd.bk) : nd.across = nd.width := by
  cases nd with
  | box => exact (hb.elim (fun e => absurd e k.1) fun e => absurd e k.2.1)
  | kern => exact absurd rfl k.2.2.1
  | skip => exact absurd rfl k.2.2.2
  | _ => rfl
theorem Nd.across5 {nd : Nd} (k : nd.kind = 5) (hb : nd.bk) : nd.across = 0 := by
  cases nd <;> first | rfl | (dsimp only [Nd.kind, Nd.bk] at *; omega)
end
section
open PySem PySem.W PySem.Calls PySem.Spec PyProof.Rows
section
variable {prog : Program} {w : World} {A : Around} {E : Value → Shared → Prop} {s : Shared} {env : Env} {h₀ : Heap} {x : Str} {body : List Stmt} {Q : Flow → Shared → Prop}
noncomputable def LoopJ {σ : Type} (ps : σ → List (Str × Value)) (stored : List Str) (m₀ : Str → Option Value) (x : Str) (cst : Led) (Inv : σ → Led → Prop) (m : Str → Option Value) (nx : Led) : Prop :=
  ∃ c dyn, nx = dyn ++ cst ∧ (∀ p ∈ ps c, m p.1 = some p.2) ∧ (∀ z, z ≠ x → (∀ p ∈ ps c, z ≠ p.1) → stored.contains z = false → m z = m₀ z) ∧ Inv c dyn
theorem loop_list {σ : Type} {l : Addr} {m₀ : Str → Option Value} (dyn₀ cst : Led) (vs : List Value) (nn : Nat) (ps : σ → List (Str × Value)) (stored : List Str) (Inv : Nat → σ → Led → Prop) (c₀ : σ)
    (hh : A.handled = none) (F : Fr h₀ env.locals s.heap m₀) (N : News h₀ env.locals s.heap (dyn₀ ++ cst)) (hl : (l, listOf vs.toArray nn) ∈ cst) (hk : ∀ p ∈ ps c₀, m₀ p.1 = some p.2) (hj : Inv 0 c₀ dyn₀)
    (turn : ∀ i v c dyn (u : Str → Option Value) h tk own, vs[i]? = some v → Inv i c dyn → OwnOff own ((dyn ++ cst).map (·.1)) → Fr h₀ env.locals h (fun y => if y = x then some v else kstB (fun z => if stored.contains z then u z else m₀ z) (ps c) y) → News h₀ env.locals h (dyn ++ (cst ++ own)) →
      wpAny (model prog w) A (execs body env) (InvPostG h₀ env.locals (LoopJ ps stored m₀ x cst (Inv (i + 1))) own { s with heap := h, toks := tk } Q) E { s with heap := h, toks := tk })
    (done : ∀ c dyn (u : Str → Option Value) h tk, Inv vs.length c dyn → Fr h₀ env.locals h (fun y => if y = x then u y else kstB (fun z => if stored.contains z then u z else m₀ z) (ps c) y) → News h₀ env.locals h (dyn ++ cst) → Q .next { s with heap := h, toks := tk }) :
    wpAny (model prog w) A (pyIter (.ref l)) (fun it s₂ => LoopAtV prog w A h₀ env x body Q E it s₂) E s := by
  refine kdl_iter (nn := nn) (news := dyn₀ ++ cst) (fun i m nx => LoopJ ps stored m₀ x cst (Inv i) m nx) hh (List.mem_append_right _ hl) F N ⟨c₀, dyn₀, rfl, hk, fun _ _ _ _ => rfl, hj⟩ ?_ ?_
  · rintro i v m₁ nx h tk own hv hoff _ ⟨c, dyn, rfl, h1, h2, hi⟩ F₁ N₁
    rw [List.append_assoc] at N₁
    refine wpAny_mono (turn i v c dyn m₁ h tk own hv hi hoff (kst_fr h1 h2 F₁) N₁) (fun f s₂ p => ?_) fun _ _ e => e
    have fin : InvEndG h₀ env.locals (LoopJ ps stored m₀ x cst (Inv (i + 1))) own { s with heap := h, toks := tk } s₂ → InvEndG h₀ env.locals (fun m' nx => (l, listOf vs.toArray nn) ∈ nx ∧ LoopJ ps stored m₀ x cst (Inv (i + 1)) m' nx) own { s with heap := h, toks := tk } s₂ := by
      rintro ⟨h', tk', m', news', nx, e, F', N', hn, ho, ha, hm⟩
      refine ⟨h', tk', m', news', nx, e, F', N', hn, ho, ha, ?_, hm⟩
      obtain ⟨c, dyn, rfl, _⟩ := hm
      exact List.mem_append_right _ hl
    cases f with
    | ret v => exact p
    | brk => exact p
    | next => exact fin p
    | cont => exact fin p
  · rintro m₁ nx h tk ⟨c, dyn, rfl, h1, h2, hi⟩ F₁ N₁
    exact done c dyn m₁ h tk hi (kst_frOut h1 h2 F₁) N₁
theorem loop_end {σ : Type} {ps : σ → List (Str × Value)} {stored : List Str} {m₀ : Str → Option Value} {cst : Led} {Inv : σ → Led → Prop} (c : σ) {dyn dyn₀ : Led} {L : Addr} {m' : Str → Option Value} {own news' : Led} {s₁ : Shared} {h' : Heap} {tk : Nat}
    (F : Fr h₀ L h' m') (N : News h₀ L h' news') (hn : ∀ q ∈ dyn ++ (cst ++ own), q ∈ news') (ha₀ : OwnOff own ((dyn₀ ++ cst).map (·.1))) (hadr : dyn.map (·.1) = dyn₀.map (·.1)) (hk : ∀ p ∈ ps c, m' p.1 = some p.2) (hr : ∀ z, z ≠ x → (∀ p ∈ ps c, z ≠ p.1) → stored.contains z = false → m' z = m₀ z) (hi : Inv c dyn) :
    InvEndG h₀ L (LoopJ ps stored m₀ x cst Inv) own s₁ { s₁ with heap := h', toks := tk } := by
  refine ⟨h', tk, m', news', dyn ++ cst, rfl, F, N, fun q hq => hn q ?_, fun q hq => hn q (List.mem_append_right _ (List.mem_append_right _ hq)), ?_, c, dyn, rfl, hk, hr, hi⟩
  · rcases List.mem_append.mp hq with h | h
    · exact List.mem_append_left _ h
    · exact List.mem_append_right _ (List.mem_append_left _ h)
  · rw [List.map_append] at ha₀ ⊢; rw [hadr]; exact ha₀
end
end
section
open PySem PySem.W PySem.Calls PySem.Spec PyProof.Rows
section
variable {prog : Program} {w : World} {A : Around} {E : Value → Shared → Prop} {s : Shared} {env : Env} {h₀ : Heap} {x : Str} {body : List Stmt} {Q : Flow → Shared → Prop}
theorem loop_range {σ : Type} {r : Addr} {n : Nat} {t₀ u₀ v₀ : Tok} {m₀ : Str → Option Value} (dyn₀ cst : Led) (ps : σ → List (Str × Value)) (stored : List Str) (Inv : Nat → σ → Led → Prop) (c₀ : σ)
    (hh : A.handled = none) (F : Fr h₀ env.locals s.heap m₀) (N : News h₀ env.locals s.heap (dyn₀ ++ cst)) (hr : IsRange s.heap r 0 (n : Int) 1 t₀ u₀ v₀) (hsmall : Builtin.Range.small 0 (n : Int) 1 = true) (hsz : Builtin.Range.rangeSize 0 (n : Int) 1 = (n : Int)) (hk : ∀ p ∈ ps c₀, m₀ p.1 = some p.2) (hj : Inv 0 c₀ dyn₀)
    (turn : ∀ (i : Nat) (t : Tok) c dyn (u : Str → Option Value) h tk own, i < n → Inv i c dyn → OwnOff own ((dyn ++ cst).map (·.1)) → Fr h₀ env.locals h (fun y => if y = x then some (.int (i : Int) t) else kstB (fun z => if stored.contains z then u z else m₀ z) (ps c) y) → News h₀ env.locals h (dyn ++ (cst ++ own)) →
      wpAny (model prog w) A (execs body env) (InvPostG h₀ env.locals (LoopJ ps stored m₀ x cst (Inv (i + 1))) own { s with heap := h, toks := tk } Q) E { s with heap := h, toks := tk })
    (done : ∀ c dyn (u : Str → Option Value) h tk, Inv n c dyn → Fr h₀ env.locals h (fun y => if y = x then u y else kstB (fun z => if stored.contains z then u z else m₀ z) (ps c) y) → News h₀ env.locals h (dyn ++ cst) → Q .next { s with heap := h, toks := tk }) :
    wpAny (model prog w) A (pyIter (.ref r)) (fun it s₂ => LoopAtV prog w A h₀ env x body Q E it s₂) E s := by
  refine wpAny_pyIter_range hr hsmall ?_
  have W : Walks prog w A s.heap.objs.size [s.heap.objs.size] [s.heap.objs.size] n (fun i v => i < n ∧ ∃ t, v = .int (0 + i * 1) t)
      (fun i h => IsRangeIter h s.heap.objs.size (0 + (i : Nat) * 1) ((n : Int) - (i : Nat)) 1) := (Walks.range hh _ 0 1 n).bound
  refine kdr_loop (news := dyn₀ ++ cst) (fun i m nx => LoopJ ps stored m₀ x cst (Inv i) m nx) W (fun _ h => h) (fun _ h => h) ?_ ?_ ?_ ?_ (by show IsRangeIter _ _ _ _ _; rw [hsz]; simpa using Heap.get?_push_size _ rfl) (F.push _) (fun p hp => ⟨Heap.get?_push_of_some _ (N p hp).1, (N p hp).2⟩) ⟨c₀, dyn₀, rfl, hk, fun _ _ _ _ => rfl, hj⟩ ?_ ?_
  · intro i h hi b hb
    rw [List.mem_singleton.mp hb]
    exact ⟨_, hi⟩
  · intro hm
    exact absurd F.ns.lt ((List.mem_singleton.mp hm) ▸ Nat.lt_irrefl _)
  · intro b hb
    rw [List.mem_singleton.mp hb]
    exact next_is_new F
  · intro p hp hI
    exact absurd (Heap.lt_size (N p hp).1) ((List.mem_singleton.mp hI) ▸ Nat.lt_irrefl _)
  · rintro i v m₁ nx h tk own hi ⟨_, t, rfl⟩ hoff ⟨c, dyn, rfl, h1, h2, hi'⟩ F₁ N₁
    have e1 : (0 : Int) + (i : Int) * 1 = (i : Int) := by omega
    rw [e1] at F₁
    rw [List.append_assoc] at N₁
    exact turn i t c dyn m₁ h tk own hi hi' hoff (kst_fr h1 h2 F₁) N₁
  · rintro m₁ nx h tk ⟨c, dyn, rfl, h1, h2, hi⟩ F₁ N₁
    exact done c dyn m₁ h tk hi (kst_frOut h1 h2 F₁) N₁
end
end
section
open PySem PySem.W PySem.Calls PySem.Spec PyProof.Rows
section
variable {prog : Program} {w : World} {A : Around} {E : Value → Shared → Prop} {s : Shared} {h₀ : Heap} {L a b : Addr} {led : Led} {Q : Value → Shared → Prop}
theorem ne_nil {vs : List Value} {n k : Nat} (N : News h₀ L s.heap led) (ma : (a, PySem.W.listOf vs.toArray n) ∈ led) (mb : (b, PySem.W.listOf ([] : List Value).toArray k) ∈ led) (hu : A.units < cLine) (h : Q (.bool (!vs.isEmpty)) s) : wpAny (model prog w) A (compareOp .NotEq (.ref a) (.ref b)) Q E s := by
  have la : s.heap.IsList a vs.toArray := ⟨_, N.get ma, rfl, n, rfl⟩
  have lb : s.heap.IsList b ([] : List Value).toArray := ⟨_, N.get mb, rfl, k, rfl⟩
  cases vs with
  | nil => exact PySem.SeqAt.RcNeAt.lists (e := fun _ => true) la lb rfl hu (fun j h1 _ => absurd h1 (Nat.not_lt_zero _)) prog w E Q (by simpa using h)
  | cons v vs => exact PySem.SeqAt.RcNeAt.lists_lengths la lb (by simp) hu prog w E Q (by simpa using h)
theorem eq_nil {vs : List Value} {n k : Nat} (N : News h₀ L s.heap led) (ma : (a, PySem.W.listOf vs.toArray n) ∈ led) (mb : (b, PySem.W.listOf ([] : List Value).toArray k) ∈ led) (hu : A.units < cLine) (h : Q (.bool vs.isEmpty) s) : wpAny (model prog w) A (compareOp .Eq (.ref a) (.ref b)) Q E s := by
  have la : s.heap.IsList a vs.toArray := ⟨_, N.get ma, rfl, n, rfl⟩
  have lb : s.heap.IsList b ([] : List Value).toArray := ⟨_, N.get mb, rfl, k, rfl⟩
  cases vs with
  | nil => exact PySem.SeqAt.RcAt.lists (e := fun _ => true) la lb rfl hu (fun j h1 _ => absurd h1 (Nat.not_lt_zero _)) prog w E Q (by simpa using h)
  | cons v vs => exact PySem.SeqAt.RcAt.lists_lengths la lb (by simp) hu prog w E Q (by simpa using h)
open Classical in
theorem dat_eqv {d e : Dat} {n k : Nat} (hd : kqdOk n d = true) (he : kqdOk k e = true) : PyData.eqv (kqdP d) (kqdP e) = decide (d = e) := by
  have q := kqd_eqv n d e k hd he
  by_cases hq : d = e
  · rw [decide_eq_true hq]; exact q.mpr hq
  · rw [decide_eq_false hq]; exact Bool.eq_false_iff.mpr fun x => hq (q.mp x)
open Classical in
theorem dat_eq {S S' : Led} {x y : Value} {d e : Dat} (N : News h₀ L s.heap led) (da : DatIn S x d) (sa : ∀ q ∈ S, q ∈ led) (db : DatIn S' y e) (sb : ∀ q ∈ S', q ∈ led) (hd : kqdOk 9 d = true) (he : kqdOk 9 e = true) (hu : A.units + 64 < cLine) (h : Q (.bool (decide (d = e))) s) : wpAny (model prog w) A (compareOp .Eq x y) Q E s := by
  obtain ⟨as, ra⟩ := kqd_in N 9 (da.mono sa) hd
  obtain ⟨bs, rb⟩ := kqd_in N 9 (db.mono sb) he
  have la := kqd_lay 9 d hd
  have lb := kqd_lay 9 e he
  refine eq_dataH ra rb ?_ ?_ hu (by rw [dat_eqv hd he]; exact h)
  · unfold SeqAt.shaped; rw [la.1, Bool.true_and]; exact decide_eq_true (Nat.le_trans la.2 (by decide))
  · unfold SeqAt.shaped; rw [lb.1, Bool.true_and]; exact decide_eq_true (Nat.le_trans lb.2 (by decide))
open Classical in
theorem dat_ne {S S' : Led} {x y : Value} {d e : Dat} (N : News h₀ L s.heap led) (da : DatIn S x d) (sa : ∀ q ∈ S, q ∈ led) (db : DatIn S' y e) (sb : ∀ q ∈ S', q ∈ led) (hd : kqdOk 9 d = true) (he : kqdOk 9 e = true) (hu : A.units + 64 < cLine) (h : Q (.bool (!decide (d = e))) s) : wpAny (model prog w) A (compareOp .NotEq x y) Q E s := by
  obtain ⟨as, ra⟩ := kqd_in N 9 (da.mono sa) hd
  obtain ⟨bs, rb⟩ := kqd_in N 9 (db.mono sb) he
  have la := kqd_lay 9 d hd
  have lb := kqd_lay 9 e he
  refine ne_dataH ra rb ?_ ?_ hu (by rw [dat_eqv hd he]; exact h)
  · unfold SeqAt.shaped; rw [la.1, Bool.true_and]; exact decide_eq_true (Nat.le_trans la.2 (by decide))
  · unfold SeqAt.shaped; rw [lb.1, Bool.true_and]; exact decide_eq_true (Nat.le_trans lb.2 (by decide))
end
theorem Gl.dat_ok (g : Gl) (n : Nat) : kqdOk (n + 1) g.dat = true := by cases n <;> rfl
theorem opt_ok (o : Option Int) (n : Nat) : kqdOk (n + 1) (optDat o) = true := by cases o <;> cases n <;> rfl
theorem kqd_tup {n : Nat} {ds : List Dat} (h : ∀ d ∈ ds, kqdOk n d = true) : kqdOk (n + 1) (.tuple ds) = true := by simpa [kqdOk] using h
end
section
open PySem PySem.W PySem.Calls PySem.Spec PyProof.Rows
section
variable {prog : Program} {w : World} {A : Around} {E : Value → Shared → Prop} {s : Shared} {h₀ : Heap} {L l b : Addr} {m : Str → Option Value} {news news' : Led} {vs ws : List Value} {n k : Nat} {Q : Value → Shared → Prop}
theorem led_list (N : News h₀ L s.heap news) (hm : (l, PySem.W.listOf vs.toArray n) ∈ news) : s.heap.IsList l vs.toArray := ⟨_, N.get hm, rfl, n, rfl⟩
theorem len_led (N : News h₀ L s.heap news) (hm : (l, PySem.W.listOf vs.toArray n) ∈ news) (hz : vs.length ≤ 1000) (h : Q (.int (vs.length : Int) (s.toks + 1)) { s with toks := s.toks + 1 + 1 }) : wpAny (model prog w) A (call (.builtin "len") [.ref l]) Q E s :=
  PyProof.Rows.len_list (led_list N hm) (by rw [List.size_toArray]; omega) (by rw [List.size_toArray]; exact h)
theorem list_cat (F : Fr h₀ L s.heap m) (N : News h₀ L s.heap news) (ha : (l, PySem.W.listOf vs.toArray n) ∈ news) (hb : (b, PySem.W.listOf ws.toArray k) ∈ news) (hz : vs.length ≤ 1000) (hz2 : ws.length ≤ 1000)
    (h : ∀ D h', Fr h₀ L h' m → News h₀ L h' ((D, PySem.W.listOf (vs ++ ws).toArray 0) :: news) → (∀ p ∈ news, p.1 < D) → Q (.ref D) { s with heap := h' }) : wpAny (model prog w) A (binaryOp .Add (.ref l) (.ref b)) Q E s :=
  kmk_add_lit F N (led_list N ha) (led_list N hb) (zs := vs ++ ws) (by simp) h (by rw [sizeLine_eq]; simp; omega)
theorem pick_from (i : Nat) (vs : List Value) : kms_pick vs (some (i : Int)) none = vs.drop i := by
  unfold kms_pick kms_lo kms_hi
  simp only
  rw [if_neg (by omega), Int.toNat_natCast]
  by_cases h : i ≤ vs.length
  · rw [Nat.min_eq_left h]
    exact List.take_of_length_le (by rw [List.length_drop]; exact Nat.le_refl _)
  · rw [Nat.min_eq_right (by omega)]
    simp [List.drop_of_length_le (show vs.length ≤ i by omega)]
theorem pick_upto (i : Nat) (vs : List Value) : kms_pick vs none (some (i : Int)) = vs.take i := by
  unfold kms_pick kms_lo kms_hi
  simp only
  rw [if_neg (by omega), Int.toNat_natCast, List.drop_zero, Nat.sub_zero]
  by_cases h : i ≤ vs.length
  · rw [Nat.min_eq_left h]
  · rw [Nat.min_eq_right (by omega), List.take_of_length_le (Nat.le_refl _), List.take_of_length_le (by omega)]
theorem pick_init (vs : List Value) : kms_pick vs none (some (-1)) = vs.take (vs.length - 1) := by
  unfold kms_pick kms_lo kms_hi
  simp
variable {value slice : PySem.Expr} {lo hi : Option Int} {vl vu : Value}
theorem slice_led (F : Fr h₀ L s.heap m) (N : News h₀ L s.heap news) (hm : (l, PySem.W.listOf vs.toArray n) ∈ news) (pl : IsPart vl lo) (pu : IsPart vu hi) (e : kms_pick vs lo hi = ws) (hz : vs.length ≤ 1000)
    (h : ∀ D h', Fr h₀ L h' m → News h₀ L h' ((D, PySem.W.listOf ws.toArray 0) :: news) → (∀ p ∈ news, p.1 < D) → Q (.ref D) { s with heap := h' })
    (hs : subscripted slice false (.ref l) (.ref s.heap.objs.size) = operate [.ref s.heap.objs.size, .ref l] (getItem (.ref l) (.ref s.heap.objs.size))) (ht : ∀ r, letTemporaryGo value (.ref l) r = pure ()) :
    wpAny (model prog w) A (subscriptTail value slice (.ref l) (.ref s.heap.objs.size)) Q E { s with heap := s.heap.push { cls := .type "slice", data := .fields #[vl, vu, .none] } } :=
  kms_slice_lit F N (led_list N hm) pl pu (by simpa using e) h hs ht (by rw [sizeLine_eq, List.size_toArray]; omega)
theorem append_led {D : Addr} {v : Value} (F : Fr h₀ L s.heap m) (N : News h₀ L s.heap news) (U : Upd D (PySem.W.listOf vs.toArray n) (PySem.W.listOf (vs ++ [v]).toArray (n + 1)) news news') (hz : vs.length ≤ 1000)
    (h : ∀ h', Fr h₀ L h' m → News h₀ L h' news' → Q .none { s with heap := h' }) : wpAny (model prog w) A (call (.builtin "list.append") [.ref D, v]) Q E s :=
  append_K F N (by rw [List.push_toArray]; exact U) h (by rw [sizeLine_eq, List.size_toArray]; omega)
theorem copy_led (F : Fr h₀ L s.heap m) (N : News h₀ L s.heap news) (hm : (l, PySem.W.listOf vs.toArray n) ∈ news) (hz : vs.length ≤ 1000)
    (h : ∀ D c h', Fr h₀ L h' m → News h₀ L h' ((D, PySem.W.listOf vs.toArray c) :: news) → (∀ q ∈ news, q.1 < D) → Q (.ref D) { s with heap := h' }) :
    wpAny (model prog w) A (call (.type "list") [.ref l]) Q E s := list_copyK F N (led_list N hm) h (by rw [sizeLine_eq, List.size_toArray]; omega)
end
end
section
open PySem PySem.W PySem.Calls PySem.Spec PyProof.Rows
section
variable {prog : Program} {w : World} {A : Around} {E : Value → Shared → Prop} {s : Shared} {t : Addr} {items : List Value} {ns : List Int} {k : Int} {u : Tok} {Q : Value → Shared → Prop}
theorem any_ints : ∀ {items : List Value} {ns : List Int}, IntsAre items ns → ∀ k : Int, (items.any fun y => match y with | .int a _ => a == k | _ => false) = decide (k ∈ ns)
  | _, _, .nil, k => by simp
  | _, _, .cons i t h, k => by
    rw [List.any_cons, any_ints h k]
    by_cases e : i = k
    · subst e; simp
    · have e' : k ≠ i := fun x => e x.symm
      simp [e, e']
theorem mem_ints : ∀ {items : List Value} {ns : List Int}, IntsAre items ns → ∀ y ∈ items, ∃ a t, y = Value.int a t
  | _, _, .nil, _, h => nomatch h
  | _, _, .cons i t h, y, hy => by
    rcases List.mem_cons.mp hy with rfl | hy
    · exact ⟨_, _, rfl⟩
    · exact mem_ints h y hy
theorem in_ints (hl : IsTup s.heap t items.toArray) (hi : IntsAre items ns) (h1 : k ∈ ns → Q (.bool true) s) (h2 : k ∉ ns → Q (.bool false) s) : wpAny (model prog w) A (compareOp .In (.int k u) (.ref t)) Q E s := by
  refine PySem.SeqAt.in_tupleAt (fun y => match y with | .int a _ => a == k | _ => false) hl (fun y hy => ?_) ?_
  · obtain ⟨a, v, rfl⟩ := mem_ints hi y (by simpa using hy)
    exact PySem.SeqAt.EqAt.int_int a v k u
  · have e : items.toArray.any (fun y => match y with | .int a _ => a == k | _ => false) = decide (k ∈ ns) := by
      rw [List.any_toArray]; exact any_ints hi k
    rw [e]
    by_cases m : k ∈ ns
    · rw [decide_eq_true m]; exact h1 m
    · rw [decide_eq_false m]; exact h2 m
end
end
section
open PySem PySem.W PySem.Calls PySem.Spec PyProof.Rows Builtin Builtin.ObjectAttr
noncomputable abbrev excObj (C t : Addr) (d : Option Addr) : Obj := { cls := .ref C, dict := d, data := .fields #[.ref t, .none, .none, .none, .bool false, .none] }
section
variable {prog : Program} {w : World} {A : Around} {K : Frag} {C x t : Addr} {s : Shared} {h₀ : Heap} {L : Addr} {m : Str → Option Value} {rest : Led} {R : Result → Shared → Prop} {cd : ClassData} {name : Str} {tk : Tok} {v : Value}
theorem exc_inst (N : News h₀ L s.heap ((x, excObj C t none) :: rest)) : InstAt s.heap x (excObj C t none) C none := ⟨(N _ (.head _)).1, rfl, rfl, trivial⟩
theorem exc_store (F : Fr h₀ L s.heap m) (N : News h₀ L s.heap ((x, excObj C t none) :: rest)) (off : ∀ q ∈ rest, q.1 ≠ x) (X : K.In s.heap) (hc : clsIn K C = some cd) (hd : cd.hasDict = true) (hob : cd.mro.contains (.type "object") = true) (hne : cd.mro.isEmpty = false)
    (hr : ∀ self, refuseLoop self "__setattr__" cd.mro = pure ()) (hf : findIn K (.ref C) name = some none)
    (h : ∀ d h', Fr h₀ L h' m → News h₀ L h' ((x, excObj C t (some d)) :: rest) → R (.ok (.ret .none)) { s with heap := h', toks := s.toks + 1 }) :
    codeAny (model prog w) A (.call (.builtin "object.__setattr__") ⟨[.ref x, .str name tk, v], []⟩) R s := by
  have SF := PySem.F.store_object
  have I := exc_inst N
  have sub : Looks (model prog w) s.heap (isInstance (.ref x) (.type "object")) true := I.type.andThen (looks_mroIn X (by unfold mroIn; rw [hc, Option.bind_some, if_neg (by rw [hne]; decide), hob]))
  refine codeAny_call_builtin SF.slot.plain SF.entry (@check_slot (model prog w) _ _ s "object.__setattr__" "object" "__setattr__" (.ref x) [.str name tk, v] [] _ SF.kind SF.split sub (SF.args (.ref x) (.str name tk) v) ?_)
  have hm : Looks (model prog w) s.heap (mroOf (.ref C)) cd.mro := (looks_clsIn X hc).andThen .now
  rw [osa_eq, refuse_eq]
  refine wpAny_bind (wpAny_bind (I.type.here (wpAny_bind (hm.here ?_))))
  rw [hr]
  refine wpAny_pure (wpAny_bind (I.type.here (wpAny_bind ((looks_findIn X hf).here (wpAny_bind (wpAny_pure ?_))))))
  have hx := I.at_
  refine wpAny_bind (wpAny_pure (wpAny_bind (wpAny_bind (wpAny_loadPart hx (wpAny_bind ((looks_clsIn X hc).here ?_))))))
  rw [hd]
  refine wpAny_bind (wpAny_alloc (wpAny_bind (wpAny_update (Heap.get?_push_of_some _ hx) ?_)))
  refine wpAny_pure (a := some s.heap.objs.size) (wpAny_bind (wpAny_pure (wpAny_bind ?_)))
  unfold nsSet
  have D : ((s.heap.push { cls := .type "dict", data := .dict #[] }).update x (fun o => { o with dict := some s.heap.objs.size })).get? s.heap.objs.size = some { cls := .type "dict", data := .dict #[] } := by
    rw [Heap.get?_update_other _ _ (Nat.ne_of_lt (Heap.lt_size hx))]
    exact Heap.get?_push_size _ rfl
  refine wpAny_bind (wpAny_bind (wpAny_askSetting (wpAny_pure (wpAny_bind (wpAny_mkText (wpAny_bind (wpAny_loadPart D ?_)))))))
  have N1 := N.push F { cls := .type "dict", data := .dict #[] }
  have F1 := F.push { cls := .type "dict", data := .dict #[] }
  have hxd : ∀ p ∈ ([(s.heap.objs.size, ({ cls := .type "dict", data := .dict #[] } : Obj))] : Led), p.1 ≠ x := fun p hp => by rw [List.mem_singleton.mp hp]; exact Ne.symm (Nat.ne_of_lt (Heap.lt_size hx))
  obtain ⟨U1, U2⟩ := news_upd (pre := [(s.heap.objs.size, { cls := .type "dict", data := .dict #[] })]) (f := fun o => { o with dict := some s.heap.objs.size }) F1 N1 hxd off rfl rfl
  have hqd : ∀ q ∈ ((x, excObj C t (some s.heap.objs.size)) :: rest : Led), q.1 ≠ s.heap.objs.size := fun q hq => by
    rcases List.mem_cons.mp hq with rfl | hq
    · exact Nat.ne_of_lt (Heap.lt_size hx)
    · exact Nat.ne_of_lt (Heap.lt_size (N q (.tail _ hq)).1)
  obtain ⟨V1, V2⟩ := news_upd (pre := []) (f := Obj.putName name (if name.cps.isEmpty = true then 0 else reduceHash (w.params.strHash name.cps)) (.str name s.toks) v) U1 U2 (fun _ h => nomatch h) hqd rfl rfl
  refine wpAny_updatePart D ?_
  refine wpAny_bind (wpAny_lookBehind (V2 _ (.head _)).1 ?_ ?_)
  · show (Data.dict _ _).pastItsLine = none
    exact pastItsLine_dict (by rw [sizeLine_eq]; exact Nat.le_of_ble_eq_true rfl)
  · exact wpAny_pure (h _ _ V1 (fun q hq => V2 q (.tail _ hq)))
theorem exc_set {E : Value → Shared → Prop} {Q : Unit → Shared → Prop} (F : Fr h₀ L s.heap m) (N : News h₀ L s.heap ((x, excObj C t none) :: rest)) (off : ∀ q ∈ rest, q.1 ≠ x) (X₀ : K.In h₀) (hc : clsIn K C = some cd) (hd : cd.hasDict = true) (hob : cd.mro.contains (.type "object") = true) (hne : cd.mro.isEmpty = false)
    (hr : ∀ self, refuseLoop self "__setattr__" cd.mro = pure ()) (hf : findIn K (.ref C) name = some none) (hs : findIn K (.ref C) "__setattr__" = some (some (.builtin "object.__setattr__")))
    (h : ∀ d h', Fr h₀ L h' m → News h₀ L h' ((x, excObj C t (some d)) :: rest) → Q () { s with heap := h', toks := s.toks + 2 }) :
    wpAny (model prog w) A (setAttr (.ref x) name v) Q E s := by
  have X := X₀.keeps F.keep
  exact set_plain X (exc_inst N) hs (exc_store (s := { s with toks := s.toks + 1 }) F N off X hc hd hob hne hr hf fun d h' F' N' => h d h' F' N')
end
section
variable {prog : Program} {w : World} {A : Around} {E : Value → Shared → Prop} {R : Result → Shared → Prop} {h : Heap} {g : Array GenState} {d : Drawn} {tk : Nat} {os : OsState}
variable {nm q : Str} {C N : Addr} {bs bm : List Value} {hdct : Bool} {sn : List Str} {sub : List Value} {ab : Bool} {col : Option Bool} {dd : Option Addr} {k0 k1 k2 k3 k5 : Option Value} {rest : List Value}
theorem exc_check {M : Model} {Q : Unit → Shared → Prop} (hC : h.get? C = some (excClassObj nm q C N bs bm hdct sn sub ab col dd k0 k1 k2 k3 k5 "ValueError.__new__")) (hB : (Value.ref C :: bm).contains (.type "ValueError") = true)
    (hq : Q () ⟨h, g, d, tk, os⟩) : wpAny M A (checkBuiltinCall "ValueError.__new__" ⟨.ref C :: rest, []⟩) Q E ⟨h, g, d, tk, os⟩ := by
  have V := PySem.F.excBase_ValueError
  have star := V.noStar
  simp only [checkBuiltinCall, V.newKind, V.newSplit, V.newRow]
  repeat (first
    | with_reducible exact hq
    | with_reducible refine wpAny_loadPart_at hC ?_
    | (with_reducible refine wpAny_isSubtype_exc hC ?_; rw [hB])
    | with_reducible refine wpAny_staticBase_exc hC ?_
    | with_reducible refine wpAny_madeBy_exc hC ?_
    | simp only [bne_self_eq_false, Bool.false_eq_true, if_false]
    | wp_step
    | exact hq)
theorem exc_made (hC : h.get? C = some (excClassObj nm q C N bs bm hdct sn sub ab col dd k0 k1 k2 k3 k5 "ValueError.__new__")) (hB : (Value.ref C :: bm).contains (.type "ValueError") = true) (hA : (Value.ref C :: bm).contains (.type "AttributeError") = false) (hN : (Value.ref C :: bm).contains (.type "NameError") = false)
    (hz : rest.length ≤ sizeLine) (hq : R (.ok (.ret (.ref (h.objs.size + 1)))) ⟨(h.push { cls := .type "tuple", data := .seq rest.toArray }).push (excObj C h.objs.size none), g, d, tk, os⟩) :
    codeAny (model prog w) A (.builtin "ValueError.__new__" ⟨.ref C :: rest, []⟩) R ⟨h, g, d, tk, os⟩ := by
  have V := PySem.F.excBase_ValueError
  have ends := V.ends
  refine codeAny_builtinAt V.entry ?_
  unfold Builtin.«BaseException.__new__»
  refine PySem.wpAt_bind ?_
  show PySem.wpAt _ _ _ (stack >>= _) _ _ _
  refine PySem.wpAt_bind (PySem.wpAt_stack fun p below => PySem.wpAt_of_wpAny ?_)
  have hrest : rest.length ≤ sizeLine := hz
  wp_walk
  refine PySem.wpAt_of_wpAny ?_
  rw [V.owner]
  repeat (first
    | with_reducible refine wpAny_madeHere_exc V.canon hC ?_
    | with_reducible refine wpAny_loadPart_at hC ?_
    | (with_reducible refine wpAny_isSubtype_exc hC ?_; first | rw [hB] | rw [hA] | rw [hN])
    | wp_step)
  show R _ _
  rw [Heap.size_push]
  exact hq
theorem exc_tcall {K : Frag} {fI : Addr} (hC : h.get? C = some (excClassObj nm q C N bs bm hdct sn sub ab col dd k0 k1 k2 k3 k5 "ValueError.__new__")) (hB : (Value.ref C :: bm).contains (.type "ValueError") = true) (hA : (Value.ref C :: bm).contains (.type "AttributeError") = false) (hN : (Value.ref C :: bm).contains (.type "NameError") = false)
    (hz : rest.length ≤ sizeLine) (X : K.In h) (hi : findIn K (.ref C) "__init__" = some (some (.ref fI))) (hfn : typeIn K (.ref fI) = some (.type "function")) {Q : Fin → Shared → Prop}
    (hq : codeAny (model prog w) A (.call (.ref fI) ⟨.ref (h.objs.size + 1) :: rest, []⟩) (fun r s' => match r with | .ok (.ret v) => v = .none ∧ Q (.done (.ret (.ref (h.objs.size + 1)))) s' | .ok _ => False | .error e => E e s') ⟨(h.push { cls := .type "tuple", data := .seq rest.toArray }).push (excObj C h.objs.size none), g, d, tk, os⟩) :
    wpAny (model prog w) A (Builtin.«type.__call__» ⟨.ref C :: rest, []⟩) Q E ⟨h, g, d, tk, os⟩ := by
  repeat (first | with_reducible refine wpAny_loadPart_at hC ?_ | with_reducible refine wpAny_madeBy_exc hC ?_ | wp_step)
  refine codeAny_call_builtin_code (Code.quiet_builtin _ PySem.F.excBase_ValueError.quiet) (exc_check hC hB ?_)
  refine exc_made hC hB hA hN hz ?_
  show wpAny _ _ _ _ _ _
  have k : ∀ b o, h.get? b = some o → ((h.push { cls := .type "tuple", data := .seq rest.toArray }).push (excObj C h.objs.size none)).get? b = some o := fun b o e => Heap.get?_push_of_some _ (Heap.get?_push_of_some _ e)
  have hC₁ := k _ _ hC
  have hx : ((h.push { cls := .type "tuple", data := .seq rest.toArray }).push (excObj C h.objs.size none)).get? (h.objs.size + 1) = some (excObj C h.objs.size none) := by heap_get
  have hcC : (Value.ref C :: bm).contains (.ref C) = true := by simp
  have i1 : Looks (model prog w) ((h.push { cls := .type "tuple", data := .seq rest.toArray }).push (excObj C h.objs.size none)) (typeLookup (.ref C) "__init__") (some (.ref fI)) := looks_findIn (X.keeps k) hi
  have b1 : Looks (model prog w) ((h.push { cls := .type "tuple", data := .seq rest.toArray }).push (excObj C h.objs.size none)) (bindSpecial (.ref fI) (.ref (h.objs.size + 1))) (.ref fI, [.ref (h.objs.size + 1)]) := bind_fn (X.keeps k) _ hfn
  unfold isInstance
  repeat (first | with_reducible refine wpAny_loadPart_at hx ?_ | (with_reducible refine wpAny_isSubtype_exc hC₁ ?_; rw [hcC]) | wp_step)
  show wpAny _ _ (typeLookup (.ref C) _) _ _ _
  refine i1.here ?_
  refine wpAny_holding (wpAny_bind (b1.here (wpAny_bind (wpAny_call (codeAny_mono hq fun r s' z => ?_)))))
  rcases r with e | (v | _ | _ | _) <;> first | exact z | exact z.elim | skip
  obtain ⟨rfl, z⟩ := z
  exact wpAny_pure (wpAny_pure z)
theorem exc_call {K : Frag} {fI : Addr} {s : Shared} {h₀ : Heap} {L : Addr} {m : Str → Option Value} {led : Led} {Q : Value → Shared → Prop} (F : Fr h₀ L s.heap m) (X₀ : K.In h₀) (N' : News h₀ L s.heap led)
    (hC : s.heap.get? C = some (excClassObj nm q C N bs bm hdct sn sub ab col dd k0 k1 k2 k3 k5 "ValueError.__new__")) (hB : (Value.ref C :: bm).contains (.type "ValueError") = true) (hA : (Value.ref C :: bm).contains (.type "AttributeError") = false) (hN : (Value.ref C :: bm).contains (.type "NameError") = false)
    (hz : rest.length ≤ sizeLine) (hi : findIn K (.ref C) "__init__" = some (some (.ref fI))) (hfn : typeIn K (.ref fI) = some (.type "function"))
    (hq : ∀ e t h', Fr h₀ L h' m → News h₀ L h' ((e, excObj C t none) :: (t, tupO rest 0) :: led) → (∀ p ∈ led, p.1 < t) → t < e →
      codeAny (model prog w) (A.under (.builtin "type.__call__" ⟨.ref C :: rest, []⟩)) (.call (.ref fI) ⟨.ref e :: rest, []⟩) (InitBack e fun r s' => match r with | .ok (.ret v) => Q v s' | .ok _ => False | .error e => E e s') { s with heap := h' }) :
    wpAny (model prog w) A (call (.ref C) rest) Q E s := by
  obtain ⟨h, g, d, tk, os⟩ := s
  have f1 := tc_lookup
  have f2 := tc_bind (.ref C)
  have hT : (⟨h, g, d, tk, os⟩ : Shared).TypeIs (.ref C) "type" := ⟨_, hC, rfl⟩
  refine wpAny_call (codeAny_of_tree ?_)
  show wpAny _ _ (callAny (.ref C) _) _ _ _
  repeat (any_goals (first | assumption | with_reducible refine wpAny_loadPart_at hC ?_ | wp_step))
  refine ⟨rfl, ?_⟩
  refine codeAny_call_builtin_at (Code.quiet_builtin _ (by decide +kernel)) entry_typeCall (wpAny_check_type_call_sub hC (exc_tcall hC hB hA hN hz (X₀.keeps F.keep) hi hfn ?_))
  have N1 := (N'.push F { cls := .type "tuple", data := .seq rest.toArray }).push (F.push _) (excObj C h.objs.size none)
  rw [Heap.size_push] at N1
  refine codeAny_mono (hq _ _ _ ((F.push _).push _) N1 (fun p hp => Heap.lt_size (N' p hp).1) (Nat.lt_succ_self _)) fun r s' z => ?_
  rcases r with e | (v | _ | _ | _) <;> first | exact z | exact z.elim
end
section
variable {M : Model} {A : Around} {E : Value → Shared → Prop} {s : Shared} {env : Env}
variable {nm q : Str} {C N : Addr} {bs bm : List Value} {hdct : Bool} {sn : List Str} {sub : List Value} {ab : Bool} {col : Option Bool} {dd : Option Addr} {k0 k1 k2 k3 k5 : Option Value} {newId : String}
theorem raise_x {e : PySem.Expr} {pos : Pos} {Q : Flow → Shared → Prop} (hh : A.handled = none) (hb : (Value.ref C :: bm).contains (.type "BaseException") = true)
    (h : wpAny M A (eval e env) (fun v s₁ => ∃ a t d, v = .ref a ∧ s₁.heap.get? C = some (excClassObj nm q C N bs bm hdct sn sub ab col dd k0 k1 k2 k3 k5 newId) ∧ s₁.heap.get? a = some (excObj C t d) ∧ E (.ref a) s₁) E s) : wpAny M A (exec (.Raise (some e) none pos) env) Q E s := by
  show wpAny M A (do standAt pos; raiseStmt env (some (do let v ← eval e env; standAt pos; pure v)) none) Q E s
  refine wpAny_bind (wpAny_standAt ?_)
  unfold raiseStmt
  dsimp only
  refine wpAny_bind (wpAny_bind (wpAny_mono h (fun v s₁ h₁ => wpAny_bind (wpAny_standAt (wpAny_pure ?_))) fun _ _ x => x))
  obtain ⟨a, t, d, rfl, hC, he, hE⟩ := h₁
  obtain ⟨hp, g, dr, tk, os⟩ := s₁
  repeat (first
    | with_reducible refine wpAny_loadPart_at he ?_
    | with_reducible refine wpAny_loadPart_at hC ?_
    | (with_reducible refine wpAny_isSubtype_exc hC ?_; rw [hb])
    | wp_step)
  exact wpAny_raiseNew_none hh hE
end
end
section
open PySem PySem.W PySem.Calls PySem.Spec PyProof.Rows Builtin Builtin.ObjectAttr
noncomputable def CtT (w : World) (p : Program) (loose : List Str) (mean : ExcName → Option Value) (mg mb : Str → Option Value) (n : Nat) (f : Value) (vs : List Value) (led : Led) (Post : Value → Led → Prop) : Prop :=
  ∀ (dp un : Nat) (gd : Option (List Code)) (cn : Str) (cs : Scope) (L a : Addr) (ccd : Value) (A₀ : Around) (base h₀ : Heap) (m : Str → Option Value) (s : Shared) (cl : List (Str × Addr)) (Q E : Value → Shared → Prop),
    Below A₀ base [] h₀ → Fr h₀ L s.heap m → (Mine.hd.heap_1 w.params).In h₀ → (Mine.hd.heap_1 w.params).In base → News h₀ L s.heap led → Top p loose mean mg mb h₀ → Top p loose mean mg mb base → cs.kind = .function → dp + n < recursionLimit → un + 8 * n + 100 < cLine →
    (∀ r led' h' tk', Fr h₀ L h' m → News h₀ L h' led' → Post r led' → Q r { s with heap := h', toks := tk' }) →
    wpAny (model PG w) (ktrTop dp un gd cn cs L a ccd cl []) (call f vs []) Q E s
section
variable {w : World} {p : Program} {loose : List Str} {mean : ExcName → Option Value} {mg mb : Str → Option Value} {n : Nat} {f : Value} {vs : List Value} {led : Led} {Post : Value → Led → Prop}
theorem CtT.use (C : CtT w p loose mean mg mb n f vs led Post) {A : Around} {cn : Str} {cs : Scope} {L a : Addr} {ccd : Value} {A₀ : Around} {base h₀ : Heap} {m : Str → Option Value} {s : Shared} {cl : List (Str × Addr)} {Q E : Value → Shared → Prop}
    (hh : A.handled = none) (hf : A.frames = some (envX cn cs L a ccd cl :: [])) (B : Below A₀ base [] h₀) (F : Fr h₀ L s.heap m) (X : (Mine.hd.heap_1 w.params).In h₀) (Xb : (Mine.hd.heap_1 w.params).In base) (N : News h₀ L s.heap led) (T : Top p loose mean mg mb h₀) (Tb : Top p loose mean mg mb base) (hk : cs.kind = .function)
    (hd : A.depth + n < recursionLimit) (hu : A.units + 8 * n + 100 < cLine)
    (ret : ∀ r led' h' tk', Fr h₀ L h' m → News h₀ L h' led' → Post r led' → Q r { s with heap := h', toks := tk' }) :
    wpAny (model PG w) A (call f vs []) Q E s := by
  obtain ⟨hd', d, fr, g, u⟩ := A
  subst hh hf
  exact C d u g cn cs L a ccd A₀ base h₀ m s cl Q E B F X Xb N T Tb hk hd hu ret
end
section
variable {M : Model} {A : Around} {E : Value → Shared → Prop} {s' : Shared} {base g : Heap} {outer : List Env} {L a e t C : Addr} {m : Str → Option Value} {name : Str} {scope : Scope} {cd : Value} {Q : Unit → Shared → Prop} {news : Led} {vs : List Value} {n : Nat} {d : Option Addr}
theorem leave_xS (K : Below A base outer g) (F : Fr g L s'.heap m) (N : News g L s'.heap ((e, excObj C t d) :: (t, tupO vs n) :: news)) (ne : ∀ q ∈ news, q.1 ≠ e ∧ q.1 ≠ t)
    (hQ : ∀ h', RaisedS base g outer e (.ref C) t vs news h' → RaisedK base outer e (.ref C) t vs news h' → g.UpToSlots h' → Q () { s' with heap := h' }) (hk : scope.kind = .function := by rfl) :
    wpAny M (A.deeper (envOf name scope L a cd)) (leaving (envOf name scope L a cd) (.ref e)) Q E s' := by
  have K' := K.push (name := name) (a := a) (cd := cd) F hk
  have he := N (e, excObj C t d) (.head _)
  have ht := N (t, tupO vs n) (.tail _ (.head _))
  have hin : ∀ env ∈ (envOf name scope L a cd :: outer), ∀ b, env.frame = some b → b ∈ e :: t :: (envOf name scope L a cd :: outer).filterMap (·.frame) := fun env he b hb => .tail _ (.tail _ (List.mem_filterMap.mpr ⟨env, he, hb⟩))
  have st : base.StaysIn (hideAll s'.heap (e :: t :: (envOf name scope L a cd :: outer).filterMap (·.frame))) := fun b o q => hideAll_get _ (K'.stays b o q) fun hm => by
    rcases List.mem_cons.mp hm with rfl | hm
    · rw [fresh_of_stays K.stays he.2.2] at q; cases q
    · rcases List.mem_cons.mp hm with rfl | hm
      · rw [fresh_of_stays K.stays ht.2.2] at q; cases q
      · rw [(K'.frames.mem hm).1] at q; cases q
  have sg : ∀ b o, g.get? b = some o → b ∉ outer.filterMap (·.frame) → (hideAll s'.heap (e :: t :: (envOf name scope L a cd :: outer).filterMap (·.frame))).get? b = some o := fun b o q nm => hideAll_get _ (F.keep b o q) fun hm => by
    rcases List.mem_cons.mp hm with rfl | hm
    · rw [he.2.2] at q; cases q
    · rcases List.mem_cons.mp hm with rfl | hm
      · rw [ht.2.2] at q; cases q
      · rcases kts_mem hm with z | z
        · rw [z, kts_self F] at q
          cases q
        · exact nm z
  have hl : ∀ q ∈ news, (hideAll s'.heap (e :: t :: (envOf name scope L a cd :: outer).filterMap (·.frame))).get? q.1 = some q.2 ∧ g.get? q.1 = none ∧ base.get? q.1 = none := fun q hq => by
    have Nq := N q (.tail _ (.tail _ hq))
    refine ⟨hideAll_get _ Nq.1 fun hm => ?_, Nq.2.2, fresh_of_stays K.stays Nq.2.2⟩
    rcases List.mem_cons.mp hm with h | hm
    · exact (ne q hq).1 h
    · rcases List.mem_cons.mp hm with h | hm
      · exact (ne q hq).2 h
      · obtain ⟨env, hv, hf⟩ := List.mem_filterMap.mp hm
        rcases List.mem_cons.mp hv with rfl | hv
        · exact Nq.2.1 (Option.some.inj hf).symm
        · obtain ⟨o, ho, _⟩ := (K.frames.mem (List.mem_filterMap.mpr ⟨env, hv, hf⟩)).2
          rw [Nq.2.2] at ho; cases ho
  refine wpAny_leaving_firstW (a0 := .ref t) K'.stack (funFrames_hide K'.frames hin) rfl he.1 (fun b o q => of_hideAll _ q) (hideAll_none _ (.head _)) rfl rfl rfl fun h' hL => ?_
  obtain ⟨k1, ⟨_, _, k2⟩, k3, k4⟩ := hL
  have R : RaisedS base g outer e (.ref C) t vs news h' := ⟨⟨_, st, sg, hl, ⟨k1, hideAll_none _ (.head _), k2, k3⟩, hideAll_none _ (.tail _ (.head _))⟩, Heap.TupAt.of_slots ⟨_, _, ht.1, rfl, rfl⟩ k4⟩
  exact hQ h' R R.toK ((Heap.UpToSlots.of_keeps F.keep).trans k4)
end
section
variable {prog : Program} {w : World} {A₀ A : Around} {s : Shared} {base h₀ : Heap} {L a : Addr} {m : Str → Option Value} {cn : Str} {cs : Scope} {ccd : Value} {cl : List (Str × Addr)} {news : Led} {K : Frag} {p : Program} {loose : List Str} {mean : ExcName → Option Value} {mg mb : Str → Option Value}
    {R : Result → Shared → Prop} {name qual : Str} {params : Arguments} {body : List Stmt} {scope : Scope} {dV kV doc pm cdv ct oc : Value} {an od : Option Addr} {osl : Array (Option Value)} {f : Addr} {args : Args} {binds : List (Str × Value)}
theorem code_defX0 (B : Below A₀ base [] h₀) (F : Fr h₀ L s.heap m) (X₀ : K.In h₀) (N : News h₀ L s.heap news) (T : Top p loose mean mg mb h₀) (hA : A.frames = some [envX cn cs L a ccd cl])
    (ho : K.lookup f = some ⟨oc, od, .func (fnOf name qual params body scope dV kV doc pm an cdv ct), osl⟩) (hcd : codeIn K cdv qual = true) (hroom : A.depth < recursionLimit)
    (hbind : BindsTo s (fnOf name qual params body scope dV kV doc pm an cdv ct) args binds) (hloc : ∀ y ∈ binds, scope.names.lookup y.1 = some .local)
    (h : ∀ g L' h₁, Fr h₀ L g m → Fr g L' h₁ (fun y => binds.reverse.lookup y) → News g L' h₁ news → Below A base [envX cn cs L a ccd cl] g → K.In g → Top p loose mean mg mb g → KtsDicts ([envX cn cs L a ccd cl].filterMap (·.frame)) g →
      wpAny (model prog w) (A.deeper (envOf qual scope L' f cdv)) (execs body (envOf qual scope L' f cdv))
        (fun fl s' => LeaveS0 ([envX cn cs L a ccd cl].filterMap (·.frame)) h₀ L m g R (match fl with | .ret v => v | _ => .none) s')
        (fun e s' => wpAny (model prog w) (A.deeper (envOf qual scope L' f cdv)) (leaving (envOf qual scope L' f cdv) e) (fun _ s'' => R (.error e) s'') (fun e' s'' => R (.error e') s'') s')
        { s with heap := h₁, toks := s.toks + binds.length })
    (hck : cs.kind = .function) (hco : scope.isCoroutine = false) (hgen : scope.isGenerator = false) (hk : scope.kind = .function)
    (hcell : ∀ x ∈ scope.names, x.2 ≠ .cell) : codeAny (model prog w) A (.call (.ref f) args) R s := by
  have X := X₀.keeps F.keep
  have nL₀ : h₀.get? L = none := kts_self F
  have off : ∀ b o, h₀.get? b = some o → b ∉ news.map (·.1) := fun b o e q => by
    obtain ⟨z, hz, rfl⟩ := List.mem_map.mp q
    rw [(N z hz).2.2] at e; cases e
  have st : h₀.StaysIn (hideAll s.heap (news.map (·.1))) := fun b o e => hideAll_get _ (F.keep b o e) (off b o e)
  obtain ⟨oL, es, ep, hL, hLd, hLk, hLf⟩ := F.ns
  have nL : L ∉ news.map (·.1) := fun q => by
    obtain ⟨z, hz, e⟩ := List.mem_map.mp q
    exact (N z hz).2.1 e
  have hLg := hideAll_get (news.map (·.1)) hL nL
  have hbL : base.get? L = none := fresh_of_stays B.stays nL₀
  have Fg : Fr h₀ L (hideAll s.heap (news.map (·.1))) m := ⟨⟨oL, es, ep, hLg, hLd, hLk, hLf⟩, st, F.above⟩
  have B₂ : Below A base [envX cn cs L a ccd cl] (hideAll s.heap (news.map (·.1))) := ⟨hA, fun b o e => st b o (B.stays b o e), .cons (by show cs.kind ≠ .module; rw [hck]; decide) rfl Fg.ns hbL trivial⟩
  refine codeAny_call_def (fd := fnOf name qual params body scope dV kV doc pm an cdv ct) (body := body) (binds := binds) hroom (X _ _ ho) rfl (T.nolimit.keeps F.keep) (codeRec_of X hcd) rfl hbind hcell hloc (fun h₁ hns hk₁ => ?_) hco hgen hk
  refine wpAny_mono (h _ s.heap.objs.size h₁ Fg ⟨hns, fun b o e => hk₁ b o (of_hideAll _ e), Nat.le_of_eq (hideAll_size _ _)⟩
    (fun z hz => ⟨hk₁ _ _ (N z hz).1, Nat.ne_of_lt (Heap.lt_size (N z hz).1), hideAll_none _ (List.mem_map_of_mem hz)⟩) B₂ (X₀.keeps st) (T.keeps st) (fun b hb => by
      have hb' : b = L := by simpa using hb
      subst hb'
      exact ⟨oL, es, ep, hLg, hLd⟩)) (fun fl s' hl => ?_) fun _ _ y => y
  obtain ⟨g', L', m', news', T', F', N', k⟩ := hl
  obtain ⟨sl, hs⟩ := T'.up hLg
  refine k ⟨⟨_, es, ep, F'.keep _ _ hs, hLd, hLk, hLf⟩, fun b o e => F'.keep b o (T'.other b o (st b o e) (fun q => ?_)), F.above⟩ fun z hz => ⟨(N' z hz).1, fun q => ?_, ?_⟩
  · have hb' : b = L := by simpa using q
    rw [hb', nL₀] at e; cases e
  · have := (N' z hz).2.2; rw [q, hs] at this; cases this
  · cases q : h₀.get? z.1 with
    | none => rfl
    | some o =>
      obtain ⟨sl', hs'⟩ := T'.up (st _ _ q)
      have := (N' z hz).2.2
      rw [hs'] at this; cases this
end
end
section
open PySem PySem.W PySem.Calls PySem.Spec PyProof.Rows
section
variable {prog : Program} {w : World} {A : Around} {E : Value → Shared → Prop} {s : Shared} {h₀ : Heap} {L : Addr} {m : Str → Option Value} {env : Env}
theorem comp_invT {ct elt : PySem.Expr} {x : Str} {scope : Scope} {cl : List (Str × Addr)} {S : List (Addr × Obj) → Prop} {P : Nat → Value → Prop} {Fin : List Value → List (Addr × Obj) → Prop} (n : Nat) (Inv : Nat → List Value → List (Addr × Obj) → Prop) {news : List (Addr × Obj)}
    (h0 : Inv 0 [] news) (fin : ∀ ys nw, Inv n ys nw → Fin ys nw)
    (step : ∀ i ys nw v I oI C oC D m₂ h tk (E' : Value → Shared → Prop), i < n → Inv i ys nw → P i v → LCg.NsObj oC m₂ → m₂ x = some v → Fr h₀ L h m → News h₀ L h ((I, oI) :: (C, oC) :: (D, LCg.lst ys) :: nw) → LCg.Off3 I C D nw → ((@Ne Nat I C) ∧ (@Ne Nat I D) ∧ (@Ne Nat C D)) →
      wpAny (model prog w) A (isTrue ct (compEnvC scope cl C env) (eval ct (compEnvC scope cl C env))) (fun ok s' => if ok = true then
        wpAny (model prog w) A (eval elt (compEnvC scope cl C env)) (LCg.CompEnd h₀ L m { s with heap := h, toks := tk } I oI C oC D (LCg.lst ys) S (fun y nw' => Inv (i + 1) (ys ++ [y]) nw')) E' s'
        else LCg.CompEnd h₀ L m { s with heap := h, toks := tk } I oI C oC D (LCg.lst ys) S (fun _ nw' => Inv (i + 1) ys nw') Value.none s') E' { s with heap := h, toks := tk }) :
    LCt.CompRestT prog w A h₀ L m env ct elt x scope cl s S P Fin n 0 [] news := by
  have go : ∀ k i ys nw, i + k = n → Inv i ys nw → LCt.CompRestT prog w A h₀ L m env ct elt x scope cl s S P Fin k i ys nw := by
    intro k
    induction k with
    | zero => intro i ys nw e hi; exact fin ys nw (by have : i = n := by omega
                                                      subst this; exact hi)
    | succ k ih =>
      intro i ys nw e hi v I oI C oC D m₂ h tk E' hv hC hx F N off ne
      refine wpAny_mono (step i ys nw v I oI C oC D m₂ h tk E' (by omega) hi hv hC hx F N off ne) (fun ok s₂ hq => ?_) fun _ _ e => e
      cases ok with
      | true =>
        simp only [if_true] at hq ⊢
        refine wpAny_mono hq (fun y s₃ hq => ?_) fun _ _ e => e
        obtain ⟨h', tk', nw', rfl, F', N', off', hS, r⟩ := hq
        exact ⟨h', tk', nw', rfl, F', N', off', hS, ih (i + 1) _ _ (by omega) r⟩
      | false =>
        simp only [Bool.false_eq_true, if_false] at hq ⊢
        obtain ⟨h', tk', nw', rfl, F', N', off', hS, r⟩ := hq
        exact ⟨h', tk', nw', rfl, F', N', off', hS, ih (i + 1) _ _ (by omega) r⟩
  exact go n 0 [] news (by omega) h0
theorem comp_tlT {ct elt : PySem.Expr} {x : Str} {scope : Scope} {cl : List (Str × Addr)} {S : List (Addr × Obj) → Prop} {P : Nat → Value → Prop} {Fin : List Value → List (Addr × Obj) → Prop} (n : Nat) (Inv : Nat → List Value → List (Addr × Obj) → Prop) {news : List (Addr × Obj)}
    (h0 : Inv 0 [] []) (fin : ∀ ys tl, Ap tl news → Inv n ys tl → Fin ys (tl ++ news))
    (step : ∀ i ys tl v I oI C oC D m₂ h tk (E' : Value → Shared → Prop), i < n → Ap tl news → Inv i ys tl → P i v → LCg.NsObj oC m₂ → m₂ x = some v → Fr h₀ L h m → News h₀ L h ((I, oI) :: (C, oC) :: (D, LCg.lst ys) :: (tl ++ news)) → LCg.Off3 I C D (tl ++ news) → ((@Ne Nat I C) ∧ (@Ne Nat I D) ∧ (@Ne Nat C D)) →
      wpAny (model prog w) A (isTrue ct (compEnvC scope cl C env) (eval ct (compEnvC scope cl C env))) (fun ok s' => if ok = true then
        wpAny (model prog w) A (eval elt (compEnvC scope cl C env)) (LCg.CompEnd h₀ L m { s with heap := h, toks := tk } I oI C oC D (LCg.lst ys) S (fun y nw' => ∃ tl', nw' = tl' ++ news ∧ Ap tl' news ∧ Inv (i + 1) (ys ++ [y]) tl')) E' s'
        else LCg.CompEnd h₀ L m { s with heap := h, toks := tk } I oI C oC D (LCg.lst ys) S (fun _ nw' => ∃ tl', nw' = tl' ++ news ∧ Ap tl' news ∧ Inv (i + 1) ys tl') Value.none s') E' { s with heap := h, toks := tk }) :
    LCt.CompRestT prog w A h₀ L m env ct elt x scope cl s S P Fin n 0 [] news :=
  comp_invT n (fun i ys nw => ∃ tl, nw = tl ++ news ∧ Ap tl news ∧ Inv i ys tl) ⟨[], rfl, Ap.nil, h0⟩ (fun ys nw ⟨tl, e, a, i⟩ => by subst e; exact fin ys tl a i)
    fun i ys nw v I oI C oC D m₂ h tk E' hi ⟨tl, e, a, hv⟩ hp hC hx F N off ne => by
      subst e; exact step i ys tl v I oI C oC D m₂ h tk E' hi a hv hp hC hx F N off ne
theorem comp_tl {elt : PySem.Expr} {x : Str} {scope : Scope} {cl : List (Str × Addr)} {S : List (Addr × Obj) → Prop} {P : Nat → Value → Prop} {Fin : List Value → List (Addr × Obj) → Prop} (n : Nat) (Inv : Nat → List Value → List (Addr × Obj) → Prop) {news : List (Addr × Obj)}
    (h0 : Inv 0 [] []) (fin : ∀ ys tl, Ap tl news → Inv n ys tl → Fin ys (tl ++ news))
    (step : ∀ i ys tl v I oI C oC D m₂ h tk (E' : Value → Shared → Prop), i < n → Ap tl news → Inv i ys tl → P i v → LCg.NsObj oC m₂ → m₂ x = some v → Fr h₀ L h m → News h₀ L h ((I, oI) :: (C, oC) :: (D, LCg.lst ys) :: (tl ++ news)) → LCg.Off3 I C D (tl ++ news) → ((@Ne Nat I C) ∧ (@Ne Nat I D) ∧ (@Ne Nat C D)) →
      wpAny (model prog w) A (eval elt (compEnvC scope cl C env)) (LCg.CompEnd h₀ L m { s with heap := h, toks := tk } I oI C oC D (LCg.lst ys) S (fun y nw' => ∃ tl', nw' = tl' ++ news ∧ Ap tl' news ∧ Inv (i + 1) (ys ++ [y]) tl')) E' { s with heap := h, toks := tk }) :
    LCg.CompRest prog w A h₀ L m env elt x scope cl s S P Fin n 0 [] news :=
  comp_inv n (fun i ys nw => ∃ tl, nw = tl ++ news ∧ Ap tl news ∧ Inv i ys tl) ⟨[], rfl, Ap.nil, h0⟩ (fun ys nw ⟨tl, e, a, i⟩ => by subst e; exact fin ys tl a i)
    fun i ys nw v I oI C oC D m₂ h tk E' hi ⟨tl, e, a, hv⟩ hp hC hx F N off ne => by
      subst e; exact step i ys tl v I oI C oC D m₂ h tk E' hi a hv hp hC hx F N off ne
end
theorem name_led {P : Prop} {h₀ h : Heap} {L : Addr} {led : List (Addr × Obj)} (_ : News h₀ L h led) (k : ∀ NW, NW = led → P) : P := k led rfl
end
section
open PySem PySem.W PySem.Calls PySem.Spec PyProof.Rows
noncomputable section
noncomputable def Kt (w : World) (p : Program) (loose : List Str) (mean : ExcName → Option Value) (mg mb : Str → Option Value) (n : Nat) (f : Value) (vs : List Value) (kw : List (Str × Value)) (led : Led) (PT : (Value → Led → Prop) → Prop) : Prop :=
  ∀ (dp un : Nat) (gd : Option (List Code)) (cn : Str) (cs : Scope) (L a : Addr) (ccd : Value) (cl : List (Str × Addr)) (outer : List Env) (A₀ : Around) (base h₀ : Heap) (m : Str → Option Value) (hp : Heap) (sg : Array GenState) (sd : Drawn) (tk₀ : Nat) (so : OsState) (Q E : Value → Shared → Prop),
    Below A₀ base outer h₀ → Fr h₀ L hp m → (Mine.hd.heap_1 w.params).In h₀ → News h₀ L hp led → Top p loose mean mg mb h₀ → cs.kind = .function → dp + n < recursionLimit → un + 8 * n + 100 < cLine →
    PT (fun r led' => ∀ h' tk', Fr h₀ L h' m → News h₀ L h' led' → Q r ⟨h', sg, sd, tk', so⟩) →
    wpAny (model PG w) (ktrTop dp un gd cn cs L a ccd cl outer) (call f vs kw) Q E ⟨hp, sg, sd, tk₀, so⟩
section
variable {w : World} {p : Program} {loose : List Str} {mean : ExcName → Option Value} {mg mb : Str → Option Value} {n : Nat} {f : Value} {vs : List Value} {kw : List (Str × Value)} {led : Led} {PT : (Value → Led → Prop) → Prop}
theorem Kt.use (C : Kt w p loose mean mg mb n f vs kw led PT) {A : Around} {cn : Str} {cs : Scope} {L a : Addr} {ccd : Value} {cl : List (Str × Addr)} {outer : List Env} {A₀ : Around} {base h₀ : Heap} {m : Str → Option Value} {s : Shared} {Q E : Value → Shared → Prop}
    (hh : A.handled = none) (hf : A.frames = some (envX cn cs L a ccd cl :: outer)) (B : Below A₀ base outer h₀) (F : Fr h₀ L s.heap m) (X : (Mine.hd.heap_1 w.params).In h₀) (N : News h₀ L s.heap led) (T : Top p loose mean mg mb h₀) (hk : cs.kind = .function)
    (hd : A.depth + n < recursionLimit) (hu : A.units + 8 * n + 100 < cLine)
    (ret : PT (fun r led' => ∀ h' tk', Fr h₀ L h' m → News h₀ L h' led' → Q r { s with heap := h', toks := tk' })) :
    wpAny (model PG w) A (call f vs kw) Q E s := by
  obtain ⟨hd', d, fr, g, u⟩ := A
  obtain ⟨hp, sg, sd, tk₀, so⟩ := s
  subst hh hf
  exact C d u g cn cs L a ccd cl outer A₀ base h₀ m hp sg sd tk₀ so Q E B F X N T hk hd hu ret
theorem Kt.weak {led' : Led} (C : Kt w p loose mean mg mb n f vs kw led' PT) (hs : ∀ q ∈ led', q ∈ led) : Kt w p loose mean mg mb n f vs kw led PT :=
  fun dp un gd cn cs L a ccd cl outer A₀ base h₀ m hp sg sd tk₀ so Q E B F X N T hk hd hu ret => C dp un gd cn cs L a ccd cl outer A₀ base h₀ m hp sg sd tk₀ so Q E B F X (fun q hq => N q (hs q hq)) T hk hd hu ret
theorem Kt.pick {x : Addr × Obj} {rest : Led} (k : Pick x led rest) (C : Kt w p loose mean mg mb n f vs kw (x :: rest) PT) : Kt w p loose mean mg mb n f vs kw led PT := C.weak k.sub
theorem Kt.mono {PT' : (Value → Led → Prop) → Prop} (C : Kt w p loose mean mg mb n f vs kw led PT) (h : ∀ K, PT' K → PT K) : Kt w p loose mean mg mb n f vs kw led PT' :=
  fun dp un gd cn cs L a ccd cl outer A₀ base h₀ m hp sg sd tk₀ so Q E B F X N T hk hd hu ret => C dp un gd cn cs L a ccd cl outer A₀ base h₀ m hp sg sd tk₀ so Q E B F X N T hk hd hu (h _ ret)
theorem Kt.lift {n' : Nat} (C : Kt w p loose mean mg mb n f vs kw led PT) (h : n ≤ n') : Kt w p loose mean mg mb n' f vs kw led PT :=
  fun dp un gd cn cs L a ccd cl outer A₀ base h₀ m hp sg sd tk₀ so Q E B F X N T hk hd hu ret => C dp un gd cn cs L a ccd cl outer A₀ base h₀ m hp sg sd tk₀ so Q E B F X N T hk (Nat.lt_of_le_of_lt (Nat.add_le_add_left h _) hd) (Nat.lt_of_le_of_lt (Nat.add_le_add_right (Nat.add_le_add_left (Nat.mul_le_mul_left 8 h) _) 100) hu) ret
theorem Ct.kt {Post : Value → Led → Prop} (C : Ct w p loose mean mg mb n f vs kw led Post) (h : ∀ K, PT K → ∀ r l, Post r l → K r l) : Kt w p loose mean mg mb n f vs kw led PT :=
  fun dp un gd cn cs L a ccd cl outer A₀ base h₀ m hp sg sd tk₀ so Q E B F X N T hk hd hu ret => C dp un gd cn cs L a ccd cl outer A₀ base h₀ m ⟨hp, sg, sd, tk₀, so⟩ Q E B F X N T hk hd hu fun r l h' tk' F' N' P => h _ ret r l P h' tk' F' N'
end
theorem un_lt {un a b n : Nat} (h : un + 8 * n + 100 < cLine) (e : Nat.ble (a + 8 * b) (8 * n) = true) : un + a + 8 * b + 100 < cLine := by
  have := Nat.le_of_ble_eq_true e
  omega
theorem un_lt0 {un b n : Nat} (h : un + 8 * n + 100 < cLine) (e : Nat.ble (8 * b) (8 * n) = true) : un + 8 * b + 100 < cLine := by
  have := Nat.le_of_ble_eq_true e
  omega
theorem un_ltc {un a n : Nat} (h : un + 8 * n + 100 < cLine) (e : Nat.ble a (8 * n + 100) = true) : un + a < cLine := by
  have := Nat.le_of_ble_eq_true e
  omega
theorem dp_lt {dp a b n : Nat} (h : dp + n < recursionLimit) (e : Nat.ble (a + b) n = true) : dp + a + b < recursionLimit := by
  have := Nat.le_of_ble_eq_true e
  omega
theorem dp_lt0 {dp b n : Nat} (h : dp + n < recursionLimit) (e : Nat.ble b n = true) : dp + b < recursionLimit := by
  have := Nat.le_of_ble_eq_true e
  omega
theorem dp_ltz {dp n : Nat} (h : dp + n < recursionLimit) : dp < recursionLimit := by omega
theorem letA {A : Around} {P : Around → Prop} (h : let A' := A; P A') : P A := h
theorem AllLt.ofsub {d : Addr} {led S : Led} (h : AllLt d led) (hs : ∀ q ∈ S, q ∈ led) : AllLt d S := allLt_of fun q hq => ktn_ltOf h q (hs q hq)
theorem AllLt.cons2 {d H : Addr} {o o' : Obj} {led S : Led} (h : AllLt d led) (hm : (H, o') ∈ led) (k : AllLt d S) : AllLt d ((H, o) :: S) := ⟨ktn_ltOf h (H, o') hm, k⟩
theorem Sub.refl {S : Led} : ∀ q ∈ S, q ∈ S := fun _ h => h
theorem Sub.left {a L : Led} : ∀ q ∈ a, q ∈ a ++ L := fun _ h => List.mem_append_left _ h
theorem Sub.right {a b L : Led} (h : ∀ q ∈ a, q ∈ L) : ∀ q ∈ a, q ∈ b ++ L := fun q k => List.mem_append_right _ (h q k)
theorem Sub.skip {a L : Led} {x : Addr × Obj} (h : ∀ q ∈ a, q ∈ L) : ∀ q ∈ a, q ∈ x :: L := fun q k => List.mem_cons_of_mem _ (h q k)
theorem Sub.app {a S L : Led} (h : ∀ q ∈ a, q ∈ L) (k : ∀ q ∈ S, q ∈ L) : ∀ q ∈ a ++ S, q ∈ L := fun q m => (List.mem_append.mp m).elim (h q) (k q)
theorem Sub.cons {x : Addr × Obj} {S L : Led} (h : x ∈ L) (k : ∀ q ∈ S, q ∈ L) : ∀ q ∈ x :: S, q ∈ L := List.forall_mem_cons.mpr ⟨h, k⟩
theorem off_ltA {led : Led} {D : Addr} (h : AllLt D led) : ∀ q ∈ led, q.1 ≠ D := fun q hq => Nat.ne_of_lt (ktn_ltOf h q hq)
theorem ne_ltA {D t : Addr} (h : @LT.lt Nat _ D t) : t ≠ D := (Nat.ne_of_lt h).symm
section
variable {prog : Program} {w : World} {A₀ A : Around} {s : Shared} {base h₀ : Heap} {L : Addr} {m : Str → Option Value} {news : Led} {K : Frag} {p : Program} {loose : List Str} {mean : ExcName → Option Value} {mg mb : Str → Option Value}
    {env : Env} {outer : List Env} {R : Result → Shared → Prop} {name qual : Str} {params : Arguments} {body : List Stmt} {scope : Scope} {dV kV doc pm cdv ct oc : Value} {an od : Option Addr} {osl : Array (Option Value)} {f : Addr} {args : Args} {binds rb : List (Str × Value)}
theorem code_defL {hp : Heap} {sg : Array GenState} {sd : Drawn} {tk : Nat} {ox : OsState} (B : Below A₀ base outer h₀) (F : Fr h₀ L hp m) (X₀ : K.In h₀) (N : News h₀ L hp news) (T : Top p loose mean mg mb h₀) (hA : A.frames = some (env :: outer)) (hf : env.frame = some L) (hke : env.scope.kind = .function)
    (ho : K.lookup f = some ⟨oc, od, .func (fnOf name qual params body scope dV kV doc pm an cdv ct), osl⟩) (hcd : codeIn K cdv qual = true) (hroom : A.depth < recursionLimit)
    (hbind : BindsTo ⟨hp, sg, sd, tk, ox⟩ (fnOf name qual params body scope dV kV doc pm an cdv ct) args binds) (hloc : ∀ y ∈ binds, scope.names.lookup y.1 = some .local) (hrb : binds.reverse = rb)
    (h : ∀ g L' h₁ tk', Fr h₀ L g m → let m' : Str → Option Value := fun y => rb.lookup y; Fr g L' h₁ m' → News g L' h₁ news → Below A base (env :: outer) g → K.In g → Top p loose mean mg mb g →
      let A' := A.deeper (envOf qual scope L' f cdv)
      let Q' : Flow → Shared → Prop := fun fl s' => LeaveK h₀ L m g R (match fl with | .ret v => v | _ => .none) s'
      let E' : Value → Shared → Prop := fun e s' => wpAny (model prog w) A' (leaving (envOf qual scope L' f cdv) e) (fun _ s'' => R (.error e) s'') (fun e' s'' => R (.error e') s'') s'
      wpAny (model prog w) A' (execs body (envOf qual scope L' f cdv)) Q' E' ⟨h₁, sg, sd, tk', ox⟩)
    (hco : scope.isCoroutine = false) (hgen : scope.isGenerator = false) (hk : scope.kind = .function)
    (hcell : ∀ x ∈ scope.names, x.2 ≠ .cell) : codeAny (model prog w) A (.call (.ref f) args) R ⟨hp, sg, sd, tk, ox⟩ :=
  code_def B F X₀ N T hA hf hke ho hcd hroom hbind hloc (by rw [hrb]; exact fun g L' h₁ => h g L' h₁ _) hco hgen hk hcell
theorem call_clsL {hp : Heap} {sg : Array GenState} {sd : Drawn} {tk : Nat} {ox : OsState} {E Q : Value → Shared → Prop} {C fI : Addr} {pos : List Value} {kw : List (Str × Value)} (F : Fr h₀ L hp m) (X₀ : K.In h₀) (N : News h₀ L hp news) (hm : makesIn K C = true) (hi : findIn K (.ref C) "__init__" = some (some (.ref fI))) (hf' : isFn K (.ref fI) = true)
    (h : ∀ x dx h', Fr h₀ L h' m → News h₀ L h' ((x, instObj C dx) :: (dx, dictOf [] 0) :: news) → AllLt dx news → dx < x →
      codeAny (model prog w) (A.under (.builtin "type.__call__" ⟨.ref C :: pos, kw⟩)) (.call (.ref fI) ⟨.ref x :: pos, kw⟩) (InitBack x fun r s' => match r with | .ok (.ret v) => Q v s' | .ok _ => False | .error e => E e s') ⟨h', sg, sd, tk, ox⟩) :
    wpAny (model prog w) A (call (.ref C) pos kw) Q E ⟨hp, sg, sd, tk, ox⟩ := call_cls F X₀ N hm hi hf' fun x dx h' F' N' l1 l2 => h x dx h' F' N' (allLt_of l1) l2
end
end
end
section
open PySem PySem.W PySem.Calls PySem.Spec PyProof.Rows
theorem le_ble {a b c : Nat} (h : a ≤ b) (e : Nat.ble b c = true) : a ≤ c := Nat.le_trans h (Nat.le_of_ble_eq_true e)
theorem un_le1 {un a c m : Nat} (h : un + m + 100 < cLine) (e : Nat.ble (a + c) m = true) : un + a + c + 100 < cLine := by
  have := Nat.le_of_ble_eq_true e
  omega
theorem un_le0 {un c m : Nat} (h : un + m + 100 < cLine) (e : Nat.ble c m = true) : un + c + 100 < cLine := by
  have := Nat.le_of_ble_eq_true e
  omega
theorem un_led {un a b m : Nat} (h : un + m + 100 < cLine) (e : Nat.ble (a + b) (m + 100) = true) : un + a + b < cLine := by
  have := Nat.le_of_ble_eq_true e
  omega
theorem un_lec {un a m : Nat} (h : un + m + 100 < cLine) (e : Nat.ble a (m + 100) = true) : un + a < cLine := by
  have := Nat.le_of_ble_eq_true e
  omega
theorem un_x {A : Around} {un m c k : Nat} (h : un + m + 100 < cLine) (e : A.units = un + c) (b : Nat.ble (c + k) m = true) : A.units + k + 100 < cLine :=
  Nat.lt_of_le_of_lt (by rw [e, Nat.add_assoc un c k]; exact Nat.add_le_add_right (Nat.add_le_add_left (Nat.le_of_ble_eq_true b) un) 100) h
theorem un_y {A : Around} {un m c k : Nat} (h : un + m + 100 < cLine) (e : A.units = un + c) (b : Nat.ble (c + k) (m + 100) = true) : A.units + k < cLine :=
  Nat.lt_of_le_of_lt (by rw [e, Nat.add_assoc un c k]; exact Nat.add_le_add_left (Nat.le_of_ble_eq_true b) un) h
theorem dp_x {A : Around} {dp n c k : Nat} (h : dp + n < recursionLimit) (e : A.depth = dp + c) (b : Nat.ble (c + k) n = true) : A.depth + k < recursionLimit :=
  Nat.lt_of_le_of_lt (by rw [e, Nat.add_assoc dp c k]; exact Nat.add_le_add_left (Nat.le_of_ble_eq_true b) dp) h
theorem dp_y {A : Around} {dp n c : Nat} (h : dp + n < recursionLimit) (e : A.depth = dp + c) (b : Nat.ble c n = true) : A.depth < recursionLimit := dp_x (k := 0) h e b
theorem nt_of {b : Bool} (h : b = false) : ¬ b = true := h ▸ Bool.false_ne_true
theorem con_ne {l : List Str} {z x : Str} (h : l.contains z = false) (k : x ∈ l) : z ≠ x := fun e => by
  subst e
  rw [List.contains_iff_mem.mpr k] at h
  cases h
theorem store_L {M : Model} {A : Around} {cn : Str} {cs : Scope} {h₀ : Heap} {L a : Addr} {ccd : Value} {cl : List (Str × Addr)} {m : Str → Option Value} {news : Led} {x : Str} {v : Value} {E : Value → Shared → Prop} {Q : Unit → Shared → Prop} {h : Heap} {g : Array GenState} {d : Drawn} {tk : Nat} {o : OsState} (F : Fr h₀ L h m) (N : News h₀ L h news)
    (k : ∀ h' tk', let m' : Str → Option Value := fun y => if y = x then some v else m y; Fr h₀ L h' m' → News h₀ L h' news → Q () ⟨h', g, d, tk', o⟩)
    (hk : cs.kind = .function) (hx : (envX cn cs L a ccd cl).kindOf x = some .local) : wpAny M A (storeName (envX cn cs L a ccd cl) x v) Q E ⟨h, g, d, tk, o⟩ :=
  storeX_L F N (fun h' F' N' => k h' _ F' N') hk hx
theorem un_lez {un m : Nat} (h : un + m + 100 < cLine) : un < cLine := by omega
noncomputable def Ev (w : World) (A : Around) (env : Env) (h₀ : Heap) (L : Addr) (m : Str → Option Value) (led : Led) (e : PySem.Expr) (n : Nat) (v : Nat → Value) : Prop :=
  (∀ es, starEach (e :: es) env = (false, eval e env) :: starEach es env) ∧
  ∀ (E Q : Value → Shared → Prop) (h : Heap) (g : Array GenState) (d : Drawn) (tk : Nat) (o : OsState), Fr h₀ L h m → News h₀ L h led → Q (v tk) ⟨h, g, d, tk + n, o⟩ → wpAny (model PG w) A (eval e env) Q E ⟨h, g, d, tk, o⟩
noncomputable def EvA (w : World) (A : Around) (env : Env) (h₀ : Heap) (L : Addr) (m : Str → Option Value) (led : Led) (pos : Pos) (es : List PySem.Expr) (n : Nat) (v : Nat → List Value) : Prop :=
  (backTo pos (starEach es env)).any (·.1) = false ∧
  ∀ (E : Value → Shared → Prop) (Q : List Value → Shared → Prop) (h : Heap) (g : Array GenState) (d : Drawn) (tk : Nat) (o : OsState), Fr h₀ L h m → News h₀ L h led → Q (v tk) ⟨h, g, d, tk + n, o⟩ → wpAny (model PG w) A (spliced (backTo pos (starEach es env))) Q E ⟨h, g, d, tk, o⟩
noncomputable def EvI (w : World) (A : Around) (env : Env) (h₀ : Heap) (L : Addr) (m : Str → Option Value) (led : Led) (e : PySem.Expr) (n : Nat) (x : Int) : Prop := ∃ t : Nat → Tok, Ev w A env h₀ L m led e n (fun tk => .int x (t tk))
section
variable {w : World} {A : Around} {env : Env} {h₀ h : Heap} {L : Addr} {m : Str → Option Value} {led : Led} {e l r : PySem.Expr} {es : List PySem.Expr} {n k : Nat} {v : Nat → Value} {vs : Nat → List Value} {u : Value} {pos xp : Pos} {x : Str} {p : Program} {loose : List Str} {mean : ExcName → Option Value} {mg mb : Str → Option Value}
  {cn : Str} {cs : Scope} {a : Addr} {ccd : Value} {cl : List (Str × Addr)} {g : Array GenState} {d : Drawn} {tk : Nat} {o : OsState} {i y z : Int} {t : Tok}
theorem Ev.loc (hv : m x = some u) (hk : cs.kind = .function) (hx : (envX cn cs L a ccd cl).kindOf x = some .local) (hd : (x == ("__debug__" : Str)) = false) : Ev w A (envX cn cs L a ccd cl) h₀ L m led (.Name x pos) 0 (fun _ => u) :=
  ⟨fun _ => rfl, fun _ _ _ _ _ _ _ F _ q => nameX_L F hv q hk hx hd⟩
theorem Ev.glob (X : (Mine.hd.heap_1 w.params).In h₀) (T : Top p loose mean mg mb h₀) (hv : nsIn (Mine.hd.heap_1 w.params) mainGlobals x = some (some u)) (hk : cs.kind = .function) (hx : (envX cn cs L a ccd cl).kindOf x = some .globalImplicit) (hd : (x == ("__debug__" : Str)) = false) : Ev w A (envX cn cs L a ccd cl) h₀ L m led (.Name x pos) 0 (fun _ => u) :=
  ⟨fun _ => rfl, fun _ _ _ _ _ _ _ F _ q => nameX_K F X (topRead_of T) hv q hk hx hd⟩
theorem Ev.int {s : Nat} : Ev w A env h₀ L m led (.Constant (.int i) s pos) 1 (fun tk => .int i tk) := ⟨fun _ => rfl, fun _ _ _ _ _ _ _ _ _ q => wpAny_Constant_int q⟩
theorem Ev.attr {S : Led} {b : Addr} {name : Str} (hv : m x = some (.ref b)) (H : At w S b name u) (hs : ∀ q ∈ S, q ∈ led) (X : (Mine.hd.heap_1 w.params).In h₀) (hk : cs.kind = .function) (hx : (envX cn cs L a ccd cl).kindOf x = some .local) (hd : (x == ("__debug__" : Str)) = false) :
    Ev w A (envX cn cs L a ccd cl) h₀ L m led (.Attribute (.Name x xp) name pos) 1 (fun _ => u) :=
  ⟨fun _ => rfl, fun E Q _ _ _ _ _ F N q => Attribute_Name_ (nameX_L F hv (H A E Q _ h₀ L m led true F X N hs q) hk hx hd)⟩
theorem EvI.loc (hv : m x = some (.int i t)) (hk : cs.kind = .function) (hx : (envX cn cs L a ccd cl).kindOf x = some .local) (hd : (x == ("__debug__" : Str)) = false) : EvI w A (envX cn cs L a ccd cl) h₀ L m led (.Name x pos) 0 i := ⟨_, Ev.loc hv hk hx hd⟩
theorem EvI.glob (X : (Mine.hd.heap_1 w.params).In h₀) (T : Top p loose mean mg mb h₀) (hv : nsIn (Mine.hd.heap_1 w.params) mainGlobals x = some (some (.int i t))) (hk : cs.kind = .function) (hx : (envX cn cs L a ccd cl).kindOf x = some .globalImplicit) (hd : (x == ("__debug__" : Str)) = false) : EvI w A (envX cn cs L a ccd cl) h₀ L m led (.Name x pos) 0 i := ⟨_, Ev.glob X T hv hk hx hd⟩
theorem EvI.int {s : Nat} : EvI w A env h₀ L m led (.Constant (.int i) s pos) 1 i := ⟨_, Ev.int⟩
theorem EvI.attr {S : Led} {b : Addr} {name : Str} (hv : m x = some (.ref b)) (H : At w S b name (.int i t)) (hs : ∀ q ∈ S, q ∈ led) (X : (Mine.hd.heap_1 w.params).In h₀) (hk : cs.kind = .function) (hx : (envX cn cs L a ccd cl).kindOf x = some .local) (hd : (x == ("__debug__" : Str)) = false) :
    EvI w A (envX cn cs L a ccd cl) h₀ L m led (.Attribute (.Name x xp) name pos) 1 i := ⟨_, Ev.attr hv H hs X hk hx hd⟩
theorem EvA.nil : EvA w A env h₀ L m led pos [] 0 (fun _ => []) := ⟨rfl, fun _ _ _ _ _ _ _ _ _ q => args_nil q⟩
theorem EvA.cons (b : Ev w A env h₀ L m led e n v) (c : EvA w A env h₀ L m led pos es k vs) : EvA w A env h₀ L m led pos (e :: es) (n + k) (fun tk => v tk :: vs (tk + n)) :=
  ⟨by rw [b.1]; show (false || (backTo pos (starEach es env)).any (·.1)) = false; rw [c.1]; rfl, fun E Q h g d tk o F N q => args_cons (b.2 E _ h g d tk o F N (c.2 E _ h g d (tk + n) o F N (by rw [Nat.add_assoc]; exact q))) (b.1 es)⟩
theorem Ev.run {E Q : Value → Shared → Prop} (b : Ev w A env h₀ L m led e n v) (F : Fr h₀ L h m) (N : News h₀ L h led) (q : Q (v tk) ⟨h, g, d, tk + n, o⟩) : wpAny (model PG w) A (eval e env) Q E ⟨h, g, d, tk, o⟩ := b.2 E Q h g d tk o F N q
theorem Ev.call {f : Str} {fp : Pos} {fa : Addr} {E Q : Value → Shared → Prop} (c : Ev w A env h₀ L m led (.Name f fp) 0 (fun _ => .ref fa)) (hk : keepIn (Mine.hd.heap_1 w.params) (.ref fa) = true) (b : Ev w A env h₀ L m led e n v) (as : EvA w A env h₀ L m led pos es k vs) (X : (Mine.hd.heap_1 w.params).In h₀) (F : Fr h₀ L h m) (N : News h₀ L h led)
    (q : wpAny (model PG w) A (call (.ref fa) (v tk :: vs (tk + n)) []) Q E ⟨h, g, d, tk + (n + k), o⟩) : wpAny (model PG w) A (eval (.Call (.Name f fp) (e :: es) [] pos) env) Q E ⟨h, g, d, tk, o⟩ :=
  Call_ (c.2 E _ h g d tk o F N (callWith_K X hk ((EvA.cons b as).2 E _ h g d tk o F N ⟨X.keeps F.keep, q⟩) (b.1 es) as.1))
theorem Ev.tuple {E Q : Value → Shared → Prop} {s : Nat} (as : EvA w A env h₀ L m led pos es k vs) (F : Fr h₀ L h m) (N : News h₀ L h led) (q : wpAny (model PG w) A (newTuple (vs tk)) Q E ⟨h, g, d, tk + k, o⟩) : wpAny (model PG w) A (eval (.Tuple es s pos) env) Q E ⟨h, g, d, tk, o⟩ :=
  Tuple_ (as.2 E _ h g d tk o F N q)
section
variable {E : Value → Shared → Prop} {Q : Bool → Shared → Prop} {whole : Sem Value} (b : EvI w A env h₀ L m led l n y) (c : EvI w A env h₀ L m led r k z) (F : Fr h₀ L h m) (N : News h₀ L h led)
include b c F N
theorem EvI.eq (q : Q (y == z) ⟨h, g, d, tk + (n + k), o⟩) (hm : behindInMarks .Eq r = false) : wpAny (model PG w) A (PySem.isTrue (.Compare l [.Eq] [r] pos) env whole) Q E ⟨h, g, d, tk, o⟩ := by
  obtain ⟨_, b⟩ := b; obtain ⟨_, c⟩ := c
  exact wpAny_isTrue_Compare1 (b.2 E _ h g d tk o F N (c.2 E _ h g d (tk + n) o F N (eq_int (wpAny_truthy_bool (by rw [Nat.add_assoc]; exact q))))) hm
theorem EvI.ne (q : Q (y != z) ⟨h, g, d, tk + (n + k), o⟩) (hm : behindInMarks .NotEq r = false) : wpAny (model PG w) A (PySem.isTrue (.Compare l [.NotEq] [r] pos) env whole) Q E ⟨h, g, d, tk, o⟩ := by
  obtain ⟨_, b⟩ := b; obtain ⟨_, c⟩ := c
  exact wpAny_isTrue_Compare1 (b.2 E _ h g d tk o F N (c.2 E _ h g d (tk + n) o F N (ne_int (wpAny_truthy_bool (by rw [Nat.add_assoc]; exact q))))) hm
theorem EvI.lt (q : Q (decide (y < z)) ⟨h, g, d, tk + (n + k), o⟩) (hm : behindInMarks .Lt r = false) : wpAny (model PG w) A (PySem.isTrue (.Compare l [.Lt] [r] pos) env whole) Q E ⟨h, g, d, tk, o⟩ := by
  obtain ⟨_, b⟩ := b; obtain ⟨_, c⟩ := c
  exact wpAny_isTrue_Compare1 (b.2 E _ h g d tk o F N (c.2 E _ h g d (tk + n) o F N (lt_int (wpAny_truthy_bool (by rw [Nat.add_assoc]; exact q))))) hm
theorem EvI.le (q : Q (decide (y ≤ z)) ⟨h, g, d, tk + (n + k), o⟩) (hm : behindInMarks .LtE r = false) : wpAny (model PG w) A (PySem.isTrue (.Compare l [.LtE] [r] pos) env whole) Q E ⟨h, g, d, tk, o⟩ := by
  obtain ⟨_, b⟩ := b; obtain ⟨_, c⟩ := c
  exact wpAny_isTrue_Compare1 (b.2 E _ h g d tk o F N (c.2 E _ h g d (tk + n) o F N (le_int (wpAny_truthy_bool (by rw [Nat.add_assoc]; exact q))))) hm
theorem EvI.gt (q : Q (decide (y > z)) ⟨h, g, d, tk + (n + k), o⟩) (hm : behindInMarks .Gt r = false) : wpAny (model PG w) A (PySem.isTrue (.Compare l [.Gt] [r] pos) env whole) Q E ⟨h, g, d, tk, o⟩ := by
  obtain ⟨_, b⟩ := b; obtain ⟨_, c⟩ := c
  exact wpAny_isTrue_Compare1 (b.2 E _ h g d tk o F N (c.2 E _ h g d (tk + n) o F N (gt_int (wpAny_truthy_bool (by rw [Nat.add_assoc]; exact q))))) hm
end
end
end
section
open PySem PySem.W PySem.Calls PySem.Spec PyProof.Rows
theorem ite_nbt {a b : Int} {p q : Prop} (h : a ≠ b) (k : p) : if (!(a == b)) = true then p else q := by rw [if_pos (by simpa using h)]; exact k
theorem ite_nbf {a b : Int} {p q : Prop} (h : a = b) (k : q) : if (!(a == b)) = true then p else q := by rw [if_neg (by simpa using h)]; exact k
theorem ite_bnt {a b : Int} {p q : Prop} (h : a ≠ b) (k : p) : if (a != b) = true then p else q := by rw [if_pos (by simpa using h)]; exact k
theorem ite_bnf {a b : Int} {p q : Prop} (h : a = b) (k : q) : if (a != b) = true then p else q := by rw [if_neg (by simpa using h)]; exact k
end
section
open PySem PySem.W PySem.Calls PySem.Spec PyProof.Rows
section
variable {w : World} {p : Program} {loose : List Str} {mean : ExcName → Option Value} {mg mb : Str → Option Value}
noncomputable abbrev bbMro : List Value := [.ref 43, .type "ValueError", .type "Exception", .type "BaseException", .type "object"]
noncomputable abbrev bbObj : Obj := excClassObj "BadBox" "BadBox" 80 79 [.ref 43] bbMro true [] [] false none none (some (.ref 71)) none (some (.str "BadBox" 268)) (some (.str "BadBox" 276)) (some (.bool true)) "ValueError.__new__"
theorem bb_look (w : World) : (Mine.hd.heap_1 w.params).lookup 80 = some bbObj := by k_is
theorem bb_init (w : World) : findIn (Mine.hd.heap_1 w.params) (.ref 80) "__init__" = some (some (.ref 40)) := by k_is
theorem bb_fn (w : World) : typeIn (Mine.hd.heap_1 w.params) (.ref 40) = some (.type "function") := by k_is
theorem bb_sets (w : World) : findIn (Mine.hd.heap_1 w.params) (.ref 80) "__setattr__" = some (some (.builtin "object.__setattr__")) := by k_is
theorem bb_reason (w : World) : findIn (Mine.hd.heap_1 w.params) (.ref 80) "reason" = some none := by k_is
theorem bb_cls (w : World) : clsIn (Mine.hd.heap_1 w.params) 80 = some ⟨"BadBox", [.ref 43], .ref 80 :: bbMro, 79, "BadBox", true, [], [], false, none, false⟩ := by
  unfold clsIn
  rw [bb_look]
theorem bb_refuse (self : Value) : refuseLoop self "__setattr__" (.ref 80 :: bbMro) = pure () := by
  rw [refuseLoop_ref, refuseLoop_ref]
  exact PySem.F.store_ValueError.passes _
theorem bb_call {A : Around} {E Q : Value → Shared → Prop} {s : Shared} {h₀ : Heap} {L : Addr} {m : Str → Option Value} {led : Led} {rest : List Value} (F : Fr h₀ L s.heap m) (X₀ : (Mine.hd.heap_1 w.params).In h₀) (N : News h₀ L s.heap led) (hz : rest.length ≤ sizeLine)
    (hq : ∀ e t h', Fr h₀ L h' m → News h₀ L h' ((e, excObj 80 t none) :: (t, tupO rest 0) :: led) → (∀ p ∈ led, p.1 < t) → t < e →
      codeAny (model PG w) (A.under (.builtin "type.__call__" ⟨.ref 80 :: rest, []⟩)) (.call (.ref 40) ⟨.ref e :: rest, []⟩) (InitBack e fun r s' => match r with | .ok (.ret v) => Q v s' | .ok _ => False | .error e => E e s') { s with heap := h' }) :
    wpAny (model PG w) A (call (.ref 80) rest) Q E s :=
  exc_call F X₀ N ((X₀.keeps F.keep) _ _ (bb_look w)) (by decide) (by decide) (by decide) hz (bb_init w) (bb_fn w) hq
theorem bb_set {A : Around} {E : Value → Shared → Prop} {Q : Unit → Shared → Prop} {s : Shared} {h₀ : Heap} {L x t : Addr} {m : Str → Option Value} {rest : Led} {v : Value} (F : Fr h₀ L s.heap m) (X₀ : (Mine.hd.heap_1 w.params).In h₀) (N : News h₀ L s.heap ((x, excObj 80 t none) :: rest)) (off : ∀ q ∈ rest, q.1 ≠ x)
    (h : ∀ d h', Fr h₀ L h' m → News h₀ L h' ((x, excObj 80 t (some d)) :: rest) → Q () { s with heap := h', toks := s.toks + 2 }) :
    wpAny (model PG w) A (setAttr (.ref x) "reason" v) Q E s :=
  exc_set F N off X₀ (bb_cls w) rfl (by decide) rfl bb_refuse (bb_reason w) (bb_sets w) h
theorem bb_ne {led : Led} {e t : Addr} (h1 : ∀ p ∈ led, p.1 < t) (h2 : t < e) : ∀ q ∈ led, q.1 ≠ e ∧ q.1 ≠ t := fun q hq => ⟨Nat.ne_of_lt (Nat.lt_trans (h1 q hq) h2), Nat.ne_of_lt (h1 q hq)⟩
theorem bb_off {led : Led} {e t : Addr} {o : Obj} (h1 : ∀ p ∈ led, p.1 < t) (h2 : t < e) : ∀ q ∈ ((t, o) :: led), q.1 ≠ e := fun q hq => by
  rcases List.mem_cons.mp hq with rfl | hq
  · exact Nat.ne_of_lt h2
  · exact (bb_ne h1 h2 q hq).1

noncomputable def BBRaise (E : Value → Shared → Prop) (v : Value) (s₁ : Shared) : Prop := ∃ a t d, v = .ref a ∧ s₁.heap.get? 80 = some bbObj ∧ s₁.heap.get? a = some (excObj 80 t d) ∧ E (.ref a) s₁
theorem bb_raise {M : Model} {A : Around} {E : Value → Shared → Prop} {s : Shared} {env : Env} {e : PySem.Expr} {pos : Pos} {Q : Flow → Shared → Prop} (hh : A.handled = none)
    (h : wpAny M A (eval e env) (BBRaise E) E s) : wpAny M A (exec (.Raise (some e) none pos) env) Q E s := raise_x hh (by decide) h
theorem bb_raised {E : Value → Shared → Prop} {s : Shared} {h₀ : Heap} {L a t : Addr} {d : Option Addr} {m : Str → Option Value} {led : Led} (F : Fr h₀ L s.heap m) (X₀ : (Mine.hd.heap_1 w.params).In h₀) (N : News h₀ L s.heap ((a, excObj 80 t d) :: led)) (h : E (.ref a) s) : BBRaise E (.ref a) s :=
  ⟨a, t, d, rfl, (X₀.keeps F.keep) _ _ (bb_look w), (N _ (.head _)).1, h⟩

end
end
section
open PySem PySem.W PySem.Calls PySem.Spec PyProof.Rows
theorem fill_all : Mine.hd.heap_1 = Mine.hd.heap_1 ∧ PySem.Challenge.rw_sq0057_01 = PySem.Challenge.rw_sq0057_01 := by
  k_fill
  exact ⟨rfl, rfl⟩
local macro_rules | `(tactic| k_room) => `(tactic| k_extra "mine:dp")
local macro_rules | `(tactic| k_all) => `(tactic| k_extra "mine:all")
local macro_rules | `(tactic| k_mem) => `(tactic| k_extra "mine:mem")
local macro_rules | `(tactic| mul_fits) => `(tactic| k_extra "mine:mul")
local macro_rules | `(tactic| omega) => `(tactic| k_extra "mine:omega")
local macro_rules | `(tactic| decide) => `(tactic| exact of_decide_eq_true (Eq.refl true))
local macro_rules | `(tactic| k_lt $h:ident) => `(tactic| (replace $h := allLt_of $h; (try dsimp only [AllLt] at $h:ident)))
local macro_rules | `(tactic| kst_same) => `(tactic| k_extra "mine:same")
local macro_rules | `(tactic| walk_at $s:str) => `(tactic| ((fail_if_success plain_pass); k_extra $(Lean.Syntax.mkStrLit ("w:" ++ s.getString))))
theorem reg_base : True := by
  k_with "w:subscriptTail Name Constant ref int" => first | ((k_here; (with_reducible show wpAny _ _ (subscriptTail _ _ (Value.ref _) (Value.int _ _)) _ _ _); ((first | with_reducible refine' item_led ?N_k9 ?m_k9 ?a_k9 ?b_k9 ?x_k9 ?_ ?s_k9 | k_dflt (refine' item_led ?N_k9 ?m_k9 ?a_k9 ?b_k9 ?x_k9 ?_ ?s_k9)); k_dflt ((case N_k9 => k_asm); (case m_k9 => k_mem); (case a_k9 => decide); (case b_k9 => decide); (case x_k9 => rfl); (case s_k9 => with_unfolding_all rfl); k_whole)))) | fail
  k_with "mine:pick" => first | (first | with_reducible exact Pick.head | ((with_reducible apply Pick.tail); k_extra "mine:pick") | ((with_reducible apply Pick.app); k_extra "mine:pick")) | fail
  k_with "mine:in" => first | (first | assumption | ((with_reducible refine List.mem_cons_of_mem _ ?_); k_extra "mine:in") | ((with_reducible refine List.mem_append_right _ ?_); k_extra "mine:in") | ((with_reducible refine List.mem_append_left _ ?_); k_extra "mine:in")) | fail
  k_with "mine:sub" => first | ((intro q9 h9; k_extra "mine:in")) | fail
  k_with "mine:units" => first | (((try simp only [units_under_kw, units_in1, units_deeper, Around.mark_units, units_caller, Around.deeper_units, Around.in1_units]); (try dsimp only [ktrTop]); omega)) | fail
  k_with "w:getAttr ref" => first | ((k_here; ((first | with_reducible refine' at_get ?h_k9 ?F_k9 ?X_k9 ?N_k9 ?s_k9 ?_ | k_dflt (refine' at_get ?h_k9 ?F_k9 ?X_k9 ?N_k9 ?s_k9 ?_)); k_dflt ((case h_k9 => with_reducible assumption); (case F_k9 => k_asm); (case X_k9 => k_asm); (case N_k9 => k_asm); (case s_k9 => k_extra "mine:sub"); k_whole)))) | fail
  k_with "w:getMethod ref" => first | ((k_here; ((first | with_reducible refine' mt_get ?h_k9 ?F_k9 ?X_k9 ?N_k9 ?s_k9 ?_ | k_dflt (refine' mt_get ?h_k9 ?F_k9 ?X_k9 ?N_k9 ?s_k9 ?_)); k_dflt ((case h_k9 => with_reducible assumption); (case F_k9 => k_asm); (case X_k9 => k_asm); (case N_k9 => k_asm); (case s_k9 => k_extra "mine:sub"); k_whole)))) | fail
  k_with "mine:enter" => first | ((refine' code_def ?k1_k9 ?k2_k9 ?k3_k9 ?k4_k9 ?k5_k9 ?kA_k9 ?kF_k9 ?kK_k9 ?k6_k9 ?k7_k9 ?k8_k9 ?k9_k9 ?kB_k9 ?_ ?c2_k9 ?c3_k9 ?c4_k9 ?c5_k9; (case kA_k9 => exact rfl); (case kF_k9 => exact rfl); (case kK_k9 => first | assumption | exact rfl); (case k1_k9 => k_asm); (case k2_k9 => k_asm); (case k3_k9 => k_asm); (case k4_k9 => k_asm); (case k5_k9 => k_asm); (case k6_k9 => k_is); (case k7_k9 => k_is); (case k8_k9 => k_room); (case k9_k9 => first | exact BindsTo.of_eq rfl | exact binds_K (by k_in) rfl (by k_is) rfl rfl rfl | fail "mine:enter: no rule for these arguments"); (case c5_k9 => decide); (case kB_k9 => exact locs rfl); (case c2_k9 => exact rfl); (case c3_k9 => exact rfl); (case c4_k9 => exact rfl); k_whole; intro g' L' h' FG' F' N' B' X' T'; (try dsimp only); (try k_fold))) | fail
  k_with "mine:allt" => first | (first | assumption | tbn_find | exact allLt_of (by assumption) | exact tbn_up (by assumption) (by first | assumption | tbn_find | exact allLt_of (by assumption))) | fail
  k_with "mine:fresh" => first | (first | exact Fresh.nil | ((with_reducible refine Fresh.cons ?_ ?_); (k_extra "mine:allt"); k_extra "mine:fresh") | ((with_reducible refine Fresh.app ?_ ?_); (first | assumption | exact Fresh.sub (by assumption) (by k_extra "mine:sub")); k_extra "mine:fresh")) | fail
  k_with "mine:at" => first
    | (refine' At.own ?a_k9 ?b_k9 ?c_k9 ?d_k9 ?e_k9 ?f_k9 ?g_k9 ?h_k9; (case a_k9 => k_mem); (case b_k9 => k_mem); (case c_k9 => k_is); (case d_k9 => k_is); (case e_k9 => k_is); (case f_k9 => k_is); (case g_k9 => k_get); (case h_k9 => first | rfl | assumption))
    | (refine' At.cls ?a_k9 ?b_k9 ?c_k9 ?d_k9 ?e_k9 ?f_k9 ?g_k9 ?h_k9 ?i_k9; (case a_k9 => k_mem); (case b_k9 => k_mem); (case c_k9 => k_is); (case d_k9 => k_is); (case e_k9 => k_is); (case f_k9 => k_is); (case g_k9 => rfl); (case h_k9 => decide +kernel); (case i_k9 => k_get))
  k_with "mine:mt" => first | ((refine' Mt.of ?a_k9 ?b_k9 ?c_k9 ?d_k9 ?e_k9 ?f_k9; (case a_k9 => k_mem); (case b_k9 => k_mem); (case c_k9 => k_is); (case d_k9 => k_is); (case e_k9 => k_is); (case f_k9 => k_get))) | fail
  k_with "w:UnrEnd" => first | ((((first | with_reducible refine' UnrEnd.pick ?F_k9 ?N_k9 ?k_k9 ?o_k9 ?_ | k_dflt (refine' UnrEnd.pick ?F_k9 ?N_k9 ?k_k9 ?o_k9 ?_)); k_dflt ((case F_k9 => k_asm); (case N_k9 => k_asm); (case k_k9 => k_extra "mine:pick"); (case o_k9 => k_all))))) | fail
  k_with "w:call type:tuple" => first | ((k_here; (with_reducible show wpAny _ _ (call (Value.type _) [Value.ref _]) _ _ _); ((first | with_reducible refine' call_tuple_tup (tup_led ?N_k9 ?m_k9) ?_ | k_dflt (refine' call_tuple_tup (tup_led ?N_k9 ?m_k9) ?_)); k_dflt ((case N_k9 => k_asm); (case m_k9 => k_mem))))) | fail
  k_with "w:call type:bytes" => first | ((k_here; (with_reducible show wpAny _ _ (call (Value.type _) [Value.bytes _ _]) _ _ _); ((first | with_reducible refine' call_bytes_same ?_ | k_dflt (refine' call_bytes_same ?_))))) | fail
  k_with "mine:msub" => first | ((intro q9 h9; simp only [List.mem_cons, List.mem_append, List.append_assoc, List.cons_append, List.nil_append, List.not_mem_nil, or_false, false_or] at h9 ⊢; (repeat' (rcases h9 with h9 | h9)) <;> simp only [h9, true_or, or_true]; done)) | fail
  k_with "mine:all" => first | (first | assumption | ((refine' List.forall_mem_cons.mpr ⟨?_, ?_⟩); (focus (first | k_ne | (exact ne_lt (by assumption) (by k_mem)) | (exact ne_lt (allLt_of (by assumption)) (by k_mem)) | (exact ne_gt (allLt_of (by assumption)) (by k_mem)) | (exact ne_gt (by assumption) (by k_mem)))); k_all) | ((refine' List.forall_mem_append.mpr ⟨?_, ?_⟩); (focus (first | k_all | (exact Fresh.ne (by assumption) (by k_mem)))); k_all) | (exact AllLt.off (by assumption) (by k_extra "mine:sub")) | (exact AllLt.off (allLt_of (by assumption)) (by k_extra "mine:sub"))) | fail
  k_with "mine:mem" => first | (first | exact List.mem_cons_self | (refine' List.mem_cons_of_mem _ ?_; k_mem) | (ktn_app; first | (refine' List.mem_append.mpr (Or.inl ?_); k_mem) | (refine' List.mem_append.mpr (Or.inr ?_); k_mem)) | ktr_member) | fail
  k_with "mine:same1" => first | (repeat (first | (with_reducible exact rfl) | ((((first | with_reducible refine Eq.trans (if_neg ?_) ?_ | k_dflt (refine Eq.trans (if_neg ?_) ?_)))); (focus (first | exact h1 | exact h2 _ (List.Mem.head _) | exact h2 _ (List.Mem.tail _ (List.Mem.head _)) | exact h2 _ (List.Mem.tail _ (List.Mem.tail _ (List.Mem.head _))) | exact h2 _ (List.Mem.tail _ (List.Mem.tail _ (List.Mem.tail _ (List.Mem.head _)))) | exact nt_of h3 | exact con_ne h3 (List.Mem.head _) | exact con_ne h3 (List.Mem.tail _ (List.Mem.head _)) | exact con_ne h3 (List.Mem.tail _ (List.Mem.tail _ (List.Mem.head _)))))) | exact rfl)) | fail
  k_with "mine:same" => first | ((intro z h1 h2 h3; k_extra "mine:same1")) | fail
  k_with "mine:mul" => first | (exact PySem.IntMulOk.of_left (PySem.intBits_le_64 (by omega) (by omega))) | fail
  k_with "mine:omega" => first | (first | with_reducible assumption | ((refine' le_ble ?_ ?_); (focus (with_reducible assumption)); k_dflt (exact rfl)) | k_dflt (exact Nat.le_of_ble_eq_true rfl)) | fail
  k_with "mine:un" => first | (first | k_dflt (exact un_x (c := 3) hu rfl rfl) | k_dflt (exact un_x (c := 4) hu rfl rfl) | k_dflt (exact un_x (c := 0) hu rfl rfl) | k_dflt (exact un_x (c := 7) hu rfl rfl) | k_dflt (exact un_x (c := 6) hu rfl rfl) | k_dflt (exact un_x (c := 8) hu rfl rfl) | k_dflt (exact un_x (c := 9) hu rfl rfl) | k_dflt (exact un_x (c := 10) hu rfl rfl) | k_dflt (exact un_y (c := 3) hu rfl rfl) | k_dflt (exact un_y (c := 4) hu rfl rfl) | k_dflt (exact un_y (c := 0) hu rfl rfl) | k_dflt (exact un_y (c := 7) hu rfl rfl) | k_dflt (exact un_y (c := 6) hu rfl rfl) | k_dflt (exact un_y (c := 8) hu rfl rfl) | k_dflt (exact un_y (c := 9) hu rfl rfl) | k_dflt (exact un_y (c := 10) hu rfl rfl) | ((try dsimp only [A9]); (try simp only [units_under_kw, units_in1, units_deeper, Around.mark_units, units_caller, Around.deeper_units, Around.in1_units]); (try dsimp only [ktrTop]); first | k_dflt (exact un_le1 hu rfl) | k_dflt (exact un_le0 hu rfl) | k_dflt (exact un_led hu rfl) | k_dflt (exact un_lec hu rfl) | exact un_lez hu | omega)) | fail
  k_with "mine:units" => first | (k_extra "mine:un") | fail
  k_with "mine:dp" => first | (first | k_dflt (exact dp_x (c := 1) hd rfl rfl) | k_dflt (exact dp_x (c := 2) hd rfl rfl) | k_dflt (exact dp_x (c := 0) hd rfl rfl) | k_dflt (exact dp_x (c := 3) hd rfl rfl) | k_dflt (exact dp_x (c := 4) hd rfl rfl) | k_dflt (exact dp_y (c := 1) hd rfl rfl) | k_dflt (exact dp_y (c := 2) hd rfl rfl) | k_dflt (exact dp_y (c := 0) hd rfl rfl) | k_dflt (exact dp_y (c := 3) hd rfl rfl) | k_dflt (exact dp_y (c := 4) hd rfl rfl) | ((try dsimp only [A9]); (try simp only [depth_mark, depth_under_make, depth_under_kw, depth_in1, depth_deeper, depth_caller]); (try dsimp only [ktrTop]); first | exact dp_lt hd rfl | exact dp_lt0 hd rfl | exact dp_ltz hd | omega)) | fail
  k_with "mine:allt2" => first | (first | assumption | (exact AllLt.ofsub (by assumption) (by k_extra "mine:sub")) | (exact AllLt.ofsub (allLt_of (by assumption)) (by k_extra "mine:sub")) | (exact AllLt.cons2 (by assumption) (by k_mem) (by k_extra "mine:allt2")) | (exact AllLt.cons2 (allLt_of (by assumption)) (by k_mem) (by k_extra "mine:allt2")) | ((refine And.intro ?_ ?_); ((try dsimp only); omega); k_extra "mine:allt2")) | fail
  k_with "mine:m1" => first | (first | assumption | with_reducible exact List.mem_cons_self | (with_reducible refine List.mem_cons_of_mem _ ?_; k_extra "mine:m1") | (with_reducible refine List.mem_append_right _ ?_; k_extra "mine:m1")) | fail
  k_with "mine:s1" => first | (first | with_reducible exact Sub.refl | with_reducible assumption | with_reducible exact Sub.left | (with_reducible refine Sub.right ?_; k_extra "mine:s1") | (with_reducible refine Sub.skip ?_; k_extra "mine:s1")) | fail
  k_with "mine:subs" => first | (first | with_reducible exact List.forall_mem_nil _ | k_extra "mine:s1" | (with_reducible refine Sub.app ?_ ?_; k_extra "mine:subs"; k_extra "mine:subs") | (with_reducible refine Sub.cons ?_ ?_; (first | k_extra "mine:m1" | k_mem | k_extra "mine:in"); k_extra "mine:subs")) | fail
  k_with "w:ite" => first | ((k_closed; first | ((with_reducible refine' ite_pos ?ci_k9 ?_); (case ci_k9 => decide)) | ((with_reducible refine' ite_neg ?ci_k9 ?_); (case ci_k9 => decide)))) | fail
  k_with "w:eval Name" => first | ((k_here; (with_reducible show wpAny _ _ (eval (Expr.Name _ _) (envOf _ _ _ _ _)) _ _ _); first | (name_kind "local"; ((first | with_reducible refine' nameX_L ?F_k9 ?v_k9 ?_ ?a_k9 ?b_k9 ?d_k9 | k_dflt (refine' nameX_L ?F_k9 ?v_k9 ?_ ?a_k9 ?b_k9 ?d_k9)); k_dflt ((case F_k9 => k_asm); (case a_k9 => rfl); (case b_k9 => kernel_rfl); (case v_k9 => rfl); (case d_k9 => kernel_rfl); k_whole))) | (name_kind "globalImplicit"; ((first | with_reducible refine' nameX_K ?F_k9 ?X_k9 ?T_k9 ?e_k9 ?_ ?a_k9 ?b_k9 ?d_k9 | k_dflt (refine' nameX_K ?F_k9 ?X_k9 ?T_k9 ?e_k9 ?_ ?a_k9 ?b_k9 ?d_k9)); k_dflt ((case F_k9 => k_asm); (case X_k9 => k_asm); (case T_k9 => k_asm); (case a_k9 => rfl); (case b_k9 => kernel_rfl); (case e_k9 => k_is); (case d_k9 => kernel_rfl); k_whole))) | (name_kind "globalImplicit"; ((first | with_reducible refine' nameX_B ?F_k9 ?X_k9 ?T_k9 ?e_k9 ?v_k9 ?n_k9 ?_ ?a_k9 ?b_k9 | k_dflt (refine' nameX_B ?F_k9 ?X_k9 ?T_k9 ?e_k9 ?v_k9 ?n_k9 ?_ ?a_k9 ?b_k9)); k_dflt ((case F_k9 => k_asm); (case X_k9 => k_asm); (case T_k9 => k_asm); (case a_k9 => rfl); (case b_k9 => kernel_rfl); (case e_k9 => k_is); (case v_k9 => boot_fast); (case n_k9 => decide); k_whole))))) | fail
  k_with "w:eval Call" => first | ((k_here; (with_reducible show wpAny _ _ (eval (Expr.Call (Expr.Name _ _) _ [] _) _) _ _ _); ((first | with_reducible refine Call_ ?_ | k_dflt (refine Call_ ?_))))) | fail
  k_with "w:spliced" => first | ((k_here; (first | with_reducible refine args_cons ?_ | with_reducible refine args_nil ?_ | k_dflt (first | refine args_cons ?_ | refine args_nil ?_)))) | fail
  k_with "w:callWith ref" => first | ((k_here; ((first | with_reducible refine' callWith_K ?k1_k9 ?k2_k9 ?_ | k_dflt (refine' callWith_K ?k1_k9 ?k2_k9 ?_)); k_dflt ((case k1_k9 => k_asm); (case k2_k9 => k_is); k_whole)))) | fail
  k_with "w:And" => first | (((with_reducible show Frag.In _ _ ∧ _); refine ⟨by k_in, ?_⟩; try dsimp only [List.nil_append, List.cons_append])) | fail
  k_with "mine:evl" => first | (((with_reducible show Ev _ _ _ _ _ _ _ (Expr.Name _ _) _ _); refine' Ev.loc ?yv_k9 ?yk_k9 ?yx_k9 ?yd_k9; (case yx_k9 => kernel_rfl!); (case yk_k9 => exact rfl); (case yv_k9 => exact rfl); (case yd_k9 => kernel_rfl))) | fail
  k_with "mine:evg" => first | (((with_reducible show Ev _ _ _ _ _ _ _ (Expr.Name _ _) _ _); refine' Ev.glob ?yX_k9 ?yT_k9 ?yv_k9 ?yk_k9 ?yx_k9 ?yd_k9; (case yx_k9 => kernel_rfl!); (case yk_k9 => exact rfl); (case yX_k9 => k_asm); (case yT_k9 => k_asm); (case yv_k9 => k_is); (case yd_k9 => kernel_rfl))) | fail
  k_with "mine:evt" => first | (((with_reducible show Ev _ _ _ _ _ _ _ (Expr.Attribute _ _ _) _ _); refine' Ev.attr ?yv_k9 ?yH_k9 ?ys_k9 ?yX_k9 ?yk_k9 ?yx_k9 ?yd_k9; (case yx_k9 => kernel_rfl!); (case yk_k9 => exact rfl); (case yv_k9 => exact rfl); (case yH_k9 => with_reducible assumption); (case ys_k9 => k_extra "mine:sub"); (case yX_k9 => k_asm); (case yd_k9 => kernel_rfl))) | fail
  k_with "mine:ev" => first | (first | k_extra "mine:evl" | with_reducible exact Ev.int | k_extra "mine:evg" | k_extra "mine:evt") | fail
  k_with "mine:eva" => first | (first | ((with_reducible apply EvA.cons); (focus (k_extra "mine:ev")); (k_extra "mine:eva")) | with_reducible exact EvA.nil) | fail
  k_with "mine:evi" => first | (first | ((with_reducible show EvI _ _ _ _ _ _ _ (Expr.Name _ _) _ _); refine' EvI.loc ?yv_k9 ?yk_k9 ?yx_k9 ?yd_k9; (case yx_k9 => kernel_rfl!); (case yk_k9 => exact rfl); (case yv_k9 => exact rfl); (case yd_k9 => kernel_rfl)) | with_reducible exact EvI.int | ((with_reducible show EvI _ _ _ _ _ _ _ (Expr.Attribute _ _ _) _ _); refine' EvI.attr ?yv_k9 ?yH_k9 ?ys_k9 ?yX_k9 ?yk_k9 ?yx_k9 ?yd_k9; (case yx_k9 => kernel_rfl!); (case yk_k9 => exact rfl); (case yv_k9 => exact rfl); (case yH_k9 => with_reducible assumption); (case ys_k9 => k_extra "mine:sub"); (case yX_k9 => k_asm); (case yd_k9 => kernel_rfl)) | ((with_reducible show EvI _ _ _ _ _ _ _ (Expr.Name _ _) _ _); refine' EvI.glob ?yX_k9 ?yT_k9 ?yv_k9 ?yk_k9 ?yx_k9 ?yd_k9; (case yx_k9 => kernel_rfl!); (case yk_k9 => exact rfl); (case yX_k9 => k_asm); (case yT_k9 => k_asm); (case yv_k9 => k_is); (case yd_k9 => kernel_rfl))) | fail
  k_with "w:eval Call" => first | ((k_here; (with_reducible show wpAny _ _ (eval (Expr.Call (Expr.Name _ _) (_ :: _) [] _) _) _ _ _); ((first | with_reducible refine' Ev.call ?ea_k9 ?eb_k9 ?ec_k9 ?ed_k9 ?ee_k9 ?ef_k9 ?eg_k9 ?_ | k_dflt (refine' Ev.call ?ea_k9 ?eb_k9 ?ec_k9 ?ed_k9 ?ee_k9 ?ef_k9 ?eg_k9 ?_)); k_dflt ((case ef_k9 => k_asm); (case eg_k9 => k_asm); (case ee_k9 => k_asm); (case ea_k9 => k_extra "mine:evg"); (case eb_k9 => k_is); (case ec_k9 => k_extra "mine:ev"); (case ed_k9 => k_extra "mine:eva"); k_whole)))) | fail
  k_with "w:eval Attribute Name" => first | ((k_here; ((first | with_reducible refine' Ev.run ?ea_k9 ?eb_k9 ?ec_k9 ?_ | k_dflt (refine' Ev.run ?ea_k9 ?eb_k9 ?ec_k9 ?_)); k_dflt ((case eb_k9 => k_asm); (case ec_k9 => k_asm); (case ea_k9 => k_extra "mine:evt"); k_whole)))) | fail
  k_with "w:isTrue Compare" => first | ((k_here; (with_reducible first | refine' EvI.eq ?ea_k9 ?eb_k9 ?ec_k9 ?ed_k9 ?_ ?ee_k9 | refine' EvI.ne ?ea_k9 ?eb_k9 ?ec_k9 ?ed_k9 ?_ ?ee_k9 | refine' EvI.lt ?ea_k9 ?eb_k9 ?ec_k9 ?ed_k9 ?_ ?ee_k9 | refine' EvI.le ?ea_k9 ?eb_k9 ?ec_k9 ?ed_k9 ?_ ?ee_k9 | refine' EvI.gt ?ea_k9 ?eb_k9 ?ec_k9 ?ed_k9 ?_ ?ee_k9); k_dflt ( (case ec_k9 => k_asm); (case ed_k9 => k_asm); (case ea_k9 => k_extra "mine:evi"); (case eb_k9 => k_extra "mine:evi"); (case ee_k9 => with_unfolding_all rfl); k_whole))) | fail
  k_with "w:eval Tuple" => first | ((k_here; ((first | with_reducible refine' Ev.tuple ?ea_k9 ?eb_k9 ?ec_k9 ?_ | k_dflt (refine' Ev.tuple ?ea_k9 ?eb_k9 ?ec_k9 ?_)); k_dflt ((case eb_k9 => k_asm); (case ec_k9 => k_asm); (case ea_k9 => k_extra "mine:eva"); k_whole)))) | fail
  k_with "w:storeName" => first | ((k_here; ((first | with_reducible refine' store_L ?F_k9 ?N_k9 ?_ ?a_k9 ?b_k9 | k_dflt (refine' store_L ?F_k9 ?N_k9 ?_ ?a_k9 ?b_k9)); k_dflt ((case F_k9 => k_asm); (case N_k9 => k_asm); (case a_k9 => rfl); (case b_k9 => rfl); k_whole)); intro h' tk' m9 F' N'; (try k_sweep))) | fail
  trivial
section
section
variable {w : World} {p : Program} {loose : List Str} {mean : ExcName → Option Value} {mg mb : Str → Option Value}
theorem check_dimen_k {v : Int} {t : Tok} {led : Led} (h1 : -1073741823 ≤ v) (h2 : v ≤ 1073741823) :
  Kt w p loose mean mg mb 2 (.ref 126) [.int v t] [] led (fun K => K (.int v t) (led)) := by
  unfold Kt
  intro dpC unC gdC cnC csC L aC ccdC clC outer A₀ base h₀ mC hp sg sd tk₀ ox Q E B F X N T hk hd hu hret
  refine wpAny_call ?_
  k_dflt (refine' code_defL (binds := [(Str.ofString "value", .int v t)]) (rb := [(Str.ofString "value", .int v t)]) ?k1 ?k2 ?k3 ?k4 ?k5 ?kA ?kF ?kK ?k6 ?k7 ?k8 ?k9 ?kB rfl ?_ ?c2 ?c3 ?c4 ?c5; (case kA => exact rfl); (case kF => exact rfl); (case kK => exact hk); (case k1 => exact B); (case k3 => exact X); (case k5 => exact T); (case k6 => k_is); (case k7 => k_is); (case c5 => decide); (case kB => exact locs rfl); (case c2 => exact rfl); (case c3 => exact rfl); (case c4 => exact rfl); (case k2 => exact F); (case k4 => exact N); (case k8 => exact dp_ltz hd); (case k9 => exact BindsTo.of_eq rfl); k_whole; intro g' L' h' tk' FG' m9 F' N' B' X' T' A9 qk ek)
  k_steps
  all_goals (first | (refine' hret   _ _ ?zF8 ?zN8; (case zF8 => assumption); (case zN8 => assumption)))

theorem reg_check_dimen_k : True := by
  k_with "w:call ref" => first | ((k_here; (with_reducible show wpAny _ _ (call (Value.ref 126) _ _) _ _ _); ((first | with_reducible refine' Kt.use (check_dimen_k ?c1_k9 ?c2_k9) ?hh_k9 ?hf_k9 ?B_k9 ?F_k9 ?X_k9 ?N_k9 ?T_k9 ?hk_k9 ?hd_k9 ?hu_k9 ?_ | k_dflt (refine' Kt.use (check_dimen_k ?c1_k9 ?c2_k9) ?hh_k9 ?hf_k9 ?B_k9 ?F_k9 ?X_k9 ?N_k9 ?T_k9 ?hk_k9 ?hd_k9 ?hu_k9 ?_)); k_dflt ((case F_k9 => k_asm); (case B_k9 => k_asm); (case X_k9 => k_asm); (case N_k9 => k_asm); (case T_k9 => k_asm); (case hh_k9 => exact rfl); (case hf_k9 => exact rfl); (case hk_k9 => first | exact rfl | assumption); (case hd_k9 => k_extra "mine:dp"); (case hu_k9 => k_extra "mine:un"); (case c1_k9 => first | assumption | (refine Int.le_trans ?_ (by assumption); decide) | (refine Int.le_trans (by assumption) ?_; decide) | omega); (case c2_k9 => first | assumption | (refine Int.le_trans ?_ (by assumption); decide) | (refine Int.le_trans (by assumption) ?_; decide) | omega))); intro  h9 tk9 F9 N9; (try k_sweep); (try dsimp only); (try k_fold))) | fail
  trivial

theorem check_number_k {v : Int} {t : Tok} {led : Led} (h1 : -2147483647 ≤ v) (h2 : v ≤ 2147483647) :
  Kt w p loose mean mg mb 2 (.ref 119) [.int v t] [] led (fun K => K (.int v t) (led)) := by
  unfold Kt
  intro dpC unC gdC cnC csC L aC ccdC clC outer A₀ base h₀ mC hp sg sd tk₀ ox Q E B F X N T hk hd hu hret
  refine wpAny_call ?_
  k_dflt (refine' code_defL (binds := [(Str.ofString "value", .int v t)]) (rb := [(Str.ofString "value", .int v t)]) ?k1 ?k2 ?k3 ?k4 ?k5 ?kA ?kF ?kK ?k6 ?k7 ?k8 ?k9 ?kB rfl ?_ ?c2 ?c3 ?c4 ?c5; (case kA => exact rfl); (case kF => exact rfl); (case kK => exact hk); (case k1 => exact B); (case k3 => exact X); (case k5 => exact T); (case k6 => k_is); (case k7 => k_is); (case c5 => decide); (case kB => exact locs rfl); (case c2 => exact rfl); (case c3 => exact rfl); (case c4 => exact rfl); (case k2 => exact F); (case k4 => exact N); (case k8 => exact dp_ltz hd); (case k9 => exact BindsTo.of_eq rfl); k_whole; intro g' L' h' tk' FG' m9 F' N' B' X' T' A9 qk ek)
  k_steps
  all_goals (first | (refine' hret   _ _ ?zF8 ?zN8; (case zF8 => assumption); (case zN8 => assumption)))

theorem reg_check_number_k : True := by
  k_with "w:call ref" => first | ((k_here; (with_reducible show wpAny _ _ (call (Value.ref 119) _ _) _ _ _); ((first | with_reducible refine' Kt.use (check_number_k ?c1_k9 ?c2_k9) ?hh_k9 ?hf_k9 ?B_k9 ?F_k9 ?X_k9 ?N_k9 ?T_k9 ?hk_k9 ?hd_k9 ?hu_k9 ?_ | k_dflt (refine' Kt.use (check_number_k ?c1_k9 ?c2_k9) ?hh_k9 ?hf_k9 ?B_k9 ?F_k9 ?X_k9 ?N_k9 ?T_k9 ?hk_k9 ?hd_k9 ?hu_k9 ?_)); k_dflt ((case F_k9 => k_asm); (case B_k9 => k_asm); (case X_k9 => k_asm); (case N_k9 => k_asm); (case T_k9 => k_asm); (case hh_k9 => exact rfl); (case hf_k9 => exact rfl); (case hk_k9 => first | exact rfl | assumption); (case hd_k9 => k_extra "mine:dp"); (case hu_k9 => k_extra "mine:un"); (case c1_k9 => first | assumption | (refine Int.le_trans ?_ (by assumption); decide) | (refine Int.le_trans (by assumption) ?_; decide) | omega); (case c2_k9 => first | assumption | (refine Int.le_trans ?_ (by assumption); decide) | (refine Int.le_trans (by assumption) ?_; decide) | omega))); intro  h9 tk9 F9 N9; (try k_sweep); (try dsimp only); (try k_fold))) | fail
  trivial

theorem is_whole_t_k {v lo hi : Int} {t t1 t2 : Tok} {led : Led} (h1 : lo ≤ v) (h2 : v ≤ hi) :
  Kt w p loose mean mg mb 1 (.ref 105) [.int v t, .int lo t1, .int hi t2] [] led (fun K => K (.bool true) (led)) := by
  unfold Kt
  intro dpC unC gdC cnC csC L aC ccdC clC outer A₀ base h₀ mC hp sg sd tk₀ ox Q E B F X N T hk hd hu hret
  refine wpAny_call ?_
  k_dflt (refine' code_defL (binds := [(Str.ofString "value", .int v t), (Str.ofString "low", .int lo t1), (Str.ofString "high", .int hi t2)]) (rb := [(Str.ofString "high", .int hi t2), (Str.ofString "low", .int lo t1), (Str.ofString "value", .int v t)]) ?k1 ?k2 ?k3 ?k4 ?k5 ?kA ?kF ?kK ?k6 ?k7 ?k8 ?k9 ?kB rfl ?_ ?c2 ?c3 ?c4 ?c5; (case kA => exact rfl); (case kF => exact rfl); (case kK => exact hk); (case k1 => exact B); (case k3 => exact X); (case k5 => exact T); (case k6 => k_is); (case k7 => k_is); (case c5 => decide); (case kB => exact locs rfl); (case c2 => exact rfl); (case c3 => exact rfl); (case c4 => exact rfl); (case k2 => exact F); (case k4 => exact N); (case k8 => exact dp_ltz hd); (case k9 => exact BindsTo.of_eq rfl); k_whole; intro g' L' h' tk' FG' m9 F' N' B' X' T' A9 qk ek)
  k_steps
  all_goals (first | (simp only [h1, h2, decide_true]; refine' hret   _ _ ?zF8 ?zN8; (case zF8 => assumption); (case zN8 => assumption)))

theorem is_whole_f_k {v lo hi : Int} {t t1 t2 : Tok} {led : Led} (h1 : v < lo ∨ hi < v) :
  Kt w p loose mean mg mb 1 (.ref 105) [.int v t, .int lo t1, .int hi t2] [] led (fun K => K (.bool false) (led)) := by
  unfold Kt
  intro dpC unC gdC cnC csC L aC ccdC clC outer A₀ base h₀ mC hp sg sd tk₀ ox Q E B F X N T hk hd hu hret
  refine wpAny_call ?_
  k_dflt (refine' code_defL (binds := [(Str.ofString "value", .int v t), (Str.ofString "low", .int lo t1), (Str.ofString "high", .int hi t2)]) (rb := [(Str.ofString "high", .int hi t2), (Str.ofString "low", .int lo t1), (Str.ofString "value", .int v t)]) ?k1 ?k2 ?k3 ?k4 ?k5 ?kA ?kF ?kK ?k6 ?k7 ?k8 ?k9 ?kB rfl ?_ ?c2 ?c3 ?c4 ?c5; (case kA => exact rfl); (case kF => exact rfl); (case kK => exact hk); (case k1 => exact B); (case k3 => exact X); (case k5 => exact T); (case k6 => k_is); (case k7 => k_is); (case c5 => decide); (case kB => exact locs rfl); (case c2 => exact rfl); (case c3 => exact rfl); (case c4 => exact rfl); (case k2 => exact F); (case k4 => exact N); (case k8 => exact dp_ltz hd); (case k9 => exact BindsTo.of_eq rfl); k_whole; intro g' L' h' tk' FG' m9 F' N' B' X' T' A9 qk ek)
  k_steps
  all_goals (first | ((try rw [decide_eq_false (show ¬ lo ≤ v by omega)]); (try rw [decide_eq_false (show ¬ v ≤ hi by omega)]); refine' hret   _ _ ?zF8 ?zN8; (case zF8 => assumption); (case zN8 => assumption)))

theorem reg_K1_6889 : True := by
  k_with "w:call ref" => first | ((k_here; (with_reducible show wpAny _ _ (call (Value.ref 105) _ _) _ _ _); ((first | with_reducible refine' Kt.use (is_whole_f_k ?c1_k9) ?hh_k9 ?hf_k9 ?B_k9 ?F_k9 ?X_k9 ?N_k9 ?T_k9 ?hk_k9 ?hd_k9 ?hu_k9 ?_ | k_dflt (refine' Kt.use (is_whole_f_k ?c1_k9) ?hh_k9 ?hf_k9 ?B_k9 ?F_k9 ?X_k9 ?N_k9 ?T_k9 ?hk_k9 ?hd_k9 ?hu_k9 ?_)); k_dflt ((case F_k9 => k_asm); (case B_k9 => k_asm); (case X_k9 => k_asm); (case N_k9 => k_asm); (case T_k9 => k_asm); (case hh_k9 => exact rfl); (case hf_k9 => exact rfl); (case hk_k9 => first | exact rfl | assumption); (case hd_k9 => k_extra "mine:dp"); (case hu_k9 => k_extra "mine:un"); (case c1_k9 => omega))); intro  h9 tk9 F9 N9; (try k_sweep); (try dsimp only); (try k_fold))) | fail
  k_with "w:call ref" => first | ((k_here; (with_reducible show wpAny _ _ (call (Value.ref 105) _ _) _ _ _); ((first | with_reducible refine' Kt.use (is_whole_t_k ?c1_k9 ?c2_k9) ?hh_k9 ?hf_k9 ?B_k9 ?F_k9 ?X_k9 ?N_k9 ?T_k9 ?hk_k9 ?hd_k9 ?hu_k9 ?_ | k_dflt (refine' Kt.use (is_whole_t_k ?c1_k9 ?c2_k9) ?hh_k9 ?hf_k9 ?B_k9 ?F_k9 ?X_k9 ?N_k9 ?T_k9 ?hk_k9 ?hd_k9 ?hu_k9 ?_)); k_dflt ((case F_k9 => k_asm); (case B_k9 => k_asm); (case X_k9 => k_asm); (case N_k9 => k_asm); (case T_k9 => k_asm); (case hh_k9 => exact rfl); (case hf_k9 => exact rfl); (case hk_k9 => first | exact rfl | assumption); (case hd_k9 => k_extra "mine:dp"); (case hu_k9 => k_extra "mine:un"); (case c1_k9 => first | assumption | (refine Int.le_trans ?_ (by assumption); decide) | (refine Int.le_trans (by assumption) ?_; decide) | omega); (case c2_k9 => first | assumption | (refine Int.le_trans ?_ (by assumption); decide) | (refine Int.le_trans (by assumption) ?_; decide) | omega))); intro  h9 tk9 F9 N9; (try k_sweep); (try dsimp only); (try k_fold))) | fail
  trivial
theorem kern_k {v : Int} {t t1 : Tok} {led : Led} (h1 : -1000000 ≤ v) (h2 : v ≤ 1000000) :
  Kt w p loose mean mg mb 4 (.ref 400) [.int v t, .int 1 t1] [] led (fun K => ∀ a tl, (Fresh tl led) → (NodeIn w tl (.ref a) (.kern v)) → K (.ref a) (tl ++ led)) := by
  unfold Kt
  intro dpC unC gdC cnC csC L aC ccdC clC outer A₀ base h₀ mC hp sg sd tk₀ ox Q E B F X N T hk hd hu hret
  k_dflt (refine' call_clsL ?k1 ?k2 ?k3 ?k4 ?k5 ?k6 ?_; (case k1 => exact F); (case k2 => exact X); (case k3 => exact N); (case k4 => k_is); (case k5 => k_is); (case k6 => k_is); k_whole; intro x1 d1 h1 F1 N1 l1 l2; (try dsimp only [AllLt] at l1); (try k_lt2 l2); (try k_sweep))
  k_dflt (refine' code_defL (binds := [(Str.ofString "self", .ref x1), (Str.ofString "width", .int v t), (Str.ofString "sort", .int 1 t1)]) (rb := [(Str.ofString "sort", .int 1 t1), (Str.ofString "width", .int v t), (Str.ofString "self", .ref x1)]) ?k1 ?k2 ?k3 ?k4 ?k5 ?kA ?kF ?kK ?k6 ?k7 ?k8 ?k9 ?kB rfl ?_ ?c2 ?c3 ?c4 ?c5; (case kA => exact rfl); (case kF => exact rfl); (case kK => exact hk); (case k1 => exact B); (case k3 => exact X); (case k5 => exact T); (case k6 => k_is); (case k7 => k_is); (case c5 => decide); (case kB => exact locs rfl); (case c2 => exact rfl); (case c3 => exact rfl); (case c4 => exact rfl); (case k2 => k_asm); (case k4 => k_asm); (case k8 => k_extra "mine:dp"); (case k9 => exact BindsTo.of_eq rfl); k_whole; intro g' L' h' tk' FG' m9 F' N' B' X' T' A9 qk ek)
  k_steps
  all_goals (first | (refine' hret _ [(_, _), (_, _)] ?z08 ?z18 _ _ ?zF8 ?zN8; (case zF8 => assumption); (case zN8 => assumption); (case z08 => k_extra "mine:fresh"); (case z18 => exact .kern (by k_extra "mine:at") (by k_extra "mine:at") (by k_extra "mine:at"))))

noncomputable def GFD : FuncData := fd (cst 28 0) "Glue.__init__" 3 [] (.ref 190) (.none) (.none) (.str "gluepage.scaled" 300) none (.ref 196) (.none) 0
noncomputable def Bg (w : World) (vs : List Value) (wd st so sh sho : Int) (t1 t2 t3 t4 t5 : Tok) : Prop := ∀ (s : Shared) (x : Addr), (Mine.hd.heap_1 w.params).In s.heap → BindsTo s GFD ⟨.ref x :: vs, []⟩ [("self", .ref x), ("width", .int wd t1), ("stretch", .int st t2), ("stretch_order", .int so t3), ("shrink", .int sh t4), ("shrink_order", .int sho t5)]
theorem Bg.five {wd st so sh sho : Int} {t1 t2 t3 t4 t5 : Tok} : Bg w [.int wd t1, .int st t2, .int so t3, .int sh t4, .int sho t5] wd st so sh sho t1 t2 t3 t4 t5 := fun s x X => binds_K X rfl (by k_is) rfl rfl rfl
theorem Bg.none : ∃ t1 t2 t3 t4 t5, Bg w [] 0 0 0 0 0 t1 t2 t3 t4 t5 := ⟨_, _, _, _, _, fun s x X => binds_K X rfl (by k_is) rfl rfl rfl⟩

theorem glue_b {as9 : List Value} {wd st so sh sho : Int} {t1 t2 t3 t4 t5 : Tok} {led : Led} (hB : Bg w as9 wd st so sh sho t1 t2 t3 t4 t5) (h1 : -1000000 ≤ wd) (h2 : wd ≤ 1000000) (h3 : 0 ≤ st) (h4 : st ≤ 1000000) (h5 : 0 ≤ so) (h6 : so ≤ 3) (h7 : 0 ≤ sh) (h8 : sh ≤ 1000000) (h9 : 0 ≤ sho) (h10 : sho ≤ 3) :
  Kt w p loose mean mg mb 4 (.ref 250) as9 [] led (fun K => ∀ a tl so' sho', (Fresh tl led) → (so' = (if st = 0 then 0 else so)) → (sho' = (if sh = 0 then 0 else sho)) → (GlueIn w tl a ⟨wd, st, so', sh, sho'⟩) → K (.ref a) (tl ++ led)) := by
  unfold Kt
  intro dpC unC gdC cnC csC L aC ccdC clC outer A₀ base h₀ mC hp sg sd tk₀ ox Q E B F X N T hk hd hu hret
  k_dflt (refine' call_clsL ?k1 ?k2 ?k3 ?k4 ?k5 ?k6 ?_; (case k1 => exact F); (case k2 => exact X); (case k3 => exact N); (case k4 => k_is); (case k5 => k_is); (case k6 => k_is); k_whole; intro x1 d1 h1 F1 N1 l1 l2; (try dsimp only [AllLt] at l1); (try k_lt2 l2); (try k_sweep))
  k_dflt (refine' code_defL (binds := [(Str.ofString "self", .ref x1), (Str.ofString "width", .int wd t1), (Str.ofString "stretch", .int st t2), (Str.ofString "stretch_order", .int so t3), (Str.ofString "shrink", .int sh t4), (Str.ofString "shrink_order", .int sho t5)]) (rb := [(Str.ofString "shrink_order", .int sho t5), (Str.ofString "shrink", .int sh t4), (Str.ofString "stretch_order", .int so t3), (Str.ofString "stretch", .int st t2), (Str.ofString "width", .int wd t1), (Str.ofString "self", .ref x1)]) ?k1 ?k2 ?k3 ?k4 ?k5 ?kA ?kF ?kK ?k6 ?k7 ?k8 ?k9 ?kB rfl ?_ ?c2 ?c3 ?c4 ?c5; (case kA => exact rfl); (case kF => exact rfl); (case kK => exact hk); (case k1 => exact B); (case k3 => exact X); (case k5 => exact T); (case k6 => k_is); (case k7 => k_is); (case c5 => decide); (case kB => exact locs rfl); (case c2 => exact rfl); (case c3 => exact rfl); (case c4 => exact rfl); (case k2 => k_asm); (case k4 => k_asm); (case k8 => k_extra "mine:dp"); (case k9 => exact hB _ _ (by k_in)); k_whole; intro g' L' h' tk' FG' m9 F' N' B' X' T' A9 qk ek)
  k_steps
  all_goals (first | (refine' hret _ [(_, _), (_, _)] _ _ ?z08 ?z18 ?z28 ?z38 _ _ ?zF8 ?zN8; (case zF8 => assumption); (case zN8 => assumption); (case z08 => k_extra "mine:fresh"); (case z18 => first | (rw [if_pos (by assumption)]) | (rw [if_neg (by assumption)])); (case z28 => first | (rw [if_pos (by assumption)]) | (rw [if_neg (by assumption)])); (case z38 => exact ⟨⟨_, (by k_extra "mine:at")⟩, ⟨_, (by k_extra "mine:at")⟩, ⟨_, (by k_extra "mine:at")⟩, ⟨_, (by k_extra "mine:at")⟩, ⟨_, (by k_extra "mine:at")⟩, (by k_extra "mine:mt")⟩)))

theorem glue_k {wd st so sh sho : Int} {t1 t2 t3 t4 t5 : Tok} {led : Led} (h1 : -1000000 ≤ wd) (h2 : wd ≤ 1000000) (h3 : 0 ≤ st) (h4 : st ≤ 1000000) (h5 : 0 ≤ so) (h6 : so ≤ 3) (h7 : 0 ≤ sh) (h8 : sh ≤ 1000000) (h9 : 0 ≤ sho) (h10 : sho ≤ 3) :
  Kt w p loose mean mg mb 4 (.ref 250) [.int wd t1, .int st t2, .int so t3, .int sh t4, .int sho t5] [] led (fun K => ∀ a tl so' sho', (Fresh tl led) → (so' = (if st = 0 then 0 else so)) → (sho' = (if sh = 0 then 0 else sho)) → (GlueIn w tl a ⟨wd, st, so', sh, sho'⟩) → K (.ref a) (tl ++ led)) :=
  glue_b Bg.five h1 h2 h3 h4 h5 h6 h7 h8 h9 h10
theorem glue_k0 {led : Led} : Kt w p loose mean mg mb 4 (.ref 250) [] [] led (fun K => ∀ a tl, (Fresh tl led) → (GlueIn w tl a ⟨0, 0, 0, 0, 0⟩) → K (.ref a) (tl ++ led)) := by
  obtain ⟨t1, t2, t3, t4, t5, hB⟩ := Bg.none (w := w)
  refine Kt.mono (glue_b hB (by decide) (by decide) (by decide) (by decide) (by decide) (by decide) (by decide) (by decide) (by decide) (by decide)) fun K h a tl so' sho' f e1 e2 g => ?_
  rw [if_pos rfl] at e1 e2
  subst e1 e2
  exact h a tl f g

theorem pen_k {v : Int} {t : Tok} {led : Led} (h1 : -1000000 ≤ v) (h2 : v ≤ 1000000) :
  Kt w p loose mean mg mb 4 (.ref 443) [.int v t] [] led (fun K => ∀ a tl, (Fresh tl led) → (NodeIn w tl (.ref a) (.pen v)) → K (.ref a) (tl ++ led)) := by
  unfold Kt
  intro dpC unC gdC cnC csC L aC ccdC clC outer A₀ base h₀ mC hp sg sd tk₀ ox Q E B F X N T hk hd hu hret
  k_dflt (refine' call_clsL ?k1 ?k2 ?k3 ?k4 ?k5 ?k6 ?_; (case k1 => exact F); (case k2 => exact X); (case k3 => exact N); (case k4 => k_is); (case k5 => k_is); (case k6 => k_is); k_whole; intro x1 d1 h1 F1 N1 l1 l2; (try dsimp only [AllLt] at l1); (try k_lt2 l2); (try k_sweep))
  k_dflt (refine' code_defL (binds := [(Str.ofString "self", .ref x1), (Str.ofString "value", .int v t)]) (rb := [(Str.ofString "value", .int v t), (Str.ofString "self", .ref x1)]) ?k1 ?k2 ?k3 ?k4 ?k5 ?kA ?kF ?kK ?k6 ?k7 ?k8 ?k9 ?kB rfl ?_ ?c2 ?c3 ?c4 ?c5; (case kA => exact rfl); (case kF => exact rfl); (case kK => exact hk); (case k1 => exact B); (case k3 => exact X); (case k5 => exact T); (case k6 => k_is); (case k7 => k_is); (case c5 => decide); (case kB => exact locs rfl); (case c2 => exact rfl); (case c3 => exact rfl); (case c4 => exact rfl); (case k2 => k_asm); (case k4 => k_asm); (case k8 => k_extra "mine:dp"); (case k9 => exact BindsTo.of_eq rfl); k_whole; intro g' L' h' tk' FG' m9 F' N' B' X' T' A9 qk ek)
  k_steps
  all_goals (first | (refine' hret _ [(_, _), (_, _)] ?z08 ?z18 _ _ ?zF8 ?zN8; (case zF8 => assumption); (case zN8 => assumption); (case z08 => k_extra "mine:fresh"); (case z18 => exact .pen (by k_extra "mine:at") (by k_extra "mine:at"))))

theorem box_k {k wd ht de : Int} {l : Addr} {t1 t2 t3 t4 : Tok} {led : Led} (h1 : 2 ≤ k) (h2 : k ≤ 3) (h3 : -1000000 ≤ wd) (h4 : wd ≤ 1000000) (h5 : -1000000 ≤ ht) (h6 : ht ≤ 1000000) (h7 : -1000000 ≤ de) (h8 : de ≤ 1000000) :
  Kt w p loose mean mg mb 4 (.ref 358) [.int k t1, .int wd t2, .int ht t3, .int de t4, .ref l] [] led (fun K => ∀ a d rt es n u1 u2 u3 u4 u5 n2, (BoxEs w es (.int k t1) (.int wd t2) (.int ht t3) (.int de t4) (.ref l) (.int 0 u1) (.int 0 u2) (.int 0 u3) (.ref rt)) → (AllLt d led) → (@LT.lt Nat _ d a) → (@LT.lt Nat _ a rt) → K (.ref a) ((rt, tupO [.int 0 u4, .int 1 u5] n2) :: (a, instObj 358 d) :: (d, dictOf es n) :: led)) := by
  unfold Kt
  intro dpC unC gdC cnC csC L aC ccdC clC outer A₀ base h₀ mC hp sg sd tk₀ ox Q E B F X N T hk hd hu hret
  k_dflt (refine' call_clsL ?k1 ?k2 ?k3 ?k4 ?k5 ?k6 ?_; (case k1 => exact F); (case k2 => exact X); (case k3 => exact N); (case k4 => k_is); (case k5 => k_is); (case k6 => k_is); k_whole; intro x1 d1 h1 F1 N1 l1 l2; (try dsimp only [AllLt] at l1); (try k_lt2 l2); (try k_sweep))
  k_dflt (refine' code_defL (binds := [(Str.ofString "self", .ref x1), (Str.ofString "kind", .int k t1), (Str.ofString "width", .int wd t2), (Str.ofString "height", .int ht t3), (Str.ofString "depth", .int de t4), (Str.ofString "items", .ref l)]) (rb := [(Str.ofString "items", .ref l), (Str.ofString "depth", .int de t4), (Str.ofString "height", .int ht t3), (Str.ofString "width", .int wd t2), (Str.ofString "kind", .int k t1), (Str.ofString "self", .ref x1)]) ?k1 ?k2 ?k3 ?k4 ?k5 ?kA ?kF ?kK ?k6 ?k7 ?k8 ?k9 ?kB rfl ?_ ?c2 ?c3 ?c4 ?c5; (case kA => exact rfl); (case kF => exact rfl); (case kK => exact hk); (case k1 => exact B); (case k3 => exact X); (case k5 => exact T); (case k6 => k_is); (case k7 => k_is); (case c5 => decide); (case kB => exact locs rfl); (case c2 => exact rfl); (case c3 => exact rfl); (case c4 => exact rfl); (case k2 => k_asm); (case k4 => k_asm); (case k8 => k_extra "mine:dp"); (case k9 => exact BindsTo.of_eq rfl); k_whole; intro g' L' h' tk' FG' m9 F' N' B' X' T' A9 qk ek)
  k_steps
  all_goals (first | (refine' hret _ _ _ _ _ _ _ _ _ _ _ ?z08 ?z18 ?z28 ?z38 _ _ ?zF8 ?zN8; (case zF8 => assumption); (case zN8 => assumption); (case z08 => exact .mk _ _ _ _ _ _ _ _ _); (case z18 => k_extra "mine:allt"); (case z28 => first | assumption | ((try dsimp only); omega)); (case z38 => first | assumption | ((try dsimp only); omega))))

end
end
section
section
variable {w : World} {p : Program} {loose : List Str} {mean : ExcName → Option Value} {mg mb : Str → Option Value}
theorem cut {M : Model} {A : Around} {t : Sem Flow} {Q : Flow → Shared → Prop} {E : Value → Shared → Prop} {s : Shared} (R : Flow → Shared → Prop) (h1 : wpAny M A t R E s) (h2 : ∀ f s', R f s' → Q f s') : wpAny M A t Q E s := wpAny_mono h1 h2 fun _ _ e => e
noncomputable def Same (g : Heap) (L : Addr) (m : Str → Option Value) (led : Led) (s : Shared) (f : Flow) (s' : Shared) : Prop := f = .next ∧ ∃ h tk, s' = { s with heap := h, toks := tk } ∧ Fr g L h m ∧ News g L h led
theorem cut_same {M : Model} {A : Around} {t : Sem Flow} {Q : Flow → Shared → Prop} {E : Value → Shared → Prop} {s : Shared} {g : Heap} {L : Addr} {m : Str → Option Value} {led : Led} (_ : Fr g L s.heap m) (_ : News g L s.heap led)
    (h1 : wpAny M A t (Same g L m led s) E s) (h2 : ∀ h tk, Fr g L h m → News g L h led → Q .next { s with heap := h, toks := tk }) : wpAny M A t Q E s :=
  wpAny_mono h1 (fun _ _ ⟨e, h, tk, e2, F, N⟩ => by subst e; subst e2; exact h2 h tk F N) fun _ _ e => e
noncomputable def optW (o : Option Int) (v : Value) : Prop := (o = none ∧ v = .none) ∨ ∃ i t, o = some i ∧ v = .int i t ∧ -1000000 ≤ i ∧ i ≤ 1000000
theorem optW.v {o : Option Int} {v : Value} (h : optW o v) : optV o v := by
  rcases h with ⟨rfl, rfl⟩ | ⟨i, t, rfl, rfl, _⟩
  · rfl
  · exact ⟨t, rfl⟩
theorem optW.in_ {o : Option Int} {v : Value} (h : optW o v) : handedIn v = true := by
  rcases h with ⟨rfl, rfl⟩ | ⟨i, t, rfl, rfl, _⟩ <;> rfl

theorem skip_k0 {ga : Addr} {t : Tok} {led : Led}  :
  Kt w p loose mean mg mb 4 (.ref 422) [.ref ga, .int 0 t] [] led (fun K => ∀ a tl, (Fresh tl led) → (∀ S g, GlueIn w S ga g → NodeIn w (tl ++ S) (.ref a) (.skip g 0)) → K (.ref a) (tl ++ led)) := by
  unfold Kt
  intro dpC unC gdC cnC csC L aC ccdC clC outer A₀ base h₀ mC hp sg sd tk₀ ox Q E B F X N T hk hd hu hret
  k_dflt (refine' call_clsL ?k1 ?k2 ?k3 ?k4 ?k5 ?k6 ?_; (case k1 => exact F); (case k2 => exact X); (case k3 => exact N); (case k4 => k_is); (case k5 => k_is); (case k6 => k_is); k_whole; intro x1 d1 h1 F1 N1 l1 l2; (try dsimp only [AllLt] at l1); (try k_lt2 l2); (try k_sweep))
  k_dflt (refine' code_defL (binds := [(Str.ofString "self", .ref x1), (Str.ofString "glue", .ref ga), (Str.ofString "sort", .int 0 t), (Str.ofString "leader", .none)]) (rb := [(Str.ofString "leader", .none), (Str.ofString "sort", .int 0 t), (Str.ofString "glue", .ref ga), (Str.ofString "self", .ref x1)]) ?k1 ?k2 ?k3 ?k4 ?k5 ?kA ?kF ?kK ?k6 ?k7 ?k8 ?k9 ?kB rfl ?_ ?c2 ?c3 ?c4 ?c5; (case kA => exact rfl); (case kF => exact rfl); (case kK => exact hk); (case k1 => exact B); (case k3 => exact X); (case k5 => exact T); (case k6 => k_is); (case k7 => k_is); (case c5 => decide); (case kB => exact locs rfl); (case c2 => exact rfl); (case c3 => exact rfl); (case c4 => exact rfl); (case k2 => k_asm); (case k4 => k_asm); (case k8 => k_extra "mine:dp"); (case k9 => exact binds_K (by k_in) rfl (by k_is) rfl rfl rfl); k_whole; intro g' L' h' tk' FG' m9 F' N' B' X' T' A9 qk ek)
  k_steps
  all_goals (first | (refine' hret _ [(_, _), (_, _)] ?z08 ?z18 _ _ ?zF8 ?zN8; (case zF8 => assumption); (case zN8 => assumption); (case z08 => k_extra "mine:fresh"); (case z18 => exact fun S g hg => .skip (by k_extra "mine:at") (by k_extra "mine:at") (hg.mono (by k_extra "mine:sub")) (by k_extra "mine:at") (by k_extra "mine:at"))))

theorem skip_k1 {ga : Addr} {t : Tok} {led : Led}  :
  Kt w p loose mean mg mb 4 (.ref 422) [.ref ga, .int 108 t] [] led (fun K => ∀ a tl, (Fresh tl led) → (∀ S g, GlueIn w S ga g → NodeIn w (tl ++ S) (.ref a) (.skip g 108)) → K (.ref a) (tl ++ led)) := by
  unfold Kt
  intro dpC unC gdC cnC csC L aC ccdC clC outer A₀ base h₀ mC hp sg sd tk₀ ox Q E B F X N T hk hd hu hret
  k_dflt (refine' call_clsL ?k1 ?k2 ?k3 ?k4 ?k5 ?k6 ?_; (case k1 => exact F); (case k2 => exact X); (case k3 => exact N); (case k4 => k_is); (case k5 => k_is); (case k6 => k_is); k_whole; intro x1 d1 h1 F1 N1 l1 l2; (try dsimp only [AllLt] at l1); (try k_lt2 l2); (try k_sweep))
  k_dflt (refine' code_defL (binds := [(Str.ofString "self", .ref x1), (Str.ofString "glue", .ref ga), (Str.ofString "sort", .int 108 t), (Str.ofString "leader", .none)]) (rb := [(Str.ofString "leader", .none), (Str.ofString "sort", .int 108 t), (Str.ofString "glue", .ref ga), (Str.ofString "self", .ref x1)]) ?k1 ?k2 ?k3 ?k4 ?k5 ?kA ?kF ?kK ?k6 ?k7 ?k8 ?k9 ?kB rfl ?_ ?c2 ?c3 ?c4 ?c5; (case kA => exact rfl); (case kF => exact rfl); (case kK => exact hk); (case k1 => exact B); (case k3 => exact X); (case k5 => exact T); (case k6 => k_is); (case k7 => k_is); (case c5 => decide); (case kB => exact locs rfl); (case c2 => exact rfl); (case c3 => exact rfl); (case c4 => exact rfl); (case k2 => k_asm); (case k4 => k_asm); (case k8 => k_extra "mine:dp"); (case k9 => exact binds_K (by k_in) rfl (by k_is) rfl rfl rfl); k_whole; intro g' L' h' tk' FG' m9 F' N' B' X' T' A9 qk ek)
  k_steps
  all_goals (first | (refine' hret _ [(_, _), (_, _)] ?z08 ?z18 _ _ ?zF8 ?zN8; (case zF8 => assumption); (case zN8 => assumption); (case z08 => k_extra "mine:fresh"); (case z18 => exact fun S g hg => .skip (by k_extra "mine:at") (by k_extra "mine:at") (hg.mono (by k_extra "mine:sub")) (by k_extra "mine:at") (by k_extra "mine:at"))))

theorem mark_k {tk tk2 : Addr} {n1 : Nat} {led : Led} (hm1 : (tk, tupO [.ref tk2] n1) ∈ led) :
  Kt w p loose mean mg mb 4 (.ref 464) [.ref tk] [] led (fun K => ∀ a tl, (Fresh tl led) → (∀ S i, DatIn S (.ref tk) (.tuple [.tuple [.int 11, .int i]]) → NodeIn w (tl ++ S) (.ref a) (.mark i)) → K (.ref a) (tl ++ led)) := by
  unfold Kt
  intro dpC unC gdC cnC csC L aC ccdC clC outer A₀ base h₀ mC hp sg sd tk₀ ox Q E B F X N T hk hd hu hret
  k_dflt (refine' call_clsL ?k1 ?k2 ?k3 ?k4 ?k5 ?k6 ?_; (case k1 => exact F); (case k2 => exact X); (case k3 => exact N); (case k4 => k_is); (case k5 => k_is); (case k6 => k_is); k_whole; intro x1 d1 h1 F1 N1 l1 l2; (try dsimp only [AllLt] at l1); (try k_lt2 l2); (try k_sweep))
  k_dflt (refine' code_defL (binds := [(Str.ofString "self", .ref x1), (Str.ofString "tokens", .ref tk)]) (rb := [(Str.ofString "tokens", .ref tk), (Str.ofString "self", .ref x1)]) ?k1 ?k2 ?k3 ?k4 ?k5 ?kA ?kF ?kK ?k6 ?k7 ?k8 ?k9 ?kB rfl ?_ ?c2 ?c3 ?c4 ?c5; (case kA => exact rfl); (case kF => exact rfl); (case kK => exact hk); (case k1 => exact B); (case k3 => exact X); (case k5 => exact T); (case k6 => k_is); (case k7 => k_is); (case c5 => decide); (case kB => exact locs rfl); (case c2 => exact rfl); (case c3 => exact rfl); (case c4 => exact rfl); (case k2 => k_asm); (case k4 => k_asm); (case k8 => k_extra "mine:dp"); (case k9 => exact BindsTo.of_eq rfl); k_whole; intro g' L' h' tk' FG' m9 F' N' B' X' T' A9 qk ek)
  k_steps
  all_goals (first | (refine' hret _ [(_, _), (_, _)] ?z08 ?z18 _ _ ?zF8 ?zN8; (case zF8 => assumption); (case zN8 => assumption); (case z08 => k_extra "mine:fresh"); (case z18 => exact fun S i hd0 => .mark (by k_extra "mine:at") (by k_extra "mine:at") (hd0.mono (by k_extra "mine:sub")))))

theorem ins_k {ga l : Addr} {t1 t2 t3 t4 : Tok} {led : Led}  :
  Kt w p loose mean mg mb 4 (.ref 485) [.int 1 t1, .int 5 t2, .int 0 t3, .ref ga, .int 0 t4, .ref l] [] led (fun K => ∀ a tl, (Fresh tl led) → (∀ S kv n, GlueIn w S ga ⟨0, 0, 0, 0, 0⟩ → (l, PySem.W.listOf [.ref kv].toArray n) ∈ S → NodeIn w S (.ref kv) (.kern 5) → NodeIn w (tl ++ S) (.ref a) .ins) → K (.ref a) (tl ++ led)) := by
  unfold Kt
  intro dpC unC gdC cnC csC L aC ccdC clC outer A₀ base h₀ mC hp sg sd tk₀ ox Q E B F X N T hk hd hu hret
  k_dflt (refine' call_clsL ?k1 ?k2 ?k3 ?k4 ?k5 ?k6 ?_; (case k1 => exact F); (case k2 => exact X); (case k3 => exact N); (case k4 => k_is); (case k5 => k_is); (case k6 => k_is); k_whole; intro x1 d1 h1 F1 N1 l1 l2; (try dsimp only [AllLt] at l1); (try k_lt2 l2); (try k_sweep))
  k_dflt (refine' code_defL (binds := [(Str.ofString "self", .ref x1), (Str.ofString "number", .int 1 t1), (Str.ofString "size", .int 5 t2), (Str.ofString "depth", .int 0 t3), (Str.ofString "top", .ref ga), (Str.ofString "cost", .int 0 t4), (Str.ofString "items", .ref l)]) (rb := [(Str.ofString "items", .ref l), (Str.ofString "cost", .int 0 t4), (Str.ofString "top", .ref ga), (Str.ofString "depth", .int 0 t3), (Str.ofString "size", .int 5 t2), (Str.ofString "number", .int 1 t1), (Str.ofString "self", .ref x1)]) ?k1 ?k2 ?k3 ?k4 ?k5 ?kA ?kF ?kK ?k6 ?k7 ?k8 ?k9 ?kB rfl ?_ ?c2 ?c3 ?c4 ?c5; (case kA => exact rfl); (case kF => exact rfl); (case kK => exact hk); (case k1 => exact B); (case k3 => exact X); (case k5 => exact T); (case k6 => k_is); (case k7 => k_is); (case c5 => decide); (case kB => exact locs rfl); (case c2 => exact rfl); (case c3 => exact rfl); (case c4 => exact rfl); (case k2 => k_asm); (case k4 => k_asm); (case k8 => k_extra "mine:dp"); (case k9 => exact BindsTo.of_eq rfl); k_whole; intro g' L' h' tk' FG' m9 F' N' B' X' T' A9 qk ek)
  k_steps
  all_goals (first | (refine' hret _ [(_, _), (_, _)] ?z08 ?z18 _ _ ?zF8 ?zN8; (case zF8 => assumption); (case zN8 => assumption); (case z08 => k_extra "mine:fresh"); (case z18 => exact fun S kv n hg hl hk0 => .ins (by k_extra "mine:at") (by k_extra "mine:at") (by k_extra "mine:at") (by k_extra "mine:at") (by k_extra "mine:at") (hg.mono (by k_extra "mine:sub")) (by k_extra "mine:at") (by k_extra "mine:at") (List.mem_append_right _ hl) (hk0.mono (by k_extra "mine:sub")))))

theorem spec_k {t : Tok} {led : Led}  :
  Kt w p loose mean mg mb 4 (.ref 506) [.bytes #[98] t] [] led (fun K => ∀ a tl, (Fresh tl led) → (NodeIn w tl (.ref a) .spec) → K (.ref a) (tl ++ led)) := by
  unfold Kt
  intro dpC unC gdC cnC csC L aC ccdC clC outer A₀ base h₀ mC hp sg sd tk₀ ox Q E B F X N T hk hd hu hret
  k_dflt (refine' call_clsL ?k1 ?k2 ?k3 ?k4 ?k5 ?k6 ?_; (case k1 => exact F); (case k2 => exact X); (case k3 => exact N); (case k4 => k_is); (case k5 => k_is); (case k6 => k_is); k_whole; intro x1 d1 h1 F1 N1 l1 l2; (try dsimp only [AllLt] at l1); (try k_lt2 l2); (try k_sweep))
  k_dflt (refine' code_defL (binds := [(Str.ofString "self", .ref x1), (Str.ofString "octets", .bytes #[98] t)]) (rb := [(Str.ofString "octets", .bytes #[98] t), (Str.ofString "self", .ref x1)]) ?k1 ?k2 ?k3 ?k4 ?k5 ?kA ?kF ?kK ?k6 ?k7 ?k8 ?k9 ?kB rfl ?_ ?c2 ?c3 ?c4 ?c5; (case kA => exact rfl); (case kF => exact rfl); (case kK => exact hk); (case k1 => exact B); (case k3 => exact X); (case k5 => exact T); (case k6 => k_is); (case k7 => k_is); (case c5 => decide); (case kB => exact locs rfl); (case c2 => exact rfl); (case c3 => exact rfl); (case c4 => exact rfl); (case k2 => k_asm); (case k4 => k_asm); (case k8 => k_extra "mine:dp"); (case k9 => exact BindsTo.of_eq rfl); k_whole; intro g' L' h' tk' FG' m9 F' N' B' X' T' A9 qk ek)
  k_steps
  all_goals (first | (refine' hret _ [(_, _), (_, _), (_, _)] ?z08 ?z18 _ _ ?zF8 ?zN8; (case zF8 => assumption); (case zN8 => assumption); (case z08 => k_extra "mine:fresh"); (case z18 => exact .spec (by k_extra "mine:at") (by k_extra "mine:at") (by k_extra "mine:at"))))

end
end
section
section
variable {w : World} {p : Program} {loose : List Str} {mean : ExcName → Option Value} {mg mb : Str → Option Value}
theorem UnrEndW.pick {h₀ : Heap} {L I : Addr} {it : Obj} {rest : (Str → Option Value) → List (Addr × Obj) → Prop} {s₁ : Shared} {h' : Heap} {tk : Nat} {m' : Str → Option Value} {all news' : List (Addr × Obj)} (F : Fr h₀ L h' m') (N : News h₀ L h' all)
    (k : Pick (I, it) all news') (off : ∀ p ∈ news', p.1 ≠ I) (r : rest m' news') : UnrEndW h₀ L s₁ [(I, it)] rest { s₁ with heap := h', toks := tk } :=
  ⟨h', tk, m', news', rfl, F, fun p hp => N p (k.sub p hp), fun p hp q hq => by rw [List.mem_singleton.mp hq]; exact off p hp, r⟩
theorem reg_unrW : True := by
  k_with "w:UnrEndW" => first | ((((first | with_reducible refine' UnrEndW.pick ?F_k9 ?N_k9 ?k_k9 ?o_k9 ⟨⟨?m_k9, trivial⟩, ?_⟩ | k_dflt (refine' UnrEndW.pick ?F_k9 ?N_k9 ?k_k9 ?o_k9 ⟨⟨?m_k9, trivial⟩, ?_⟩)); k_dflt ((case F_k9 => k_asm); (case N_k9 => k_asm); (case k_k9 => k_extra "mine:pick"); (case o_k9 => k_all); (case m_k9 => k_mem))))) | fail
  k_with "w:pyIter ref" => first | k_dflt ((k_here; (with_reducible show wpAny _ _ (pyIter (Value.ref _)) (fun it s₂ => TurnsAt _ _ _ _ _ _ _ _ _ it s₂) _ _); ((first | with_reducible refine' iter_tupTurns (lo := tupO [_, _, _] _) (vs := [_, _, _]) (by rfl) ?F_k9 ?N_k9 ?m_k9 (by rfl) (by rfl) ?_ | k_dflt (refine' iter_tupTurns (lo := tupO [_, _, _] _) (vs := [_, _, _]) (by rfl) ?F_k9 ?N_k9 ?m_k9 (by rfl) (by rfl) ?_)); k_dflt ((case F_k9 => k_asm); (case N_k9 => k_asm); (case m_k9 => k_mem))); intro i' l1; (try k_lt l1))) | fail
  k_with "w:exec If" => first | ((k_here; (with_reducible show wpAny _ _ (exec (Stmt.If (Expr.Compare (Expr.Name _ _) [CmpOp.IsNot] _ _) _ _ _) _) _ _ _); ((first | with_reducible refine' cut_same ?F_k9 ?N_k9 ?c1_k9 ?_ | k_dflt (refine' cut_same ?F_k9 ?N_k9 ?c1_k9 ?_)); k_dflt ((case F_k9 => k_asm); (case N_k9 => k_asm))); (case c1_k9 => k_dflt ((refine wpAny_If ?_); (first | (rename Fr _ _ _ (fun y => if y = _ then some v2 else _) => fz; rcases p2 with ⟨_, e9⟩ | ⟨i9, t9, _, e9, i91, i92⟩ <;> subst e9) | (rename Fr _ _ _ (fun y => if y = _ then some v1 else _) => fz; rcases p1 with ⟨_, e9⟩ | ⟨i9, t9, _, e9, i91, i92⟩ <;> subst e9) | skip); all_goals (k_steps; (all_goals exact ⟨rfl, _, _, rfl, by assumption, by assumption⟩)))); intro h9 tk9 F9 N9; (try k_sweep); (try dsimp only))) | fail
  trivial

theorem rule_k {v1 v2 : Value} {o1 o2 : Option Int} {t3 : Tok} {led : Led} (p1 : optW o1 v1) (p2 : optW o2 v2) :
  Kt w p loose mean mg mb 4 (.ref 379) [v1, v2, .int 1 t3] [] led (fun K => ∀ a tl, (Fresh tl led) → (NodeIn w tl (.ref a) (.rule o1 o2 1)) → K (.ref a) (tl ++ led)) := by
  unfold Kt
  intro dpC unC gdC cnC csC L aC ccdC clC outer A₀ base h₀ mC hp sg sd tk₀ ox Q E B F X N T hk hd hu hret
  have q1 := p1.in_
  have q2 := p2.in_
  k_dflt (refine' call_clsL ?k1 ?k2 ?k3 ?k4 ?k5 ?k6 ?_; (case k1 => exact F); (case k2 => exact X); (case k3 => exact N); (case k4 => k_is); (case k5 => k_is); (case k6 => k_is); k_whole; intro x1 d1 h1 F1 N1 l1 l2; (try dsimp only [AllLt] at l1); (try k_lt2 l2); (try k_sweep))
  k_dflt (refine' code_defL (binds := [(Str.ofString "self", .ref x1), (Str.ofString "width", v1), (Str.ofString "height", v2), (Str.ofString "depth", .int 1 t3)]) (rb := [(Str.ofString "depth", .int 1 t3), (Str.ofString "height", v2), (Str.ofString "width", v1), (Str.ofString "self", .ref x1)]) ?k1 ?k2 ?k3 ?k4 ?k5 ?kA ?kF ?kK ?k6 ?k7 ?k8 ?k9 ?kB rfl ?_ ?c2 ?c3 ?c4 ?c5; (case kA => exact rfl); (case kF => exact rfl); (case kK => exact hk); (case k1 => exact B); (case k3 => exact X); (case k5 => exact T); (case k6 => k_is); (case k7 => k_is); (case c5 => decide); (case kB => exact locs rfl); (case c2 => exact rfl); (case c3 => exact rfl); (case c4 => exact rfl); (case k2 => k_asm); (case k4 => k_asm); (case k8 => k_extra "mine:dp"); (case k9 => exact BindsTo.of_eq rfl); k_whole; intro g' L' h' tk' FG' m9 F' N' B' X' T' A9 qk ek)
  k_steps
  all_goals (first | (refine' hret _ [(_, _), (_, _), (_, _)] ?z08 ?z18 _ _ ?zF8 ?zN8; (case zF8 => assumption); (case zN8 => assumption); (case z08 => k_extra "mine:fresh"); (case z18 => exact .rule (by k_extra "mine:at") (by k_extra "mine:at") p1.v (by k_extra "mine:at") p2.v (by k_extra "mine:at"))))

end
end
section
section
variable {w : World} {p : Program} {loose : List Str} {mean : ExcName → Option Value} {mg mb : Str → Option Value}
noncomputable def HO (b : Nat) (o : Obj) : Prop := ∃ W c t1 t2 n, o = PySem.W.listOf #[.int W t1, .int c t2] n ∧ 0 ≤ W ∧ 0 ≤ c ∧ c ≤ (b : Int)
theorem HO.mk {b : Nat} {W c : Int} {t1 t2 : Tok} {n : Nat} (h1 : 0 ≤ W) (h2 : 0 ≤ c) (h3 : c ≤ (b : Int)) : HO b (PySem.W.listOf #[.int W t1, .int c t2] n) := ⟨_, _, _, _, _, rfl, h1, h2, h3⟩
theorem Fresh.chg {tl rest : Led} {H : Addr} {o o' : Obj} (h : Fresh tl ((H, o) :: rest)) : Fresh tl ((H, o') :: rest) := fun q hq p hp => by
  rcases List.mem_cons.mp hp with rfl | hp
  · exact h q hq (H, o) (.head _)
  · exact h q hq p (.tail _ hp)
theorem Fresh.offH {tl rest : Led} {H : Addr} {o : Obj} (h : Fresh tl ((H, o) :: rest)) : ∀ p ∈ tl, p.1 ≠ H := h.ne (.head _)
theorem Fresh.tl {tl rest : Led} {q : Addr × Obj} (h : Fresh tl (q :: rest)) : Fresh tl rest := h.sub fun _ h => .tail _ h
theorem News.front {h₀ h : Heap} {L : Addr} {x : Addr × Obj} : ∀ {tl rest : Led}, News h₀ L h (tl ++ x :: rest) → News h₀ L h (x :: (tl ++ rest)) := fun N q hq => N q (by
  simp only [List.mem_cons, List.mem_append] at hq ⊢
  rcases hq with h | h | h
  · exact .inr (.inl h)
  · exact .inl h
  · exact .inr (.inr h))
theorem News.re {h₀ h : Heap} {L : Addr} {led led' : Led} (N : News h₀ L h led) (hs : ∀ q ∈ led', q ∈ led) : News h₀ L h led' := fun q hq => N q (hs q hq)
noncomputable def Gl.ok (g : Gl) : Prop := -4 ≤ g.w ∧ g.w ≤ 19 ∧ 0 ≤ g.st ∧ g.st ≤ 5 ∧ 0 ≤ g.so ∧ g.so ≤ 3 ∧ 0 ≤ g.sh ∧ g.sh ≤ 4 ∧ 0 ≤ g.sho ∧ g.sho ≤ 1
theorem Gl.ok_mk {a b c d e c' e' : Int} (hc : c' = if b = 0 then 0 else c) (he : e' = if d = 0 then 0 else e) (h1 : -4 ≤ a) (h2 : a ≤ 19) (h3 : 0 ≤ b) (h4 : b < 6) (h5 : 0 ≤ c) (h6 : c < 4) (h7 : 0 ≤ d) (h8 : d < 5) (h9 : 0 ≤ e) (h10 : e < 2) : Gl.ok ⟨a, b, c', d, e'⟩ := by
  unfold Gl.ok
  dsimp only
  refine ⟨h1, h2, h3, by omega, ?_, ?_, h7, by omega, ?_, ?_⟩
  all_goals (first | rw [hc] | rw [he])
  all_goals (split <;> omega)

theorem reg_bnd : True := by
  k_with "mine:bnd" => first | (first | assumption | ((repeat (refine Nat.succ_le_succ ?_)); exact Nat.le_trans hb (Nat.le_of_ble_eq_true rfl)) | omega) | fail
  trivial

theorem take_k {H : Addr} {b : Nat} {o : Obj} {rest : Led} {many : Int} {t : Tok} (hr : ∀ p ∈ rest, p.1 ≠ H) (ho : HO b o) (hb : b ≤ 10000) (hm : 0 < many) (hm2 : many ≤ 1000) :
  Kt w p loose mean mg mb 1 (.ref 693) [.ref H, .int many t] [] ((H, o) :: rest) (fun K => ∀ d td o', (0 ≤ d) → (d < many) → (HO (b + 1) o') → K (.int d td) ((H, o') :: rest)) := by
  unfold Kt
  intro dpC unC gdC cnC csC L aC ccdC clC outer A₀ base h₀ mC hp sg sd tk₀ ox Q E B F X N T hk hd hu hret
  obtain ⟨W, c, t1, t2, n, rfl, hW, hc, hc2⟩ := ho
  refine wpAny_call ?_
  k_dflt (refine' code_defL (binds := [(Str.ofString "heap", .ref H), (Str.ofString "many", .int many t)]) (rb := [(Str.ofString "many", .int many t), (Str.ofString "heap", .ref H)]) ?k1 ?k2 ?k3 ?k4 ?k5 ?kA ?kF ?kK ?k6 ?k7 ?k8 ?k9 ?kB rfl ?_ ?c2 ?c3 ?c4 ?c5; (case kA => exact rfl); (case kF => exact rfl); (case kK => exact hk); (case k1 => exact B); (case k3 => exact X); (case k5 => exact T); (case k6 => k_is); (case k7 => k_is); (case c5 => decide); (case kB => exact locs rfl); (case c2 => exact rfl); (case c3 => exact rfl); (case c4 => exact rfl); (case k2 => exact F); (case k4 => exact N); (case k8 => exact dp_ltz hd); (case k9 => exact BindsTo.of_eq rfl); k_whole; intro g' L' h' tk' FG' m9 F' N' B' X' T' A9 qk ek)
  k_steps
  all_goals (first | (refine' hret _ _ _ ?z08 ?z18 ?z28 _ _ ?zF8 ?zN8; (case zF8 => assumption); (case zN8 => assumption); (case z08 => first | omega | exact Int.fmod_nonneg_of_pos _ (by omega)); (case z18 => first | omega | exact Int.fmod_lt_of_pos _ (by omega)); (case z28 => exact HO.mk (by first | omega | exact Int.fdiv_nonneg (by omega) (by omega)) (by omega) (by omega))))

theorem reg_take_k : True := by
  k_with "w:call ref" => first | ((k_here; (with_reducible show wpAny _ _ (call (Value.ref 693) _ _) _ _ _); ((first | with_reducible refine' Kt.use (Kt.pick ?pk_k9 (take_k ?c1_k9 ?c2_k9 ?c3_k9 ?c4_k9 ?c5_k9)) ?hh_k9 ?hf_k9 ?B_k9 ?F_k9 ?X_k9 ?N_k9 ?T_k9 ?hk_k9 ?hd_k9 ?hu_k9 ?_ | k_dflt (refine' Kt.use (Kt.pick ?pk_k9 (take_k ?c1_k9 ?c2_k9 ?c3_k9 ?c4_k9 ?c5_k9)) ?hh_k9 ?hf_k9 ?B_k9 ?F_k9 ?X_k9 ?N_k9 ?T_k9 ?hk_k9 ?hd_k9 ?hu_k9 ?_)); k_dflt ((case F_k9 => k_asm); (case B_k9 => k_asm); (case X_k9 => k_asm); (case N_k9 => k_asm); (case T_k9 => k_asm); (case pk_k9 => k_extra "mine:pick"); (case hh_k9 => exact rfl); (case hf_k9 => exact rfl); (case hk_k9 => first | exact rfl | assumption); (case hd_k9 => k_extra "mine:dp"); (case hu_k9 => k_extra "mine:un"); (case c1_k9 => first | assumption | k_all); (case c2_k9 => assumption); (case c3_k9 => k_extra "mine:bnd"); (case c4_k9 => decide); (case c5_k9 => decide))); intro d9 td9 o9 g1 g2 ho9 h9 tk9 F9 N9; (try k_sweep); (try dsimp only); (try k_fold))) | fail
  trivial

theorem size_k {H : Addr} {b : Nat} {o : Obj} {rest : Led} (hr : ∀ p ∈ rest, p.1 ≠ H) (ho : HO b o) (hb : b ≤ 9900) :
  Kt w p loose mean mg mb 2 (.ref 700) [.ref H] [] ((H, o) :: rest) (fun K => ∀ d td o', (-4 ≤ d) → (d ≤ 19) → (HO (b + 1) o') → K (.int d td) ((H, o') :: rest)) := by
  unfold Kt
  intro dpC unC gdC cnC csC L aC ccdC clC outer A₀ base h₀ mC hp sg sd tk₀ ox Q E B F X N T hk hd hu hret
  refine wpAny_call ?_
  k_dflt (refine' code_defL (binds := [(Str.ofString "heap", .ref H)]) (rb := [(Str.ofString "heap", .ref H)]) ?k1 ?k2 ?k3 ?k4 ?k5 ?kA ?kF ?kK ?k6 ?k7 ?k8 ?k9 ?kB rfl ?_ ?c2 ?c3 ?c4 ?c5; (case kA => exact rfl); (case kF => exact rfl); (case kK => exact hk); (case k1 => exact B); (case k3 => exact X); (case k5 => exact T); (case k6 => k_is); (case k7 => k_is); (case c5 => decide); (case kB => exact locs rfl); (case c2 => exact rfl); (case c3 => exact rfl); (case c4 => exact rfl); (case k2 => exact F); (case k4 => exact N); (case k8 => exact dp_ltz hd); (case k9 => exact BindsTo.of_eq rfl); k_whole; intro g' L' h' tk' FG' m9 F' N' B' X' T' A9 qk ek)
  k_steps
  all_goals (first | (refine' hret _ _ _ ?z08 ?z18 ?z28 _ _ ?zF8 ?zN8; (case zF8 => assumption); (case zN8 => assumption); (case z08 => omega); (case z18 => omega); (case z28 => assumption)))

theorem reg_K3_6052 : True := by
  k_with "w:call ref" => first | ((k_here; (with_reducible show wpAny _ _ (call (Value.ref 700) _ _) _ _ _); ((first | with_reducible refine' Kt.use (Kt.pick ?pk_k9 (size_k ?c1_k9 ?c2_k9 ?c3_k9)) ?hh_k9 ?hf_k9 ?B_k9 ?F_k9 ?X_k9 ?N_k9 ?T_k9 ?hk_k9 ?hd_k9 ?hu_k9 ?_ | k_dflt (refine' Kt.use (Kt.pick ?pk_k9 (size_k ?c1_k9 ?c2_k9 ?c3_k9)) ?hh_k9 ?hf_k9 ?B_k9 ?F_k9 ?X_k9 ?N_k9 ?T_k9 ?hk_k9 ?hd_k9 ?hu_k9 ?_)); k_dflt ((case F_k9 => k_asm); (case B_k9 => k_asm); (case X_k9 => k_asm); (case N_k9 => k_asm); (case T_k9 => k_asm); (case pk_k9 => k_extra "mine:pick"); (case hh_k9 => exact rfl); (case hf_k9 => exact rfl); (case hk_k9 => first | exact rfl | assumption); (case hd_k9 => k_extra "mine:dp"); (case hu_k9 => k_extra "mine:un"); (case c1_k9 => first | assumption | k_all); (case c2_k9 => assumption); (case c3_k9 => k_extra "mine:bnd"))); intro d9 td9 o9 g1 g2 ho9 h9 tk9 F9 N9; (try k_sweep); (try dsimp only); (try k_fold))) | fail
  k_with "w:call ref" => first | ((k_here; (with_reducible show wpAny _ _ (call (Value.ref 250) _ _) _ _ _); ((first | with_reducible refine' Kt.use (glue_k ?c1_k9 ?c2_k9 ?c3_k9 ?c4_k9 ?c5_k9 ?c6_k9 ?c7_k9 ?c8_k9 ?c9_k9 ?c10_k9) ?hh_k9 ?hf_k9 ?B_k9 ?F_k9 ?X_k9 ?N_k9 ?T_k9 ?hk_k9 ?hd_k9 ?hu_k9 ?_ | k_dflt (refine' Kt.use (glue_k ?c1_k9 ?c2_k9 ?c3_k9 ?c4_k9 ?c5_k9 ?c6_k9 ?c7_k9 ?c8_k9 ?c9_k9 ?c10_k9) ?hh_k9 ?hf_k9 ?B_k9 ?F_k9 ?X_k9 ?N_k9 ?T_k9 ?hk_k9 ?hd_k9 ?hu_k9 ?_)); k_dflt ((case F_k9 => k_asm); (case B_k9 => k_asm); (case X_k9 => k_asm); (case N_k9 => k_asm); (case T_k9 => k_asm); (case hh_k9 => exact rfl); (case hf_k9 => exact rfl); (case hk_k9 => first | exact rfl | assumption); (case hd_k9 => k_extra "mine:dp"); (case hu_k9 => k_extra "mine:un"); (case c1_k9 => first | assumption | (refine Int.le_trans ?_ (by assumption); decide) | (refine Int.le_trans (by assumption) ?_; decide) | omega); (case c2_k9 => first | assumption | (refine Int.le_trans ?_ (by assumption); decide) | (refine Int.le_trans (by assumption) ?_; decide) | omega); (case c3_k9 => first | assumption | (refine Int.le_trans ?_ (by assumption); decide) | (refine Int.le_trans (by assumption) ?_; decide) | omega); (case c4_k9 => first | assumption | (refine Int.le_trans ?_ (by assumption); decide) | (refine Int.le_trans (by assumption) ?_; decide) | omega); (case c5_k9 => first | assumption | (refine Int.le_trans ?_ (by assumption); decide) | (refine Int.le_trans (by assumption) ?_; decide) | omega); (case c6_k9 => first | assumption | (refine Int.le_trans ?_ (by assumption); decide) | (refine Int.le_trans (by assumption) ?_; decide) | omega); (case c7_k9 => first | assumption | (refine Int.le_trans ?_ (by assumption); decide) | (refine Int.le_trans (by assumption) ?_; decide) | omega); (case c8_k9 => first | assumption | (refine Int.le_trans ?_ (by assumption); decide) | (refine Int.le_trans (by assumption) ?_; decide) | omega); (case c9_k9 => first | assumption | (refine Int.le_trans ?_ (by assumption); decide) | (refine Int.le_trans (by assumption) ?_; decide) | omega); (case c10_k9 => first | assumption | (refine Int.le_trans ?_ (by assumption); decide) | (refine Int.le_trans (by assumption) ?_; decide) | omega))); intro a9 tl9 so9 sho9 f9 e39 e49 gl9 h9 tk9 F9 N9; (try k_sweep); (try dsimp only); (try k_fold))) | fail
  trivial
theorem flow_k {H : Addr} {b : Nat} {o : Obj} {rest : Led} (hr : ∀ p ∈ rest, p.1 ≠ H) (ho : HO b o) (hb : b ≤ 9800) :
  Kt w p loose mean mg mb 6 (.ref 707) [.ref H] [] ((H, o) :: rest) (fun K => ∀ a g tl o', (Fresh tl ((H, o) :: rest)) → (HO (b + 5) o') → (GlueIn w tl a g) → (g.ok) → K (.ref a) ((H, o') :: (tl ++ rest))) := by
  unfold Kt
  intro dpC unC gdC cnC csC L aC ccdC clC outer A₀ base h₀ mC hp sg sd tk₀ ox Q E B F X N T hk hd hu hret
  refine wpAny_call ?_
  k_dflt (refine' code_defL (binds := [(Str.ofString "heap", .ref H)]) (rb := [(Str.ofString "heap", .ref H)]) ?k1 ?k2 ?k3 ?k4 ?k5 ?kA ?kF ?kK ?k6 ?k7 ?k8 ?k9 ?kB rfl ?_ ?c2 ?c3 ?c4 ?c5; (case kA => exact rfl); (case kF => exact rfl); (case kK => exact hk); (case k1 => exact B); (case k3 => exact X); (case k5 => exact T); (case k6 => k_is); (case k7 => k_is); (case c5 => decide); (case kB => exact locs rfl); (case c2 => exact rfl); (case c3 => exact rfl); (case c4 => exact rfl); (case k2 => exact F); (case k4 => exact N); (case k8 => exact dp_ltz hd); (case k9 => exact BindsTo.of_eq rfl); k_whole; intro g' L' h' tk' FG' m9 F' N' B' X' T' A9 qk ek)
  k_steps
  all_goals (first | (refine' hret _ _ _ _ ?z08 ?z18 ?z28 ?z38 _ _ ?zF8 ?zN8; (case zF8 => assumption); (case zN8 => exact News.front (by assumption)); (case z08 => exact Fresh.chg (by assumption)); (case z18 => assumption); (case z28 => assumption); (case z38 => exact Gl.ok_mk (by assumption) (by assumption) (by assumption) (by assumption) (by assumption) (by assumption) (by assumption) (by assumption) (by assumption) (by assumption) (by assumption) (by assumption))))

end
end
section
section
variable {w : World} {p : Program} {loose : List Str} {mean : ExcName → Option Value} {mg mb : Str → Option Value}
noncomputable def Nd.ok : Nd → Prop
  | .box k wd ht dp sf sg od r1 r2 items => 2 ≤ k ∧ k ≤ 3 ∧ -4 ≤ wd ∧ wd ≤ 19 ∧ -4 ≤ ht ∧ ht ≤ 19 ∧ -4 ≤ dp ∧ dp ≤ 19 ∧ -2 ≤ sf ∧ sf ≤ 3 ∧ sg = 0 ∧ od = 0 ∧ r1 = 0 ∧ r2 = 1 ∧ (items = [] ∨ ∃ x, items = [.kern x])
  | .rule wd ht dp => (wd = none ∨ wd = some 4) ∧ (ht = none ∨ ht = some 6) ∧ dp = 1
  | .kern wd => -4 ≤ wd ∧ wd ≤ 19
  | .skip g s => g.ok ∧ s = 0
  | .pen v => -4 ≤ v ∧ v ≤ 19
  | _ => True
inductive PartIn (w : World) (S : Led) : Value → Nd → Prop
  | box {a d rt l : Addr} {es : List DictEntry} {n n1 n2 : Nat} {vs : List Value} {items : List Nd} {k wd ht dp sf sg od r1 r2 : Int} {t1 t2 t3 t4 t5 t6 t7 t8 t9 : Tok} (S0 : Led) : (a, instObj 358 d) ∈ S → (d, dictOf es n) ∈ S →
      BoxEs w es (.int k t1) (.int wd t2) (.int ht t3) (.int dp t4) (.ref l) (.int sf t5) (.int sg t6) (.int od t7) (.ref rt) → (∀ q ∈ S0, q ∈ S) → (∀ q ∈ S0, q.1 ≠ d) → (a, instObj 358 d) ∈ S0 → (rt, tupO [.int r1 t8, .int r2 t9] n2) ∈ S0 →
      (l, PySem.W.listOf vs.toArray n1) ∈ S0 → NodesIn w S0 vs items → PartIn w S (.ref a) (.box k wd ht dp sf sg od r1 r2 items)
  | plain {v : Value} {nd : Nd} : NodeIn w S v nd → nd.kind ≠ 2 → nd.kind ≠ 3 → PartIn w S v nd
theorem PartIn.mono {w : World} {S S' : Led} {v : Value} {nd : Nd} (h : PartIn w S v nd) (hs : ∀ q ∈ S, q ∈ S') : PartIn w S' v nd := by
  cases h with
  | box S0 a1 a2 b c1 c2 c3 c4 c5 c6 => exact .box S0 (hs _ a1) (hs _ a2) b (fun q hq => hs q (c1 q hq)) c2 c3 c4 c5 c6
  | plain h k1 k2 => exact .plain (h.mono hs) k1 k2
section
variable {prog : Program} {w : World} {A : Around} {E : Value → Shared → Prop} {s : Shared} {h₀ : Heap} {L : Addr} {m : Str → Option Value} {led : Led}
theorem item_opt {value slice : PySem.Expr} {l : Addr} {c : Int} {t : Tok} {n : Nat} {k : Int} {u : Tok} {Q : Value → Shared → Prop} (N : News h₀ L s.heap led) (hm : (l, PySem.W.listOf #[.none, .int c t] n) ∈ led) (h0 : 0 ≤ k) (hhi : k < 2) (hc : -1000000 ≤ c) (hc2 : c ≤ 1000000) (h : ∀ v o, optW o v → (o = none ∨ o = some c) → Q v s)
    (hs : subscripted slice false (.ref l) (.int k u) = operate [.ref l, .int k u] (getItem (.ref l) (.int k u)) := by with_unfolding_all rfl) :
    wpAny (model prog w) A (subscriptTail value slice (.ref l) (.int k u)) Q E s := by
  have hk : k = 0 ∨ k = 1 := by omega
  rcases hk with rfl | rfl
  · exact item_led (vs := [_, _]) N hm (by decide) (by decide) rfl (h _ none (.inl ⟨rfl, rfl⟩) (.inl rfl)) hs
  · exact item_led (vs := [_, _]) N hm (by decide) (by decide) rfl (h _ (some c) (.inr ⟨_, _, rfl, rfl, hc, hc2⟩) (.inr rfl)) hs
theorem item_three {value slice : PySem.Expr} {l : Addr} {v0 v1 v2 lo hi : Int} {t0 t1 t2 : Tok} {n : Nat} {k : Int} {u : Tok} {Q : Value → Shared → Prop} (N : News h₀ L s.heap led) (hm : (l, PySem.W.listOf #[.int v0 t0, .int v1 t1, .int v2 t2] n) ∈ led) (h0 : 0 ≤ k) (hhi : k < 3) (hb : lo ≤ v0 ∧ v0 ≤ hi ∧ lo ≤ v1 ∧ v1 ≤ hi ∧ lo ≤ v2 ∧ v2 ≤ hi) (h : ∀ x t, lo ≤ x → x ≤ hi → Q (.int x t) s)
    (hs : subscripted slice false (.ref l) (.int k u) = operate [.ref l, .int k u] (getItem (.ref l) (.int k u)) := by with_unfolding_all rfl) :
    wpAny (model prog w) A (subscriptTail value slice (.ref l) (.int k u)) Q E s := by
  have hk : k = 0 ∨ k = 1 ∨ k = 2 := by omega
  obtain ⟨b1, b2, b3, b4, b5, b6⟩ := hb
  rcases hk with rfl | rfl | rfl
  · exact item_led (vs := [_, _, _]) N hm (by decide) (by decide) rfl (h _ _ b1 b2) hs
  · exact item_led (vs := [_, _, _]) N hm (by decide) (by decide) rfl (h _ _ b3 b4) hs
  · exact item_led (vs := [_, _, _]) N hm (by decide) (by decide) rfl (h _ _ b5 b6) hs
end

theorem UpdF.app {d : Addr} {o : Obj} {r : Led} {g : Obj → Led} : ∀ {t : Led}, (∀ q ∈ t, q.1 ≠ d) → UpdF d o r g → UpdF d o (t ++ r) (fun o' => t ++ g o')
  | [], _, h => h
  | q :: t, k, h => .tail (k q (.head _)) (UpdF.app (fun x hx => k x (.tail _ hx)) h)
section
variable {A : Around} {E : Value → Shared → Prop} {s : Shared} {h₀ : Heap} {L a d : Addr} {m : Str → Option Value} {led : Led} {g : Obj → Led} {es : List DictEntry} {n : Nat} {v1 v2 v3 v4 v5 v6 v7 v8 v9 v : Value}
theorem box_at {S : Led} {x : Str} (h1 : (a, instObj 358 d) ∈ S) (h2 : (d, dictOf es n) ∈ S) (hg : plainGet (Mine.hd.heap_1 w.params) 358 x = true) (hh : hasDictIn (Mine.hd.heap_1 w.params) 358 = true)
    (ha : findIn (Mine.hd.heap_1 w.params) (.ref 358) x = some none) (hl : getL x es = some (some v)) (hv : handedIn v = true) : At w S a x v := At.own h1 h2 hg hh ha rfl hl hv
theorem box_hd : hasDictIn (Mine.hd.heap_1 w.params) 358 = true := by k_is

theorem BoxEs.at_kind {S : Led} (b : BoxEs w es v1 v2 v3 v4 v5 v6 v7 v8 v9) (h1 : (a, instObj 358 d) ∈ S) (h2 : (d, dictOf es n) ∈ S) (hv : handedIn v1 = true) : At w S a "kind" v1 := by
  cases b
  exact box_at h1 h2 (by k_is) box_hd (by k_is) (by k_get) hv

theorem BoxEs.at_width {S : Led} (b : BoxEs w es v1 v2 v3 v4 v5 v6 v7 v8 v9) (h1 : (a, instObj 358 d) ∈ S) (h2 : (d, dictOf es n) ∈ S) (hv : handedIn v2 = true) : At w S a "width" v2 := by
  cases b
  exact box_at h1 h2 (by k_is) box_hd (by k_is) (by k_get) hv

theorem BoxEs.at_height {S : Led} (b : BoxEs w es v1 v2 v3 v4 v5 v6 v7 v8 v9) (h1 : (a, instObj 358 d) ∈ S) (h2 : (d, dictOf es n) ∈ S) (hv : handedIn v3 = true) : At w S a "height" v3 := by
  cases b
  exact box_at h1 h2 (by k_is) box_hd (by k_is) (by k_get) hv

theorem BoxEs.at_depth {S : Led} (b : BoxEs w es v1 v2 v3 v4 v5 v6 v7 v8 v9) (h1 : (a, instObj 358 d) ∈ S) (h2 : (d, dictOf es n) ∈ S) (hv : handedIn v4 = true) : At w S a "depth" v4 := by
  cases b
  exact box_at h1 h2 (by k_is) box_hd (by k_is) (by k_get) hv

theorem BoxEs.at_items {S : Led} (b : BoxEs w es v1 v2 v3 v4 v5 v6 v7 v8 v9) (h1 : (a, instObj 358 d) ∈ S) (h2 : (d, dictOf es n) ∈ S) (hv : handedIn v5 = true) : At w S a "items" v5 := by
  cases b
  exact box_at h1 h2 (by k_is) box_hd (by k_is) (by k_get) hv

theorem BoxEs.at_shift {S : Led} (b : BoxEs w es v1 v2 v3 v4 v5 v6 v7 v8 v9) (h1 : (a, instObj 358 d) ∈ S) (h2 : (d, dictOf es n) ∈ S) (hv : handedIn v6 = true) : At w S a "shift" v6 := by
  cases b
  exact box_at h1 h2 (by k_is) box_hd (by k_is) (by k_get) hv

theorem BoxEs.at_sign {S : Led} (b : BoxEs w es v1 v2 v3 v4 v5 v6 v7 v8 v9) (h1 : (a, instObj 358 d) ∈ S) (h2 : (d, dictOf es n) ∈ S) (hv : handedIn v7 = true) : At w S a "sign" v7 := by
  cases b
  exact box_at h1 h2 (by k_is) box_hd (by k_is) (by k_get) hv

theorem BoxEs.at_order {S : Led} (b : BoxEs w es v1 v2 v3 v4 v5 v6 v7 v8 v9) (h1 : (a, instObj 358 d) ∈ S) (h2 : (d, dictOf es n) ∈ S) (hv : handedIn v8 = true) : At w S a "order" v8 := by
  cases b
  exact box_at h1 h2 (by k_is) box_hd (by k_is) (by k_get) hv

theorem BoxEs.at_ratio {S : Led} (b : BoxEs w es v1 v2 v3 v4 v5 v6 v7 v8 v9) (h1 : (a, instObj 358 d) ∈ S) (h2 : (d, dictOf es n) ∈ S) (hv : handedIn v9 = true) : At w S a "ratio" v9 := by
  cases b
  exact box_at h1 h2 (by k_is) box_hd (by k_is) (by k_get) hv

theorem box_set_shift {Q : Unit → Shared → Prop} (b : BoxEs w es v1 v2 v3 v4 v5 v6 v7 v8 v9) (F : Fr h₀ L s.heap m) (X : (Mine.hd.heap_1 w.params).In h₀) (N : News h₀ L s.heap led) (h1 : (a, instObj 358 d) ∈ led) (h2 : (d, dictOf es n) ∈ led) (U : UpdF d (dictOf es n) led g)
  (k : ∀ es' h', BoxEs w es' v1 v2 v3 v4 v5 v v7 v8 v9 → Fr h₀ L h' m → News h₀ L h' (g (dictOf es' n)) → Q () { s with heap := h', toks := s.toks + 2 }) : wpAny (model PG w) A (setAttr (.ref a) "shift" v) Q E s := by
  cases b with
  | mk t1 t2 t3 t4 t5 t6 t7 t8 t9 =>
    obtain ⟨pre, post, e1, e2, o1, o2⟩ := U.split
    have U2 : ∀ o', Upd d (dictOf _ n) o' led (g o') := fun o' => by rw [e1, e2]; exact Upd.app o1 (.head o2)
    refine' set_dict F X N (InstAt.of_news N h1 h2) rfl ?k6 ?k7 ?k8 ?k9 ?k10 ?k11 ?k12 ?k13 ?_; (case k6 => k_is); (case k7 => k_is); (case k8 => k_is); (case k9 => k_is); (case k10 => k_get); (case k11 => exact (by with_unfolding_all rfl : _ = (([⟨PyData.keyHash w.params "kind", .str "kind" t1, v1⟩, ⟨PyData.keyHash w.params "width", .str "width" t2, v2⟩, ⟨PyData.keyHash w.params "height", .str "height" t3, v3⟩, ⟨PyData.keyHash w.params "depth", .str "depth" t4, v4⟩, ⟨PyData.keyHash w.params "items", .str "items" t5, v5⟩, ⟨PyData.keyHash w.params "shift", .str "shift" t6, v⟩, ⟨PyData.keyHash w.params "sign", .str "sign" t7, v7⟩, ⟨PyData.keyHash w.params "order", .str "order" t8, v8⟩, ⟨PyData.keyHash w.params "ratio", .str "ratio" t9, v9⟩] : List DictEntry), n))); (case k12 => exact U2 _); (case k13 => exact Nat.le_of_ble_eq_true rfl)
    intro h' F' N'
    exact k _ h' (.mk t1 t2 t3 t4 t5 t6 t7 t8 t9) F' N'

theorem box_set_sign {Q : Unit → Shared → Prop} (b : BoxEs w es v1 v2 v3 v4 v5 v6 v7 v8 v9) (F : Fr h₀ L s.heap m) (X : (Mine.hd.heap_1 w.params).In h₀) (N : News h₀ L s.heap led) (h1 : (a, instObj 358 d) ∈ led) (h2 : (d, dictOf es n) ∈ led) (U : UpdF d (dictOf es n) led g)
  (k : ∀ es' h', BoxEs w es' v1 v2 v3 v4 v5 v6 v v8 v9 → Fr h₀ L h' m → News h₀ L h' (g (dictOf es' n)) → Q () { s with heap := h', toks := s.toks + 2 }) : wpAny (model PG w) A (setAttr (.ref a) "sign" v) Q E s := by
  cases b with
  | mk t1 t2 t3 t4 t5 t6 t7 t8 t9 =>
    obtain ⟨pre, post, e1, e2, o1, o2⟩ := U.split
    have U2 : ∀ o', Upd d (dictOf _ n) o' led (g o') := fun o' => by rw [e1, e2]; exact Upd.app o1 (.head o2)
    refine' set_dict F X N (InstAt.of_news N h1 h2) rfl ?k6 ?k7 ?k8 ?k9 ?k10 ?k11 ?k12 ?k13 ?_; (case k6 => k_is); (case k7 => k_is); (case k8 => k_is); (case k9 => k_is); (case k10 => k_get); (case k11 => exact (by with_unfolding_all rfl : _ = (([⟨PyData.keyHash w.params "kind", .str "kind" t1, v1⟩, ⟨PyData.keyHash w.params "width", .str "width" t2, v2⟩, ⟨PyData.keyHash w.params "height", .str "height" t3, v3⟩, ⟨PyData.keyHash w.params "depth", .str "depth" t4, v4⟩, ⟨PyData.keyHash w.params "items", .str "items" t5, v5⟩, ⟨PyData.keyHash w.params "shift", .str "shift" t6, v6⟩, ⟨PyData.keyHash w.params "sign", .str "sign" t7, v⟩, ⟨PyData.keyHash w.params "order", .str "order" t8, v8⟩, ⟨PyData.keyHash w.params "ratio", .str "ratio" t9, v9⟩] : List DictEntry), n))); (case k12 => exact U2 _); (case k13 => exact Nat.le_of_ble_eq_true rfl)
    intro h' F' N'
    exact k _ h' (.mk t1 t2 t3 t4 t5 t6 t7 t8 t9) F' N'

theorem box_set_order {Q : Unit → Shared → Prop} (b : BoxEs w es v1 v2 v3 v4 v5 v6 v7 v8 v9) (F : Fr h₀ L s.heap m) (X : (Mine.hd.heap_1 w.params).In h₀) (N : News h₀ L s.heap led) (h1 : (a, instObj 358 d) ∈ led) (h2 : (d, dictOf es n) ∈ led) (U : UpdF d (dictOf es n) led g)
  (k : ∀ es' h', BoxEs w es' v1 v2 v3 v4 v5 v6 v7 v v9 → Fr h₀ L h' m → News h₀ L h' (g (dictOf es' n)) → Q () { s with heap := h', toks := s.toks + 2 }) : wpAny (model PG w) A (setAttr (.ref a) "order" v) Q E s := by
  cases b with
  | mk t1 t2 t3 t4 t5 t6 t7 t8 t9 =>
    obtain ⟨pre, post, e1, e2, o1, o2⟩ := U.split
    have U2 : ∀ o', Upd d (dictOf _ n) o' led (g o') := fun o' => by rw [e1, e2]; exact Upd.app o1 (.head o2)
    refine' set_dict F X N (InstAt.of_news N h1 h2) rfl ?k6 ?k7 ?k8 ?k9 ?k10 ?k11 ?k12 ?k13 ?_; (case k6 => k_is); (case k7 => k_is); (case k8 => k_is); (case k9 => k_is); (case k10 => k_get); (case k11 => exact (by with_unfolding_all rfl : _ = (([⟨PyData.keyHash w.params "kind", .str "kind" t1, v1⟩, ⟨PyData.keyHash w.params "width", .str "width" t2, v2⟩, ⟨PyData.keyHash w.params "height", .str "height" t3, v3⟩, ⟨PyData.keyHash w.params "depth", .str "depth" t4, v4⟩, ⟨PyData.keyHash w.params "items", .str "items" t5, v5⟩, ⟨PyData.keyHash w.params "shift", .str "shift" t6, v6⟩, ⟨PyData.keyHash w.params "sign", .str "sign" t7, v7⟩, ⟨PyData.keyHash w.params "order", .str "order" t8, v⟩, ⟨PyData.keyHash w.params "ratio", .str "ratio" t9, v9⟩] : List DictEntry), n))); (case k12 => exact U2 _); (case k13 => exact Nat.le_of_ble_eq_true rfl)
    intro h' F' N'
    exact k _ h' (.mk t1 t2 t3 t4 t5 t6 t7 t8 t9) F' N'

theorem box_set_ratio {Q : Unit → Shared → Prop} (b : BoxEs w es v1 v2 v3 v4 v5 v6 v7 v8 v9) (F : Fr h₀ L s.heap m) (X : (Mine.hd.heap_1 w.params).In h₀) (N : News h₀ L s.heap led) (h1 : (a, instObj 358 d) ∈ led) (h2 : (d, dictOf es n) ∈ led) (U : UpdF d (dictOf es n) led g)
  (k : ∀ es' h', BoxEs w es' v1 v2 v3 v4 v5 v6 v7 v8 v → Fr h₀ L h' m → News h₀ L h' (g (dictOf es' n)) → Q () { s with heap := h', toks := s.toks + 2 }) : wpAny (model PG w) A (setAttr (.ref a) "ratio" v) Q E s := by
  cases b with
  | mk t1 t2 t3 t4 t5 t6 t7 t8 t9 =>
    obtain ⟨pre, post, e1, e2, o1, o2⟩ := U.split
    have U2 : ∀ o', Upd d (dictOf _ n) o' led (g o') := fun o' => by rw [e1, e2]; exact Upd.app o1 (.head o2)
    refine' set_dict F X N (InstAt.of_news N h1 h2) rfl ?k6 ?k7 ?k8 ?k9 ?k10 ?k11 ?k12 ?k13 ?_; (case k6 => k_is); (case k7 => k_is); (case k8 => k_is); (case k9 => k_is); (case k10 => k_get); (case k11 => exact (by with_unfolding_all rfl : _ = (([⟨PyData.keyHash w.params "kind", .str "kind" t1, v1⟩, ⟨PyData.keyHash w.params "width", .str "width" t2, v2⟩, ⟨PyData.keyHash w.params "height", .str "height" t3, v3⟩, ⟨PyData.keyHash w.params "depth", .str "depth" t4, v4⟩, ⟨PyData.keyHash w.params "items", .str "items" t5, v5⟩, ⟨PyData.keyHash w.params "shift", .str "shift" t6, v6⟩, ⟨PyData.keyHash w.params "sign", .str "sign" t7, v7⟩, ⟨PyData.keyHash w.params "order", .str "order" t8, v8⟩, ⟨PyData.keyHash w.params "ratio", .str "ratio" t9, v⟩] : List DictEntry), n))); (case k12 => exact U2 _); (case k13 => exact Nat.le_of_ble_eq_true rfl)
    intro h' F' N'
    exact k _ h' (.mk t1 t2 t3 t4 t5 t6 t7 t8 t9) F' N'

end
theorem reg_boxes : True := by
  k_with "mine:ne" => first | (first | k_ne | (exact ne_lt (by assumption) (by k_mem)) | (exact ne_lt (allLt_of (by assumption)) (by k_mem)) | (exact ne_gt (by assumption) (by k_mem)) | (exact ne_gt (allLt_of (by assumption)) (by k_mem)) | exact (fun e => absurd e.symm (by k_ne))) | fail
  k_with "mine:updF" => first | (first | ((with_reducible refine UpdF.head ?_); k_all) | ((with_reducible apply UpdF.tail); (k_extra "mine:ne"); k_extra "mine:updF") | ((with_reducible apply UpdF.app); (k_all); k_extra "mine:updF")) | fail
  k_with "w:getAttr ref" => first | ((k_here; (with_reducible show wpAny _ _ (getAttr _ (PySem.Str.ofString "kind") _) _ _ _); ((first | with_reducible refine' at_get (S := _) (BoxEs.at_kind ?b_k9 ?h1_k9 ?h2_k9 ?hv_k9) ?F_k9 ?X_k9 ?N_k9 (fun _ h => h) ?_ | k_dflt (refine' at_get (S := _) (BoxEs.at_kind ?b_k9 ?h1_k9 ?h2_k9 ?hv_k9) ?F_k9 ?X_k9 ?N_k9 (fun _ h => h) ?_)); k_dflt ((case F_k9 => k_asm); (case X_k9 => k_asm); (case N_k9 => k_asm); (case h1_k9 => k_mem); (case h2_k9 => k_mem); (case b_k9 => assumption); (case hv_k9 => exact rfl); k_whole)))) | fail
  k_with "w:getAttr ref" => first | ((k_here; (with_reducible show wpAny _ _ (getAttr _ (PySem.Str.ofString "width") _) _ _ _); ((first | with_reducible refine' at_get (S := _) (BoxEs.at_width ?b_k9 ?h1_k9 ?h2_k9 ?hv_k9) ?F_k9 ?X_k9 ?N_k9 (fun _ h => h) ?_ | k_dflt (refine' at_get (S := _) (BoxEs.at_width ?b_k9 ?h1_k9 ?h2_k9 ?hv_k9) ?F_k9 ?X_k9 ?N_k9 (fun _ h => h) ?_)); k_dflt ((case F_k9 => k_asm); (case X_k9 => k_asm); (case N_k9 => k_asm); (case h1_k9 => k_mem); (case h2_k9 => k_mem); (case b_k9 => assumption); (case hv_k9 => exact rfl); k_whole)))) | fail
  k_with "w:getAttr ref" => first | ((k_here; (with_reducible show wpAny _ _ (getAttr _ (PySem.Str.ofString "height") _) _ _ _); ((first | with_reducible refine' at_get (S := _) (BoxEs.at_height ?b_k9 ?h1_k9 ?h2_k9 ?hv_k9) ?F_k9 ?X_k9 ?N_k9 (fun _ h => h) ?_ | k_dflt (refine' at_get (S := _) (BoxEs.at_height ?b_k9 ?h1_k9 ?h2_k9 ?hv_k9) ?F_k9 ?X_k9 ?N_k9 (fun _ h => h) ?_)); k_dflt ((case F_k9 => k_asm); (case X_k9 => k_asm); (case N_k9 => k_asm); (case h1_k9 => k_mem); (case h2_k9 => k_mem); (case b_k9 => assumption); (case hv_k9 => exact rfl); k_whole)))) | fail
  k_with "w:getAttr ref" => first | ((k_here; (with_reducible show wpAny _ _ (getAttr _ (PySem.Str.ofString "depth") _) _ _ _); ((first | with_reducible refine' at_get (S := _) (BoxEs.at_depth ?b_k9 ?h1_k9 ?h2_k9 ?hv_k9) ?F_k9 ?X_k9 ?N_k9 (fun _ h => h) ?_ | k_dflt (refine' at_get (S := _) (BoxEs.at_depth ?b_k9 ?h1_k9 ?h2_k9 ?hv_k9) ?F_k9 ?X_k9 ?N_k9 (fun _ h => h) ?_)); k_dflt ((case F_k9 => k_asm); (case X_k9 => k_asm); (case N_k9 => k_asm); (case h1_k9 => k_mem); (case h2_k9 => k_mem); (case b_k9 => assumption); (case hv_k9 => exact rfl); k_whole)))) | fail
  k_with "w:getAttr ref" => first | ((k_here; (with_reducible show wpAny _ _ (getAttr _ (PySem.Str.ofString "items") _) _ _ _); ((first | with_reducible refine' at_get (S := _) (BoxEs.at_items ?b_k9 ?h1_k9 ?h2_k9 ?hv_k9) ?F_k9 ?X_k9 ?N_k9 (fun _ h => h) ?_ | k_dflt (refine' at_get (S := _) (BoxEs.at_items ?b_k9 ?h1_k9 ?h2_k9 ?hv_k9) ?F_k9 ?X_k9 ?N_k9 (fun _ h => h) ?_)); k_dflt ((case F_k9 => k_asm); (case X_k9 => k_asm); (case N_k9 => k_asm); (case h1_k9 => k_mem); (case h2_k9 => k_mem); (case b_k9 => assumption); (case hv_k9 => exact rfl); k_whole)))) | fail
  k_with "w:getAttr ref" => first | ((k_here; (with_reducible show wpAny _ _ (getAttr _ (PySem.Str.ofString "shift") _) _ _ _); ((first | with_reducible refine' at_get (S := _) (BoxEs.at_shift ?b_k9 ?h1_k9 ?h2_k9 ?hv_k9) ?F_k9 ?X_k9 ?N_k9 (fun _ h => h) ?_ | k_dflt (refine' at_get (S := _) (BoxEs.at_shift ?b_k9 ?h1_k9 ?h2_k9 ?hv_k9) ?F_k9 ?X_k9 ?N_k9 (fun _ h => h) ?_)); k_dflt ((case F_k9 => k_asm); (case X_k9 => k_asm); (case N_k9 => k_asm); (case h1_k9 => k_mem); (case h2_k9 => k_mem); (case b_k9 => assumption); (case hv_k9 => exact rfl); k_whole)))) | fail
  k_with "w:getAttr ref" => first | ((k_here; (with_reducible show wpAny _ _ (getAttr _ (PySem.Str.ofString "sign") _) _ _ _); ((first | with_reducible refine' at_get (S := _) (BoxEs.at_sign ?b_k9 ?h1_k9 ?h2_k9 ?hv_k9) ?F_k9 ?X_k9 ?N_k9 (fun _ h => h) ?_ | k_dflt (refine' at_get (S := _) (BoxEs.at_sign ?b_k9 ?h1_k9 ?h2_k9 ?hv_k9) ?F_k9 ?X_k9 ?N_k9 (fun _ h => h) ?_)); k_dflt ((case F_k9 => k_asm); (case X_k9 => k_asm); (case N_k9 => k_asm); (case h1_k9 => k_mem); (case h2_k9 => k_mem); (case b_k9 => assumption); (case hv_k9 => exact rfl); k_whole)))) | fail
  k_with "w:getAttr ref" => first | ((k_here; (with_reducible show wpAny _ _ (getAttr _ (PySem.Str.ofString "order") _) _ _ _); ((first | with_reducible refine' at_get (S := _) (BoxEs.at_order ?b_k9 ?h1_k9 ?h2_k9 ?hv_k9) ?F_k9 ?X_k9 ?N_k9 (fun _ h => h) ?_ | k_dflt (refine' at_get (S := _) (BoxEs.at_order ?b_k9 ?h1_k9 ?h2_k9 ?hv_k9) ?F_k9 ?X_k9 ?N_k9 (fun _ h => h) ?_)); k_dflt ((case F_k9 => k_asm); (case X_k9 => k_asm); (case N_k9 => k_asm); (case h1_k9 => k_mem); (case h2_k9 => k_mem); (case b_k9 => assumption); (case hv_k9 => exact rfl); k_whole)))) | fail
  k_with "w:getAttr ref" => first | ((k_here; (with_reducible show wpAny _ _ (getAttr _ (PySem.Str.ofString "ratio") _) _ _ _); ((first | with_reducible refine' at_get (S := _) (BoxEs.at_ratio ?b_k9 ?h1_k9 ?h2_k9 ?hv_k9) ?F_k9 ?X_k9 ?N_k9 (fun _ h => h) ?_ | k_dflt (refine' at_get (S := _) (BoxEs.at_ratio ?b_k9 ?h1_k9 ?h2_k9 ?hv_k9) ?F_k9 ?X_k9 ?N_k9 (fun _ h => h) ?_)); k_dflt ((case F_k9 => k_asm); (case X_k9 => k_asm); (case N_k9 => k_asm); (case h1_k9 => k_mem); (case h2_k9 => k_mem); (case b_k9 => assumption); (case hv_k9 => exact rfl); k_whole)))) | fail
  k_with "w:setAttr ref" => first | ((k_here; (with_reducible show wpAny _ _ (setAttr _ (PySem.Str.ofString "shift") _) _ _ _); ((first | with_reducible refine' box_set_shift ?b_k9 ?F_k9 ?X_k9 ?N_k9 ?h1_k9 ?h2_k9 ?U_k9 ?_ | k_dflt (refine' box_set_shift ?b_k9 ?F_k9 ?X_k9 ?N_k9 ?h1_k9 ?h2_k9 ?U_k9 ?_)); k_dflt ((case F_k9 => k_asm); (case X_k9 => k_asm); (case N_k9 => k_asm); (case h1_k9 => k_mem); (case h2_k9 => k_mem); (case b_k9 => assumption); (case U_k9 => k_extra "mine:updF"); k_whole)); intro es9 h9 b9 F9 N9; (try dsimp only at N9))) | fail
  k_with "w:setAttr ref" => first | ((k_here; (with_reducible show wpAny _ _ (setAttr _ (PySem.Str.ofString "sign") _) _ _ _); ((first | with_reducible refine' box_set_sign ?b_k9 ?F_k9 ?X_k9 ?N_k9 ?h1_k9 ?h2_k9 ?U_k9 ?_ | k_dflt (refine' box_set_sign ?b_k9 ?F_k9 ?X_k9 ?N_k9 ?h1_k9 ?h2_k9 ?U_k9 ?_)); k_dflt ((case F_k9 => k_asm); (case X_k9 => k_asm); (case N_k9 => k_asm); (case h1_k9 => k_mem); (case h2_k9 => k_mem); (case b_k9 => assumption); (case U_k9 => k_extra "mine:updF"); k_whole)); intro es9 h9 b9 F9 N9; (try dsimp only at N9))) | fail
  k_with "w:setAttr ref" => first | ((k_here; (with_reducible show wpAny _ _ (setAttr _ (PySem.Str.ofString "order") _) _ _ _); ((first | with_reducible refine' box_set_order ?b_k9 ?F_k9 ?X_k9 ?N_k9 ?h1_k9 ?h2_k9 ?U_k9 ?_ | k_dflt (refine' box_set_order ?b_k9 ?F_k9 ?X_k9 ?N_k9 ?h1_k9 ?h2_k9 ?U_k9 ?_)); k_dflt ((case F_k9 => k_asm); (case X_k9 => k_asm); (case N_k9 => k_asm); (case h1_k9 => k_mem); (case h2_k9 => k_mem); (case b_k9 => assumption); (case U_k9 => k_extra "mine:updF"); k_whole)); intro es9 h9 b9 F9 N9; (try dsimp only at N9))) | fail
  k_with "w:setAttr ref" => first | ((k_here; (with_reducible show wpAny _ _ (setAttr _ (PySem.Str.ofString "ratio") _) _ _ _); ((first | with_reducible refine' box_set_ratio ?b_k9 ?F_k9 ?X_k9 ?N_k9 ?h1_k9 ?h2_k9 ?U_k9 ?_ | k_dflt (refine' box_set_ratio ?b_k9 ?F_k9 ?X_k9 ?N_k9 ?h1_k9 ?h2_k9 ?U_k9 ?_)); k_dflt ((case F_k9 => k_asm); (case X_k9 => k_asm); (case N_k9 => k_asm); (case h1_k9 => k_mem); (case h2_k9 => k_mem); (case b_k9 => assumption); (case U_k9 => k_extra "mine:updF"); k_whole)); intro es9 h9 b9 F9 N9; (try dsimp only at N9))) | fail
  trivial

end
end
section
section
variable {w : World} {p : Program} {loose : List Str} {mean : ExcName → Option Value} {mg mb : Str → Option Value}
theorem HO.up {b b' : Nat} {o : Obj} (h : HO b o) (k : b ≤ b') : HO b' o := by
  obtain ⟨W, c, t1, t2, n, e, h1, h2, h3⟩ := h
  exact ⟨W, c, t1, t2, n, e, h1, h2, Int.le_trans h3 (Int.ofNat_le.mpr k)⟩
noncomputable def InnP (w : World) (g : Heap) (L : Addr) (m : Str → Option Value) (rest : Led) (H : Addr) (b : Nat) (o : Obj) (s : Shared) (Q : Flow → Shared → Prop) : Prop :=
  ∀ h tk l n vs items tl o', Fr g L h (fun y => if y = "inner" then some (.ref l) else m y) → News g L h ((H, o') :: (tl ++ rest)) → Fresh tl ((H, o) :: rest) → HO (b + 2) o' → (l, PySem.W.listOf vs.toArray n) ∈ tl → NodesIn w tl vs items → (items = [] ∨ ∃ x, items = [.kern x]) → Q .next { s with heap := h, toks := tk }
theorem cut_cps {M : Model} {A : Around} {t : Sem Flow} {Q : Flow → Shared → Prop} {E : Value → Shared → Prop} {s : Shared} (P : Shared → (Flow → Shared → Prop) → Prop) (h1 : ∀ Q', P s Q' → wpAny M A t Q' E s) (h2 : P s Q) : wpAny M A t Q E s := h1 Q h2
theorem lt_chg {D H : Addr} {o o' : Obj} {rest : Led} (h : AllLt D ((H, o') :: rest)) : AllLt D ((H, o) :: rest) := ⟨ktn_ltOf h (H, o') (.head _), allLt_of fun p hp => ktn_ltOf h p (.tail _ hp)⟩
theorem inn_nil {g h : Heap} {L : Addr} {m : Str → Option Value} {rest : Led} {H D : Addr} {b tk : Nat} {o o' : Obj} {s : Shared} {n : Nat} {Q : Flow → Shared → Prop} (hQ : InnP w g L m rest H b o s Q) (F : Fr g L h (fun y => if y = "inner" then some (.ref D) else m y)) (N : News g L h ((D, PySem.W.listOf #[] n) :: (H, o') :: rest)) (lt : AllLt D ((H, o') :: rest)) (ho : HO (b + 1) o') :
    Q .next { s with heap := h, toks := tk } :=
  hQ h tk D n [] [] [(D, PySem.W.listOf #[] n)] o' F (News.front (tl := [_]) N) (Fresh.cons (lt_chg lt) Fresh.nil) (ho.up (Nat.le_succ _)) (.head _) .nil (.inl rfl)
theorem inn_one {g h : Heap} {L : Addr} {m : Str → Option Value} {rest tl : Led} {H D a : Addr} {b tk : Nat} {o o' : Obj} {s : Shared} {n : Nat} {x : Int} {Q : Flow → Shared → Prop} (hQ : InnP w g L m rest H b o s Q) (F : Fr g L h (fun y => if y = "inner" then some (.ref D) else m y)) (N : News g L h ((D, PySem.W.listOf #[.ref a] n) :: (tl ++ (H, o') :: rest))) (lt : AllLt D (tl ++ (H, o') :: rest)) (f : Fresh tl ((H, o') :: rest)) (ho : HO (b + 2) o') (hn : NodeIn w tl (.ref a) (.kern x)) :
    Q .next { s with heap := h, toks := tk } :=
  hQ h tk D n [.ref a] [.kern x] ((D, PySem.W.listOf #[.ref a] n) :: tl) o' F (News.front (tl := (D, PySem.W.listOf #[.ref a] n) :: tl) N) (Fresh.cons (lt_chg (allLt_of fun p hp => ktn_ltOf lt p (List.mem_append_right _ hp))) (Fresh.chg f)) ho (.head _) (.cons (hn.mono fun _ h => .tail _ h) .nil) (.inr ⟨x, rfl⟩)
theorem part_box {a d rt l : Addr} {es : List DictEntry} {n n1 n2 : Nat} {vs : List Value} {items : List Nd} {k wd ht de sf r1 r2 : Int} {t1 t2 t3 t4 t5 t6 t7 t8 t9 : Tok} {tl : Led} {H : Addr} {o : Obj} {rest : Led}
    (b : BoxEs w es (.int k t1) (.int wd t2) (.int ht t3) (.int de t4) (.ref l) (.int sf t5) (.int 0 t6) (.int 0 t7) (.ref rt)) (hl : (l, PySem.W.listOf vs.toArray n1) ∈ tl) (hn : NodesIn w tl vs items) (o1 : AllLt d ((H, o) :: (tl ++ rest))) (o2 : @LT.lt Nat _ d a) (o3 : @LT.lt Nat _ a rt) :
    PartIn w ((rt, tupO [.int r1 t8, .int r2 t9] n2) :: (a, instObj 358 d) :: (d, dictOf es n) :: tl) (.ref a) (.box k wd ht de sf 0 0 r1 r2 items) := by
  have off := off_ltA o1
  refine .box ((rt, tupO [.int r1 t8, .int r2 t9] n2) :: (a, instObj 358 d) :: tl) (.tail _ (.head _)) (.tail _ (.tail _ (.head _))) b ?_ ?_ (.tail _ (.head _)) (.head _) (.tail _ (.tail _ hl)) (hn.mono fun _ h => .tail _ (.tail _ h))
  · intro q hq
    rcases List.mem_cons.mp hq with rfl | hq
    · exact .head _
    · rcases List.mem_cons.mp hq with rfl | hq
      · exact .tail _ (.head _)
      · exact .tail _ (.tail _ (.tail _ hq))
  · intro q hq
    rcases List.mem_cons.mp hq with rfl | hq
    · exact (Nat.ne_of_lt (Nat.lt_trans o2 o3)).symm
    · rcases List.mem_cons.mp hq with rfl | hq
      · exact (Nat.ne_of_lt o2).symm
      · exact off q (.tail _ (List.mem_append_left _ hq))
theorem fresh_box {d a rt : Addr} {x y z : Obj} {tl rest : Led} {H : Addr} {o o' : Obj} (f : Fresh tl ((H, o) :: rest)) (o1 : AllLt d ((H, o') :: (tl ++ rest))) (o2 : @LT.lt Nat _ d a) (o3 : @LT.lt Nat _ a rt) : Fresh ((rt, x) :: (a, y) :: (d, z) :: tl) ((H, o) :: rest) := by
  have h : ∀ p ∈ ((H, o) :: rest : Led), @LT.lt Nat _ p.1 d := fun p hp => by
    rcases List.mem_cons.mp hp with rfl | hp
    · exact ktn_ltOf o1 (H, o') (.head _)
    · exact ktn_ltOf o1 p (.tail _ (List.mem_append_right _ hp))
  intro q hq p hp
  rcases List.mem_cons.mp hq with rfl | hq
  · exact Nat.lt_trans (h p hp) (Nat.lt_trans o2 o3)
  · rcases List.mem_cons.mp hq with rfl | hq
    · exact Nat.lt_trans (h p hp) o2
    · rcases List.mem_cons.mp hq with rfl | hq
      · exact h p hp
      · exact f q hq p hp

theorem getD3 {d : Int} (h : 0 ≤ d) (h2 : d < 3) : -2 ≤ ([0, 3, -2] : List Int).getD d.toNat 0 ∧ ([0, 3, -2] : List Int).getD d.toNat 0 ≤ 3 := by
  have : d = 0 ∨ d = 1 ∨ d = 2 := by omega
  rcases this with rfl | rfl | rfl <;> decide

theorem reg_K5_5152 : True := by
  k_with "w:call ref" => first | ((k_here; (with_reducible show wpAny _ _ (call (Value.ref 400) _ _) _ _ _); ((first | with_reducible refine' Kt.use (kern_k ?c1_k9 ?c2_k9) ?hh_k9 ?hf_k9 ?B_k9 ?F_k9 ?X_k9 ?N_k9 ?T_k9 ?hk_k9 ?hd_k9 ?hu_k9 ?_ | k_dflt (refine' Kt.use (kern_k ?c1_k9 ?c2_k9) ?hh_k9 ?hf_k9 ?B_k9 ?F_k9 ?X_k9 ?N_k9 ?T_k9 ?hk_k9 ?hd_k9 ?hu_k9 ?_)); k_dflt ((case F_k9 => k_asm); (case B_k9 => k_asm); (case X_k9 => k_asm); (case N_k9 => k_asm); (case T_k9 => k_asm); (case hh_k9 => exact rfl); (case hf_k9 => exact rfl); (case hk_k9 => first | exact rfl | assumption); (case hd_k9 => k_extra "mine:dp"); (case hu_k9 => k_extra "mine:un"); (case c1_k9 => first | assumption | (refine Int.le_trans ?_ (by assumption); decide) | (refine Int.le_trans (by assumption) ?_; decide) | omega); (case c2_k9 => first | assumption | (refine Int.le_trans ?_ (by assumption); decide) | (refine Int.le_trans (by assumption) ?_; decide) | omega))); intro a9 tl9 f9 n9 h9 tk9 F9 N9; (try k_sweep); (try dsimp only); (try k_fold))) | fail
  k_with "w:call ref" => first | ((k_here; (with_reducible show wpAny _ _ (call (Value.ref 358) _ _) _ _ _); ((first | with_reducible refine' Kt.use (box_k ?c1_k9 ?c2_k9 ?c3_k9 ?c4_k9 ?c5_k9 ?c6_k9 ?c7_k9 ?c8_k9) ?hh_k9 ?hf_k9 ?B_k9 ?F_k9 ?X_k9 ?N_k9 ?T_k9 ?hk_k9 ?hd_k9 ?hu_k9 ?_ | k_dflt (refine' Kt.use (box_k ?c1_k9 ?c2_k9 ?c3_k9 ?c4_k9 ?c5_k9 ?c6_k9 ?c7_k9 ?c8_k9) ?hh_k9 ?hf_k9 ?B_k9 ?F_k9 ?X_k9 ?N_k9 ?T_k9 ?hk_k9 ?hd_k9 ?hu_k9 ?_)); k_dflt ((case F_k9 => k_asm); (case B_k9 => k_asm); (case X_k9 => k_asm); (case N_k9 => k_asm); (case T_k9 => k_asm); (case hh_k9 => exact rfl); (case hf_k9 => exact rfl); (case hk_k9 => first | exact rfl | assumption); (case hd_k9 => k_extra "mine:dp"); (case hu_k9 => k_extra "mine:un"); (case c1_k9 => first | assumption | (refine Int.le_trans ?_ (by assumption); decide) | (refine Int.le_trans (by assumption) ?_; decide) | omega); (case c2_k9 => first | assumption | (refine Int.le_trans ?_ (by assumption); decide) | (refine Int.le_trans (by assumption) ?_; decide) | omega); (case c3_k9 => first | assumption | (refine Int.le_trans ?_ (by assumption); decide) | (refine Int.le_trans (by assumption) ?_; decide) | omega); (case c4_k9 => first | assumption | (refine Int.le_trans ?_ (by assumption); decide) | (refine Int.le_trans (by assumption) ?_; decide) | omega); (case c5_k9 => first | assumption | (refine Int.le_trans ?_ (by assumption); decide) | (refine Int.le_trans (by assumption) ?_; decide) | omega); (case c6_k9 => first | assumption | (refine Int.le_trans ?_ (by assumption); decide) | (refine Int.le_trans (by assumption) ?_; decide) | omega); (case c7_k9 => first | assumption | (refine Int.le_trans ?_ (by assumption); decide) | (refine Int.le_trans (by assumption) ?_; decide) | omega); (case c8_k9 => first | assumption | (refine Int.le_trans ?_ (by assumption); decide) | (refine Int.le_trans (by assumption) ?_; decide) | omega))); intro a9 d9 rt9 es9 n9 u1 u2 u3 u4 u5 n29 b9 o1 o2 o3 h9 tk9 F9 N9; have o4 := tbn_up o2 o1; have o5 := tbn_up o3 o4; (try k_sweep); (try dsimp only); (try k_fold))) | fail
  trivial
theorem made_box_k {H : Addr} {b : Nat} {o : Obj} {rest : Led} (hr : ∀ p ∈ rest, p.1 ≠ H) (ho : HO b o) (hb : b ≤ 9700) :
  Kt w p loose mean mg mb 8 (.ref 714) [.ref H] [] ((H, o) :: rest) (fun K => ∀ a nd tl o', (Fresh tl ((H, o) :: rest)) → (HO (b + 7) o') → (PartIn w tl (.ref a) nd) → (nd.ok) → K (.ref a) ((H, o') :: (tl ++ rest))) := by
  unfold Kt
  intro dpC unC gdC cnC csC L aC ccdC clC outer A₀ base h₀ mC hp sg sd tk₀ ox Q E B F X N T hk hd hu hret
  refine wpAny_call ?_
  k_dflt (refine' code_defL (binds := [(Str.ofString "heap", .ref H)]) (rb := [(Str.ofString "heap", .ref H)]) ?k1 ?k2 ?k3 ?k4 ?k5 ?kA ?kF ?kK ?k6 ?k7 ?k8 ?k9 ?kB rfl ?_ ?c2 ?c3 ?c4 ?c5; (case kA => exact rfl); (case kF => exact rfl); (case kK => exact hk); (case k1 => exact B); (case k3 => exact X); (case k5 => exact T); (case k6 => k_is); (case k7 => k_is); (case c5 => decide); (case kB => exact locs rfl); (case c2 => exact rfl); (case c3 => exact rfl); (case c4 => exact rfl); (case k2 => exact F); (case k4 => exact N); (case k8 => exact dp_ltz hd); (case k9 => exact BindsTo.of_eq rfl); k_whole; intro g' L' h' tk' FG' m9 F' N' B' X' T' A9 qk ek)
  walk1
  refine cut_cps (InnP w g' L' m9 rest H b o) ?c1 ?c2
  case c1 =>
    intro qI hQ
    k_steps
    all_goals (first | exact inn_nil hQ (by assumption) (by assumption) (by first | assumption | exact allLt_of (by assumption)) (by assumption) | exact inn_one hQ (by assumption) (by assumption) (by first | assumption | exact allLt_of (by assumption)) (by assumption) (by assumption) (by assumption))
  case c2 =>
    intro h9 tk9 li9 ln9 vs9 it9 tlI o9 F9 N9 fI ho9 ml9 ni9 oi9
    try dsimp only
    have hrI : ∀ p ∈ tlI ++ rest, p.1 ≠ H := fun p hp => (List.mem_append.mp hp).elim (fun h => Fresh.offH fI p h) (hr p)
    k_steps
    all_goals (first | (refine' hret _ _ (_ :: _ :: _ :: tlI) _ (fresh_box fI o1 o2 o3) ?z18 (part_box (by assumption) ml9 ni9 o1 o2 o3) ?z28 _ _ ?zF8 ?zN8; (case zF8 => assumption); (case zN8 => exact News.re (by assumption) (by k_extra "mine:subs")); (case z18 => assumption); (case z28 => exact ⟨by omega, by omega, by assumption, by assumption, by assumption, by assumption, by assumption, by assumption, (getD3 (by assumption) (by assumption)).1, (getD3 (by assumption) (by assumption)).2, rfl, rfl, rfl, rfl, oi9⟩)))


end
end
section
section
variable {w : World} {p : Program} {loose : List Str} {mean : ExcName → Option Value} {mg mb : Str → Option Value}
theorem Fresh.cons2 {a led S : Led} {H : Addr} {o o' : Obj} (h : Fresh a led) (hm : (H, o') ∈ led) (k : Fresh a S) : Fresh a ((H, o) :: S) := fun q hq p hp => by
  rcases List.mem_cons.mp hp with rfl | hp
  · exact h q hq (H, o') hm
  · exact k q hq p hp
theorem sub_l {x : Addr × Obj} {a b : Led} : ∀ q ∈ a, q ∈ x :: (a ++ b) := fun _ h => .tail _ (List.mem_append_left _ h)
theorem sub_r {x : Addr × Obj} {a b : Led} : ∀ q ∈ b, q ∈ x :: (a ++ b) := fun _ h => .tail _ (List.mem_append_right _ h)
theorem HO.to8 {b k : Nat} {o : Obj} (e : Nat.ble k 8 = true) (h : HO (b + k) o) : HO (b + 8) o := h.up (Nat.add_le_add_left (Nat.le_of_ble_eq_true e) b)
theorem plainP {w : World} {S : Led} {v : Value} {nd : Nd} (h : NodeIn w S v nd) (k : nd.kind ≠ 2 ∧ nd.kind ≠ 3) : PartIn w S v nd := .plain h k.1 k.2
theorem reg_K6_926 : True := by
  k_with "w:subscriptTail Name Call ref int" => first | ((k_here; (with_reducible show wpAny _ _ (subscriptTail _ _ (Value.ref _) (Value.int _ _)) _ _ _); ((first | with_reducible refine' item_opt ?N_k9 ?m_k9 ?a_k9 ?b_k9 ?c_k9 ?d_k9 ?_ ?s_k9 | k_dflt (refine' item_opt ?N_k9 ?m_k9 ?a_k9 ?b_k9 ?c_k9 ?d_k9 ?_ ?s_k9)); k_dflt ((case N_k9 => k_asm); (case m_k9 => k_mem); (case a_k9 => assumption); (case b_k9 => assumption); (case c_k9 => decide); (case d_k9 => decide); (case s_k9 => with_unfolding_all rfl); k_whole)); intro v9 q9 ow9 oo9)) | fail
  k_with "mine:fresh3" => first | (first | exact Fresh.nil | exact Fresh.chg (by assumption) | ((with_reducible refine Fresh.app ?_ ?_); (k_extra "mine:fresh3"); k_extra "mine:fresh3") | ((with_reducible refine Fresh.cons ?_ ?_); (k_extra "mine:allt2"); k_extra "mine:fresh3") | (exact Fresh.cons2 (by assumption) (by k_mem) (Fresh.sub (by assumption) (by k_extra "mine:sub")))) | fail
  k_with "w:call ref" => first | ((k_here; (with_reducible show wpAny _ _ (call (Value.ref 714) _ _) _ _ _); ((first | with_reducible refine' Kt.use (Kt.pick ?pk_k9 (made_box_k ?c1_k9 ?c2_k9 ?c3_k9)) ?hh_k9 ?hf_k9 ?B_k9 ?F_k9 ?X_k9 ?N_k9 ?T_k9 ?hk_k9 ?hd_k9 ?hu_k9 ?_ | k_dflt (refine' Kt.use (Kt.pick ?pk_k9 (made_box_k ?c1_k9 ?c2_k9 ?c3_k9)) ?hh_k9 ?hf_k9 ?B_k9 ?F_k9 ?X_k9 ?N_k9 ?T_k9 ?hk_k9 ?hd_k9 ?hu_k9 ?_)); k_dflt ((case F_k9 => k_asm); (case B_k9 => k_asm); (case X_k9 => k_asm); (case N_k9 => k_asm); (case T_k9 => k_asm); (case pk_k9 => k_extra "mine:pick"); (case hh_k9 => exact rfl); (case hf_k9 => exact rfl); (case hk_k9 => first | exact rfl | assumption); (case hd_k9 => k_extra "mine:dp"); (case hu_k9 => k_extra "mine:un"); (case c1_k9 => first | assumption | k_all); (case c2_k9 => assumption); (case c3_k9 => k_extra "mine:bnd"))); intro a9 nd9 tl9 o9 f9 ho9 n9 ok9 h9 tk9 F9 N9; have fo9 := Fresh.offH f9; (try k_sweep); (try dsimp only); (try k_fold))) | fail
  k_with "w:call ref" => first | ((k_here; (with_reducible show wpAny _ _ (call (Value.ref 707) _ _) _ _ _); ((first | with_reducible refine' Kt.use (Kt.pick ?pk_k9 (flow_k ?c1_k9 ?c2_k9 ?c3_k9)) ?hh_k9 ?hf_k9 ?B_k9 ?F_k9 ?X_k9 ?N_k9 ?T_k9 ?hk_k9 ?hd_k9 ?hu_k9 ?_ | k_dflt (refine' Kt.use (Kt.pick ?pk_k9 (flow_k ?c1_k9 ?c2_k9 ?c3_k9)) ?hh_k9 ?hf_k9 ?B_k9 ?F_k9 ?X_k9 ?N_k9 ?T_k9 ?hk_k9 ?hd_k9 ?hu_k9 ?_)); k_dflt ((case F_k9 => k_asm); (case B_k9 => k_asm); (case X_k9 => k_asm); (case N_k9 => k_asm); (case T_k9 => k_asm); (case pk_k9 => k_extra "mine:pick"); (case hh_k9 => exact rfl); (case hf_k9 => exact rfl); (case hk_k9 => first | exact rfl | assumption); (case hd_k9 => k_extra "mine:dp"); (case hu_k9 => k_extra "mine:un"); (case c1_k9 => first | assumption | k_all); (case c2_k9 => assumption); (case c3_k9 => k_extra "mine:bnd"))); intro a9 g9 tl9 o9 f9 ho9 gl9 go9 h9 tk9 F9 N9; have fo9 := Fresh.offH f9; (try k_sweep); (try dsimp only); (try k_fold))) | fail
  k_with "w:call ref" => first | ((k_here; (with_reducible show wpAny _ _ (call (Value.ref 379) _ _) _ _ _); ((first | with_reducible refine' Kt.use (rule_k ?c1_k9 ?c2_k9) ?hh_k9 ?hf_k9 ?B_k9 ?F_k9 ?X_k9 ?N_k9 ?T_k9 ?hk_k9 ?hd_k9 ?hu_k9 ?_ | k_dflt (refine' Kt.use (rule_k ?c1_k9 ?c2_k9) ?hh_k9 ?hf_k9 ?B_k9 ?F_k9 ?X_k9 ?N_k9 ?T_k9 ?hk_k9 ?hd_k9 ?hu_k9 ?_)); k_dflt ((case F_k9 => k_asm); (case B_k9 => k_asm); (case X_k9 => k_asm); (case N_k9 => k_asm); (case T_k9 => k_asm); (case hh_k9 => exact rfl); (case hf_k9 => exact rfl); (case hk_k9 => first | exact rfl | assumption); (case hd_k9 => k_extra "mine:dp"); (case hu_k9 => k_extra "mine:un"); (case c1_k9 => assumption); (case c2_k9 => assumption))); intro a9 tl9 f9 n9 h9 tk9 F9 N9; (try k_sweep); (try dsimp only); (try k_fold))) | fail
  k_with "w:call ref" => first | ((k_here; (with_reducible show wpAny _ _ (call (Value.ref 422) _ _) _ _ _); ((first | with_reducible refine' Kt.use skip_k0 ?hh_k9 ?hf_k9 ?B_k9 ?F_k9 ?X_k9 ?N_k9 ?T_k9 ?hk_k9 ?hd_k9 ?hu_k9 ?_ | k_dflt (refine' Kt.use skip_k0 ?hh_k9 ?hf_k9 ?B_k9 ?F_k9 ?X_k9 ?N_k9 ?T_k9 ?hk_k9 ?hd_k9 ?hu_k9 ?_)); k_dflt ((case F_k9 => k_asm); (case B_k9 => k_asm); (case X_k9 => k_asm); (case N_k9 => k_asm); (case T_k9 => k_asm); (case hh_k9 => exact rfl); (case hf_k9 => exact rfl); (case hk_k9 => first | exact rfl | assumption); (case hd_k9 => k_extra "mine:dp"); (case hu_k9 => k_extra "mine:un"))); intro a9 tl9 f9 n9 h9 tk9 F9 N9; (try k_sweep); (try dsimp only); (try k_fold))) | fail
  k_with "w:call ref" => first | ((k_here; (with_reducible show wpAny _ _ (call (Value.ref 443) _ _) _ _ _); ((first | with_reducible refine' Kt.use (pen_k ?c1_k9 ?c2_k9) ?hh_k9 ?hf_k9 ?B_k9 ?F_k9 ?X_k9 ?N_k9 ?T_k9 ?hk_k9 ?hd_k9 ?hu_k9 ?_ | k_dflt (refine' Kt.use (pen_k ?c1_k9 ?c2_k9) ?hh_k9 ?hf_k9 ?B_k9 ?F_k9 ?X_k9 ?N_k9 ?T_k9 ?hk_k9 ?hd_k9 ?hu_k9 ?_)); k_dflt ((case F_k9 => k_asm); (case B_k9 => k_asm); (case X_k9 => k_asm); (case N_k9 => k_asm); (case T_k9 => k_asm); (case hh_k9 => exact rfl); (case hf_k9 => exact rfl); (case hk_k9 => first | exact rfl | assumption); (case hd_k9 => k_extra "mine:dp"); (case hu_k9 => k_extra "mine:un"); (case c1_k9 => first | assumption | (refine Int.le_trans ?_ (by assumption); decide) | (refine Int.le_trans (by assumption) ?_; decide) | omega); (case c2_k9 => first | assumption | (refine Int.le_trans ?_ (by assumption); decide) | (refine Int.le_trans (by assumption) ?_; decide) | omega))); intro a9 tl9 f9 n9 h9 tk9 F9 N9; (try k_sweep); (try dsimp only); (try k_fold))) | fail
  k_with "w:call ref" => first | ((k_here; (with_reducible show wpAny _ _ (call (Value.ref 464) _ _) _ _ _); ((first | with_reducible refine' Kt.use (mark_k ?c1_k9) ?hh_k9 ?hf_k9 ?B_k9 ?F_k9 ?X_k9 ?N_k9 ?T_k9 ?hk_k9 ?hd_k9 ?hu_k9 ?_ | k_dflt (refine' Kt.use (mark_k ?c1_k9) ?hh_k9 ?hf_k9 ?B_k9 ?F_k9 ?X_k9 ?N_k9 ?T_k9 ?hk_k9 ?hd_k9 ?hu_k9 ?_)); k_dflt ((case F_k9 => k_asm); (case B_k9 => k_asm); (case X_k9 => k_asm); (case N_k9 => k_asm); (case T_k9 => k_asm); (case hh_k9 => exact rfl); (case hf_k9 => exact rfl); (case hk_k9 => first | exact rfl | assumption); (case hd_k9 => k_extra "mine:dp"); (case hu_k9 => k_extra "mine:un"); (case c1_k9 => k_mem))); intro a9 tl9 f9 n9 h9 tk9 F9 N9; (try k_sweep); (try dsimp only); (try k_fold))) | fail
  k_with "w:call ref" => first | ((k_here; (with_reducible show wpAny _ _ (call (Value.ref 485) _ _) _ _ _); ((first | with_reducible refine' Kt.use ins_k ?hh_k9 ?hf_k9 ?B_k9 ?F_k9 ?X_k9 ?N_k9 ?T_k9 ?hk_k9 ?hd_k9 ?hu_k9 ?_ | k_dflt (refine' Kt.use ins_k ?hh_k9 ?hf_k9 ?B_k9 ?F_k9 ?X_k9 ?N_k9 ?T_k9 ?hk_k9 ?hd_k9 ?hu_k9 ?_)); k_dflt ((case F_k9 => k_asm); (case B_k9 => k_asm); (case X_k9 => k_asm); (case N_k9 => k_asm); (case T_k9 => k_asm); (case hh_k9 => exact rfl); (case hf_k9 => exact rfl); (case hk_k9 => first | exact rfl | assumption); (case hd_k9 => k_extra "mine:dp"); (case hu_k9 => k_extra "mine:un"))); intro a9 tl9 f9 n9 h9 tk9 F9 N9; (try k_sweep); (try dsimp only); (try k_fold))) | fail
  k_with "w:call ref" => first | ((k_here; (with_reducible show wpAny _ _ (call (Value.ref 506) _ _) _ _ _); ((first | with_reducible refine' Kt.use spec_k ?hh_k9 ?hf_k9 ?B_k9 ?F_k9 ?X_k9 ?N_k9 ?T_k9 ?hk_k9 ?hd_k9 ?hu_k9 ?_ | k_dflt (refine' Kt.use spec_k ?hh_k9 ?hf_k9 ?B_k9 ?F_k9 ?X_k9 ?N_k9 ?T_k9 ?hk_k9 ?hd_k9 ?hu_k9 ?_)); k_dflt ((case F_k9 => k_asm); (case B_k9 => k_asm); (case X_k9 => k_asm); (case N_k9 => k_asm); (case T_k9 => k_asm); (case hh_k9 => exact rfl); (case hf_k9 => exact rfl); (case hk_k9 => first | exact rfl | assumption); (case hd_k9 => k_extra "mine:dp"); (case hu_k9 => k_extra "mine:un"))); intro a9 tl9 f9 n9 h9 tk9 F9 N9; (try k_sweep); (try dsimp only); (try k_fold))) | fail
  k_with "w:call ref" => first | ((k_here; (with_reducible show wpAny _ _ (call (Value.ref 250) _ _) _ _ _); ((first | with_reducible refine' Kt.use glue_k0 ?hh_k9 ?hf_k9 ?B_k9 ?F_k9 ?X_k9 ?N_k9 ?T_k9 ?hk_k9 ?hd_k9 ?hu_k9 ?_ | k_dflt (refine' Kt.use glue_k0 ?hh_k9 ?hf_k9 ?B_k9 ?F_k9 ?X_k9 ?N_k9 ?T_k9 ?hk_k9 ?hd_k9 ?hu_k9 ?_)); k_dflt ((case F_k9 => k_asm); (case B_k9 => k_asm); (case X_k9 => k_asm); (case N_k9 => k_asm); (case T_k9 => k_asm); (case hh_k9 => exact rfl); (case hf_k9 => exact rfl); (case hk_k9 => first | exact rfl | assumption); (case hd_k9 => k_extra "mine:dp"); (case hu_k9 => k_extra "mine:un"))); intro a9 tl9 f9 gl9 h9 tk9 F9 N9; (try k_sweep); (try dsimp only); (try k_fold))) | fail
  trivial
theorem law_part_k {H : Addr} {b : Nat} {o : Obj} {rest : Led} (hr : ∀ p ∈ rest, p.1 ≠ H) (ho : HO b o) (hb : b ≤ 9600) :
  Kt w p loose mean mg mb 10 (.ref 721) [.ref H] [] ((H, o) :: rest) (fun K => ∀ a nd tl o', (Fresh tl ((H, o) :: rest)) → (HO (b + 8) o') → (PartIn w tl (.ref a) nd) → (nd.ok) → K (.ref a) ((H, o') :: (tl ++ rest))) := by
  unfold Kt
  intro dpC unC gdC cnC csC L aC ccdC clC outer A₀ base h₀ mC hp sg sd tk₀ ox Q E B F X N T hk hd hu hret
  refine wpAny_call ?_
  k_dflt (refine' code_defL (binds := [(Str.ofString "heap", .ref H)]) (rb := [(Str.ofString "heap", .ref H)]) ?k1 ?k2 ?k3 ?k4 ?k5 ?kA ?kF ?kK ?k6 ?k7 ?k8 ?k9 ?kB rfl ?_ ?c2 ?c3 ?c4 ?c5; (case kA => exact rfl); (case kF => exact rfl); (case kK => exact hk); (case k1 => exact B); (case k3 => exact X); (case k5 => exact T); (case k6 => k_is); (case k7 => k_is); (case c5 => decide); (case kB => exact locs rfl); (case c2 => exact rfl); (case c3 => exact rfl); (case c4 => exact rfl); (case k2 => exact F); (case k4 => exact N); (case k8 => exact dp_ltz hd); (case k9 => exact BindsTo.of_eq rfl); k_whole; intro g' L' h' tk' FG' m9 F' N' B' X' T' A9 qk ek)
  k_steps
  all_goals (first | (refine' hret _ _ _ _ ?z08 ?z18 ?z28 ?z38 _ _ ?zF8 ?zN8; (case zF8 => assumption); (case zN8 => assumption); (case z08 => exact Fresh.chg (by assumption)); (case z18 => first | assumption | exact HO.to8 (k := 8) rfl (by assumption) | exact HO.to8 (k := 7) rfl (by assumption) | exact HO.to8 (k := 6) rfl (by assumption) | exact HO.to8 (k := 5) rfl (by assumption) | exact HO.to8 (k := 4) rfl (by assumption) | exact HO.to8 (k := 3) rfl (by assumption) | exact HO.to8 (k := 2) rfl (by assumption) | exact HO.to8 (k := 1) rfl (by assumption)); (case z28 => assumption); (case z38 => assumption)) | (refine' hret _ _ _ _ ?z08 ?z18 (plainP (NodeIn.mono (S' := tl9 ++ [_, _]) (fun _ h => List.mem_append_left _ h) n9) ⟨by dsimp only [Nd.kind]; decide, by dsimp only [Nd.kind]; decide⟩) ?z38 _ _ ?zF8 ?zN8; (case zF8 => assumption); (case zN8 => first | exact News.front (by assumption) | exact News.re (by assumption) (by k_extra "mine:subs")); (case z08 => k_extra "mine:fresh3"); (case z18 => first | assumption | exact HO.to8 (k := 8) rfl (by assumption) | exact HO.to8 (k := 7) rfl (by assumption) | exact HO.to8 (k := 6) rfl (by assumption) | exact HO.to8 (k := 5) rfl (by assumption) | exact HO.to8 (k := 4) rfl (by assumption) | exact HO.to8 (k := 3) rfl (by assumption) | exact HO.to8 (k := 2) rfl (by assumption) | exact HO.to8 (k := 1) rfl (by assumption)); (case z38 => exact ⟨by assumption, by assumption, rfl⟩)) | (refine' hret _ _ _ _ ?z08 ?z18 (plainP (n9 _ _ (by assumption)) ⟨by dsimp only [Nd.kind]; decide, by dsimp only [Nd.kind]; decide⟩) ?z38 _ _ ?zF8 ?zN8; (case zF8 => assumption); (case zN8 => first | exact News.front (by assumption) | exact News.re (by assumption) (by k_extra "mine:subs")); (case z08 => k_extra "mine:fresh3"); (case z18 => first | assumption | exact HO.to8 (k := 8) rfl (by assumption) | exact HO.to8 (k := 7) rfl (by assumption) | exact HO.to8 (k := 6) rfl (by assumption) | exact HO.to8 (k := 5) rfl (by assumption) | exact HO.to8 (k := 4) rfl (by assumption) | exact HO.to8 (k := 3) rfl (by assumption) | exact HO.to8 (k := 2) rfl (by assumption) | exact HO.to8 (k := 1) rfl (by assumption)); (case z38 => exact ⟨by assumption, rfl⟩)) | (refine' hret _ _ _ _ ?z08 ?z18 (plainP n9 ⟨by dsimp only [Nd.kind]; decide, by dsimp only [Nd.kind]; decide⟩) ?z38 _ _ ?zF8 ?zN8; (case zF8 => assumption); (case zN8 => first | exact News.front (by assumption) | exact News.re (by assumption) (by k_extra "mine:subs")); (case z08 => k_extra "mine:fresh3"); (case z18 => first | assumption | exact HO.to8 (k := 8) rfl (by assumption) | exact HO.to8 (k := 7) rfl (by assumption) | exact HO.to8 (k := 6) rfl (by assumption) | exact HO.to8 (k := 5) rfl (by assumption) | exact HO.to8 (k := 4) rfl (by assumption) | exact HO.to8 (k := 3) rfl (by assumption) | exact HO.to8 (k := 2) rfl (by assumption) | exact HO.to8 (k := 1) rfl (by assumption)); (case z38 => exact ⟨by assumption, by assumption⟩)) | (refine' hret _ _ _ _ ?z08 ?z18 (plainP n9 ⟨by dsimp only [Nd.kind]; decide, by dsimp only [Nd.kind]; decide⟩) ?z38 _ _ ?zF8 ?zN8; (case zF8 => assumption); (case zN8 => first | exact News.front (by assumption) | exact News.re (by assumption) (by k_extra "mine:subs")); (case z08 => k_extra "mine:fresh3"); (case z18 => first | assumption | exact HO.to8 (k := 8) rfl (by assumption) | exact HO.to8 (k := 7) rfl (by assumption) | exact HO.to8 (k := 6) rfl (by assumption) | exact HO.to8 (k := 5) rfl (by assumption) | exact HO.to8 (k := 4) rfl (by assumption) | exact HO.to8 (k := 3) rfl (by assumption) | exact HO.to8 (k := 2) rfl (by assumption) | exact HO.to8 (k := 1) rfl (by assumption)); (case z38 => trivial)) | (rename NodeIn _ _ _ (Nd.kern 5) => k9; refine' hret _ _ _ _ ?z08 ?z18 (plainP (n9 (_ :: (_ ++ _)) _ _ (gl9.mono sub_r) List.mem_cons_self (k9.mono sub_l)) ⟨by dsimp only [Nd.kind]; decide, by dsimp only [Nd.kind]; decide⟩) ?z38 _ _ ?zF8 ?zN8; (case zF8 => assumption); (case zN8 => first | exact News.front (by assumption) | exact News.re (by assumption) (by k_extra "mine:subs")); (case z08 => k_extra "mine:fresh3"); (case z18 => first | assumption | exact HO.to8 (k := 8) rfl (by assumption) | exact HO.to8 (k := 7) rfl (by assumption) | exact HO.to8 (k := 6) rfl (by assumption) | exact HO.to8 (k := 5) rfl (by assumption) | exact HO.to8 (k := 4) rfl (by assumption) | exact HO.to8 (k := 3) rfl (by assumption) | exact HO.to8 (k := 2) rfl (by assumption) | exact HO.to8 (k := 1) rfl (by assumption)); (case z38 => trivial)) | ((repeat (rename _ ∧ _ => z9; obtain ⟨_, _⟩ := z9)); refine' hret _ _ _ _ ?z08 ?z18 (plainP (n9 [_, _] _ (.tuple (by k_mem) (.cons (.tuple (by k_mem) (.cons (.int _ _) (.cons (.int _ _) .nil))) .nil))) ⟨by dsimp only [Nd.kind]; decide, by dsimp only [Nd.kind]; decide⟩) ?z38 _ _ ?zF8 ?zN8; (case zF8 => assumption); (case zN8 => first | exact News.front (by assumption) | exact News.re (by assumption) (by k_extra "mine:subs")); (case z08 => k_extra "mine:fresh3"); (case z18 => first | assumption | exact HO.to8 (k := 8) rfl (by assumption) | exact HO.to8 (k := 7) rfl (by assumption) | exact HO.to8 (k := 6) rfl (by assumption) | exact HO.to8 (k := 5) rfl (by assumption) | exact HO.to8 (k := 4) rfl (by assumption) | exact HO.to8 (k := 3) rfl (by assumption) | exact HO.to8 (k := 2) rfl (by assumption) | exact HO.to8 (k := 1) rfl (by assumption)); (case z38 => trivial)))

end
end
section
section
variable {w : World} {p : Program} {loose : List Str} {mean : ExcName → Option Value} {mg mb : Str → Option Value}
noncomputable def Nd.rk : Nat → Nd → Prop
  | 0, .box .. => False
  | 0, .ins => False
  | 0, _ => True
  | n + 1, .box k wd ht dp sf sg od r1 r2 items => ∀ x ∈ items, Nd.rk n x
  | _ + 1, _ => True
theorem Nd.rk_ins (n : Nat) : Nd.rk (n + 1) .ins := trivial
theorem reg_dat : True := by
  k_with "mine:dat" => first | (first | exact DatIn.none | exact DatIn.int _ _ | exact DatIn.str _ _ | exact DatIn.bytes _ _ | assumption | ((refine DatIn.mono ?_ (by assumption)); k_extra "mine:sub") | (exact DatIn.tuple (by k_mem) (by k_extra "mine:datall")) | (exact DatIn.list (by k_mem) (by k_extra "mine:datall"))) | fail
  k_with "mine:datall" => first | (first | exact DatAll.nil | exact DatAll.cons (by k_extra "mine:dat") (by k_extra "mine:datall") | assumption | ((refine DatAll.mono ?_ (by assumption)); k_extra "mine:sub")) | fail
  k_with "mine:nod" => first | (first | assumption | ((refine NodeIn.mono ?_ (by assumption)); k_extra "mine:sub")) | fail
  k_with "mine:nods" => first | (first | assumption | ((refine NodesIn.mono ?_ (by assumption)); k_extra "mine:sub")) | fail
  k_with "mine:glu" => first | (first | assumption | ((refine GlueIn.mono (by assumption) ?_); k_extra "mine:sub")) | fail
  trivial

theorem glue_parts {a : Addr} {g : Gl} {led : Led} (hg : GlueIn w led a g) :
  Ct w p loose mean mg mb 2 (.ref 204) [.ref a] [] led (fun r led' => ∃ t o, r = .ref t ∧ led' = (t, o) :: led ∧ AllLt t led ∧ DatIn [(t, o)] (.ref t) g.dat) := by
  unfold Ct
  intro dpC unC gdC cnC csC L aC ccdC clC outer A₀ base h₀ mC sC Q E B F X N T hk hd hu hret
  obtain ⟨⟨_, g1⟩, ⟨_, g2⟩, ⟨_, g3⟩, ⟨_, g4⟩, ⟨_, g5⟩, g6⟩ := hg
  refine wpAny_call ?_
  k_dflt (refine' code_defL (binds := [(Str.ofString "self", .ref a)]) (rb := [(Str.ofString "self", .ref a)]) ?k1 ?k2 ?k3 ?k4 ?k5 ?kA ?kF ?kK ?k6 ?k7 ?k8 ?k9 ?kB rfl ?_ ?c2 ?c3 ?c4 ?c5; (case kA => exact rfl); (case kF => exact rfl); (case kK => first | exact hk | exact rfl); (case k1 => exact B); (case k3 => exact X); (case k5 => exact T); (case k6 => k_is); (case k7 => k_is); (case c5 => decide); (case kB => exact locs rfl); (case c2 => exact rfl); (case c3 => exact rfl); (case c4 => exact rfl); (case k2 => exact F); (case k4 => exact N); (case k8 => exact dp_ltz hd); (case k9 => exact BindsTo.of_eq rfl); k_whole; intro g' L' h' tk' FG' m9 F' N' B' X' T' A9 qk ek)
  k_steps
  all_goals (first | (refine hret _ _ _ _ (by assumption) (by assumption) ?_; exact ⟨_, _, rfl, rfl, by k_extra "mine:allt2", by first | exact .tuple List.mem_cons_self (.cons (.int _ _) (.cons (.int _ _) (.cons (.int _ _) (.cons (.int _ _) (.cons (.int _ _) .nil)))))⟩))
theorem glue_parts_k {a : Addr} {g : Gl} {led : Led} (hg : GlueIn w led a g) :
  Kt w p loose mean mg mb 2 (.ref 204) [.ref a] [] led (fun K => ∀ t o, (AllLt t led) → (DatIn [(t, o)] (.ref t) g.dat) → K (.ref t) ((t, o) :: led)) :=
  Ct.kt (glue_parts hg) (fun K hK r0 l0 P0 => by
    obtain ⟨t9, o9, e1, e2, f1, f2⟩ := P0
    subst e1; subst e2
    exact hK t9 o9 f1 f2)

theorem reg_glue_parts_k : True := by
  k_with "w:call ref" => first | ((k_here; (with_reducible show wpAny _ _ (call (Value.ref 204) _ _) _ _ _); ((first | with_reducible refine' Kt.use (glue_parts_k ?c1_k9) ?hh_k9 ?hf_k9 ?B_k9 ?F_k9 ?X_k9 ?N_k9 ?T_k9 ?hk_k9 ?hd_k9 ?hu_k9 ?_ | k_dflt (refine' Kt.use (glue_parts_k ?c1_k9) ?hh_k9 ?hf_k9 ?B_k9 ?F_k9 ?X_k9 ?N_k9 ?T_k9 ?hk_k9 ?hd_k9 ?hu_k9 ?_)); k_dflt ((case F_k9 => k_asm); (case B_k9 => k_asm); (case X_k9 => k_asm); (case N_k9 => k_asm); (case T_k9 => k_asm); (case hh_k9 => exact rfl); (case hf_k9 => exact rfl); (case hk_k9 => first | exact rfl | assumption); (case hd_k9 => k_extra "mine:dp"); (case hu_k9 => k_extra "mine:un"); (case c1_k9 => k_extra "mine:glu"))); intro t9 o9 f9 d9 h9 tk9 F9 N9; (try k_sweep); (try dsimp only); (try k_fold))) | fail
  trivial

theorem check_depth_ok {k : Int} {t : Tok} {led : Led} (h : k ≤ 60) :
  Ct w p loose mean mg mb 1 (.ref 517) [.int k t] [] led (fun r led' => r = .none ∧ led' = led) := by
  unfold Ct
  intro dpC unC gdC cnC csC L aC ccdC clC outer A₀ base h₀ mC sC Q E B F X N T hk hd hu hret
  refine wpAny_call ?_
  k_dflt (refine' code_defL (binds := [(Str.ofString "depth", .int k t)]) (rb := [(Str.ofString "depth", .int k t)]) ?k1 ?k2 ?k3 ?k4 ?k5 ?kA ?kF ?kK ?k6 ?k7 ?k8 ?k9 ?kB rfl ?_ ?c2 ?c3 ?c4 ?c5; (case kA => exact rfl); (case kF => exact rfl); (case kK => first | exact hk | exact rfl); (case k1 => exact B); (case k3 => exact X); (case k5 => exact T); (case k6 => k_is); (case k7 => k_is); (case c5 => decide); (case kB => exact locs rfl); (case c2 => exact rfl); (case c3 => exact rfl); (case c4 => exact rfl); (case k2 => exact F); (case k4 => exact N); (case k8 => exact dp_ltz hd); (case k9 => exact BindsTo.of_eq rfl); k_whole; intro g' L' h' tk' FG' m9 F' N' B' X' T' A9 qk ek)
  k_steps
  all_goals (first | (refine hret _ _ _ _ (by assumption) (by assumption) ?_; exact ⟨rfl, rfl⟩))
theorem check_depth_ok_k {k : Int} {t : Tok} {led : Led} (h : k ≤ 60) :
  Kt w p loose mean mg mb 1 (.ref 517) [.int k t] [] led (fun K => K (.none) (led)) :=
  Ct.kt (check_depth_ok h) (fun K hK r0 l0 P0 => by
    obtain ⟨e1, e2⟩ := P0
    subst e1; subst e2
    exact hK )

theorem reg_check_depth_ok_k : True := by
  k_with "w:call ref" => first | ((k_here; (with_reducible show wpAny _ _ (call (Value.ref 517) _ _) _ _ _); ((first | with_reducible refine' Kt.use (check_depth_ok_k ?c1_k9) ?hh_k9 ?hf_k9 ?B_k9 ?F_k9 ?X_k9 ?N_k9 ?T_k9 ?hk_k9 ?hd_k9 ?hu_k9 ?_ | k_dflt (refine' Kt.use (check_depth_ok_k ?c1_k9) ?hh_k9 ?hf_k9 ?B_k9 ?F_k9 ?X_k9 ?N_k9 ?T_k9 ?hk_k9 ?hd_k9 ?hu_k9 ?_)); k_dflt ((case F_k9 => k_asm); (case B_k9 => k_asm); (case X_k9 => k_asm); (case N_k9 => k_asm); (case T_k9 => k_asm); (case hh_k9 => exact rfl); (case hf_k9 => exact rfl); (case hk_k9 => first | exact rfl | assumption); (case hd_k9 => k_extra "mine:dp"); (case hu_k9 => k_extra "mine:un"); (case c1_k9 => first | assumption | (refine Int.le_trans ?_ (by assumption); decide) | (refine Int.le_trans (by assumption) ?_; decide) | omega))); intro  h9 tk9 F9 N9; (try k_sweep); (try dsimp only); (try k_fold))) | fail
  trivial

end
end
section
section
variable {w : World} {p : Program} {loose : List Str} {mean : ExcName → Option Value} {mg mb : Str → Option Value}
theorem reg_b98 : True := by
  k_with "mine:in" => first | (exact hs _ (by assumption)) | fail
  k_with "w:call type:tuple" => first | ((k_here; (with_reducible show wpAny _ _ (call (Value.type _) [Value.bytes _ _]) _ _ _); ((first | with_reducible refine' tuple_b98 ?hh_k9 ?F_k9 ?N_k9 ?_ | k_dflt (refine' tuple_b98 ?hh_k9 ?F_k9 ?N_k9 ?_)); k_dflt ((case hh_k9 => exact rfl); (case F_k9 => k_asm); (case N_k9 => k_asm))); intro D' h' tk' u' F' N' l1; (try k_lt l1))) | fail
  k_with "mine:fresh3" => first | (first | exact Fresh.nil | ((with_reducible refine Fresh.app ?_ ?_); (k_extra "mine:fresh3"); k_extra "mine:fresh3") | ((with_reducible refine Fresh.cons ?_ ?_); (k_extra "mine:allt2"); k_extra "mine:fresh3") | (exact Fresh.cons2 (by assumption) (by k_mem) (Fresh.sub (by assumption) (by k_extra "mine:sub")))) | fail
  k_with "mine:apx" => first | (first | assumption | exact off_sub (by assumption) (by k_extra "mine:sub") | exact AllLt_off (by k_extra "mine:allt2")) | fail
  k_with "mine:ap" => first | (first | exact Ap.nil | assumption | exact Ap.sub (by assumption) (by k_extra "mine:sub") | ((with_reducible refine Ap.cons ?_ ?_); (k_extra "mine:apx"); k_extra "mine:ap") | ((with_reducible refine Ap.app ?_ ?_); (k_extra "mine:ap"); k_extra "mine:ap") | exact Ap.of_fresh (by k_extra "mine:fresh3")) | fail
  k_with "w:FinE" => first | (((unfold LCg.FinE); intro D' h' tk' F' N' o1'; (have offE' := Off1_mem o1'); (try simp only [LCg.Off1, and_true] at o1'); (try simp only [List.nil_append, List.cons_append] at N'); (try dsimp only))) | fail
  trivial

noncomputable def FD535 : FuncData := fd (st 50) "described" 3 [] (.ref 530) (.none) (.none) (.str "gluepage.nodes" 608) none (.ref 534) (.none) 0
noncomputable def Bd (w : World) (vs : List Value) (v : Value) (k : Int) (t : Tok) : Prop := ∀ s : Shared, (Mine.hd.heap_1 w.params).In s.heap → BindsTo s FD535 ⟨vs, []⟩ [("node", v), ("depth", .int k t)]
theorem Bd.two {v : Value} {k : Int} {t : Tok} : Bd w [v, .int k t] v k t := fun s X => binds_K X rfl (by k_is) rfl rfl rfl
theorem Bd.one {v : Value} : ∃ t, Bd w [v] v 0 t := ⟨_, fun s X => binds_K X rfl (by k_is) rfl rfl rfl⟩

theorem described_kern {v : Value} {vs9 : List Value} {k : Int} {t : Tok} {S led : Led} {wd : Int} (hB : Bd w vs9 v k t) (hs : ∀ q ∈ S, q ∈ led) (hn : NodeIn w S v (.kern wd)) (hk0 : k ≤ 60) :
  Ct w p loose mean mg mb 6 (.ref 535) vs9 [] led (fun r led' => ∃ tl, led' = tl ++ led ∧ Ap tl led ∧ DatIn (tl ++ S) r (Nd.dat (.kern wd))) := by
  unfold Ct
  intro dpC unC gdC cnC csC L aC ccdC clC outer A₀ base h₀ mC sC Q E B F X N T hk hd hu hret
  obtain ⟨a9, tK9, e9, hK9⟩ := hn.kd
  subst e9
  clear hK9 tK9
  cases hn with | kern a1 a2 a3 =>
  refine wpAny_call ?_
  k_dflt (refine' code_defL (binds := [(Str.ofString "node", .ref a9), (Str.ofString "depth", .int k t)]) (rb := [(Str.ofString "depth", .int k t), (Str.ofString "node", .ref a9)]) ?k1 ?k2 ?k3 ?k4 ?k5 ?kA ?kF ?kK ?k6 ?k7 ?k8 ?k9 ?kB rfl ?_ ?c2 ?c3 ?c4 ?c5; (case kA => exact rfl); (case kF => exact rfl); (case kK => exact hk); (case k1 => exact B); (case k3 => exact X); (case k5 => exact T); (case k6 => k_is); (case k7 => k_is); (case c5 => decide); (case kB => exact locs rfl); (case c2 => exact rfl); (case c3 => exact rfl); (case c4 => exact rfl); (case k2 => exact F); (case k4 => exact N); (case k8 => exact dp_ltz hd); (case k9 => exact hB _ (by k_in)); k_whole; intro g' L' h' tk' FG' m9 F' N' B' X' T' A9 qk ek)
  k_steps
  all_goals (first | ((repeat (rename _ ∧ _ => z9; obtain ⟨_, _⟩ := z9)); refine hret _ ([_] ++ led) _ _ (by assumption) (by assumption) ?_; exact ⟨_, rfl, (by k_extra "mine:ap"), (by k_extra "mine:dat")⟩))
theorem described_kern_k {v : Value} {vs9 : List Value} {k : Int} {t : Tok} {S led : Led} {wd : Int} (hB : Bd w vs9 v k t) (hs : ∀ q ∈ S, q ∈ led) (hn : NodeIn w S v (.kern wd)) (hk0 : k ≤ 60) :
  Kt w p loose mean mg mb 6 (.ref 535) vs9 [] led (fun K => ∀ tl r, (Ap tl led) → (DatIn (tl ++ S) r (Nd.dat (.kern wd))) → K (r) (tl ++ led)) :=
  Ct.kt (described_kern hB hs hn hk0) (fun K hK r0 l0 P0 => by
    obtain ⟨tl9, e2, f1, f2⟩ := P0
    subst e2
    exact hK tl9 r0 f1 f2)

theorem described_pen {v : Value} {vs9 : List Value} {k : Int} {t : Tok} {S led : Led} {x : Int} (hB : Bd w vs9 v k t) (hs : ∀ q ∈ S, q ∈ led) (hn : NodeIn w S v (.pen x)) (hk0 : k ≤ 60) :
  Ct w p loose mean mg mb 6 (.ref 535) vs9 [] led (fun r led' => ∃ tl, led' = tl ++ led ∧ Ap tl led ∧ DatIn (tl ++ S) r (Nd.dat (.pen x))) := by
  unfold Ct
  intro dpC unC gdC cnC csC L aC ccdC clC outer A₀ base h₀ mC sC Q E B F X N T hk hd hu hret
  obtain ⟨a9, tK9, e9, hK9⟩ := hn.kd
  subst e9
  clear hK9 tK9
  cases hn with | pen a1 a2 =>
  refine wpAny_call ?_
  k_dflt (refine' code_defL (binds := [(Str.ofString "node", .ref a9), (Str.ofString "depth", .int k t)]) (rb := [(Str.ofString "depth", .int k t), (Str.ofString "node", .ref a9)]) ?k1 ?k2 ?k3 ?k4 ?k5 ?kA ?kF ?kK ?k6 ?k7 ?k8 ?k9 ?kB rfl ?_ ?c2 ?c3 ?c4 ?c5; (case kA => exact rfl); (case kF => exact rfl); (case kK => exact hk); (case k1 => exact B); (case k3 => exact X); (case k5 => exact T); (case k6 => k_is); (case k7 => k_is); (case c5 => decide); (case kB => exact locs rfl); (case c2 => exact rfl); (case c3 => exact rfl); (case c4 => exact rfl); (case k2 => exact F); (case k4 => exact N); (case k8 => exact dp_ltz hd); (case k9 => exact hB _ (by k_in)); k_whole; intro g' L' h' tk' FG' m9 F' N' B' X' T' A9 qk ek)
  k_steps
  all_goals (first | ((repeat (rename _ ∧ _ => z9; obtain ⟨_, _⟩ := z9)); refine hret _ ([_] ++ led) _ _ (by assumption) (by assumption) ?_; exact ⟨_, rfl, (by k_extra "mine:ap"), (by k_extra "mine:dat")⟩))
theorem described_pen_k {v : Value} {vs9 : List Value} {k : Int} {t : Tok} {S led : Led} {x : Int} (hB : Bd w vs9 v k t) (hs : ∀ q ∈ S, q ∈ led) (hn : NodeIn w S v (.pen x)) (hk0 : k ≤ 60) :
  Kt w p loose mean mg mb 6 (.ref 535) vs9 [] led (fun K => ∀ tl r, (Ap tl led) → (DatIn (tl ++ S) r (Nd.dat (.pen x))) → K (r) (tl ++ led)) :=
  Ct.kt (described_pen hB hs hn hk0) (fun K hK r0 l0 P0 => by
    obtain ⟨tl9, e2, f1, f2⟩ := P0
    subst e2
    exact hK tl9 r0 f1 f2)

theorem described_mark {v : Value} {vs9 : List Value} {k : Int} {t : Tok} {S led : Led} {i : Int} (hB : Bd w vs9 v k t) (hs : ∀ q ∈ S, q ∈ led) (hn : NodeIn w S v (.mark i)) (hk0 : k ≤ 60) :
  Ct w p loose mean mg mb 6 (.ref 535) vs9 [] led (fun r led' => ∃ tl, led' = tl ++ led ∧ Ap tl led ∧ DatIn (tl ++ S) r (Nd.dat (.mark i))) := by
  unfold Ct
  intro dpC unC gdC cnC csC L aC ccdC clC outer A₀ base h₀ mC sC Q E B F X N T hk hd hu hret
  obtain ⟨a9, tK9, e9, hK9⟩ := hn.kd
  subst e9
  clear hK9 tK9
  cases hn with | mark a1 a2 dd =>
  refine wpAny_call ?_
  k_dflt (refine' code_defL (binds := [(Str.ofString "node", .ref a9), (Str.ofString "depth", .int k t)]) (rb := [(Str.ofString "depth", .int k t), (Str.ofString "node", .ref a9)]) ?k1 ?k2 ?k3 ?k4 ?k5 ?kA ?kF ?kK ?k6 ?k7 ?k8 ?k9 ?kB rfl ?_ ?c2 ?c3 ?c4 ?c5; (case kA => exact rfl); (case kF => exact rfl); (case kK => exact hk); (case k1 => exact B); (case k3 => exact X); (case k5 => exact T); (case k6 => k_is); (case k7 => k_is); (case c5 => decide); (case kB => exact locs rfl); (case c2 => exact rfl); (case c3 => exact rfl); (case c4 => exact rfl); (case k2 => exact F); (case k4 => exact N); (case k8 => exact dp_ltz hd); (case k9 => exact hB _ (by k_in)); k_whole; intro g' L' h' tk' FG' m9 F' N' B' X' T' A9 qk ek)
  k_steps
  all_goals (first | ((repeat (rename _ ∧ _ => z9; obtain ⟨_, _⟩ := z9)); refine hret _ ([_] ++ led) _ _ (by assumption) (by assumption) ?_; exact ⟨_, rfl, (by k_extra "mine:ap"), (by k_extra "mine:dat")⟩))
theorem described_mark_k {v : Value} {vs9 : List Value} {k : Int} {t : Tok} {S led : Led} {i : Int} (hB : Bd w vs9 v k t) (hs : ∀ q ∈ S, q ∈ led) (hn : NodeIn w S v (.mark i)) (hk0 : k ≤ 60) :
  Kt w p loose mean mg mb 6 (.ref 535) vs9 [] led (fun K => ∀ tl r, (Ap tl led) → (DatIn (tl ++ S) r (Nd.dat (.mark i))) → K (r) (tl ++ led)) :=
  Ct.kt (described_mark hB hs hn hk0) (fun K hK r0 l0 P0 => by
    obtain ⟨tl9, e2, f1, f2⟩ := P0
    subst e2
    exact hK tl9 r0 f1 f2)

theorem described_spec {v : Value} {vs9 : List Value} {k : Int} {t : Tok} {S led : Led}  (hB : Bd w vs9 v k t) (hs : ∀ q ∈ S, q ∈ led) (hn : NodeIn w S v .spec) (hk0 : k ≤ 60) :
  Ct w p loose mean mg mb 6 (.ref 535) vs9 [] led (fun r led' => ∃ tl, led' = tl ++ led ∧ Ap tl led ∧ DatIn (tl ++ S) r (Nd.dat .spec)) := by
  unfold Ct
  intro dpC unC gdC cnC csC L aC ccdC clC outer A₀ base h₀ mC sC Q E B F X N T hk hd hu hret
  obtain ⟨a9, tK9, e9, hK9⟩ := hn.kd
  subst e9
  clear hK9 tK9
  cases hn with | spec a1 a2 a3 =>
  refine wpAny_call ?_
  k_dflt (refine' code_defL (binds := [(Str.ofString "node", .ref a9), (Str.ofString "depth", .int k t)]) (rb := [(Str.ofString "depth", .int k t), (Str.ofString "node", .ref a9)]) ?k1 ?k2 ?k3 ?k4 ?k5 ?kA ?kF ?kK ?k6 ?k7 ?k8 ?k9 ?kB rfl ?_ ?c2 ?c3 ?c4 ?c5; (case kA => exact rfl); (case kF => exact rfl); (case kK => exact hk); (case k1 => exact B); (case k3 => exact X); (case k5 => exact T); (case k6 => k_is); (case k7 => k_is); (case c5 => decide); (case kB => exact locs rfl); (case c2 => exact rfl); (case c3 => exact rfl); (case c4 => exact rfl); (case k2 => exact F); (case k4 => exact N); (case k8 => exact dp_ltz hd); (case k9 => exact hB _ (by k_in)); k_whole; intro g' L' h' tk' FG' m9 F' N' B' X' T' A9 qk ek)
  k_steps
  all_goals (first | ((repeat (rename _ ∧ _ => z9; obtain ⟨_, _⟩ := z9)); refine hret _ ([_, _] ++ led) _ _ (by assumption) (by assumption) ?_; exact ⟨_, rfl, (by k_extra "mine:ap"), (by k_extra "mine:dat")⟩))
theorem described_spec_k {v : Value} {vs9 : List Value} {k : Int} {t : Tok} {S led : Led}  (hB : Bd w vs9 v k t) (hs : ∀ q ∈ S, q ∈ led) (hn : NodeIn w S v .spec) (hk0 : k ≤ 60) :
  Kt w p loose mean mg mb 6 (.ref 535) vs9 [] led (fun K => ∀ tl r, (Ap tl led) → (DatIn (tl ++ S) r (Nd.dat .spec)) → K (r) (tl ++ led)) :=
  Ct.kt (described_spec hB hs hn hk0) (fun K hK r0 l0 P0 => by
    obtain ⟨tl9, e2, f1, f2⟩ := P0
    subst e2
    exact hK tl9 r0 f1 f2)

theorem described_skip {v : Value} {vs9 : List Value} {k : Int} {t : Tok} {S led : Led} {g : Gl} {sort : Int} (hB : Bd w vs9 v k t) (hs : ∀ q ∈ S, q ∈ led) (hn : NodeIn w S v (.skip g sort)) (hk0 : k ≤ 60) :
  Ct w p loose mean mg mb 6 (.ref 535) vs9 [] led (fun r led' => ∃ tl, led' = tl ++ led ∧ Ap tl led ∧ DatIn (tl ++ S) r (Nd.dat (.skip g sort))) := by
  unfold Ct
  intro dpC unC gdC cnC csC L aC ccdC clC outer A₀ base h₀ mC sC Q E B F X N T hk hd hu hret
  obtain ⟨a9, tK9, e9, hK9⟩ := hn.kd
  subst e9
  clear hK9 tK9
  cases hn with | skip a1 a2 gg a3 a4 =>
  have gg := gg.mono hs
  have g6 := gg.parts
  refine wpAny_call ?_
  k_dflt (refine' code_defL (binds := [(Str.ofString "node", .ref a9), (Str.ofString "depth", .int k t)]) (rb := [(Str.ofString "depth", .int k t), (Str.ofString "node", .ref a9)]) ?k1 ?k2 ?k3 ?k4 ?k5 ?kA ?kF ?kK ?k6 ?k7 ?k8 ?k9 ?kB rfl ?_ ?c2 ?c3 ?c4 ?c5; (case kA => exact rfl); (case kF => exact rfl); (case kK => exact hk); (case k1 => exact B); (case k3 => exact X); (case k5 => exact T); (case k6 => k_is); (case k7 => k_is); (case c5 => decide); (case kB => exact locs rfl); (case c2 => exact rfl); (case c3 => exact rfl); (case c4 => exact rfl); (case k2 => exact F); (case k4 => exact N); (case k8 => exact dp_ltz hd); (case k9 => exact hB _ (by k_in)); k_whole; intro g' L' h' tk' FG' m9 F' N' B' X' T' A9 qk ek)
  k_steps
  all_goals (first | ((repeat (rename _ ∧ _ => z9; obtain ⟨_, _⟩ := z9)); refine hret _ ([_, _, _] ++ led) _ _ (by assumption) (by assumption) ?_; exact ⟨_, rfl, (by k_extra "mine:ap"), (by k_extra "mine:dat")⟩))
theorem described_skip_k {v : Value} {vs9 : List Value} {k : Int} {t : Tok} {S led : Led} {g : Gl} {sort : Int} (hB : Bd w vs9 v k t) (hs : ∀ q ∈ S, q ∈ led) (hn : NodeIn w S v (.skip g sort)) (hk0 : k ≤ 60) :
  Kt w p loose mean mg mb 6 (.ref 535) vs9 [] led (fun K => ∀ tl r, (Ap tl led) → (DatIn (tl ++ S) r (Nd.dat (.skip g sort))) → K (r) (tl ++ led)) :=
  Ct.kt (described_skip hB hs hn hk0) (fun K hK r0 l0 P0 => by
    obtain ⟨tl9, e2, f1, f2⟩ := P0
    subst e2
    exact hK tl9 r0 f1 f2)

end
end
section
theorem reg_head2 : True := by
  k_with "mine:all" => first | (exact off_sub (by assumption) (by k_extra "mine:sub")) | ((refine' List.forall_mem_cons.mpr ⟨?_, ?_⟩); (focus (exact off_mem (by assumption) (by k_mem))); k_all)
  k_with "mine:all" => exact Ap.ne (by assumption) (by k_mem)
  trivial
section
variable {w : World} {p : Program} {loose : List Str} {mean : ExcName → Option Value} {mg mb : Str → Option Value}
theorem opt_get {w1 w2 w3 v : Value} {x1 x2 x3 : Option Int} {i : Nat} (h : #[w1, w2, w3][i]? = some v) (o1 : optV x1 w1) (o2 : optV x2 w2) (o3 : optV x3 w3) : ∃ o, [x1, x2, x3][i]? = some o ∧ optV o v := by
  match i, h with
  | 0, h => simp at h; subst h; exact ⟨_, rfl, o1⟩
  | 1, h => simp at h; subst h; exact ⟨_, rfl, o2⟩
  | 2, h => simp at h; subst h; exact ⟨_, rfl, o3⟩
  | i + 3, h => simp at h
theorem Sub.left2 {a L : Led} : ∀ q ∈ L, q ∈ a ++ L := fun _ h => List.mem_append_right _ h
theorem opt_take {os : List (Option Int)} {i : Nat} {o : Option Int} (h : os[i]? = some o) : (os.take (i + 1)).map optDat = (os.take i).map optDat ++ [optDat o] := by
  rw [List.take_add_one, h]; simp
theorem datall_snoc {S : Led} {v : Value} {d : Dat} : ∀ {vs : List Value} {ds : List Dat}, DatAll S vs ds → DatIn S v d → DatAll S (vs ++ [v]) (ds ++ [d])
  | _, _, .nil, k => .cons k .nil
  | _, _, .cons h r, k => .cons h (datall_snoc r k)
theorem datall_len {S : Led} : ∀ {vs : List Value} {ds : List Dat}, DatAll S vs ds → vs.length = ds.length
  | _, _, .nil => rfl
  | _, _, .cons _ r => congrArg (· + 1) (datall_len r)
theorem opt_snoc {os : List (Option Int)} {i : Nat} {o : Option Int} {x : Addr × Obj} {tl : Led} {ys : List Value} {v : Value} (h : os[i]? = some o) (d : DatAll tl ys ((os.take i).map optDat)) (dv : DatIn [x] v (optDat o)) : DatAll (x :: tl) (ys ++ [v]) ((os.take (i + 1)).map optDat) := by
  rw [opt_take h]
  exact datall_snoc (DatAll.mono (fun _ h => .tail _ h) d) (dv.mono fun q hq => by rw [List.mem_singleton.mp hq]; exact .head _)
theorem tup_cat1 {prog : Program} {w : World} {A : Around} {E : Value → Shared → Prop} {s : Shared} {h₀ : Heap} {L t b : Addr} {m : Str → Option Value} {news : Led} {xs ys zs : List Value} {n1 n2 : Nat} {Q : Value → Shared → Prop} (F : Fr h₀ L s.heap m) (N : News h₀ L s.heap news) (m1 : (t, tupO xs n1) ∈ news) (m2 : (b, tupO ys n2) ∈ news)
    (hx : xs ≠ []) (hy : ys ≠ []) (hz : xs.length + ys.length ≤ 16384) (e : xs ++ ys = zs)
    (h : ∀ D h', Fr h₀ L h' m → News h₀ L h' ((D, ({ cls := .type "tuple", data := .seq zs.toArray } : Obj)) :: news) → (∀ p ∈ news, p.1 < D) → Q (.ref D) { s with heap := h' }) : wpAny (model prog w) A (binaryOp .Add (.ref t) (.ref b)) Q E s :=
  kde_addT F N (tup_led N m1) (tup_led N m2) (by simpa using hx) (by simpa using hy) (by simpa using hz) (by simpa using e) h
theorem rule_dat {S : Led} {D : Addr} {t : Tok} {ys : List Value} {wd ht : Option Int} {d : Int} {n : Nat} (hm : (D, tupO (.int 4 t :: ys) n) ∈ S) (h : DatAll S ys (([wd, ht, some d].take 3).map optDat)) : DatIn S (.ref D) (Nd.dat (.rule wd ht d)) := .tuple hm (.cons (.int _ _) h)
theorem reg_ltup : True := by
  k_with "w:eval ListComp" => first | ((k_here; (have zg := only8r); (clear zg); ((first | with_reducible refine ListComp_tup (F₀ := by k_asm) (by with_unfolding_all rfl) (by decide) (by rfl) (by decide) (by rfl) ?_ | k_dflt (refine ListComp_tup (F₀ := by k_asm) (by with_unfolding_all rfl) (by decide) (by rfl) (by decide) (by rfl) ?_))))) | fail
  k_with "w:call type:tuple" => first | ((k_here; (with_reducible show wpAny _ _ (call (Value.type _) [Value.ref _]) _ _ _); ((first | with_reducible refine' kde_tupleOf ?k1_k9 ?k2_k9 ?k3_k9 ?k4_k9 ?k5_k9 ?_ | k_dflt (refine' kde_tupleOf ?k1_k9 ?k2_k9 ?k3_k9 ?k4_k9 ?k5_k9 ?_)); k_dflt ((case k1_k9 => k_asm); (case k2_k9 => k_asm); (case k3_k9 => exact News.isList (by k_asm) (by k_mem)); (case k4_k9 => (simp only [List.size_toArray]; omega)); (case k5_k9 => exact rfl))); intro D' h' F' N' l1; (try k_lt l1))) | fail
  k_with "w:binaryOp Add ref ref" => first | ((k_here; (with_reducible show wpAny _ _ (binaryOp _ (Value.ref _) (Value.ref _)) _ _ _); ((first | with_reducible refine' tup_cat1 ?F_k9 ?N_k9 ?a_k9 ?b_k9 ?x_k9 ?y_k9 ?z_k9 ?e_k9 ?_ | k_dflt (refine' tup_cat1 ?F_k9 ?N_k9 ?a_k9 ?b_k9 ?x_k9 ?y_k9 ?z_k9 ?e_k9 ?_)); k_dflt ((case F_k9 => k_asm); (case N_k9 => k_asm); (case a_k9 => k_mem); (case b_k9 => k_mem); (case x_k9 => exact List.cons_ne_nil _ _); (case y_k9 => exact hy9); (case z_k9 => (simp only [List.length_cons, List.length_nil]; omega)); (case e_k9 => exact rfl); k_whole)); intro D' h' F' N' l1; (try k_lt l1))) | fail
  trivial

theorem described_rule {v : Value} {vs9 : List Value} {k : Int} {t : Tok} {S led : Led} {wd ht : Option Int} {de : Int} (hB : Bd w vs9 v k t) (hs : ∀ q ∈ S, q ∈ led) (hn : NodeIn w S v (.rule wd ht de)) (hk0 : k ≤ 60) :
  Ct w p loose mean mg mb 6 (.ref 535) vs9 [] led (fun r led' => ∃ tl, led' = tl ++ led ∧ Ap tl led ∧ DatIn (tl ++ S) r (Nd.dat (.rule wd ht de))) := by
  unfold Ct
  intro dpC unC gdC cnC csC L aC ccdC clC outer A₀ base h₀ mC sC Q E B F X N T hk hd hu hret
  obtain ⟨a9, tK9, e9, hK9⟩ := hn.kd
  subst e9
  clear hK9 tK9
  cases hn with | @rule _ _ _ _ w1 w2 t1 t2 a1 a2 o1 a3 o2 a4 =>
  have only8r := True.intro
  refine wpAny_call ?_
  k_dflt (refine' code_defL (binds := [(Str.ofString "node", .ref a9), (Str.ofString "depth", .int k t)]) (rb := [(Str.ofString "depth", .int k t), (Str.ofString "node", .ref a9)]) ?k1 ?k2 ?k3 ?k4 ?k5 ?kA ?kF ?kK ?k6 ?k7 ?k8 ?k9 ?kB rfl ?_ ?c2 ?c3 ?c4 ?c5; (case kA => exact rfl); (case kF => exact rfl); (case kK => exact hk); (case k1 => exact B); (case k3 => exact X); (case k5 => exact T); (case k6 => k_is); (case k7 => k_is); (case c5 => decide); (case kB => exact locs rfl); (case c2 => exact rfl); (case c3 => exact rfl); (case c4 => exact rfl); (case k2 => exact F); (case k4 => exact N); (case k8 => exact dp_ltz hd); (case k9 => exact hB _ (by k_in)); k_whole; intro g' L' h' tk' FG' m9 F' N' B' X' T' A9 qk ek)
  k_steps
  focus
    refine' TupSrc.intro (its := #[w1, w2, .int de t2]) (k := 0) ?hh9 ?F9 ?N9 ?hm9 ?hz9 ?_
    (case hh9 => exact rfl)
    (case F9 => assumption)
    (case N9 => assumption)
    (case hm9 => k_mem)
    (case hz9 => exact Nat.le_of_ble_eq_true rfl)
    intro g9
    refine comp_tl _ (fun i ys tl => DatAll tl ys (([wd, ht, some de].take i).map optDat)) .nil ?fin9 ?step9
    case step9 =>
      intro i ys tl v I oI C oC D m₂ h9 tk9 E9 hi a0 d0 hv hC hx F9 N9 off9 ne9
      obtain ⟨o9, ho9, hv9⟩ := opt_get hv o1 o2 (show optV (some de) (.int de t2) from ⟨_, rfl⟩)
      have offI' := fun p hp => ((LCg.Off3.mem off9) p hp).1
      have offC' := fun p hp => ((LCg.Off3.mem off9) p hp).2.1
      have offD' := fun p hp => ((LCg.Off3.mem off9) p hp).2.2
      clear off9
      cases o9 with
      | none =>
        cases hv9
        k_steps
        all_goals (first | (rename @LT.lt Nat _ I _ ∧ _ => zl; refine' comp_end (n3 := (_, _) :: (tl ++ _)) ?F8 ?N8 (Pick.tail .head) (Pick.tail .head) (Pick.tail .head) ?o1 ?o2 ?o3 ?hS8 ⟨_ :: tl, rfl, Ap.cons ?ap a0, opt_snoc ho9 d0 (.tuple (.head _) .nil)⟩; (case F8 => assumption); (case N8 => assumption); (case o1 => exact List.forall_mem_cons.mpr ⟨(Nat.ne_of_lt zl.1).symm, offI'⟩); (case o2 => exact List.forall_mem_cons.mpr ⟨(Nat.ne_of_lt zl.2.1).symm, offC'⟩); (case o3 => exact List.forall_mem_cons.mpr ⟨(Nat.ne_of_lt zl.2.2.1).symm, offD'⟩); (case hS8 => exact Or.inr ⟨_, List.mem_cons_of_mem _ (List.mem_append_right _ (by k_mem)), rfl, _, rfl⟩); (case ap => exact off_sub (AllLt_off zl.2.2.2) Sub.left2)))
      | some x9 =>
        obtain ⟨t9, e9⟩ := hv9
        cases e9
        k_steps
        all_goals (first | (rename @LT.lt Nat _ I _ ∧ _ => zl; refine' comp_end (n3 := (_, _) :: (tl ++ _)) ?F8 ?N8 (Pick.tail .head) (Pick.tail .head) (Pick.tail .head) ?o1 ?o2 ?o3 ?hS8 ⟨_ :: tl, rfl, Ap.cons ?ap a0, opt_snoc ho9 d0 (.tuple (.head _) (.cons (.int _ _) .nil))⟩; (case F8 => assumption); (case N8 => assumption); (case o1 => exact List.forall_mem_cons.mpr ⟨(Nat.ne_of_lt zl.1).symm, offI'⟩); (case o2 => exact List.forall_mem_cons.mpr ⟨(Nat.ne_of_lt zl.2.1).symm, offC'⟩); (case o3 => exact List.forall_mem_cons.mpr ⟨(Nat.ne_of_lt zl.2.2.1).symm, offD'⟩); (case hS8 => exact Or.inr ⟨_, List.mem_cons_of_mem _ (List.mem_append_right _ (by k_mem)), rfl, _, rfl⟩); (case ap => exact off_sub (AllLt_off zl.2.2.2) Sub.left2)))
    case fin9 =>
      intro ys tl a0 d0
      have hy8 : ys.length = 3 := datall_len d0
      have hy9 : ys ≠ [] := fun e => by rw [e] at hy8; cases hy8
      k_steps
      all_goals (first | ((repeat (rename _ ∧ _ => z9; obtain ⟨_, _⟩ := z9)); refine' hret _ ((_, _) :: (_, _) :: (_, _) :: (tl ++ [_, _]) ++ led) _ _ ?zF8 (News.re ?zN8 ?zS8) ⟨_, rfl, ?zA8, rule_dat (.head _) (DatAll.mono ?zD8 d0)⟩; (case zF8 => assumption); (case zN8 => assumption); (case zS8 => ((simp only [List.cons_append, List.append_assoc, List.nil_append]); k_extra "mine:subs")); (case zA8 => k_extra "mine:ap"); (case zD8 => ((simp only [List.cons_append, List.append_assoc, List.nil_append]); k_extra "mine:subs"))))

theorem described_rule_k {v : Value} {vs9 : List Value} {k : Int} {t : Tok} {S led : Led} {wd ht : Option Int} {de : Int} (hB : Bd w vs9 v k t) (hs : ∀ q ∈ S, q ∈ led) (hn : NodeIn w S v (.rule wd ht de)) (hk0 : k ≤ 60) :
  Kt w p loose mean mg mb 6 (.ref 535) vs9 [] led (fun K => ∀ tl r, (Ap tl led) → (DatIn (tl ++ S) r (Nd.dat (.rule wd ht de))) → K (r) (tl ++ led)) :=
  Ct.kt (described_rule hB hs hn hk0) (fun K hK r0 l0 P0 => by
    obtain ⟨tl9, e2, f1, f2⟩ := P0
    subst e2
    exact hK tl9 r0 f1 f2)

end
end
section
section
variable {w : World} {p : Program} {loose : List Str} {mean : ExcName → Option Value} {mg mb : Str → Option Value}
theorem reg_enterC : True := by
  k_with "w:call type:tuple" => first | ((k_here; (with_reducible show wpAny _ _ (call (Value.type _) [Value.ref _]) _ _ _); ((first | with_reducible refine' kde_tupleOf ?k1_k9 ?k2_k9 ?k3_k9 ?k4_k9 ?k5_k9 ?_ | k_dflt (refine' kde_tupleOf ?k1_k9 ?k2_k9 ?k3_k9 ?k4_k9 ?k5_k9 ?_)); k_dflt ((case k1_k9 => k_asm); (case k2_k9 => k_asm); (case k3_k9 => exact News.isList (by k_asm) (by k_mem)); (case k4_k9 => (simp only [List.size_toArray]; omega)); (case k5_k9 => exact rfl))); intro D' h' F' N' l1; (try k_lt l1))) | fail
  k_with "mine:enterC" => first | ((refine' code_defC ?k1_k9 ?k2_k9 ?k3_k9 ?k4_k9 ?k5_k9 ?kA_k9 ?kF_k9 ?kK_k9 ?k6_k9 ?k7_k9 ?k8_k9 ?k9_k9 ?kB_k9 ?kD_k9 ?_ ?c2_k9 ?c3_k9 ?c4_k9; (case kA_k9 => exact rfl); (case kF_k9 => exact rfl); (case kK_k9 => first | assumption | exact rfl); (case k1_k9 => k_asm); (case k2_k9 => k_asm); (case k3_k9 => k_asm); (case k4_k9 => k_asm); (case k5_k9 => k_asm); (case k6_k9 => k_is); (case k7_k9 => k_is); (case k8_k9 => k_room); (case k9_k9 => exact hB _ (by k_in)); (case kB_k9 => exact rfl); (case kD_k9 => decide +kernel); (case c2_k9 => exact rfl); (case c3_k9 => exact rfl); (case c4_k9 => exact rfl); k_whole; intro g' L' h' tk' cells' FG' F' N' Y' B' X' T' l1; (try k_lt l1); k_cells Y'; (try simp only [List.cons_append, List.nil_append] at N'); (try dsimp only); (try k_fold))) | fail
  trivial

noncomputable def FD541 : FuncData := fd (st 51) "described_list" 3 [] (.ref 536) (.none) (.none) (.str "gluepage.nodes" 608) none (.ref 540) (.none) 0
noncomputable def Bl (w : World) (vs : List Value) (v : Value) (k : Int) (t : Tok) : Prop := ∀ s : Shared, (Mine.hd.heap_1 w.params).In s.heap → BindsTo s FD541 ⟨vs, []⟩ [("items", v), ("depth", .int k t)]
theorem Bl.two {v : Value} {k : Int} {t : Tok} : Bl w [v, .int k t] v k t := fun s X => binds_K X rfl (by k_is) rfl rfl rfl
theorem Bl.one {v : Value} : ∃ t, Bl w [v] v 0 t := ⟨_, fun s X => binds_K X rfl (by k_is) rfl rfl rfl⟩

theorem dats_take {ds : List Nd} {i : Nat} {nd : Nd} (h : ds[i]? = some nd) : (Nd.dats ds).take (i + 1) = (Nd.dats ds).take i ++ [nd.dat] := by
  rw [Nd.dats_map, List.take_add_one, List.getElem?_map, h]; rfl
theorem sub3a {a b c : Led} : ∀ q ∈ b ++ c, q ∈ (a ++ b) ++ c := fun q h => by rw [List.append_assoc]; exact List.mem_append_right _ h
theorem sub3b {a b c : Led} : ∀ q ∈ a ++ c, q ∈ (a ++ b) ++ c := fun q h => (List.mem_append.mp h).elim (fun h => List.mem_append_left _ (List.mem_append_left _ h)) fun h => List.mem_append_right _ h
theorem sub3c {x y : Addr × Obj} {a b c : Led} : ∀ q ∈ a ++ c, q ∈ (x :: y :: (a ++ b)) ++ c := fun q h => .tail _ (.tail _ (sub3b q h))
theorem dlist_fin {h₀ h' : Heap} {L D1 D2 : Addr} {S led tl0 : Led} {cell : Addr × Obj} {ys : List Value} {ds : List Dat} {o : Obj} (offE : ∀ p ∈ tl0 ++ cell :: led, p.1 ≠ D1) (l1 : @LT.lt Nat _ D1 D2 ∧ AllLt D2 (tl0 ++ cell :: led)) (a0 : Ap tl0 (cell :: led)) (offc : ∀ p ∈ led, p.1 ≠ cell.1) (d0 : DatAll (tl0 ++ S) ys ds)
    (N : News h₀ L h' ((D2, ({ cls := .type "tuple", data := .seq ys.toArray } : Obj)) :: (D1, o) :: (tl0 ++ cell :: led))) : ∃ tl, News h₀ L h' (tl ++ led) ∧ Ap tl led ∧ DatIn (tl ++ S) (.ref D2) (.tuple ds) := by
  refine ⟨(D2, { cls := .type "tuple", data := .seq ys.toArray }) :: (D1, o) :: (tl0 ++ [cell]), fun q hq => N q ?_, Ap.cons (AllLt_off (AllLt.ofsub l1.2 fun q h => List.mem_append_right _ (.tail _ h))) (Ap.cons (off_sub offE fun q h => List.mem_append_right _ (.tail _ h)) (Ap.app (Ap.sub a0 fun q h => .tail _ h) (Ap.cons offc Ap.nil))), .tuple (.head _) (DatAll.mono sub3c d0)⟩
  simpa [List.append_assoc] using hq
theorem reg_hel : True := by
  k_with "w:call ref" => first | ((k_here; (with_reducible show wpAny _ _ (call (Value.ref 535) [_, _] _) _ _ _); ((first | with_reducible refine' Kt.use (hel _ _ _ _ _ ?s_k9 ?p_k9 ?n_k9) ?hh_k9 ?hf_k9 ?B_k9 ?F_k9 ?X_k9 ?N_k9 ?T_k9 ?hk_k9 ?hd_k9 ?hu_k9 ?_ | k_dflt (refine' Kt.use (hel _ _ _ _ _ ?s_k9 ?p_k9 ?n_k9) ?hh_k9 ?hf_k9 ?B_k9 ?F_k9 ?X_k9 ?N_k9 ?T_k9 ?hk_k9 ?hd_k9 ?hu_k9 ?_)); k_dflt ((case F_k9 => k_asm); (case B_k9 => k_asm); (case X_k9 => k_asm); (case N_k9 => k_asm); (case T_k9 => k_asm); (case n_k9 => exact hin9); (case p_k9 => exact hp9); (case s_k9 => k_extra "mine:sub"); (case hh_k9 => exact rfl); (case hf_k9 => exact rfl); (case hk_k9 => first | exact rfl | assumption); (case hd_k9 => k_extra "mine:dp"); (case hu_k9 => k_extra "mine:un"))); intro tl9 r9 f9 d9 h9 tk9 F9 N9; (try k_sweep); (try dsimp only); (try k_fold))) | fail
  trivial

theorem dlist_of {P : Nd → Prop} {lv : Nat} {k : Int} {l : Addr} {n : Nat} {vs as9 : List Value} {ds : List Nd} {t : Tok} {S led : Led} (hel : ∀ (v : Value) (nd : Nd) (t : Tok) (S led : Led), (∀ q ∈ S, q ∈ led) → P nd → NodeIn w S v nd → Kt w p loose mean mg mb lv (.ref 535) [v, .int k t] [] led (fun K => ∀ tl r, (Ap tl led) → (DatIn (tl ++ S) r (nd.dat)) → K (r) (tl ++ led))) (hB : Bl w as9 (.ref l) k t) (hs : ∀ q ∈ S, q ∈ led) (hl : (l, PySem.W.listOf vs.toArray n) ∈ S) (hn : NodesIn w S vs ds) (hP : ∀ d ∈ ds, P d) (hlen : vs.length ≤ 100) :
  Ct w p loose mean mg mb (lv + 1) (.ref 541) as9 [] led (fun r led' => ∃ tl, led' = tl ++ led ∧ Ap tl led ∧ DatIn (tl ++ S) r (.tuple (Nd.dats ds))) := by
  unfold Ct
  intro dpC unC gdC cnC csC L aC ccdC clC outer A₀ base h₀ mC sC Q E B F X N T hk hd hu hret
  refine wpAny_call ?_
  k_dflt (k_extra "mine:enterC")
  k_steps
  focus
    rename Obj => o9
    refine' LCg.CompSrc.ledger (its := vs.toArray) (k := n) ?hh9 ?F9 ?N9 ?hm9 ?hz9 ?_
    (case hh9 => exact rfl)
    (case F9 => assumption)
    (case N9 => assumption)
    (case hm9 => exact List.mem_cons_of_mem _ (hs _ hl))
    (case hz9 => rw [List.size_toArray, sizeLine_eq]; omega)
    intro g9
    refine comp_inv _ (fun i ys nw => ∃ tl, nw = tl ++ (L' + 1, o9) :: led ∧ Ap tl ((L' + 1, o9) :: led) ∧ DatAll (tl ++ S) ys ((Nd.dats ds).take i)) ⟨[], rfl, Ap.nil, .nil⟩ ?fin9 ?step9
    case step9 =>
      intro i ys nw v I oI C oC D m₂ h9 tk9 E9 hi hInv hv hC hx F9 N9 off9 ne9
      obtain ⟨tl0, e0, a0, d0⟩ := hInv
      subst e0
      have hv2 : vs[i]? = some v := by simpa using hv
      obtain ⟨nd9, hnd9, hin9⟩ := hn.get hv2
      have hp9 := hP nd9 (List.mem_of_getElem? hnd9)
      have offI' := fun p hp => ((LCg.Off3.mem off9) p hp).1
      have offC' := fun p hp => ((LCg.Off3.mem off9) p hp).2.1
      have offD' := fun p hp => ((LCg.Off3.mem off9) p hp).2.2
      k_steps
      refine' comp_end (n3 := tl9 ++ (tl0 ++ (L' + 1, o9) :: led)) ?F8 ?N8 (Pick.app .head) (Pick.app .head) (Pick.app .head) ?o1 ?o2 ?o3 ?hS8 ?_
      (case F8 => assumption)
      (case N8 => assumption)
      (case o1 => first | k_all | fail "k_all")
      (case o2 => first | k_all | fail "k_all")
      (case o3 => first | k_all | fail "k_all")
      (case hS8 => exact Or.inr ⟨_, List.mem_append_right _ (List.mem_append_right _ (List.mem_cons_of_mem _ (hs _ hl))), rfl, _, rfl⟩)
      refine ⟨tl9 ++ tl0, (List.append_assoc _ _ _).symm, Ap.app (Ap.sub (by assumption) (by k_extra "mine:sub")) a0, ?_⟩
      rw [dats_take hnd9]
      exact datall_snoc (DatAll.mono sub3a d0) (DatIn.mono sub3b d9)
    case fin9 =>
      intro ys nw hInv
      obtain ⟨tl0, e0, a0, d0⟩ := hInv
      subst e0
      have e9 : (Nd.dats ds).take vs.toArray.size = Nd.dats ds := List.take_of_length_le (by rw [Nd.dats_map, List.length_map, ← hn.length, List.size_toArray]; exact Nat.le_refl _)
      rw [e9] at d0
      have hlen9 : ys.length ≤ 100 := by rw [datall_len d0, Nd.dats_map, List.length_map, ← hn.length]; exact hlen
      have offc : ∀ p ∈ led, p.1 ≠ L' + 1 := by
        first | exact fun p hp => Nat.ne_of_lt (Nat.lt_succ_of_lt (l1 p hp)) | exact fun p hp => Nat.ne_of_lt (Nat.lt_succ_of_lt (ktn_ltOf l1 p hp))
      k_steps
      obtain ⟨tl, n8, a8, d8⟩ := dlist_fin offE' l1 a0 offc d0 (by assumption)
      exact hret _ _ _ _ (by assumption) n8 ⟨tl, rfl, a8, d8⟩

theorem dlist_of_k {P : Nd → Prop} {lv : Nat} {k : Int} {l : Addr} {n : Nat} {vs as9 : List Value} {ds : List Nd} {t : Tok} {S led : Led} (hel : ∀ (v : Value) (nd : Nd) (t : Tok) (S led : Led), (∀ q ∈ S, q ∈ led) → P nd → NodeIn w S v nd → Kt w p loose mean mg mb lv (.ref 535) [v, .int k t] [] led (fun K => ∀ tl r, (Ap tl led) → (DatIn (tl ++ S) r (nd.dat)) → K (r) (tl ++ led))) (hB : Bl w as9 (.ref l) k t) (hs : ∀ q ∈ S, q ∈ led) (hl : (l, PySem.W.listOf vs.toArray n) ∈ S) (hn : NodesIn w S vs ds) (hP : ∀ d ∈ ds, P d) (hlen : vs.length ≤ 100) :
  Kt w p loose mean mg mb (lv + 1) (.ref 541) as9 [] led (fun K => ∀ tl r, (Ap tl led) → (DatIn (tl ++ S) r (.tuple (Nd.dats ds))) → K (r) (tl ++ led)) :=
  Ct.kt (dlist_of hel hB hs hl hn hP hlen) (fun K hK r0 l0 P0 => by
    obtain ⟨tl9, e2, f1, f2⟩ := P0
    subst e2
    exact hK tl9 r0 f1 f2)

end
end
section
section
variable {w : World} {p : Program} {loose : List Str} {mean : ExcName → Option Value} {mg mb : Str → Option Value}
theorem reg_hdl : True := by
  k_with "w:call ref" => first | ((k_here; (with_reducible show wpAny _ _ (call (Value.ref 541) [_, _] _) _ _ _); ((first | with_reducible refine' Kt.use (hdl _ _ _ _ _ _ _ ?s_k9 ?m_k9 ?n_k9 ?p_k9 ?l_k9) ?hh_k9 ?hf_k9 ?B_k9 ?F_k9 ?X_k9 ?N_k9 ?T_k9 ?hk_k9 ?hd_k9 ?hu_k9 ?_ | k_dflt (refine' Kt.use (hdl _ _ _ _ _ _ _ ?s_k9 ?m_k9 ?n_k9 ?p_k9 ?l_k9) ?hh_k9 ?hf_k9 ?B_k9 ?F_k9 ?X_k9 ?N_k9 ?T_k9 ?hk_k9 ?hd_k9 ?hu_k9 ?_)); k_dflt ((case F_k9 => k_asm); (case B_k9 => k_asm); (case X_k9 => k_asm); (case N_k9 => k_asm); (case T_k9 => k_asm); (case m_k9 => assumption); (case n_k9 => assumption); (case p_k9 => assumption); (case s_k9 => k_extra "mine:sub"); (case l_k9 => assumption); (case hh_k9 => exact rfl); (case hf_k9 => exact rfl); (case hk_k9 => first | exact rfl | assumption); (case hd_k9 => k_extra "mine:dp"); (case hu_k9 => k_extra "mine:un"))); intro tl9 r9 f9 d9 h9 tk9 F9 N9; (try k_sweep); (try dsimp only); (try k_fold))) | fail
  trivial

inductive Dec (led : Led) : Led → Led → Prop
  | nil : Dec led led []
  | cons {x : Addr × Obj} {f tl : Led} : Dec led f tl → Dec led (x :: f) (x :: tl)
  | app {a f tl : Led} : Dec led f tl → Dec led (a ++ f) (a ++ tl)
theorem Dec.eq {led : Led} : ∀ {f tl : Led}, Dec led f tl → f = tl ++ led
  | _, _, .nil => rfl
  | _, _, .cons h => congrArg _ h.eq
  | _, _, .app h => by rw [h.eq, List.append_assoc]
theorem reg_A10_1336 : True := by
  k_with "mine:dec" => first | (first | with_reducible exact Dec.nil | ((with_reducible apply Dec.cons); k_extra "mine:dec") | ((with_reducible apply Dec.app); k_extra "mine:dec")) | fail
  k_with "mine:dat2" => first | (first | exact DatIn.none | exact DatIn.int _ _ | exact DatIn.str _ _ | ((refine DatIn.mono ?_ (by assumption)); k_extra "mine:subs") | (exact DatIn.tuple (by first | k_extra "mine:in" | k_mem) (by k_extra "mine:datall2"))) | fail
  k_with "mine:datall2" => first | (first | exact DatAll.nil | exact DatAll.cons (by k_extra "mine:dat2") (by k_extra "mine:datall2") | ((refine DatAll.mono ?_ (by assumption)); k_extra "mine:subs")) | fail
  k_with "w:binaryOp Add ref ref" => first | ((k_here; (with_reducible show wpAny _ _ (binaryOp _ (Value.ref _) (Value.ref _)) _ _ _); ((first | with_reducible refine' tup_cat1 ?F_k9 ?N_k9 ?a_k9 ?b_k9 ?x_k9 ?y_k9 ?z_k9 ?e_k9 ?_ | k_dflt (refine' tup_cat1 ?F_k9 ?N_k9 ?a_k9 ?b_k9 ?x_k9 ?y_k9 ?z_k9 ?e_k9 ?_)); k_dflt ((case F_k9 => k_asm); (case N_k9 => k_asm); (case a_k9 => k_mem); (case b_k9 => k_mem); (case x_k9 => exact List.cons_ne_nil _ _); (case y_k9 => exact List.cons_ne_nil _ _); (case z_k9 => exact Nat.le_of_ble_eq_true rfl); (case e_k9 => (simp only [List.cons_append, List.nil_append]; exact rfl)); k_whole)); intro D' h' F' N' l1; (try k_lt l1))) | fail
  trivial
theorem described_box2 {P : Nd → Prop} {lv : Nat} {v : Value} {vs9 : List Value} {k : Int} {t : Tok} {S led : Led} {wd ht de sf sg od r1 r2 : Int} {items : List Nd} (hdl : ∀ (l : Addr) (n : Nat) (vs : List Value) (ds : List Nd) (t : Tok) (S led : Led), (∀ q ∈ S, q ∈ led) → (l, PySem.W.listOf vs.toArray n) ∈ S → NodesIn w S vs ds → (∀ d ∈ ds, P d) → vs.length ≤ 100 → Kt w p loose mean mg mb lv (.ref 541) [.ref l, .int (k + 1) t] [] led (fun K => ∀ tl r, (Ap tl led) → (DatIn (tl ++ S) r (.tuple (Nd.dats ds))) → K (r) (tl ++ led))) (hB : Bd w vs9 v k t) (hs : ∀ q ∈ S, q ∈ led) (hn : NodeIn w S v (.box 2 wd ht de sf sg od r1 r2 items)) (hP : ∀ d ∈ items, P d) (hlen : items.length ≤ 100) (hk0 : k ≤ 60) (hk1 : -10 ≤ k) :
  Ct w p loose mean mg mb (lv + 3) (.ref 535) vs9 [] led (fun r led' => ∃ tl, led' = tl ++ led ∧ Ap tl led ∧ DatIn (tl ++ S) r (Nd.dat (.box 2 wd ht de sf sg od r1 r2 items))) := by
  unfold Ct
  intro dpC unC gdC cnC csC L aC ccdC clC outer A₀ base h₀ mC sC Q E B F X N T hk hd hu hret
  obtain ⟨aN, tK9, e9, hK9⟩ := hn.kd
  subst e9
  clear hK9 tK9
  cases hn with | @box a l rt kd wd ht de sf sg od r1 r2 items vs n n2 t1 t2 t3 t4 t5 t6 t7 t8 t9 a1 a2 a3 a4 a5 a6 a7 a8 a9 b1 b2 cc =>
  have hl9 : vs.length ≤ 100 := by rw [cc.length]; exact hlen
  refine wpAny_call ?_
  k_dflt (refine' code_defL (binds := [(Str.ofString "node", .ref aN), (Str.ofString "depth", .int k t)]) (rb := [(Str.ofString "depth", .int k t), (Str.ofString "node", .ref aN)]) ?k1 ?k2 ?k3 ?k4 ?k5 ?kA ?kF ?kK ?k6 ?k7 ?k8 ?k9 ?kB rfl ?_ ?c2 ?c3 ?c4 ?c5; (case kA => exact rfl); (case kF => exact rfl); (case kK => exact hk); (case k1 => exact B); (case k3 => exact X); (case k5 => exact T); (case k6 => k_is); (case k7 => k_is); (case c5 => decide); (case kB => exact locs rfl); (case c2 => exact rfl); (case c3 => exact rfl); (case c4 => exact rfl); (case k2 => exact F); (case k4 => exact N); (case k8 => exact dp_ltz hd); (case k9 => exact hB _ (by k_in)); k_whole; intro g' L' h' tk' FG' m9 F' N' B' X' T' A9 qk ek)
  k_steps
  all_goals (first | ((repeat (rename _ ∧ _ => z9; obtain ⟨_, _⟩ := z9)); refine' hret _ _ _ _ ?zF8 ?zN8 ⟨_, Dec.eq ?zD8, ?zA8, ?zV8⟩; (case zF8 => assumption); (case zN8 => assumption); (case zD8 => k_extra "mine:dec"); (case zA8 => k_extra "mine:ap"); (case zV8 => ((simp only [List.cons_append, List.nil_append, List.append_assoc]); k_extra "mine:dat2"))))
theorem described_box2_k {P : Nd → Prop} {lv : Nat} {v : Value} {vs9 : List Value} {k : Int} {t : Tok} {S led : Led} {wd ht de sf sg od r1 r2 : Int} {items : List Nd} (hdl : ∀ (l : Addr) (n : Nat) (vs : List Value) (ds : List Nd) (t : Tok) (S led : Led), (∀ q ∈ S, q ∈ led) → (l, PySem.W.listOf vs.toArray n) ∈ S → NodesIn w S vs ds → (∀ d ∈ ds, P d) → vs.length ≤ 100 → Kt w p loose mean mg mb lv (.ref 541) [.ref l, .int (k + 1) t] [] led (fun K => ∀ tl r, (Ap tl led) → (DatIn (tl ++ S) r (.tuple (Nd.dats ds))) → K (r) (tl ++ led))) (hB : Bd w vs9 v k t) (hs : ∀ q ∈ S, q ∈ led) (hn : NodeIn w S v (.box 2 wd ht de sf sg od r1 r2 items)) (hP : ∀ d ∈ items, P d) (hlen : items.length ≤ 100) (hk0 : k ≤ 60) (hk1 : -10 ≤ k) :
  Kt w p loose mean mg mb (lv + 3) (.ref 535) vs9 [] led (fun K => ∀ tl r, (Ap tl led) → (DatIn (tl ++ S) r (Nd.dat (.box 2 wd ht de sf sg od r1 r2 items))) → K (r) (tl ++ led)) :=
  Ct.kt (described_box2 hdl hB hs hn hP hlen hk0 hk1) (fun K hK r0 l0 P0 => by
    obtain ⟨tl9, e2, f1, f2⟩ := P0
    subst e2
    exact hK tl9 r0 f1 f2)

theorem described_box3 {P : Nd → Prop} {lv : Nat} {v : Value} {vs9 : List Value} {k : Int} {t : Tok} {S led : Led} {wd ht de sf sg od r1 r2 : Int} {items : List Nd} (hdl : ∀ (l : Addr) (n : Nat) (vs : List Value) (ds : List Nd) (t : Tok) (S led : Led), (∀ q ∈ S, q ∈ led) → (l, PySem.W.listOf vs.toArray n) ∈ S → NodesIn w S vs ds → (∀ d ∈ ds, P d) → vs.length ≤ 100 → Kt w p loose mean mg mb lv (.ref 541) [.ref l, .int (k + 1) t] [] led (fun K => ∀ tl r, (Ap tl led) → (DatIn (tl ++ S) r (.tuple (Nd.dats ds))) → K (r) (tl ++ led))) (hB : Bd w vs9 v k t) (hs : ∀ q ∈ S, q ∈ led) (hn : NodeIn w S v (.box 3 wd ht de sf sg od r1 r2 items)) (hP : ∀ d ∈ items, P d) (hlen : items.length ≤ 100) (hk0 : k ≤ 60) (hk1 : -10 ≤ k) :
  Ct w p loose mean mg mb (lv + 3) (.ref 535) vs9 [] led (fun r led' => ∃ tl, led' = tl ++ led ∧ Ap tl led ∧ DatIn (tl ++ S) r (Nd.dat (.box 3 wd ht de sf sg od r1 r2 items))) := by
  unfold Ct
  intro dpC unC gdC cnC csC L aC ccdC clC outer A₀ base h₀ mC sC Q E B F X N T hk hd hu hret
  obtain ⟨aN, tK9, e9, hK9⟩ := hn.kd
  subst e9
  clear hK9 tK9
  cases hn with | @box a l rt kd wd ht de sf sg od r1 r2 items vs n n2 t1 t2 t3 t4 t5 t6 t7 t8 t9 a1 a2 a3 a4 a5 a6 a7 a8 a9 b1 b2 cc =>
  have hl9 : vs.length ≤ 100 := by rw [cc.length]; exact hlen
  refine wpAny_call ?_
  k_dflt (refine' code_defL (binds := [(Str.ofString "node", .ref aN), (Str.ofString "depth", .int k t)]) (rb := [(Str.ofString "depth", .int k t), (Str.ofString "node", .ref aN)]) ?k1 ?k2 ?k3 ?k4 ?k5 ?kA ?kF ?kK ?k6 ?k7 ?k8 ?k9 ?kB rfl ?_ ?c2 ?c3 ?c4 ?c5; (case kA => exact rfl); (case kF => exact rfl); (case kK => exact hk); (case k1 => exact B); (case k3 => exact X); (case k5 => exact T); (case k6 => k_is); (case k7 => k_is); (case c5 => decide); (case kB => exact locs rfl); (case c2 => exact rfl); (case c3 => exact rfl); (case c4 => exact rfl); (case k2 => exact F); (case k4 => exact N); (case k8 => exact dp_ltz hd); (case k9 => exact hB _ (by k_in)); k_whole; intro g' L' h' tk' FG' m9 F' N' B' X' T' A9 qk ek)
  k_steps
  all_goals (first | ((repeat (rename _ ∧ _ => z9; obtain ⟨_, _⟩ := z9)); refine' hret _ _ _ _ ?zF8 ?zN8 ⟨_, Dec.eq ?zD8, ?zA8, ?zV8⟩; (case zF8 => assumption); (case zN8 => assumption); (case zD8 => k_extra "mine:dec"); (case zA8 => k_extra "mine:ap"); (case zV8 => ((simp only [List.cons_append, List.nil_append, List.append_assoc]); k_extra "mine:dat2"))))
theorem described_box3_k {P : Nd → Prop} {lv : Nat} {v : Value} {vs9 : List Value} {k : Int} {t : Tok} {S led : Led} {wd ht de sf sg od r1 r2 : Int} {items : List Nd} (hdl : ∀ (l : Addr) (n : Nat) (vs : List Value) (ds : List Nd) (t : Tok) (S led : Led), (∀ q ∈ S, q ∈ led) → (l, PySem.W.listOf vs.toArray n) ∈ S → NodesIn w S vs ds → (∀ d ∈ ds, P d) → vs.length ≤ 100 → Kt w p loose mean mg mb lv (.ref 541) [.ref l, .int (k + 1) t] [] led (fun K => ∀ tl r, (Ap tl led) → (DatIn (tl ++ S) r (.tuple (Nd.dats ds))) → K (r) (tl ++ led))) (hB : Bd w vs9 v k t) (hs : ∀ q ∈ S, q ∈ led) (hn : NodeIn w S v (.box 3 wd ht de sf sg od r1 r2 items)) (hP : ∀ d ∈ items, P d) (hlen : items.length ≤ 100) (hk0 : k ≤ 60) (hk1 : -10 ≤ k) :
  Kt w p loose mean mg mb (lv + 3) (.ref 535) vs9 [] led (fun K => ∀ tl r, (Ap tl led) → (DatIn (tl ++ S) r (Nd.dat (.box 3 wd ht de sf sg od r1 r2 items))) → K (r) (tl ++ led)) :=
  Ct.kt (described_box3 hdl hB hs hn hP hlen hk0 hk1) (fun K hK r0 l0 P0 => by
    obtain ⟨tl9, e2, f1, f2⟩ := P0
    subst e2
    exact hK tl9 r0 f1 f2)

theorem described_ins {P : Nd → Prop} {lv : Nat} {v : Value} {vs9 : List Value} {k : Int} {t : Tok} {S led : Led} (hdl : ∀ (l : Addr) (n : Nat) (vs : List Value) (ds : List Nd) (t : Tok) (S led : Led), (∀ q ∈ S, q ∈ led) → (l, PySem.W.listOf vs.toArray n) ∈ S → NodesIn w S vs ds → (∀ d ∈ ds, P d) → vs.length ≤ 100 → Kt w p loose mean mg mb lv (.ref 541) [.ref l, .int (k + 1) t] [] led (fun K => ∀ tl r, (Ap tl led) → (DatIn (tl ++ S) r (.tuple (Nd.dats ds))) → K (r) (tl ++ led))) (hB : Bd w vs9 v k t) (hs : ∀ q ∈ S, q ∈ led) (hn : NodeIn w S v .ins) (hP0 : P (.kern 5)) (hk0 : k ≤ 60) (hk1 : -10 ≤ k) :
  Ct w p loose mean mg mb (lv + 8) (.ref 535) vs9 [] led (fun r led' => ∃ tl, led' = tl ++ led ∧ Ap tl led ∧ DatIn (tl ++ S) r (Nd.dat .ins)) := by
  unfold Ct
  intro dpC unC gdC cnC csC L aC ccdC clC outer A₀ base h₀ mC sC Q E B F X N T hk hd hu hret
  obtain ⟨aN, tK9, e9, hK9⟩ := hn.kd
  subst e9
  clear hK9 tK9
  cases hn with | @ins a ga l kv n t1 t2 t3 t4 t5 a1 a2 a3 a4 a5 gg a6 a7 m kk =>
  have gg := gg.mono hs
  have g6 := gg.parts
  have hns : NodesIn w S [.ref kv] [.kern 5] := .cons kk .nil
  have hP9 : ∀ d ∈ [Nd.kern 5], P d := fun d hd => by rw [List.mem_singleton.mp hd]; exact hP0
  have hl9 : [Value.ref kv].length ≤ 100 := Nat.le_of_ble_eq_true rfl
  refine wpAny_call ?_
  k_dflt (refine' code_defL (binds := [(Str.ofString "node", .ref aN), (Str.ofString "depth", .int k t)]) (rb := [(Str.ofString "depth", .int k t), (Str.ofString "node", .ref aN)]) ?k1 ?k2 ?k3 ?k4 ?k5 ?kA ?kF ?kK ?k6 ?k7 ?k8 ?k9 ?kB rfl ?_ ?c2 ?c3 ?c4 ?c5; (case kA => exact rfl); (case kF => exact rfl); (case kK => exact hk); (case k1 => exact B); (case k3 => exact X); (case k5 => exact T); (case k6 => k_is); (case k7 => k_is); (case c5 => decide); (case kB => exact locs rfl); (case c2 => exact rfl); (case c3 => exact rfl); (case c4 => exact rfl); (case k2 => exact F); (case k4 => exact N); (case k8 => exact dp_ltz hd); (case k9 => exact hB _ (by k_in)); k_whole; intro g' L' h' tk' FG' m9 F' N' B' X' T' A9 qk ek)
  k_steps
  all_goals (first | ((repeat (rename _ ∧ _ => z9; obtain ⟨_, _⟩ := z9)); refine' hret _ _ _ _ ?zF8 ?zN8 ⟨_, Dec.eq ?zD8, ?zA8, ?zV8⟩; (case zF8 => assumption); (case zN8 => assumption); (case zD8 => k_extra "mine:dec"); (case zA8 => k_extra "mine:ap"); (case zV8 => ((simp only [List.cons_append, List.nil_append, List.append_assoc]); k_extra "mine:dat2"))))
theorem described_ins_k {P : Nd → Prop} {lv : Nat} {v : Value} {vs9 : List Value} {k : Int} {t : Tok} {S led : Led} (hdl : ∀ (l : Addr) (n : Nat) (vs : List Value) (ds : List Nd) (t : Tok) (S led : Led), (∀ q ∈ S, q ∈ led) → (l, PySem.W.listOf vs.toArray n) ∈ S → NodesIn w S vs ds → (∀ d ∈ ds, P d) → vs.length ≤ 100 → Kt w p loose mean mg mb lv (.ref 541) [.ref l, .int (k + 1) t] [] led (fun K => ∀ tl r, (Ap tl led) → (DatIn (tl ++ S) r (.tuple (Nd.dats ds))) → K (r) (tl ++ led))) (hB : Bd w vs9 v k t) (hs : ∀ q ∈ S, q ∈ led) (hn : NodeIn w S v .ins) (hP0 : P (.kern 5)) (hk0 : k ≤ 60) (hk1 : -10 ≤ k) :
  Kt w p loose mean mg mb (lv + 8) (.ref 535) vs9 [] led (fun K => ∀ tl r, (Ap tl led) → (DatIn (tl ++ S) r (Nd.dat .ins)) → K (r) (tl ++ led)) :=
  Ct.kt (described_ins hdl hB hs hn hP0 hk0 hk1) (fun K hK r0 l0 P0 => by
    obtain ⟨tl9, e2, f1, f2⟩ := P0
    subst e2
    exact hK tl9 r0 f1 f2)

end
end
section
section
variable {w : World} {p : Program} {loose : List Str} {mean : ExcName → Option Value} {mg mb : Str → Option Value}
noncomputable def Nd.dk : Nat → Nd → Prop
  | 0, .box _ _ _ _ _ _ _ _ _ _ => False
  | 0, .ins => False
  | 0, _ => True
  | n + 1, .box k _ _ _ _ _ _ _ _ items => (k = 2 ∨ k = 3) ∧ items.length ≤ 100 ∧ ∀ x ∈ items, Nd.dk n x
  | _ + 1, _ => True
theorem described_plain {v : Value} {vs9 : List Value} {k : Int} {t : Tok} {S led : Led} {nd : Nd} (hB : Bd w vs9 v k t) (hs : ∀ q ∈ S, q ∈ led) (hn : NodeIn w S v nd) (hk0 : k ≤ 60) (hd : nd.dk 0) :
  Kt w p loose mean mg mb 6 (.ref 535) vs9 [] led (fun K => ∀ tl r, (Ap tl led) → (DatIn (tl ++ S) r (nd.dat)) → K (r) (tl ++ led)) := by
  cases nd with
  | box k wd ht dp sf sg od r1 r2 items => exact hd.elim
  | ins => exact hd.elim
  | kern wd => exact described_kern_k hB hs hn hk0
  | pen wd => exact described_pen_k hB hs hn hk0
  | mark wd => exact described_mark_k hB hs hn hk0
  | spec => exact described_spec_k hB hs hn hk0
  | skip g s => exact described_skip_k hB hs hn hk0
  | rule wd ht dp =>
    exact described_rule_k hB hs hn hk0
theorem Nd.dk_kern (n : Nat) (x : Int) : (Nd.kern x).dk n := by cases n <;> trivial
theorem described_ok : ∀ (n : Nat) (v : Value) (vs9 : List Value) (k : Int) (t : Tok) (S led : Led) (nd : Nd), Bd w vs9 v k t → (∀ q ∈ S, q ∈ led) → NodeIn w S v nd → k + n ≤ 60 → -10 ≤ k → nd.dk n →
  Kt w p loose mean mg mb (6 + 9 * n) (.ref 535) vs9 [] led (fun K => ∀ tl r, (Ap tl led) → (DatIn (tl ++ S) r (nd.dat)) → K (r) (tl ++ led)) := by
  intro n
  induction n with
  | zero => intro v vs9 k t S led nd hB hs hn hk hk1 hd; exact described_plain hB hs hn (by omega) hd
  | succ n ih =>
    intro v vs9 k t S led nd hB hs hn hk hk1 hd
    have hdl : ∀ (l : Addr) (m : Nat) (vs : List Value) (ds : List Nd) (t : Tok) (S led : Led), (∀ q ∈ S, q ∈ led) → (l, PySem.W.listOf vs.toArray m) ∈ S → NodesIn w S vs ds → (∀ d ∈ ds, Nd.dk n d) → vs.length ≤ 100 → Kt w p loose mean mg mb (6 + 9 * n + 1) (.ref 541) [.ref l, .int (k + 1) t] [] led (fun K => ∀ tl r, (Ap tl led) → (DatIn (tl ++ S) r ((.tuple (Nd.dats ds)))) → K (r) (tl ++ led)) :=
      fun l m vs ds t S led hs hl hn hP hlen => dlist_of_k (P := Nd.dk n) (lv := 6 + 9 * n) (k := k + 1) (fun v nd t S led hs hP hn => ih v _ (k + 1) t S led nd Bd.two hs hn (by omega) (by omega) hP) Bl.two hs hl hn hP hlen
    cases nd with
    | box kd wd ht dp sf sg od r1 r2 items =>
      obtain ⟨h1, h2, h3⟩ := hd
      rcases h1 with rfl | rfl
      · exact (described_box2_k hdl hB hs hn h3 h2 (by omega) hk1).lift (by omega)
      · exact (described_box3_k hdl hB hs hn h3 h2 (by omega) hk1).lift (by omega)
    | ins => exact (described_ins_k hdl hB hs hn (Nd.dk_kern _ _) (by omega) hk1).lift (by omega)
    | kern x => exact (described_plain hB hs hn (by omega) trivial).lift (by omega)
    | pen x => exact (described_plain hB hs hn (by omega) trivial).lift (by omega)
    | mark x => exact (described_plain hB hs hn (by omega) trivial).lift (by omega)
    | spec => exact (described_plain hB hs hn (by omega) trivial).lift (by omega)
    | skip g x => exact (described_plain hB hs hn (by omega) trivial).lift (by omega)
    | rule a b c => exact (described_plain hB hs hn (by omega) trivial).lift (by omega)
theorem described1_k {v : Value} {S led : Led} {nd : Nd} (hs : ∀ q ∈ S, q ∈ led) (hn : NodeIn w S v nd) (hd : nd.dk 2) : Kt w p loose mean mg mb 24 (.ref 535) [v] [] led (fun K => ∀ tl r, (Ap tl led) → (DatIn (tl ++ S) r (nd.dat)) → K (r) (tl ++ led)) := by
  obtain ⟨t, hB⟩ := Bd.one (w := w) (v := v)
  exact described_ok 2 v _ 0 t S led nd hB hs hn (by omega) (by omega) hd
theorem dlist1_k {l : Addr} {m : Nat} {vs : List Value} {ds : List Nd} {S led : Led} (hs : ∀ q ∈ S, q ∈ led) (hl : (l, PySem.W.listOf vs.toArray m) ∈ S) (hn : NodesIn w S vs ds) (hP : ∀ d ∈ ds, Nd.dk 2 d) (hlen : vs.length ≤ 100) : Kt w p loose mean mg mb 25 (.ref 541) [.ref l] [] led (fun K => ∀ tl r, (Ap tl led) → (DatIn (tl ++ S) r ((.tuple (Nd.dats ds)))) → K (r) (tl ++ led)) := by
  obtain ⟨t, hB⟩ := Bl.one (w := w) (v := .ref l)
  exact dlist_of_k (P := Nd.dk 2) (lv := 24) (k := 0) (fun v nd t S led hs hP hn => described_ok 2 v _ 0 t S led nd Bd.two hs hn (by omega) (by omega) hP) hB hs hl hn hP hlen

end
end
section
section
variable {w : World} {p : Program} {loose : List Str} {mean : ExcName → Option Value} {mg mb : Str → Option Value}
theorem kimp {P Q : Prop} (h : P) (k : P → Q) : Q := k h
theorem ite_ibt {a b : Int} {p q : Prop} (h : a = b) (k : p) : if (a == b) = true then p else q := by rw [if_pos (by simpa using h)]; exact k
theorem ite_ibf {a b : Int} {p q : Prop} (h : a ≠ b) (k : q) : if (a == b) = true then p else q := by rw [if_neg (by simpa using h)]; exact k
theorem reg_rd : True := by
  k_with "w:ite" => first | ((k_here; k_openite; first | ((with_reducible refine ite_ibt ?_ ?_); (focus omega); walk_say "MINE pruned") | ((with_reducible refine ite_ibf ?_ ?_); (focus omega); walk_say "MINE pruned"))) | fail
  k_with "mine:nod" => first | (first | assumption | ((refine NodeIn.mono ?_ (by assumption)); k_extra "mine:sub")) | fail
  k_with "w:getAttr ref" => first | ((k_here; (with_reducible show wpAny _ _ (getAttr _ (PySem.Str.ofString "width") _) _ _ _); first | (((first | with_reducible refine' at_get ?h_k9 ?F_k9 ?X_k9 ?N_k9 ?s_k9 ?_ | k_dflt (refine' at_get ?h_k9 ?F_k9 ?X_k9 ?N_k9 ?s_k9 ?_)); k_dflt ((case h_k9 => with_reducible assumption); (case F_k9 => k_asm); (case X_k9 => k_asm); (case N_k9 => k_asm); (case s_k9 => k_extra "mine:sub"); k_whole))) | ((refine kimp (P := nd.kind = 2 ∨ nd.kind = 3 ∨ nd.kind = 5) ?_ fun k9 => ?_); (focus omega); obtain ⟨t9, q9⟩ := hn.hwd hb k9; (((first | with_reducible refine' at_get (S := led) q9 ?F_k9 ?X_k9 ?N_k9 ?s_k9 ?_ | k_dflt (refine' at_get (S := led) q9 ?F_k9 ?X_k9 ?N_k9 ?s_k9 ?_)); k_dflt ((case F_k9 => k_asm); (case X_k9 => k_asm); (case N_k9 => k_asm); (case s_k9 => exact fun _ h => h); k_whole)))) | ((refine kimp (P := nd.kind = 4) ?_ fun k9 => ?_); (focus omega); rcases hn.hrw hb k9 with ⟨t9, q9⟩ | ⟨e9, q9⟩ <;> (((first | with_reducible refine' at_get (S := led) q9 ?F_k9 ?X_k9 ?N_k9 ?s_k9 ?_ | k_dflt (refine' at_get (S := led) q9 ?F_k9 ?X_k9 ?N_k9 ?s_k9 ?_)); k_dflt ((case F_k9 => k_asm); (case X_k9 => k_asm); (case N_k9 => k_asm); (case s_k9 => exact fun _ h => h); k_whole)))))) | fail
  k_with "w:getAttr ref" => first | ((k_here; (with_reducible show wpAny _ _ (getAttr _ (PySem.Str.ofString "height") _) _ _ _); first | (((first | with_reducible refine' at_get ?h_k9 ?F_k9 ?X_k9 ?N_k9 ?s_k9 ?_ | k_dflt (refine' at_get ?h_k9 ?F_k9 ?X_k9 ?N_k9 ?s_k9 ?_)); k_dflt ((case h_k9 => with_reducible assumption); (case F_k9 => k_asm); (case X_k9 => k_asm); (case N_k9 => k_asm); (case s_k9 => k_extra "mine:sub"); k_whole))) | ((refine kimp (P := nd.kind = 2 ∨ nd.kind = 3) ?_ fun k9 => ?_); (focus omega); obtain ⟨t9, q9⟩ := hn.hht hb k9; (((first | with_reducible refine' at_get (S := led) q9 ?F_k9 ?X_k9 ?N_k9 ?s_k9 ?_ | k_dflt (refine' at_get (S := led) q9 ?F_k9 ?X_k9 ?N_k9 ?s_k9 ?_)); k_dflt ((case F_k9 => k_asm); (case X_k9 => k_asm); (case N_k9 => k_asm); (case s_k9 => exact fun _ h => h); k_whole)))) | ((refine kimp (P := nd.kind = 4) ?_ fun k9 => ?_); (focus omega); rcases hn.hrh hb k9 with ⟨t9, q9⟩ | ⟨e9, q9⟩ <;> (((first | with_reducible refine' at_get (S := led) q9 ?F_k9 ?X_k9 ?N_k9 ?s_k9 ?_ | k_dflt (refine' at_get (S := led) q9 ?F_k9 ?X_k9 ?N_k9 ?s_k9 ?_)); k_dflt ((case F_k9 => k_asm); (case X_k9 => k_asm); (case N_k9 => k_asm); (case s_k9 => exact fun _ h => h); k_whole)))))) | fail
  k_with "w:getAttr ref" => first | ((k_here; (with_reducible show wpAny _ _ (getAttr _ (PySem.Str.ofString "depth") _) _ _ _); first | (((first | with_reducible refine' at_get ?h_k9 ?F_k9 ?X_k9 ?N_k9 ?s_k9 ?_ | k_dflt (refine' at_get ?h_k9 ?F_k9 ?X_k9 ?N_k9 ?s_k9 ?_)); k_dflt ((case h_k9 => with_reducible assumption); (case F_k9 => k_asm); (case X_k9 => k_asm); (case N_k9 => k_asm); (case s_k9 => k_extra "mine:sub"); k_whole))) | ((refine kimp (P := nd.kind = 2 ∨ nd.kind = 3 ∨ nd.kind = 4) ?_ fun k9 => ?_); (focus omega); obtain ⟨t9, q9⟩ := hn.hdp hb k9; (((first | with_reducible refine' at_get (S := led) q9 ?F_k9 ?X_k9 ?N_k9 ?s_k9 ?_ | k_dflt (refine' at_get (S := led) q9 ?F_k9 ?X_k9 ?N_k9 ?s_k9 ?_)); k_dflt ((case F_k9 => k_asm); (case X_k9 => k_asm); (case N_k9 => k_asm); (case s_k9 => exact fun _ h => h); k_whole)))))) | fail
  k_with "w:getAttr ref" => first | ((k_here; (with_reducible show wpAny _ _ (getAttr _ (PySem.Str.ofString "shift") _) _ _ _); first | (((first | with_reducible refine' at_get ?h_k9 ?F_k9 ?X_k9 ?N_k9 ?s_k9 ?_ | k_dflt (refine' at_get ?h_k9 ?F_k9 ?X_k9 ?N_k9 ?s_k9 ?_)); k_dflt ((case h_k9 => with_reducible assumption); (case F_k9 => k_asm); (case X_k9 => k_asm); (case N_k9 => k_asm); (case s_k9 => k_extra "mine:sub"); k_whole))) | ((refine kimp (P := nd.kind = 2 ∨ nd.kind = 3) ?_ fun k9 => ?_); (focus omega); obtain ⟨x9, t9, q9, eh9, ed9, ea9⟩ := hn.hsf hb k9; (((first | with_reducible refine' at_get (S := led) q9 ?F_k9 ?X_k9 ?N_k9 ?s_k9 ?_ | k_dflt (refine' at_get (S := led) q9 ?F_k9 ?X_k9 ?N_k9 ?s_k9 ?_)); k_dflt ((case F_k9 => k_asm); (case X_k9 => k_asm); (case N_k9 => k_asm); (case s_k9 => exact fun _ h => h); k_whole)))))) | fail
  k_with "w:getAttr ref" => first | ((k_here; (with_reducible show wpAny _ _ (getAttr _ (PySem.Str.ofString "glue") _) _ _ _); first | (((first | with_reducible refine' at_get ?h_k9 ?F_k9 ?X_k9 ?N_k9 ?s_k9 ?_ | k_dflt (refine' at_get ?h_k9 ?F_k9 ?X_k9 ?N_k9 ?s_k9 ?_)); k_dflt ((case h_k9 => with_reducible assumption); (case F_k9 => k_asm); (case X_k9 => k_asm); (case N_k9 => k_asm); (case s_k9 => k_extra "mine:sub"); k_whole))) | ((refine kimp (P := nd.kind = 6) ?_ fun k9 => ?_); (focus omega); obtain ⟨ga9, g9, s9, q9, gg9, ge9, ql9⟩ := hn.hgl hb k9; obtain ⟨⟨_, gi1⟩, ⟨_, gi2⟩, ⟨_, gi3⟩, ⟨_, gi4⟩, ⟨_, gi5⟩, gi6⟩ := gg9; (((first | with_reducible refine' at_get (S := led) q9 ?F_k9 ?X_k9 ?N_k9 ?s_k9 ?_ | k_dflt (refine' at_get (S := led) q9 ?F_k9 ?X_k9 ?N_k9 ?s_k9 ?_)); k_dflt ((case F_k9 => k_asm); (case X_k9 => k_asm); (case N_k9 => k_asm); (case s_k9 => exact fun _ h => h); k_whole)))))) | fail
  k_with "w:getAttr ref" => first | ((k_here; (with_reducible show wpAny _ _ (getAttr _ (PySem.Str.ofString "leader") _) _ _ _); first | (((first | with_reducible refine' at_get ?h_k9 ?F_k9 ?X_k9 ?N_k9 ?s_k9 ?_ | k_dflt (refine' at_get ?h_k9 ?F_k9 ?X_k9 ?N_k9 ?s_k9 ?_)); k_dflt ((case h_k9 => with_reducible assumption); (case F_k9 => k_asm); (case X_k9 => k_asm); (case N_k9 => k_asm); (case s_k9 => k_extra "mine:sub"); k_whole))) | ((refine kimp (P := nd.kind = 6) ?_ fun k9 => ?_); (focus omega); obtain ⟨ga9, g9, s9, q9, gg9, ge9, ql9⟩ := hn.hgl hb k9; (((first | with_reducible refine' at_get (S := led) ql9 ?F_k9 ?X_k9 ?N_k9 ?s_k9 ?_ | k_dflt (refine' at_get (S := led) ql9 ?F_k9 ?X_k9 ?N_k9 ?s_k9 ?_)); k_dflt ((case F_k9 => k_asm); (case X_k9 => k_asm); (case N_k9 => k_asm); (case s_k9 => exact fun _ h => h); k_whole)))))) | fail
  trivial

theorem width_of_ok {v : Value} {nd : Nd} {led : Led} (hn : NodeIn w led v nd) (hb : nd.bk) :
  Ct w p loose mean mg mb 1 (.ref 546) [v] [] led (fun r led' => ∃ t, r = .int nd.width t ∧ led' = led) := by
  unfold Ct
  intro dpC unC gdC cnC csC L aC ccdC clC outer A₀ base h₀ mC sC Q E B F X N T hk hd hu hret
  obtain ⟨a9, t9, e9, hk9⟩ := hn.kd
  subst e9
  obtain ⟨k1, k2, k3, k4, k5⟩ := hn.kb hb
  refine wpAny_call ?_
  k_dflt (refine' code_defL (binds := [(Str.ofString "node", .ref a9)]) (rb := [(Str.ofString "node", .ref a9)]) ?k1 ?k2 ?k3 ?k4 ?k5 ?kA ?kF ?kK ?k6 ?k7 ?k8 ?k9 ?kB rfl ?_ ?c2 ?c3 ?c4 ?c5; (case kA => exact rfl); (case kF => exact rfl); (case kK => exact hk); (case k1 => exact B); (case k3 => exact X); (case k5 => exact T); (case k6 => k_is); (case k7 => k_is); (case c5 => decide); (case kB => exact locs rfl); (case c2 => exact rfl); (case c3 => exact rfl); (case c4 => exact rfl); (case k2 => exact F); (case k4 => exact N); (case k8 => exact dp_ltz hd); (case k9 => exact BindsTo.of_eq rfl); k_whole; intro g' L' h' tk' FG' m9 F' N' B' X' T' A9 qk ek)
  k_steps
  all_goals (first | (refine hret _ _ _ _ (by assumption) (by assumption) ?_; exact ⟨_, by first | rfl | (subst ge9; rfl) | (congr 1; first | (exact (Nd.width0 (by omega) hb).symm)) | (congr 1; omega), rfl⟩))
theorem width_of_ok_k {v : Value} {nd : Nd} {led : Led} (hn : NodeIn w led v nd) (hb : nd.bk) :
  Kt w p loose mean mg mb 1 (.ref 546) [v] [] led (fun K => ∀ t, K (.int nd.width t) (led)) :=
  Ct.kt (width_of_ok hn hb) (fun K hK r0 l0 P0 => by
    obtain ⟨t9, e1, e2⟩ := P0
    subst e1; subst e2
    exact hK t9)

theorem reg_width_of_ok_k : True := by
  k_with "w:call ref" => first | ((k_here; (with_reducible show wpAny _ _ (call (Value.ref 546) _ _) _ _ _); ((first | with_reducible refine' Kt.use (width_of_ok_k ?c1_k9 ?c2_k9) ?hh_k9 ?hf_k9 ?B_k9 ?F_k9 ?X_k9 ?N_k9 ?T_k9 ?hk_k9 ?hd_k9 ?hu_k9 ?_ | k_dflt (refine' Kt.use (width_of_ok_k ?c1_k9 ?c2_k9) ?hh_k9 ?hf_k9 ?B_k9 ?F_k9 ?X_k9 ?N_k9 ?T_k9 ?hk_k9 ?hd_k9 ?hu_k9 ?_)); k_dflt ((case F_k9 => k_asm); (case B_k9 => k_asm); (case X_k9 => k_asm); (case N_k9 => k_asm); (case T_k9 => k_asm); (case hh_k9 => exact rfl); (case hf_k9 => exact rfl); (case hk_k9 => first | exact rfl | assumption); (case hd_k9 => k_extra "mine:dp"); (case hu_k9 => k_extra "mine:un"); (case c1_k9 => k_extra "mine:nod"); (case c2_k9 => assumption))); intro t9 h9 tk9 F9 N9; (try k_sweep); (try dsimp only); (try k_fold))) | fail
  trivial

theorem height_of_ok {v : Value} {nd : Nd} {led : Led} (hn : NodeIn w led v nd) (hb : nd.bk) :
  Ct w p loose mean mg mb 1 (.ref 551) [v] [] led (fun r led' => ∃ t, r = .int nd.height t ∧ led' = led) := by
  unfold Ct
  intro dpC unC gdC cnC csC L aC ccdC clC outer A₀ base h₀ mC sC Q E B F X N T hk hd hu hret
  obtain ⟨a9, t9, e9, hk9⟩ := hn.kd
  subst e9
  obtain ⟨k1, k2, k3, k4, k5⟩ := hn.kb hb
  refine wpAny_call ?_
  k_dflt (refine' code_defL (binds := [(Str.ofString "node", .ref a9)]) (rb := [(Str.ofString "node", .ref a9)]) ?k1 ?k2 ?k3 ?k4 ?k5 ?kA ?kF ?kK ?k6 ?k7 ?k8 ?k9 ?kB rfl ?_ ?c2 ?c3 ?c4 ?c5; (case kA => exact rfl); (case kF => exact rfl); (case kK => exact hk); (case k1 => exact B); (case k3 => exact X); (case k5 => exact T); (case k6 => k_is); (case k7 => k_is); (case c5 => decide); (case kB => exact locs rfl); (case c2 => exact rfl); (case c3 => exact rfl); (case c4 => exact rfl); (case k2 => exact F); (case k4 => exact N); (case k8 => exact dp_ltz hd); (case k9 => exact BindsTo.of_eq rfl); k_whole; intro g' L' h' tk' FG' m9 F' N' B' X' T' A9 qk ek)
  k_steps
  all_goals (first | (refine hret _ _ _ _ (by assumption) (by assumption) ?_; exact ⟨_, by first | rfl | (subst ge9; rfl) | (congr 1; first | (exact (Nd.height0 (by omega) hb).symm)) | (congr 1; omega), rfl⟩))
theorem height_of_ok_k {v : Value} {nd : Nd} {led : Led} (hn : NodeIn w led v nd) (hb : nd.bk) :
  Kt w p loose mean mg mb 1 (.ref 551) [v] [] led (fun K => ∀ t, K (.int nd.height t) (led)) :=
  Ct.kt (height_of_ok hn hb) (fun K hK r0 l0 P0 => by
    obtain ⟨t9, e1, e2⟩ := P0
    subst e1; subst e2
    exact hK t9)

theorem reg_height_of_ok_k : True := by
  k_with "w:call ref" => first | ((k_here; (with_reducible show wpAny _ _ (call (Value.ref 551) _ _) _ _ _); ((first | with_reducible refine' Kt.use (height_of_ok_k ?c1_k9 ?c2_k9) ?hh_k9 ?hf_k9 ?B_k9 ?F_k9 ?X_k9 ?N_k9 ?T_k9 ?hk_k9 ?hd_k9 ?hu_k9 ?_ | k_dflt (refine' Kt.use (height_of_ok_k ?c1_k9 ?c2_k9) ?hh_k9 ?hf_k9 ?B_k9 ?F_k9 ?X_k9 ?N_k9 ?T_k9 ?hk_k9 ?hd_k9 ?hu_k9 ?_)); k_dflt ((case F_k9 => k_asm); (case B_k9 => k_asm); (case X_k9 => k_asm); (case N_k9 => k_asm); (case T_k9 => k_asm); (case hh_k9 => exact rfl); (case hf_k9 => exact rfl); (case hk_k9 => first | exact rfl | assumption); (case hd_k9 => k_extra "mine:dp"); (case hu_k9 => k_extra "mine:un"); (case c1_k9 => k_extra "mine:nod"); (case c2_k9 => assumption))); intro t9 h9 tk9 F9 N9; (try k_sweep); (try dsimp only); (try k_fold))) | fail
  trivial

theorem depth_of_ok {v : Value} {nd : Nd} {led : Led} (hn : NodeIn w led v nd) (hb : nd.bk) :
  Ct w p loose mean mg mb 1 (.ref 556) [v] [] led (fun r led' => ∃ t, r = .int nd.depth t ∧ led' = led) := by
  unfold Ct
  intro dpC unC gdC cnC csC L aC ccdC clC outer A₀ base h₀ mC sC Q E B F X N T hk hd hu hret
  obtain ⟨a9, t9, e9, hk9⟩ := hn.kd
  subst e9
  obtain ⟨k1, k2, k3, k4, k5⟩ := hn.kb hb
  refine wpAny_call ?_
  k_dflt (refine' code_defL (binds := [(Str.ofString "node", .ref a9)]) (rb := [(Str.ofString "node", .ref a9)]) ?k1 ?k2 ?k3 ?k4 ?k5 ?kA ?kF ?kK ?k6 ?k7 ?k8 ?k9 ?kB rfl ?_ ?c2 ?c3 ?c4 ?c5; (case kA => exact rfl); (case kF => exact rfl); (case kK => exact hk); (case k1 => exact B); (case k3 => exact X); (case k5 => exact T); (case k6 => k_is); (case k7 => k_is); (case c5 => decide); (case kB => exact locs rfl); (case c2 => exact rfl); (case c3 => exact rfl); (case c4 => exact rfl); (case k2 => exact F); (case k4 => exact N); (case k8 => exact dp_ltz hd); (case k9 => exact BindsTo.of_eq rfl); k_whole; intro g' L' h' tk' FG' m9 F' N' B' X' T' A9 qk ek)
  k_steps
  all_goals (first | (refine hret _ _ _ _ (by assumption) (by assumption) ?_; exact ⟨_, by first | rfl | (subst ge9; rfl) | (congr 1; first | (exact (Nd.depth0 (by omega) hb).symm)) | (congr 1; omega), rfl⟩))
theorem depth_of_ok_k {v : Value} {nd : Nd} {led : Led} (hn : NodeIn w led v nd) (hb : nd.bk) :
  Kt w p loose mean mg mb 1 (.ref 556) [v] [] led (fun K => ∀ t, K (.int nd.depth t) (led)) :=
  Ct.kt (depth_of_ok hn hb) (fun K hK r0 l0 P0 => by
    obtain ⟨t9, e1, e2⟩ := P0
    subst e1; subst e2
    exact hK t9)

theorem reg_depth_of_ok_k : True := by
  k_with "w:call ref" => first | ((k_here; (with_reducible show wpAny _ _ (call (Value.ref 556) _ _) _ _ _); ((first | with_reducible refine' Kt.use (depth_of_ok_k ?c1_k9 ?c2_k9) ?hh_k9 ?hf_k9 ?B_k9 ?F_k9 ?X_k9 ?N_k9 ?T_k9 ?hk_k9 ?hd_k9 ?hu_k9 ?_ | k_dflt (refine' Kt.use (depth_of_ok_k ?c1_k9 ?c2_k9) ?hh_k9 ?hf_k9 ?B_k9 ?F_k9 ?X_k9 ?N_k9 ?T_k9 ?hk_k9 ?hd_k9 ?hu_k9 ?_)); k_dflt ((case F_k9 => k_asm); (case B_k9 => k_asm); (case X_k9 => k_asm); (case N_k9 => k_asm); (case T_k9 => k_asm); (case hh_k9 => exact rfl); (case hf_k9 => exact rfl); (case hk_k9 => first | exact rfl | assumption); (case hd_k9 => k_extra "mine:dp"); (case hu_k9 => k_extra "mine:un"); (case c1_k9 => k_extra "mine:nod"); (case c2_k9 => assumption))); intro t9 h9 tk9 F9 N9; (try k_sweep); (try dsimp only); (try k_fold))) | fail
  trivial

theorem line_height_ok {v : Value} {nd : Nd} {led : Led} (hn : NodeIn w led v nd) (hb : nd.bk) :
  Ct w p loose mean mg mb 2 (.ref 563) [v] [] led (fun r led' => ∃ t, r = .int nd.lheight t ∧ led' = led) := by
  unfold Ct
  intro dpC unC gdC cnC csC L aC ccdC clC outer A₀ base h₀ mC sC Q E B F X N T hk hd hu hret
  obtain ⟨a9, t9, e9, hk9⟩ := hn.kd
  subst e9
  obtain ⟨k1, k2, k3, k4, k5⟩ := hn.kb hb
  refine wpAny_call ?_
  k_dflt (refine' code_defL (binds := [(Str.ofString "node", .ref a9)]) (rb := [(Str.ofString "node", .ref a9)]) ?k1 ?k2 ?k3 ?k4 ?k5 ?kA ?kF ?kK ?k6 ?k7 ?k8 ?k9 ?kB rfl ?_ ?c2 ?c3 ?c4 ?c5; (case kA => exact rfl); (case kF => exact rfl); (case kK => exact hk); (case k1 => exact B); (case k3 => exact X); (case k5 => exact T); (case k6 => k_is); (case k7 => k_is); (case c5 => decide); (case kB => exact locs rfl); (case c2 => exact rfl); (case c3 => exact rfl); (case c4 => exact rfl); (case k2 => exact F); (case k4 => exact N); (case k8 => exact dp_ltz hd); (case k9 => exact BindsTo.of_eq rfl); k_whole; intro g' L' h' tk' FG' m9 F' N' B' X' T' A9 qk ek)
  k_steps
  all_goals (first | (refine hret _ _ _ _ (by assumption) (by assumption) ?_; exact ⟨_, by first | rfl | (subst ge9; rfl) | (congr 1; first | (exact (Nd.lheightO (by omega) hb).symm)) | (congr 1; omega), rfl⟩))
theorem line_height_ok_k {v : Value} {nd : Nd} {led : Led} (hn : NodeIn w led v nd) (hb : nd.bk) :
  Kt w p loose mean mg mb 2 (.ref 563) [v] [] led (fun K => ∀ t, K (.int nd.lheight t) (led)) :=
  Ct.kt (line_height_ok hn hb) (fun K hK r0 l0 P0 => by
    obtain ⟨t9, e1, e2⟩ := P0
    subst e1; subst e2
    exact hK t9)

theorem reg_line_height_ok_k : True := by
  k_with "w:call ref" => first | ((k_here; (with_reducible show wpAny _ _ (call (Value.ref 563) _ _) _ _ _); ((first | with_reducible refine' Kt.use (line_height_ok_k ?c1_k9 ?c2_k9) ?hh_k9 ?hf_k9 ?B_k9 ?F_k9 ?X_k9 ?N_k9 ?T_k9 ?hk_k9 ?hd_k9 ?hu_k9 ?_ | k_dflt (refine' Kt.use (line_height_ok_k ?c1_k9 ?c2_k9) ?hh_k9 ?hf_k9 ?B_k9 ?F_k9 ?X_k9 ?N_k9 ?T_k9 ?hk_k9 ?hd_k9 ?hu_k9 ?_)); k_dflt ((case F_k9 => k_asm); (case B_k9 => k_asm); (case X_k9 => k_asm); (case N_k9 => k_asm); (case T_k9 => k_asm); (case hh_k9 => exact rfl); (case hf_k9 => exact rfl); (case hk_k9 => first | exact rfl | assumption); (case hd_k9 => k_extra "mine:dp"); (case hu_k9 => k_extra "mine:un"); (case c1_k9 => k_extra "mine:nod"); (case c2_k9 => assumption))); intro t9 h9 tk9 F9 N9; (try k_sweep); (try dsimp only); (try k_fold))) | fail
  trivial

theorem line_depth_ok {v : Value} {nd : Nd} {led : Led} (hn : NodeIn w led v nd) (hb : nd.bk) :
  Ct w p loose mean mg mb 2 (.ref 570) [v] [] led (fun r led' => ∃ t, r = .int nd.ldepth t ∧ led' = led) := by
  unfold Ct
  intro dpC unC gdC cnC csC L aC ccdC clC outer A₀ base h₀ mC sC Q E B F X N T hk hd hu hret
  obtain ⟨a9, t9, e9, hk9⟩ := hn.kd
  subst e9
  obtain ⟨k1, k2, k3, k4, k5⟩ := hn.kb hb
  refine wpAny_call ?_
  k_dflt (refine' code_defL (binds := [(Str.ofString "node", .ref a9)]) (rb := [(Str.ofString "node", .ref a9)]) ?k1 ?k2 ?k3 ?k4 ?k5 ?kA ?kF ?kK ?k6 ?k7 ?k8 ?k9 ?kB rfl ?_ ?c2 ?c3 ?c4 ?c5; (case kA => exact rfl); (case kF => exact rfl); (case kK => exact hk); (case k1 => exact B); (case k3 => exact X); (case k5 => exact T); (case k6 => k_is); (case k7 => k_is); (case c5 => decide); (case kB => exact locs rfl); (case c2 => exact rfl); (case c3 => exact rfl); (case c4 => exact rfl); (case k2 => exact F); (case k4 => exact N); (case k8 => exact dp_ltz hd); (case k9 => exact BindsTo.of_eq rfl); k_whole; intro g' L' h' tk' FG' m9 F' N' B' X' T' A9 qk ek)
  k_steps
  all_goals (first | (refine hret _ _ _ _ (by assumption) (by assumption) ?_; exact ⟨_, by first | rfl | (subst ge9; rfl) | (congr 1; first | (exact (Nd.ldepthO (by omega) hb).symm)) | (congr 1; omega), rfl⟩))
theorem line_depth_ok_k {v : Value} {nd : Nd} {led : Led} (hn : NodeIn w led v nd) (hb : nd.bk) :
  Kt w p loose mean mg mb 2 (.ref 570) [v] [] led (fun K => ∀ t, K (.int nd.ldepth t) (led)) :=
  Ct.kt (line_depth_ok hn hb) (fun K hK r0 l0 P0 => by
    obtain ⟨t9, e1, e2⟩ := P0
    subst e1; subst e2
    exact hK t9)

theorem reg_line_depth_ok_k : True := by
  k_with "w:call ref" => first | ((k_here; (with_reducible show wpAny _ _ (call (Value.ref 570) _ _) _ _ _); ((first | with_reducible refine' Kt.use (line_depth_ok_k ?c1_k9 ?c2_k9) ?hh_k9 ?hf_k9 ?B_k9 ?F_k9 ?X_k9 ?N_k9 ?T_k9 ?hk_k9 ?hd_k9 ?hu_k9 ?_ | k_dflt (refine' Kt.use (line_depth_ok_k ?c1_k9 ?c2_k9) ?hh_k9 ?hf_k9 ?B_k9 ?F_k9 ?X_k9 ?N_k9 ?T_k9 ?hk_k9 ?hd_k9 ?hu_k9 ?_)); k_dflt ((case F_k9 => k_asm); (case B_k9 => k_asm); (case X_k9 => k_asm); (case N_k9 => k_asm); (case T_k9 => k_asm); (case hh_k9 => exact rfl); (case hf_k9 => exact rfl); (case hk_k9 => first | exact rfl | assumption); (case hd_k9 => k_extra "mine:dp"); (case hu_k9 => k_extra "mine:un"); (case c1_k9 => k_extra "mine:nod"); (case c2_k9 => assumption))); intro t9 h9 tk9 F9 N9; (try k_sweep); (try dsimp only); (try k_fold))) | fail
  trivial

theorem across_ok {v : Value} {nd : Nd} {led : Led} (hn : NodeIn w led v nd) (hb : nd.bk) :
  Ct w p loose mean mg mb 2 (.ref 614) [v] [] led (fun r led' => ∃ t, r = .int nd.across t ∧ led' = led) := by
  unfold Ct
  intro dpC unC gdC cnC csC L aC ccdC clC outer A₀ base h₀ mC sC Q E B F X N T hk hd hu hret
  obtain ⟨a9, t9, e9, hk9⟩ := hn.kd
  subst e9
  obtain ⟨k1, k2, k3, k4, k5⟩ := hn.kb hb
  refine wpAny_call ?_
  k_dflt (refine' code_defL (binds := [(Str.ofString "node", .ref a9)]) (rb := [(Str.ofString "node", .ref a9)]) ?k1 ?k2 ?k3 ?k4 ?k5 ?kA ?kF ?kK ?k6 ?k7 ?k8 ?k9 ?kB rfl ?_ ?c2 ?c3 ?c4 ?c5; (case kA => exact rfl); (case kF => exact rfl); (case kK => exact hk); (case k1 => exact B); (case k3 => exact X); (case k5 => exact T); (case k6 => k_is); (case k7 => k_is); (case c5 => decide); (case kB => exact locs rfl); (case c2 => exact rfl); (case c3 => exact rfl); (case c4 => exact rfl); (case k2 => exact F); (case k4 => exact N); (case k8 => exact dp_ltz hd); (case k9 => exact BindsTo.of_eq rfl); k_whole; intro g' L' h' tk' FG' m9 F' N' B' X' T' A9 qk ek)
  k_steps
  all_goals (first | (refine hret _ _ _ _ (by assumption) (by assumption) ?_; exact ⟨_, by first | rfl | (subst ge9; rfl) | (congr 1; first | (exact (Nd.acrossO (by omega) hb).symm) | (exact (Nd.across5 (by omega) hb).symm)) | (congr 1; omega), rfl⟩))
theorem across_ok_k {v : Value} {nd : Nd} {led : Led} (hn : NodeIn w led v nd) (hb : nd.bk) :
  Kt w p loose mean mg mb 2 (.ref 614) [v] [] led (fun K => ∀ t, K (.int nd.across t) (led)) :=
  Ct.kt (across_ok hn hb) (fun K hK r0 l0 P0 => by
    obtain ⟨t9, e1, e2⟩ := P0
    subst e1; subst e2
    exact hK t9)

theorem reg_across_ok_k : True := by
  k_with "w:call ref" => first | ((k_here; (with_reducible show wpAny _ _ (call (Value.ref 614) _ _) _ _ _); ((first | with_reducible refine' Kt.use (across_ok_k ?c1_k9 ?c2_k9) ?hh_k9 ?hf_k9 ?B_k9 ?F_k9 ?X_k9 ?N_k9 ?T_k9 ?hk_k9 ?hd_k9 ?hu_k9 ?_ | k_dflt (refine' Kt.use (across_ok_k ?c1_k9 ?c2_k9) ?hh_k9 ?hf_k9 ?B_k9 ?F_k9 ?X_k9 ?N_k9 ?T_k9 ?hk_k9 ?hd_k9 ?hu_k9 ?_)); k_dflt ((case F_k9 => k_asm); (case B_k9 => k_asm); (case X_k9 => k_asm); (case N_k9 => k_asm); (case T_k9 => k_asm); (case hh_k9 => exact rfl); (case hf_k9 => exact rfl); (case hk_k9 => first | exact rfl | assumption); (case hd_k9 => k_extra "mine:dp"); (case hu_k9 => k_extra "mine:un"); (case c1_k9 => k_extra "mine:nod"); (case c2_k9 => assumption))); intro t9 h9 tk9 F9 N9; (try k_sweep); (try dsimp only); (try k_fold))) | fail
  trivial

end
end
section
section
variable {w : World} {p : Program} {loose : List Str} {mean : ExcName → Option Value} {mg mb : Str → Option Value}
theorem ex_int {i j : Int} {t : Tok} {P : Prop} (h : i = j) (k : P) : ∃ t', Value.int i t = .int j t' ∧ P := ⟨t, by rw [h], k⟩
structure Tot where
  (nat : Int)
  (st sh : List Int)
noncomputable def Tot.zero : Tot := ⟨0, [0, 0, 0, 0], [0, 0, 0, 0]⟩
noncomputable def Tot.widen (T : Tot) (x : Int) : Tot := ⟨T.nat + x, T.st, T.sh⟩
noncomputable def Tot.add (T : Tot) (g : Gl) : Tot := ⟨T.nat + g.w, T.st.set g.so.toNat (T.st.getD g.so.toNat 0 + g.st), T.sh.set g.sho.toNat (T.sh.getD g.sho.toNat 0 + g.sh)⟩
noncomputable def top4 (l : List Int) : Int := if l.getD 3 0 ≠ 0 then 3 else if l.getD 2 0 ≠ 0 then 2 else if l.getD 1 0 ≠ 0 then 1 else 0
inductive TotL (w : World) (T : Tot) (a d l1 l2 : Addr) : Led → Prop
  | mk (n n1 n2 : Nat) (t1 t2 t3 u0 : Tok) (vs us : List Value) : IntsAre vs T.st → IntsAre us T.sh → T.st.length = 4 → T.sh.length = 4 →
     TotL w T a d l1 l2 [(a, instObj 313 d), (d, dictOf [⟨PyData.keyHash w.params "natural", .str "natural" t1, .int T.nat u0⟩, ⟨PyData.keyHash w.params "stretch", .str "stretch" t2, .ref l1⟩, ⟨PyData.keyHash w.params "shrink", .str "shrink" t3, .ref l2⟩] n), (l1, PySem.W.listOf vs.toArray n1), (l2, PySem.W.listOf us.toArray n2)]
noncomputable def Dist4 (a d l1 l2 : Addr) : Prop := (@Ne Nat a d) ∧ (@Ne Nat a l1) ∧ (@Ne Nat a l2) ∧ (@Ne Nat d l1) ∧ (@Ne Nat d l2) ∧ (@Ne Nat l1 l2)

theorem reg_ag2 : True := by
  k_with "mine:subs2" => first | (first | exact List.forall_mem_nil _ | (refine List.forall_mem_cons.mpr (And.intro ?_ ?_); k_mem; k_extra "mine:subs2") | (refine List.forall_mem_append.mpr (And.intro ?_ ?_); k_extra "mine:subs2"; k_extra "mine:subs2") | k_extra "mine:sub") | fail
  trivial

theorem tot_new {led : Led}  :
  Ct w p loose mean mg mb 4 (.ref 313) [] [] led (fun r led' => ∃ a d l1 l2 tl, r = .ref a ∧ TotL w Tot.zero a d l1 l2 tl ∧ led' = tl ++ led ∧ Fresh tl led ∧ Dist4 a d l1 l2) := by
  unfold Ct
  intro dpC unC gdC cnC csC L aC ccdC clC outer A₀ base h₀ mC sC Q E B F X N T hk hd hu hret
  k_dflt (refine' call_clsL ?k1 ?k2 ?k3 ?k4 ?k5 ?k6 ?_; (case k1 => exact F); (case k2 => exact X); (case k3 => exact N); (case k4 => k_is); (case k5 => k_is); (case k6 => k_is); k_whole; intro x1 d1 h1 F1 N1 l1 l2; (try dsimp only [AllLt] at l1); (try k_lt2 l2); (try k_sweep))
  k_dflt (refine' code_defL (binds := [(Str.ofString "self", .ref x1)]) (rb := [(Str.ofString "self", .ref x1)]) ?k1 ?k2 ?k3 ?k4 ?k5 ?kA ?kF ?kK ?k6 ?k7 ?k8 ?k9 ?kB rfl ?_ ?c2 ?c3 ?c4 ?c5; (case kA => exact rfl); (case kF => exact rfl); (case kK => exact hk); (case k1 => exact B); (case k3 => exact X); (case k5 => exact T); (case k6 => k_is); (case k7 => k_is); (case c5 => decide); (case kB => exact locs rfl); (case c2 => exact rfl); (case c3 => exact rfl); (case c4 => exact rfl); (case k2 => k_asm); (case k4 => k_asm); (case k8 => k_extra "mine:dp"); (case k9 => exact BindsTo.of_eq rfl); k_whole; intro g' L' h' tk' FG' m9 F' N' B' X' T' A9 qk ek)
  k_steps
  all_goals (first | (refine' hret _ ([_, _, _, _] ++ led) _ _ ?hF (News.re ?hN ?hS) ⟨_, _, _, _, _, rfl, .mk _ _ _ _ _ _ _ [.int 0 _, .int 0 _, .int 0 _, .int 0 _] [.int 0 _, .int 0 _, .int 0 _, .int 0 _] (.cons _ _ (.cons _ _ (.cons _ _ (.cons _ _ .nil)))) (.cons _ _ (.cons _ _ (.cons _ _ (.cons _ _ .nil)))) rfl rfl, rfl, ?hf, ?hd⟩; (case hF => assumption); (case hN => assumption); (case hS => (simp only [List.cons_append, List.nil_append]; k_extra "mine:subs2")); (case hf => ((repeat (rename _ ∧ _ => z9; obtain ⟨_, _⟩ := z9)); k_extra "mine:fresh")); (case hd => ((repeat (rename _ ∧ _ => z9; obtain ⟨_, _⟩ := z9)); dsimp only [Dist4]; refine ⟨?_, ?_, ?_, ?_, ?_, ?_⟩ <;> omega))))
theorem tot_new_k {led : Led}  :
  Kt w p loose mean mg mb 4 (.ref 313) [] [] led (fun K => ∀ a d l1 l2 tl, (TotL w Tot.zero a d l1 l2 tl) → (Fresh tl led) → (Dist4 a d l1 l2) → K (.ref a) (tl ++ led)) :=
  Ct.kt (tot_new ) (fun K hK r0 l0 P0 => by
    obtain ⟨a9, d9, l19, l29, tl9, e1, f1, e2, f2, f3⟩ := P0
    subst e1; subst e2
    exact hK a9 d9 l19 l29 tl9 f1 f2 f3)

theorem tot_set_nat {A : Around} {E : Value → Shared → Prop} {s : Shared} {h₀ : Heap} {L a d : Addr} {m : Str → Option Value} {rest : Led} {n : Nat} {v v1 v2 v3 : Value} {t1 t2 t3 : Tok} {Q : Unit → Shared → Prop}
  (F : Fr h₀ L s.heap m) (X : (Mine.hd.heap_1 w.params).In h₀) (N : News h₀ L s.heap ((a, instObj 313 d) :: (d, dictOf [⟨PyData.keyHash w.params "natural", .str "natural" t1, v1⟩, ⟨PyData.keyHash w.params "stretch", .str "stretch" t2, v2⟩, ⟨PyData.keyHash w.params "shrink", .str "shrink" t3, v3⟩] n) :: rest)) (h1 : a ≠ d) (h2 : ∀ p ∈ rest, p.1 ≠ d)
  (k : ∀ h', Fr h₀ L h' m → News h₀ L h' ((a, instObj 313 d) :: (d, dictOf [⟨PyData.keyHash w.params "natural", .str "natural" t1, v⟩, ⟨PyData.keyHash w.params "stretch", .str "stretch" t2, v2⟩, ⟨PyData.keyHash w.params "shrink", .str "shrink" t3, v3⟩] n) :: rest) → Q () { s with heap := h', toks := s.toks + 2 }) : wpAny (model PG w) A (setAttr (.ref a) "natural" v) Q E s := by
  have U2 : ∀ es', Upd d (dictOf [⟨PyData.keyHash w.params "natural", .str "natural" t1, v1⟩, ⟨PyData.keyHash w.params "stretch", .str "stretch" t2, v2⟩, ⟨PyData.keyHash w.params "shrink", .str "shrink" t3, v3⟩] n) (dictOf es' n) ((a, instObj 313 d) :: (d, dictOf [⟨PyData.keyHash w.params "natural", .str "natural" t1, v1⟩, ⟨PyData.keyHash w.params "stretch", .str "stretch" t2, v2⟩, ⟨PyData.keyHash w.params "shrink", .str "shrink" t3, v3⟩] n) :: rest) ((a, instObj 313 d) :: (d, dictOf es' n) :: rest) := fun es' => .tail h1 (.head h2)
  refine' set_dict F X N (InstAt.of_news N (.head _) (.tail _ (.head _))) rfl ?k6 ?k7 ?k8 ?k9 ?k10 ?k11 ?k12 ?k13 k; (case k6 => k_is); (case k7 => k_is); (case k8 => k_is); (case k9 => k_is); (case k10 => k_get); (case k11 => exact (by with_unfolding_all rfl : _ = (([⟨PyData.keyHash w.params "natural", .str "natural" t1, v⟩, ⟨PyData.keyHash w.params "stretch", .str "stretch" t2, v2⟩, ⟨PyData.keyHash w.params "shrink", .str "shrink" t3, v3⟩] : List DictEntry), n))); (case k12 => exact U2 _); (case k13 => exact Nat.le_of_ble_eq_true rfl)
theorem reg_totset : True := by
  k_with "w:setAttr ref" => first | ((k_here; (with_reducible show wpAny _ _ (setAttr _ (PySem.Str.ofString "natural") _) _ _ _); ((first | with_reducible refine' tot_set_nat ?F_k9 ?X_k9 ?N_k9 ?h1_k9 ?h2_k9 ?_ | k_dflt (refine' tot_set_nat ?F_k9 ?X_k9 ?N_k9 ?h1_k9 ?h2_k9 ?_)); k_dflt ((case F_k9 => k_asm); (case X_k9 => k_asm); (case N_k9 => k_asm); (case h1_k9 => assumption); (case h2_k9 => k_all); k_whole)); intro h9 F9 N9)) | fail
  trivial

theorem tot_widen {ta td ts tz : Addr} {TT : Tot} {tl rest : Led} {x : Int} {t : Tok} (ht : TotL w TT ta td ts tz tl) (hd4 : Dist4 ta td ts tz) (ho : ∀ p ∈ rest, p.1 ≠ ta ∧ p.1 ≠ td ∧ p.1 ≠ ts ∧ p.1 ≠ tz) :
  Ct w p loose mean mg mb 2 (.ref 289) [.ref ta, .int x t] [] (tl ++ rest) (fun r led' => ∃ tl', r = .none ∧ TotL w (TT.widen x) ta td ts tz tl' ∧ led' = tl' ++ rest) := by
  unfold Ct
  intro dpC unC gdC cnC csC L aC ccdC clC outer A₀ base h₀ mC sC Q E B F X N T hk hd hu hret
  obtain ⟨n, n1, n2, t1, t2, t3, u0, vs, us, i1, i2, z1, z2⟩ := ht
  obtain ⟨d1, d2, d3, d4, d5, d6⟩ := hd4
  have o1 : ∀ p ∈ rest, p.1 ≠ ta := fun p hp => (ho p hp).1
  have o2 : ∀ p ∈ rest, p.1 ≠ td := fun p hp => (ho p hp).2.1
  have o3 : ∀ p ∈ rest, p.1 ≠ ts := fun p hp => (ho p hp).2.2.1
  have o4 : ∀ p ∈ rest, p.1 ≠ tz := fun p hp => (ho p hp).2.2.2
  simp only [List.cons_append, List.nil_append] at N
  refine wpAny_call ?_
  k_dflt (refine' code_defL (binds := [(Str.ofString "self", .ref ta), (Str.ofString "width", .int x t)]) (rb := [(Str.ofString "width", .int x t), (Str.ofString "self", .ref ta)]) ?k1 ?k2 ?k3 ?k4 ?k5 ?kA ?kF ?kK ?k6 ?k7 ?k8 ?k9 ?kB rfl ?_ ?c2 ?c3 ?c4 ?c5; (case kA => exact rfl); (case kF => exact rfl); (case kK => first | exact hk | exact rfl); (case k1 => exact B); (case k3 => exact X); (case k5 => exact T); (case k6 => k_is); (case k7 => k_is); (case c5 => decide); (case kB => exact locs rfl); (case c2 => exact rfl); (case c3 => exact rfl); (case c4 => exact rfl); (case k2 => exact F); (case k4 => exact N); (case k8 => exact dp_ltz hd); (case k9 => exact BindsTo.of_eq rfl); k_whole; intro g' L' h' tk' FG' m9 F' N' B' X' T' A9 qk ek)
  k_steps
  all_goals (first | (refine hret _ _ _ _ (by assumption) (by assumption) ?_; exact ⟨_, rfl, .mk _ _ _ _ _ _ _ _ _ i1 i2 z1 z2, rfl⟩))
theorem tot_widen_k {ta td ts tz : Addr} {TT : Tot} {tl rest : Led} {x : Int} {t : Tok} (ht : TotL w TT ta td ts tz tl) (hd4 : Dist4 ta td ts tz) (ho : ∀ p ∈ rest, p.1 ≠ ta ∧ p.1 ≠ td ∧ p.1 ≠ ts ∧ p.1 ≠ tz) :
  Kt w p loose mean mg mb 2 (.ref 289) [.ref ta, .int x t] [] (tl ++ rest) (fun K => ∀ tl', (TotL w (TT.widen x) ta td ts tz tl') → K (.none) (tl' ++ rest)) :=
  Ct.kt (tot_widen ht hd4 ho) (fun K hK r0 l0 P0 => by
    obtain ⟨tl'9, e1, f1, e2⟩ := P0
    subst e1; subst e2
    exact hK tl'9 f1)

theorem tot_add {ta td ts tz : Addr} {TT : Tot} {tl rest : Led} {ga : Addr} {g : Gl} (ht : TotL w TT ta td ts tz tl) (hd4 : Dist4 ta td ts tz) (ho : ∀ p ∈ rest, p.1 ≠ ta ∧ p.1 ≠ td ∧ p.1 ≠ ts ∧ p.1 ≠ tz) (hg : GlueIn w rest ga g) (g1 : 0 ≤ g.so) (g2 : g.so ≤ 3) (g3 : 0 ≤ g.sho) (g4 : g.sho ≤ 3) :
  Ct w p loose mean mg mb 2 (.ref 282) [.ref ta, .ref ga] [] (tl ++ rest) (fun r led' => ∃ tl', r = .none ∧ TotL w (TT.add g) ta td ts tz tl' ∧ led' = tl' ++ rest) := by
  unfold Ct
  intro dpC unC gdC cnC csC L aC ccdC clC outer A₀ base h₀ mC sC Q E B F X N T hk hd hu hret
  obtain ⟨n, n1, n2, t1, t2, t3, u0, vs, us, i1, i2, z1, z2⟩ := ht
  obtain ⟨d1, d2, d3, d4, d5, d6⟩ := hd4
  have o1 : ∀ p ∈ rest, p.1 ≠ ta := fun p hp => (ho p hp).1
  have o2 : ∀ p ∈ rest, p.1 ≠ td := fun p hp => (ho p hp).2.1
  have o3 : ∀ p ∈ rest, p.1 ≠ ts := fun p hp => (ho p hp).2.2.1
  have o4 : ∀ p ∈ rest, p.1 ≠ tz := fun p hp => (ho p hp).2.2.2
  simp only [List.cons_append, List.nil_append] at N
  obtain ⟨⟨_, gg1⟩, ⟨_, gg2⟩, ⟨_, gg3⟩, ⟨_, gg4⟩, ⟨_, gg5⟩, gg6⟩ := hg
  refine wpAny_call ?_
  k_dflt (refine' code_defL (binds := [(Str.ofString "self", .ref ta), (Str.ofString "glue", .ref ga)]) (rb := [(Str.ofString "glue", .ref ga), (Str.ofString "self", .ref ta)]) ?k1 ?k2 ?k3 ?k4 ?k5 ?kA ?kF ?kK ?k6 ?k7 ?k8 ?k9 ?kB rfl ?_ ?c2 ?c3 ?c4 ?c5; (case kA => exact rfl); (case kF => exact rfl); (case kK => first | exact hk | exact rfl); (case k1 => exact B); (case k3 => exact X); (case k5 => exact T); (case k6 => k_is); (case k7 => k_is); (case c5 => decide); (case kB => exact locs rfl); (case c2 => exact rfl); (case c3 => exact rfl); (case c4 => exact rfl); (case k2 => exact F); (case k4 => exact N); (case k8 => exact dp_ltz hd); (case k9 => exact BindsTo.of_eq rfl); k_whole; intro g' L' h' tk' FG' m9 F' N' B' X' T' A9 qk ek)
  k_steps
  all_goals (first | (refine hret _ _ _ _ (by assumption) (by assumption) ?_; exact ⟨_, rfl, .mk _ _ _ _ _ _ _ _ _ (by assumption) (by assumption) (by (dsimp only [Tot.add]; rw [List.length_set]; exact z1)) (by (dsimp only [Tot.add]; rw [List.length_set]; exact z2)), rfl⟩))
theorem tot_add_k {ta td ts tz : Addr} {TT : Tot} {tl rest : Led} {ga : Addr} {g : Gl} (ht : TotL w TT ta td ts tz tl) (hd4 : Dist4 ta td ts tz) (ho : ∀ p ∈ rest, p.1 ≠ ta ∧ p.1 ≠ td ∧ p.1 ≠ ts ∧ p.1 ≠ tz) (hg : GlueIn w rest ga g) (g1 : 0 ≤ g.so) (g2 : g.so ≤ 3) (g3 : 0 ≤ g.sho) (g4 : g.sho ≤ 3) :
  Kt w p loose mean mg mb 2 (.ref 282) [.ref ta, .ref ga] [] (tl ++ rest) (fun K => ∀ tl', (TotL w (TT.add g) ta td ts tz tl') → K (.none) (tl' ++ rest)) :=
  Ct.kt (tot_add ht hd4 ho hg g1 g2 g3 g4) (fun K hK r0 l0 P0 => by
    obtain ⟨tl'9, e1, f1, e2⟩ := P0
    subst e1; subst e2
    exact hK tl'9 f1)

theorem top_order_ok {l : Addr} {n : Nat} {vs : List Value} {ns : List Int} {led : Led} (hl : (l, PySem.W.listOf vs.toArray n) ∈ led) (i1 : IntsAre vs ns) (z1 : ns.length = 4) :
  Ct w p loose mean mg mb 2 (.ref 261) [.ref l] [] led (fun r led' => ∃ t, r = .int (top4 ns) t ∧ led' = led) := by
  unfold Ct
  intro dpC unC gdC cnC csC L aC ccdC clC outer A₀ base h₀ mC sC Q E B F X N T hk hd hu hret
  refine wpAny_call ?_
  k_dflt (refine' code_defL (binds := [(Str.ofString "sums", .ref l)]) (rb := [(Str.ofString "sums", .ref l)]) ?k1 ?k2 ?k3 ?k4 ?k5 ?kA ?kF ?kK ?k6 ?k7 ?k8 ?k9 ?kB rfl ?_ ?c2 ?c3 ?c4 ?c5; (case kA => exact rfl); (case kF => exact rfl); (case kK => first | exact hk | exact rfl); (case k1 => exact B); (case k3 => exact X); (case k5 => exact T); (case k6 => k_is); (case k7 => k_is); (case c5 => decide); (case kB => exact locs rfl); (case c2 => exact rfl); (case c3 => exact rfl); (case c4 => exact rfl); (case k2 => exact F); (case k4 => exact N); (case k8 => exact dp_ltz hd); (case k9 => exact BindsTo.of_eq rfl); k_whole; intro g' L' h' tk' FG' m9 F' N' B' X' T' A9 qk ek)
  k_steps
  all_goals (first | (refine hret _ led _ _ (by assumption) (News.re (by assumption) ?_) (ex_int ?_ rfl); (focus ((try simp only [List.cons_append, List.nil_append]); k_extra "mine:subs2")); (dsimp only [top4]; (repeat (first | rw [if_pos (by assumption)] | rw [if_neg (fun h9 => h9 (by assumption))])))))
theorem top_order_ok_k {l : Addr} {n : Nat} {vs : List Value} {ns : List Int} {led : Led} (hl : (l, PySem.W.listOf vs.toArray n) ∈ led) (i1 : IntsAre vs ns) (z1 : ns.length = 4) :
  Kt w p loose mean mg mb 2 (.ref 261) [.ref l] [] led (fun K => ∀ t, K (.int (top4 ns) t) (led)) :=
  Ct.kt (top_order_ok hl i1 z1) (fun K hK r0 l0 P0 => by
    obtain ⟨t9, e1, e2⟩ := P0
    subst e1; subst e2
    exact hK t9)

theorem reg_top_order_ok_k : True := by
  k_with "w:call ref" => first | ((k_here; (with_reducible show wpAny _ _ (call (Value.ref 261) _ _) _ _ _); ((first | with_reducible refine' Kt.use (top_order_ok_k ?c1_k9 ?c2_k9 ?c3_k9) ?hh_k9 ?hf_k9 ?B_k9 ?F_k9 ?X_k9 ?N_k9 ?T_k9 ?hk_k9 ?hd_k9 ?hu_k9 ?_ | k_dflt (refine' Kt.use (top_order_ok_k ?c1_k9 ?c2_k9 ?c3_k9) ?hh_k9 ?hf_k9 ?B_k9 ?F_k9 ?X_k9 ?N_k9 ?T_k9 ?hk_k9 ?hd_k9 ?hu_k9 ?_)); k_dflt ((case F_k9 => k_asm); (case B_k9 => k_asm); (case X_k9 => k_asm); (case N_k9 => k_asm); (case T_k9 => k_asm); (case hh_k9 => exact rfl); (case hf_k9 => exact rfl); (case hk_k9 => first | exact rfl | assumption); (case hd_k9 => k_extra "mine:dp"); (case hu_k9 => k_extra "mine:un"); (case c1_k9 => k_mem); (case c2_k9 => assumption); (case c3_k9 => assumption))); intro t9 h9 tk9 F9 N9; (try k_sweep); (try dsimp only); (try k_fold))) | fail
  trivial

theorem tot_stretch_top {ta td ts tz : Addr} {TT : Tot} {tl rest : Led} (ht : TotL w TT ta td ts tz tl) (hd4 : Dist4 ta td ts tz) (ho : ∀ p ∈ rest, p.1 ≠ ta ∧ p.1 ≠ td ∧ p.1 ≠ ts ∧ p.1 ≠ tz) :
  Ct w p loose mean mg mb 3 (.ref 296) [.ref ta] [] (tl ++ rest) (fun r led' => ∃ t, r = .int (top4 TT.st) t ∧ led' = tl ++ rest) := by
  unfold Ct
  intro dpC unC gdC cnC csC L aC ccdC clC outer A₀ base h₀ mC sC Q E B F X N T hk hd hu hret
  obtain ⟨n, n1, n2, t1, t2, t3, u0, vs, us, i1, i2, z1, z2⟩ := ht
  obtain ⟨d1, d2, d3, d4, d5, d6⟩ := hd4
  have o1 : ∀ p ∈ rest, p.1 ≠ ta := fun p hp => (ho p hp).1
  have o2 : ∀ p ∈ rest, p.1 ≠ td := fun p hp => (ho p hp).2.1
  have o3 : ∀ p ∈ rest, p.1 ≠ ts := fun p hp => (ho p hp).2.2.1
  have o4 : ∀ p ∈ rest, p.1 ≠ tz := fun p hp => (ho p hp).2.2.2
  simp only [List.cons_append, List.nil_append] at N
  refine wpAny_call ?_
  k_dflt (refine' code_defL (binds := [(Str.ofString "self", .ref ta)]) (rb := [(Str.ofString "self", .ref ta)]) ?k1 ?k2 ?k3 ?k4 ?k5 ?kA ?kF ?kK ?k6 ?k7 ?k8 ?k9 ?kB rfl ?_ ?c2 ?c3 ?c4 ?c5; (case kA => exact rfl); (case kF => exact rfl); (case kK => first | exact hk | exact rfl); (case k1 => exact B); (case k3 => exact X); (case k5 => exact T); (case k6 => k_is); (case k7 => k_is); (case c5 => decide); (case kB => exact locs rfl); (case c2 => exact rfl); (case c3 => exact rfl); (case c4 => exact rfl); (case k2 => exact F); (case k4 => exact N); (case k8 => exact dp_ltz hd); (case k9 => exact BindsTo.of_eq rfl); k_whole; intro g' L' h' tk' FG' m9 F' N' B' X' T' A9 qk ek)
  k_steps
  all_goals (first | (refine hret _ _ _ _ (by assumption) (News.re (by assumption) ?_) ⟨_, rfl, rfl⟩; (simp only [List.cons_append, List.nil_append]; k_extra "mine:subs2")))
theorem tot_stretch_top_k {ta td ts tz : Addr} {TT : Tot} {tl rest : Led} (ht : TotL w TT ta td ts tz tl) (hd4 : Dist4 ta td ts tz) (ho : ∀ p ∈ rest, p.1 ≠ ta ∧ p.1 ≠ td ∧ p.1 ≠ ts ∧ p.1 ≠ tz) :
  Kt w p loose mean mg mb 3 (.ref 296) [.ref ta] [] (tl ++ rest) (fun K => ∀ t, K (.int (top4 TT.st) t) (tl ++ rest)) :=
  Ct.kt (tot_stretch_top ht hd4 ho) (fun K hK r0 l0 P0 => by
    obtain ⟨t9, e1, e2⟩ := P0
    subst e1; subst e2
    exact hK t9)

theorem tot_shrink_top {ta td ts tz : Addr} {TT : Tot} {tl rest : Led} (ht : TotL w TT ta td ts tz tl) (hd4 : Dist4 ta td ts tz) (ho : ∀ p ∈ rest, p.1 ≠ ta ∧ p.1 ≠ td ∧ p.1 ≠ ts ∧ p.1 ≠ tz) :
  Ct w p loose mean mg mb 3 (.ref 303) [.ref ta] [] (tl ++ rest) (fun r led' => ∃ t, r = .int (top4 TT.sh) t ∧ led' = tl ++ rest) := by
  unfold Ct
  intro dpC unC gdC cnC csC L aC ccdC clC outer A₀ base h₀ mC sC Q E B F X N T hk hd hu hret
  obtain ⟨n, n1, n2, t1, t2, t3, u0, vs, us, i1, i2, z1, z2⟩ := ht
  obtain ⟨d1, d2, d3, d4, d5, d6⟩ := hd4
  have o1 : ∀ p ∈ rest, p.1 ≠ ta := fun p hp => (ho p hp).1
  have o2 : ∀ p ∈ rest, p.1 ≠ td := fun p hp => (ho p hp).2.1
  have o3 : ∀ p ∈ rest, p.1 ≠ ts := fun p hp => (ho p hp).2.2.1
  have o4 : ∀ p ∈ rest, p.1 ≠ tz := fun p hp => (ho p hp).2.2.2
  simp only [List.cons_append, List.nil_append] at N
  refine wpAny_call ?_
  k_dflt (refine' code_defL (binds := [(Str.ofString "self", .ref ta)]) (rb := [(Str.ofString "self", .ref ta)]) ?k1 ?k2 ?k3 ?k4 ?k5 ?kA ?kF ?kK ?k6 ?k7 ?k8 ?k9 ?kB rfl ?_ ?c2 ?c3 ?c4 ?c5; (case kA => exact rfl); (case kF => exact rfl); (case kK => first | exact hk | exact rfl); (case k1 => exact B); (case k3 => exact X); (case k5 => exact T); (case k6 => k_is); (case k7 => k_is); (case c5 => decide); (case kB => exact locs rfl); (case c2 => exact rfl); (case c3 => exact rfl); (case c4 => exact rfl); (case k2 => exact F); (case k4 => exact N); (case k8 => exact dp_ltz hd); (case k9 => exact BindsTo.of_eq rfl); k_whole; intro g' L' h' tk' FG' m9 F' N' B' X' T' A9 qk ek)
  k_steps
  all_goals (first | (refine hret _ _ _ _ (by assumption) (News.re (by assumption) ?_) ⟨_, rfl, rfl⟩; (simp only [List.cons_append, List.nil_append]; k_extra "mine:subs2")))
theorem tot_shrink_top_k {ta td ts tz : Addr} {TT : Tot} {tl rest : Led} (ht : TotL w TT ta td ts tz tl) (hd4 : Dist4 ta td ts tz) (ho : ∀ p ∈ rest, p.1 ≠ ta ∧ p.1 ≠ td ∧ p.1 ≠ ts ∧ p.1 ≠ tz) :
  Kt w p loose mean mg mb 3 (.ref 303) [.ref ta] [] (tl ++ rest) (fun K => ∀ t, K (.int (top4 TT.sh) t) (tl ++ rest)) :=
  Ct.kt (tot_shrink_top ht hd4 ho) (fun K hK r0 l0 P0 => by
    obtain ⟨t9, e1, e2⟩ := P0
    subst e1; subst e2
    exact hK t9)

theorem TotL.mt {T : Tot} {a d l1 l2 : Addr} {tl : Led} (h : TotL w T a d l1 l2 tl) : Mt w tl a "add" 282 ∧ Mt w tl a "widen" 289 ∧ Mt w tl a "stretch_top" 296 ∧ Mt w tl a "shrink_top" 303 := by
  cases h
  exact ⟨by k_extra "mine:mt", by k_extra "mine:mt", by k_extra "mine:mt", by k_extra "mine:mt"⟩
theorem TotL.at {T : Tot} {a d l1 l2 : Addr} {tl : Led} (h : TotL w T a d l1 l2 tl) : (∃ t, At w tl a "natural" (.int T.nat t)) ∧ At w tl a "stretch" (.ref l1) ∧ At w tl a "shrink" (.ref l2) := by
  cases h
  exact ⟨⟨_, by k_extra "mine:at"⟩, by k_extra "mine:at", by k_extra "mine:at"⟩
theorem TotL.lists {T : Tot} {a d l1 l2 : Addr} {tl : Led} (h : TotL w T a d l1 l2 tl) : T.st.length = 4 ∧ T.sh.length = 4 ∧ (∃ vs n, IntsAre vs T.st ∧ (l1, PySem.W.listOf vs.toArray n) ∈ tl) ∧ ∃ us n, IntsAre us T.sh ∧ (l2, PySem.W.listOf us.toArray n) ∈ tl := by
  cases h with
  | mk n n1 n2 t1 t2 t3 u0 vs us i1 i2 z1 z2 => exact ⟨z1, z2, ⟨_, _, i1, by k_mem⟩, _, _, i2, by k_mem⟩
theorem TotL.adr {T : Tot} {a d l1 l2 : Addr} {tl : Led} (h : TotL w T a d l1 l2 tl) : tl.map (·.1) = [a, d, l1, l2] := by
  cases h; rfl

theorem reg_AG2_19571 : True := by
  k_with "w:call ref" => first | ((k_here; (with_reducible show wpAny _ _ (call (Value.ref 313) _ _) _ _ _); ((first | with_reducible refine' Kt.use tot_new_k ?hh_k9 ?hf_k9 ?B_k9 ?F_k9 ?X_k9 ?N_k9 ?T_k9 ?hk_k9 ?hd_k9 ?hu_k9 ?_ | k_dflt (refine' Kt.use tot_new_k ?hh_k9 ?hf_k9 ?B_k9 ?F_k9 ?X_k9 ?N_k9 ?T_k9 ?hk_k9 ?hd_k9 ?hu_k9 ?_)); k_dflt ((case F_k9 => k_asm); (case B_k9 => k_asm); (case X_k9 => k_asm); (case N_k9 => k_asm); (case T_k9 => k_asm); (case hh_k9 => exact rfl); (case hf_k9 => exact rfl); (case hk_k9 => first | exact rfl | assumption); (case hd_k9 => k_extra "mine:dp"); (case hu_k9 => k_extra "mine:un"))); intro ta9 td9 ts9 tz9 tl9 ht9 f9 hd9 h9 tk9 F9 N9; (try k_sweep); (try dsimp only); (try k_fold))) | fail
  k_with "w:call ref" => first | ((k_here; (with_reducible show wpAny _ _ (call (Value.ref 289) _ _) _ _ _); ((first | with_reducible refine' Kt.use (tot_widen_k ?c1_k9 ?c2_k9 ?c3_k9) ?hh_k9 ?hf_k9 ?B_k9 ?F_k9 ?X_k9 ?N_k9 ?T_k9 ?hk_k9 ?hd_k9 ?hu_k9 ?_ | k_dflt (refine' Kt.use (tot_widen_k ?c1_k9 ?c2_k9 ?c3_k9) ?hh_k9 ?hf_k9 ?B_k9 ?F_k9 ?X_k9 ?N_k9 ?T_k9 ?hk_k9 ?hd_k9 ?hu_k9 ?_)); k_dflt ((case F_k9 => k_asm); (case B_k9 => k_asm); (case X_k9 => k_asm); (case N_k9 => k_asm); (case T_k9 => k_asm); (case hh_k9 => exact rfl); (case hf_k9 => exact rfl); (case hk_k9 => first | exact rfl | assumption); (case hd_k9 => k_extra "mine:dp"); (case hu_k9 => k_extra "mine:un"); (case c1_k9 => assumption); (case c2_k9 => assumption); (case c3_k9 => assumption))); intro tl9 ht9 h9 tk9 F9 N9; (try k_sweep); (try dsimp only); (try k_fold))) | fail
  k_with "w:call ref" => first | ((k_here; (with_reducible show wpAny _ _ (call (Value.ref 282) _ _) _ _ _); ((first | with_reducible refine' Kt.use (tot_add_k ?c1_k9 ?c2_k9 ?c3_k9 ?c4_k9 ?c5_k9 ?c6_k9 ?c7_k9 ?c8_k9) ?hh_k9 ?hf_k9 ?B_k9 ?F_k9 ?X_k9 ?N_k9 ?T_k9 ?hk_k9 ?hd_k9 ?hu_k9 ?_ | k_dflt (refine' Kt.use (tot_add_k ?c1_k9 ?c2_k9 ?c3_k9 ?c4_k9 ?c5_k9 ?c6_k9 ?c7_k9 ?c8_k9) ?hh_k9 ?hf_k9 ?B_k9 ?F_k9 ?X_k9 ?N_k9 ?T_k9 ?hk_k9 ?hd_k9 ?hu_k9 ?_)); k_dflt ((case F_k9 => k_asm); (case B_k9 => k_asm); (case X_k9 => k_asm); (case N_k9 => k_asm); (case T_k9 => k_asm); (case hh_k9 => exact rfl); (case hf_k9 => exact rfl); (case hk_k9 => first | exact rfl | assumption); (case hd_k9 => k_extra "mine:dp"); (case hu_k9 => k_extra "mine:un"); (case c1_k9 => assumption); (case c2_k9 => assumption); (case c3_k9 => assumption); (case c4_k9 => k_extra "mine:glu"); (case c5_k9 => first | assumption | (refine Int.le_trans ?_ (by assumption); decide) | (refine Int.le_trans (by assumption) ?_; decide) | omega); (case c6_k9 => first | assumption | (refine Int.le_trans ?_ (by assumption); decide) | (refine Int.le_trans (by assumption) ?_; decide) | omega); (case c7_k9 => first | assumption | (refine Int.le_trans ?_ (by assumption); decide) | (refine Int.le_trans (by assumption) ?_; decide) | omega); (case c8_k9 => first | assumption | (refine Int.le_trans ?_ (by assumption); decide) | (refine Int.le_trans (by assumption) ?_; decide) | omega))); intro tl9 ht9 h9 tk9 F9 N9; (try k_sweep); (try dsimp only); (try k_fold))) | fail
  k_with "w:call ref" => first | ((k_here; (with_reducible show wpAny _ _ (call (Value.ref 296) _ _) _ _ _); ((first | with_reducible refine' Kt.use (tot_stretch_top_k ?c1_k9 ?c2_k9 ?c3_k9) ?hh_k9 ?hf_k9 ?B_k9 ?F_k9 ?X_k9 ?N_k9 ?T_k9 ?hk_k9 ?hd_k9 ?hu_k9 ?_ | k_dflt (refine' Kt.use (tot_stretch_top_k ?c1_k9 ?c2_k9 ?c3_k9) ?hh_k9 ?hf_k9 ?B_k9 ?F_k9 ?X_k9 ?N_k9 ?T_k9 ?hk_k9 ?hd_k9 ?hu_k9 ?_)); k_dflt ((case F_k9 => k_asm); (case B_k9 => k_asm); (case X_k9 => k_asm); (case N_k9 => k_asm); (case T_k9 => k_asm); (case hh_k9 => exact rfl); (case hf_k9 => exact rfl); (case hk_k9 => first | exact rfl | assumption); (case hd_k9 => k_extra "mine:dp"); (case hu_k9 => k_extra "mine:un"); (case c1_k9 => assumption); (case c2_k9 => assumption); (case c3_k9 => assumption))); intro t9 h9 tk9 F9 N9; (try k_sweep); (try dsimp only); (try k_fold))) | fail
  k_with "w:call ref" => first | ((k_here; (with_reducible show wpAny _ _ (call (Value.ref 303) _ _) _ _ _); ((first | with_reducible refine' Kt.use (tot_shrink_top_k ?c1_k9 ?c2_k9 ?c3_k9) ?hh_k9 ?hf_k9 ?B_k9 ?F_k9 ?X_k9 ?N_k9 ?T_k9 ?hk_k9 ?hd_k9 ?hu_k9 ?_ | k_dflt (refine' Kt.use (tot_shrink_top_k ?c1_k9 ?c2_k9 ?c3_k9) ?hh_k9 ?hf_k9 ?B_k9 ?F_k9 ?X_k9 ?N_k9 ?T_k9 ?hk_k9 ?hd_k9 ?hu_k9 ?_)); k_dflt ((case F_k9 => k_asm); (case B_k9 => k_asm); (case X_k9 => k_asm); (case N_k9 => k_asm); (case T_k9 => k_asm); (case hh_k9 => exact rfl); (case hf_k9 => exact rfl); (case hk_k9 => first | exact rfl | assumption); (case hd_k9 => k_extra "mine:dp"); (case hu_k9 => k_extra "mine:un"); (case c1_k9 => assumption); (case c2_k9 => assumption); (case c3_k9 => assumption))); intro t9 h9 tk9 F9 N9; (try k_sweep); (try dsimp only); (try k_fold))) | fail
  k_with "w:getMethod ref" => first | ((k_here; ((first | with_reducible refine' mt_get ?h_k9 ?F_k9 ?X_k9 ?N_k9 ?s_k9 ?_ | k_dflt (refine' mt_get ?h_k9 ?F_k9 ?X_k9 ?N_k9 ?s_k9 ?_)); k_dflt ((case h_k9 => with_reducible first | exact (TotL.mt (by assumption)).1 | exact (TotL.mt (by assumption)).2.1 | exact (TotL.mt (by assumption)).2.2.1 | exact (TotL.mt (by assumption)).2.2.2); (case F_k9 => k_asm); (case X_k9 => k_asm); (case N_k9 => k_asm); (case s_k9 => k_extra "mine:sub"); k_whole)))) | fail
  trivial
end
end
section
section
variable {w : World} {p : Program} {loose : List Str} {mean : ExcName → Option Value} {mg mb : Str → Option Value}
noncomputable def Nd.gok : Nd → Prop
  | .skip g _ => 0 ≤ g.so ∧ g.so ≤ 3 ∧ 0 ≤ g.sho ∧ g.sho ≤ 3
  | _ => True
noncomputable def lnStep (c : Tot × Int × Int) (nd : Nd) : Tot × Int × Int := (match nd with | .skip g _ => c.1.add g | nd => c.1.widen nd.width, max c.2.1 nd.lheight, max c.2.2 nd.ldepth)
noncomputable def lnFold (ds : List Nd) : Tot × Int × Int := ds.foldl lnStep (Tot.zero, 0, 0)
theorem ln_skip {ds : List Nd} {i : Nat} {g : Gl} {s : Int} (h : ds[i]? = some (.skip g s)) : lnFold (ds.take (i + 1)) = ((lnFold (ds.take i)).1.add g, max (lnFold (ds.take i)).2.1 (Nd.skip g s).lheight, max (lnFold (ds.take i)).2.2 (Nd.skip g s).ldepth) := by
  unfold lnFold
  rw [List.take_add_one, h, List.foldl_append]; rfl
theorem ln_else {ds : List Nd} {i : Nat} {nd : Nd} (h : ds[i]? = some nd) (k : nd.kind ≠ 6) : lnFold (ds.take (i + 1)) = ((lnFold (ds.take i)).1.widen nd.width, max (lnFold (ds.take i)).2.1 nd.lheight, max (lnFold (ds.take i)).2.2 nd.ldepth) := by
  unfold lnFold
  rw [List.take_add_one, h, List.foldl_append]
  cases nd <;> first | rfl | exact absurd rfl k
theorem fresh_off {tl led : Led} {a d l1 l2 : Addr} (f : Fresh tl led) (e : tl.map (·.1) = [a, d, l1, l2]) : ∀ p ∈ led, p.1 ≠ a ∧ p.1 ≠ d ∧ p.1 ≠ l1 ∧ p.1 ≠ l2 := fun p hp => by
  have k : ∀ b ∈ [a, d, l1, l2], p.1 ≠ b := fun b hb => by
    rw [← e] at hb
    obtain ⟨q, hq, rfl⟩ := List.mem_map.mp hb
    exact Nat.ne_of_lt (f q hq p hp)
  exact ⟨k _ (by simp), k _ (by simp), k _ (by simp), k _ (by simp)⟩
theorem loop_off {led own dyn : Led} {a d l1 l2 : Addr} (ho : ∀ p ∈ led, p.1 ≠ a ∧ p.1 ≠ d ∧ p.1 ≠ l1 ∧ p.1 ≠ l2) (h : OwnOff own ((dyn ++ led).map (·.1))) (e : dyn.map (·.1) = [a, d, l1, l2]) : ∀ p ∈ led ++ own, p.1 ≠ a ∧ p.1 ≠ d ∧ p.1 ≠ l1 ∧ p.1 ≠ l2 := fun p hp => by
  rcases List.mem_append.mp hp with hp | hp
  · exact ho p hp
  · have k : ∀ b ∈ [a, d, l1, l2], p.1 ≠ b := fun b hb => h p hp b (by rw [List.map_append, e]; exact List.mem_append_left _ hb)
    exact ⟨k _ (by simp), k _ (by simp), k _ (by simp), k _ (by simp)⟩
theorem fresh_adr {tl dyn led : Led} (h : Fresh tl led) (e : tl.map (·.1) = dyn.map (·.1)) : Fresh dyn led := fun q hq p hp => by
  have k : q.1 ∈ tl.map (·.1) := by rw [e]; exact List.mem_map.mpr ⟨q, hq, rfl⟩
  obtain ⟨q', hq', e'⟩ := List.mem_map.mp k
  rw [← e']; exact h q' hq' p hp
theorem take_all {w : World} {S : Led} {vs : List Value} {ds : List Nd} (h : NodesIn w S vs ds) : ds.take vs.length = ds := List.take_of_length_le (by rw [h.length]; exact Nat.le_refl _)
theorem max_int {prog : Program} {w : World} {A : Around} {E : Value → Shared → Prop} {s : Shared} {h₀ : Heap} {L : Addr} {m : Str → Option Value} {news : Led} {a b : Int} {t u : Tok} {Q : Value → Shared → Prop} (hh : A.handled = none) (F : Fr h₀ L s.heap m) (N : News h₀ L s.heap news)
    (h : ∀ h' tk v, Fr h₀ L h' m → News h₀ L h' news → Q (.int (max a b) v) { s with heap := h', toks := tk }) : wpAny (model prog w) A (call (.builtin "max") [.int a t, .int b u]) Q E s :=
  PyProof.Rows.max_two_N hh F N fun h' tk F' N' => by rw [show (if b > a then b else a) = max a b by split <;> omega]; exact h h' tk _ F' N'
theorem reg_nl : True := by
  k_with "w:call builtin:max" => first | ((k_here; (with_reducible show wpAny _ _ (call (Value.builtin _) [Value.int _ _, Value.int _ _]) _ _ _); ((first | with_reducible refine' max_int ?hh_k9 ?F_k9 ?N_k9 ?_ | k_dflt (refine' max_int ?hh_k9 ?F_k9 ?N_k9 ?_)); k_dflt ((case hh_k9 => exact rfl); (case F_k9 => k_asm); (case N_k9 => k_asm))); intro h9 tk9 v9 F9 N9)) | fail
  k_with "mine:glu" => first | (first | assumption | ((refine GlueIn.mono (by assumption) ?_); k_extra "mine:sub")) | fail
  k_with "w:InvEndG" => first | ((((first | with_reducible refine' loop_end (dyn₀ := dyn9) (_, (_, _), (_, _)) ?F_k9 ?N_k9 ?hn_k9 ?ha_k9 ?hadr_k9 ?hk_k9 ?hr_k9 ?hi_k9 | k_dflt (refine' loop_end (dyn₀ := dyn9) (_, (_, _), (_, _)) ?F_k9 ?N_k9 ?hn_k9 ?ha_k9 ?hadr_k9 ?hk_k9 ?hr_k9 ?hi_k9)); k_dflt ((case F_k9 => k_asm); (case N_k9 => k_asm); (case hn_k9 => exact fun _ h => h); (case ha_k9 => assumption); (case hadr_k9 => exact (TotL.adr (by assumption)).trans (TotL.adr (by assumption)).symm); (case hk_k9 => kst_all); (case hr_k9 => kst_same); (case hi_k9 => first | exact ⟨(ln_skip hnd9).trans (by rw [hi1]), by assumption⟩ | exact ⟨(ln_else hnd9 (by omega)).trans (by rw [hi1]), by assumption⟩))))) | fail
  k_with "w:getAttr ref" => first | ((k_here; (with_reducible show wpAny _ _ (getAttr _ (PySem.Str.ofString "glue") _) _ _ _); ((refine kimp (P := nd9.kind = 6) ?_ fun k9 => ?_); (focus omega); obtain ⟨ga9, g9, s9, q9, gg9, ge9, ql9⟩ := hn9.hgl hb9 k9; subst ge9; (((first | with_reducible refine' at_get (S := led) q9 ?F_k9 ?X_k9 ?N_k9 ?s_k9 ?_ | k_dflt (refine' at_get (S := led) q9 ?F_k9 ?X_k9 ?N_k9 ?s_k9 ?_)); k_dflt ((case F_k9 => k_asm); (case X_k9 => k_asm); (case N_k9 => k_asm); (case s_k9 => k_extra "mine:sub"); k_whole))); dsimp only [Nd.gok] at hg9; obtain ⟨hg1, hg2, hg3, hg4⟩ := hg9))) | fail
  trivial

theorem natural_line_ok {l : Addr} {n : Nat} {vs : List Value} {ds : List Nd} {led : Led} (hl : (l, PySem.W.listOf vs.toArray n) ∈ led) (hn : NodesIn w led vs ds) (hb : ∀ d ∈ ds, d.bk ∧ d.gok) :
  Ct w p loose mean mg mb 6 (.ref 607) [.ref l] [] led (fun r led' => ∃ t ta td ts tz tl th tdp o, r = .ref t ∧ led' = (t, o) :: (tl ++ led) ∧ o = tupO [.ref ta, .int (lnFold ds).2.1 th, .int (lnFold ds).2.2 tdp] 0 ∧ TotL w (lnFold ds).1 ta td ts tz tl ∧ Dist4 ta td ts tz ∧ Fresh tl led ∧ AllLt t (tl ++ led)) := by
  unfold Ct
  intro dpC unC gdC cnC csC L aC ccdC clC outer A₀ base h₀ mC sC Q E B F X N T hk hd hu hret
  k_with "w:pyIter ref" => first | k_dflt (((with_reducible show wpAny _ _ (pyIter (Value.ref _)) (fun it s₂ => LoopAtV _ _ _ _ _ _ _ _ _ it s₂) _ _); k_here; (rename Fr _ _ _ _ => lF'); (rename News _ _ _ _ => lN'); have ho := fresh_off f9 ht9.adr; (refine kimp (News.re (led' := tl9 ++ led) lN' ?_) fun lN2 => ?_); (focus (k_extra "mine:sub")); (with_unfolding_all refine' loop_list tl9 led vs n (fun (c : Tot × (Int × Tok) × (Int × Tok)) => [(Str.ofString "height", Value.int c.2.1.1 c.2.1.2), (Str.ofString "depth", Value.int c.2.2.1 c.2.2.2)]) [] (fun i c dyn => lnFold (ds.take i) = (c.1, c.2.1.1, c.2.2.1) ∧ TotL w c.1 ta9 td9 ts9 tz9 dyn) (Tot.zero, (0, _), (0, _)) ?hz lF' lN2 ?hl ?hk ?hj ?_ ?_); (case hz => (with_unfolding_all exact rfl)); (case hl => assumption); (case hk => kst_all); (case hj => exact ⟨rfl, by assumption⟩); (all_goals (try clear lF' lN' lN2)); (focus (intro i9 v9 c9 dyn9 u9 h9 tk9 own9 hv9 hi9 hoff9 F9 N9; obtain ⟨TT9, ⟨hh9, th9⟩, ⟨dd9, tdd9⟩⟩ := c9; obtain ⟨hi1, hi2⟩ := hi9; (dsimp only [kstB] at F9); (dsimp only at hi1 hi2); obtain ⟨nd9, hnd9, hn9⟩ := hn.get hv9; obtain ⟨a9, t9, e9, hk9⟩ := hn9.kd; subst e9; have hm9 := List.mem_of_getElem? hnd9; have hb9 := (hb nd9 hm9).1; have hg9 := (hb nd9 hm9).2; obtain ⟨k1, k2, k3, k4, k5⟩ := hn9.kb hb9; have ho9 := loop_off ho hoff9 hi2.adr)); rotate_left 1; (focus (intro c9 dyn9 u9 h9 tk9 hi9 F9 N9; obtain ⟨TT9, ⟨hh9, th9⟩, ⟨dd9, tdd9⟩⟩ := c9; obtain ⟨hi1, hi2⟩ := hi9; (dsimp only [kstB] at F9); (dsimp only at hi1 hi2); rw [take_all hn] at hi1; have fr9 := fresh_adr f9 (ht9.adr.trans hi2.adr.symm))); rotate_left 1)) | fail
  refine wpAny_call ?_
  k_dflt (refine' code_defL (binds := [(Str.ofString "items", .ref l)]) (rb := [(Str.ofString "items", .ref l)]) ?k1 ?k2 ?k3 ?k4 ?k5 ?kA ?kF ?kK ?k6 ?k7 ?k8 ?k9 ?kB rfl ?_ ?c2 ?c3 ?c4 ?c5; (case kA => exact rfl); (case kF => exact rfl); (case kK => first | exact hk | exact rfl); (case k1 => exact B); (case k3 => exact X); (case k5 => exact T); (case k6 => k_is); (case k7 => k_is); (case c5 => decide); (case kB => exact locs rfl); (case c2 => exact rfl); (case c3 => exact rfl); (case c4 => exact rfl); (case k2 => exact F); (case k4 => exact N); (case k8 => exact dp_ltz hd); (case k9 => exact BindsTo.of_eq rfl); k_whole; intro g' L' h' tk' FG' m9 F' N' B' X' T' A9 qk ek)
  k_steps
  all_goals (first | (refine hret _ _ _ _ (by assumption) (by assumption) ⟨_, ta9, td9, ts9, tz9, dyn9, th9, tdd9, _, rfl, rfl, by rw [hi1], by rw [hi1]; exact hi2, hd9, fr9, (by first | assumption | exact allLt_of (by assumption))⟩))
theorem natural_line_ok_k {l : Addr} {n : Nat} {vs : List Value} {ds : List Nd} {led : Led} (hl : (l, PySem.W.listOf vs.toArray n) ∈ led) (hn : NodesIn w led vs ds) (hb : ∀ d ∈ ds, d.bk ∧ d.gok) :
  Kt w p loose mean mg mb 6 (.ref 607) [.ref l] [] led (fun K => ∀ t ta td ts tz tl th tdp o, (o = tupO [.ref ta, .int (lnFold ds).2.1 th, .int (lnFold ds).2.2 tdp] 0) → (TotL w (lnFold ds).1 ta td ts tz tl) → (Dist4 ta td ts tz) → (Fresh tl led) → (AllLt t (tl ++ led)) → K (.ref t) ((t, o) :: (tl ++ led))) :=
  Ct.kt (natural_line_ok hl hn hb) (fun K hK r0 l0 P0 => by
    obtain ⟨t9, ta9, td9, ts9, tz9, tl9, th9, tdp9, o9, e1, e2, f1, f2, f3, f4, f5⟩ := P0
    subst e1; subst e2
    exact hK t9 ta9 td9 ts9 tz9 tl9 th9 tdp9 o9 f1 f2 f3 f4 f5)

end
end
section
section
variable {w : World} {p : Program} {loose : List Str} {mean : ExcName → Option Value} {mg mb : Str → Option Value}
noncomputable def clStep (c : Tot × Int × Int) (nd : Nd) : Tot × Int × Int :=
  match nd with
  | .skip g _ => ((c.1.widen c.2.2).add g, max c.2.1 nd.across, 0)
  | .kern wd => (c.1.widen (c.2.2 + wd), max c.2.1 nd.across, 0)
  | .box _ _ _ _ _ _ _ _ _ _ => (c.1.widen (c.2.2 + nd.height), max c.2.1 nd.across, nd.depth)
  | .rule _ _ _ => (c.1.widen (c.2.2 + nd.height), max c.2.1 nd.across, nd.depth)
  | _ => (c.1, max c.2.1 nd.across, c.2.2)
noncomputable def clFold (ds : List Nd) : Tot × Int × Int := ds.foldl clStep (Tot.zero, 0, 0)
theorem cl_step {ds : List Nd} {i : Nat} {nd : Nd} (h : ds[i]? = some nd) : clFold (ds.take (i + 1)) = clStep (clFold (ds.take i)) nd := by
  unfold clFold
  rw [List.take_add_one, h, List.foldl_append]; rfl
theorem cl_kern {c : Tot × Int × Int} {nd : Nd} (k : nd.kind = 5) (hb : nd.bk) : clStep c nd = (c.1.widen (c.2.2 + nd.width), max c.2.1 nd.across, 0) := by
  cases nd <;> first | rfl | (dsimp only [Nd.kind, Nd.bk] at *; omega)
theorem cl_stand {c : Tot × Int × Int} {nd : Nd} (k : nd.kind = 2 ∨ nd.kind = 3 ∨ nd.kind = 4) (hb : nd.bk) : clStep c nd = (c.1.widen (c.2.2 + nd.height), max c.2.1 nd.across, nd.depth) := by
  cases nd <;> first | rfl | (dsimp only [Nd.kind, Nd.bk] at *; omega)
theorem cl_rest {c : Tot × Int × Int} {nd : Nd} (k : nd.kind ≠ 2 ∧ nd.kind ≠ 3 ∧ nd.kind ≠ 4 ∧ nd.kind ≠ 5 ∧ nd.kind ≠ 6) (hb : nd.bk) : clStep c nd = (c.1, max c.2.1 nd.across, c.2.2) := by
  cases nd <;> first | rfl | (dsimp only [Nd.kind, Nd.bk] at *; omega)

theorem reg_cc : True := by
  k_with "w:InvEndG" => first | ((((first | with_reducible refine' loop_end (dyn₀ := ([] : Led)) (dyn := ([] : Led)) () ?F_k9 ?N_k9 ?hn_k9 ?ha_k9 ?hadr_k9 ?hk_k9 ?hr_k9 ?hi_k9 | k_dflt (refine' loop_end (dyn₀ := ([] : Led)) (dyn := ([] : Led)) () ?F_k9 ?N_k9 ?hn_k9 ?ha_k9 ?hadr_k9 ?hk_k9 ?hr_k9 ?hi_k9)); k_dflt ((case F_k9 => k_asm); (case N_k9 => k_asm); (case hn_k9 => exact fun _ h => h); (case ha_k9 => assumption); (case hadr_k9 => exact rfl); (case hk_k9 => exact List.forall_mem_nil _); (case hr_k9 => kst_same); (case hi_k9 => exact rfl))))) | fail
  trivial

theorem check_column_ok {l : Addr} {n : Nat} {vs : List Value} {ds : List Nd} {led : Led} (hl : (l, PySem.W.listOf vs.toArray n) ∈ led) (hn : NodesIn w led vs ds) (hb : ∀ d ∈ ds, d.bk ∧ d.gok) :
  Ct w p loose mean mg mb 2 (.ref 621) [.ref l] [] led (fun r led' => r = .none ∧ led' = led) := by
  unfold Ct
  intro dpC unC gdC cnC csC L aC ccdC clC outer A₀ base h₀ mC sC Q E B F X N T hk hd hu hret
  k_with "w:pyIter ref" => first | k_dflt (((with_reducible show wpAny _ _ (pyIter (Value.ref _)) (fun it s₂ => LoopAtV _ _ _ _ _ _ _ _ _ it s₂) _ _); k_here; (rename Fr _ _ _ _ => lF'); (rename News _ _ _ _ => lN'); (refine kimp (News.re (led' := ([] : Led) ++ led) lN' ?_) fun lN2 => ?_); (focus (k_extra "mine:sub")); (with_unfolding_all refine' loop_list ([] : Led) led vs n (fun (_ : Unit) => []) [] (fun _ _ dyn => dyn = []) () ?hz lF' lN2 ?hl ?hk ?hj ?_ ?_); (case hz => (with_unfolding_all exact rfl)); (case hl => assumption); (case hk => kst_all); (case hj => exact rfl); (all_goals (try clear lF' lN' lN2)); (focus (intro i9 v9 c9 dyn9 u9 h9 tk9 own9 hv9 hi9 hoff9 F9 N9; (dsimp only [kstB] at F9); obtain ⟨nd9, hnd9, hn9⟩ := hn.get hv9; obtain ⟨a9, t9, e9, hk9⟩ := hn9.kd; subst e9; have hm9 := List.mem_of_getElem? hnd9; have hb9 := (hb nd9 hm9).1; have hg9 := (hb nd9 hm9).2; obtain ⟨k1, k2, k3, k4, k5⟩ := hn9.kb hb9; subst hi9; (simp only [List.nil_append] at N9))); rotate_left 1; (focus (intro c9 dyn9 u9 h9 tk9 hi9 F9 N9; (dsimp only [kstB] at F9); subst hi9; (simp only [List.nil_append] at N9))); rotate_left 1)) | fail
  refine wpAny_call ?_
  k_dflt (refine' code_defL (binds := [(Str.ofString "items", .ref l)]) (rb := [(Str.ofString "items", .ref l)]) ?k1 ?k2 ?k3 ?k4 ?k5 ?kA ?kF ?kK ?k6 ?k7 ?k8 ?k9 ?kB rfl ?_ ?c2 ?c3 ?c4 ?c5; (case kA => exact rfl); (case kF => exact rfl); (case kK => first | exact hk | exact rfl); (case k1 => exact B); (case k3 => exact X); (case k5 => exact T); (case k6 => k_is); (case k7 => k_is); (case c5 => decide); (case kB => exact locs rfl); (case c2 => exact rfl); (case c3 => exact rfl); (case c4 => exact rfl); (case k2 => exact F); (case k4 => exact N); (case k8 => exact dp_ltz hd); (case k9 => exact BindsTo.of_eq rfl); k_whole; intro g' L' h' tk' FG' m9 F' N' B' X' T' A9 qk ek)
  k_steps
  all_goals (first | (refine hret _ _ _ _ (by assumption) (by assumption) ⟨rfl, rfl⟩))
theorem check_column_ok_k {l : Addr} {n : Nat} {vs : List Value} {ds : List Nd} {led : Led} (hl : (l, PySem.W.listOf vs.toArray n) ∈ led) (hn : NodesIn w led vs ds) (hb : ∀ d ∈ ds, d.bk ∧ d.gok) :
  Kt w p loose mean mg mb 2 (.ref 621) [.ref l] [] led (fun K => K (.none) (led)) :=
  Ct.kt (check_column_ok hl hn hb) (fun K hK r0 l0 P0 => by
    obtain ⟨e1, e2⟩ := P0
    subst e1; subst e2
    exact hK )

end
end
section
section
variable {w : World} {p : Program} {loose : List Str} {mean : ExcName → Option Value} {mg mb : Str → Option Value}
theorem cl_skip {c : Tot × Int × Int} {g : Gl} {s : Int} : clStep c (.skip g s) = ((c.1.widen c.2.2).add g, max c.2.1 (Nd.skip g s).across, 0) := rfl
theorem reg_AG5_273 : True := by
  k_with "w:getAttr ref" => first | ((k_here; (with_reducible show wpAny _ _ (getAttr _ (PySem.Str.ofString "width") _) _ _ _); ((refine kimp (P := nd9.kind = 2 ∨ nd9.kind = 3 ∨ nd9.kind = 5) ?_ fun k9 => ?_); (focus omega); obtain ⟨t9, q9⟩ := hn9.hwd hb9 k9; (((first | with_reducible refine' at_get (S := led) q9 ?F_k9 ?X_k9 ?N_k9 ?s_k9 ?_ | k_dflt (refine' at_get (S := led) q9 ?F_k9 ?X_k9 ?N_k9 ?s_k9 ?_)); k_dflt ((case F_k9 => k_asm); (case X_k9 => k_asm); (case N_k9 => k_asm); (case s_k9 => k_extra "mine:sub"); k_whole)))))) | fail
  k_with "w:InvEndG" => first | ((((first | with_reducible refine' loop_end (dyn₀ := dyn9) (_, (_, _), (_, _)) ?F_k9 ?N_k9 ?hn_k9 ?ha_k9 ?hadr_k9 ?hk_k9 ?hr_k9 ?hi_k9 | k_dflt (refine' loop_end (dyn₀ := dyn9) (_, (_, _), (_, _)) ?F_k9 ?N_k9 ?hn_k9 ?ha_k9 ?hadr_k9 ?hk_k9 ?hr_k9 ?hi_k9)); k_dflt ((case F_k9 => k_asm); (case N_k9 => k_asm); (case hn_k9 => exact fun _ h => h); (case ha_k9 => assumption); (case hadr_k9 => exact (TotL.adr (by assumption)).trans (TotL.adr (by assumption)).symm); (case hk_k9 => kst_all); (case hr_k9 => kst_same); (case hi_k9 => first | exact ⟨(cl_step hnd9).trans (cl_skip.trans (by rw [hi1])), by assumption⟩ | exact ⟨(cl_step hnd9).trans ((cl_kern (by omega) hb9).trans (by rw [hi1])), by assumption⟩ | exact ⟨(cl_step hnd9).trans ((cl_stand (by omega) hb9).trans (by rw [hi1])), by assumption⟩ | exact ⟨(cl_step hnd9).trans ((cl_rest (by omega) hb9).trans (by rw [hi1])), by assumption⟩))))) | fail
  k_with "w:call ref" => first | ((k_here; (with_reducible show wpAny _ _ (call (Value.ref 621) _ _) _ _ _); ((first | with_reducible refine' Kt.use (check_column_ok_k ?c1_k9 ?c2_k9 ?c3_k9) ?hh_k9 ?hf_k9 ?B_k9 ?F_k9 ?X_k9 ?N_k9 ?T_k9 ?hk_k9 ?hd_k9 ?hu_k9 ?_ | k_dflt (refine' Kt.use (check_column_ok_k ?c1_k9 ?c2_k9 ?c3_k9) ?hh_k9 ?hf_k9 ?B_k9 ?F_k9 ?X_k9 ?N_k9 ?T_k9 ?hk_k9 ?hd_k9 ?hu_k9 ?_)); k_dflt ((case F_k9 => k_asm); (case B_k9 => k_asm); (case X_k9 => k_asm); (case N_k9 => k_asm); (case T_k9 => k_asm); (case hh_k9 => exact rfl); (case hf_k9 => exact rfl); (case hk_k9 => first | exact rfl | assumption); (case hd_k9 => k_extra "mine:dp"); (case hu_k9 => k_extra "mine:un"); (case c1_k9 => assumption); (case c2_k9 => assumption); (case c3_k9 => assumption))); intro  h9 tk9 F9 N9; (try k_sweep); (try dsimp only); (try k_fold))) | fail
  trivial
theorem natural_column_ok {l : Addr} {n : Nat} {vs : List Value} {ds : List Nd} {led : Led} (hl : (l, PySem.W.listOf vs.toArray n) ∈ led) (hn : NodesIn w led vs ds) (hb : ∀ d ∈ ds, d.bk ∧ d.gok) :
  Ct w p loose mean mg mb 6 (.ref 628) [.ref l] [] led (fun r led' => ∃ t ta td ts tz tl th tdp o, r = .ref t ∧ led' = (t, o) :: (tl ++ led) ∧ o = tupO [.ref ta, .int (clFold ds).2.1 th, .int (clFold ds).2.2 tdp] 0 ∧ TotL w (clFold ds).1 ta td ts tz tl ∧ Dist4 ta td ts tz ∧ Fresh tl led ∧ AllLt t (tl ++ led)) := by
  unfold Ct
  intro dpC unC gdC cnC csC L aC ccdC clC outer A₀ base h₀ mC sC Q E B F X N T hk hd hu hret
  k_with "w:pyIter ref" => first | k_dflt (((with_reducible show wpAny _ _ (pyIter (Value.ref _)) (fun it s₂ => LoopAtV _ _ _ _ _ _ _ _ _ it s₂) _ _); k_here; (rename Fr _ _ _ _ => lF'); (rename News _ _ _ _ => lN'); have ho := fresh_off f9 ht9.adr; (refine kimp (News.re (led' := tl9 ++ led) lN' ?_) fun lN2 => ?_); (focus (k_extra "mine:sub")); (with_unfolding_all refine' loop_list tl9 led vs n (fun (c : Tot × (Int × Tok) × (Int × Tok)) => [(Str.ofString "width", Value.int c.2.1.1 c.2.1.2), (Str.ofString "depth", Value.int c.2.2.1 c.2.2.2)]) [] (fun i c dyn => clFold (ds.take i) = (c.1, c.2.1.1, c.2.2.1) ∧ TotL w c.1 ta9 td9 ts9 tz9 dyn) (Tot.zero, (0, _), (0, _)) ?hz lF' lN2 ?hl ?hk ?hj ?_ ?_); (case hz => (with_unfolding_all exact rfl)); (case hl => assumption); (case hk => kst_all); (case hj => exact ⟨rfl, by assumption⟩); (all_goals (try clear lF' lN' lN2)); (focus (intro i9 v9 c9 dyn9 u9 h9 tk9 own9 hv9 hi9 hoff9 F9 N9; (dsimp only [kstB] at F9); obtain ⟨nd9, hnd9, hn9⟩ := hn.get hv9; obtain ⟨a9, t9, e9, hk9⟩ := hn9.kd; subst e9; have hm9 := List.mem_of_getElem? hnd9; have hb9 := (hb nd9 hm9).1; have hg9 := (hb nd9 hm9).2; obtain ⟨k1, k2, k3, k4, k5⟩ := hn9.kb hb9; obtain ⟨TT9, ⟨hh9, th9⟩, ⟨dd9, tdd9⟩⟩ := c9; obtain ⟨hi1, hi2⟩ := hi9; (dsimp only at hi1 hi2); have ho9 := loop_off ho hoff9 hi2.adr)); rotate_left 1; (focus (intro c9 dyn9 u9 h9 tk9 hi9 F9 N9; (dsimp only [kstB] at F9); obtain ⟨TT9, ⟨hh9, th9⟩, ⟨dd9, tdd9⟩⟩ := c9; obtain ⟨hi1, hi2⟩ := hi9; (dsimp only at hi1 hi2); rw [take_all hn] at hi1; have fr9 := fresh_adr f9 (ht9.adr.trans hi2.adr.symm))); rotate_left 1)) | fail
  refine wpAny_call ?_
  k_dflt (refine' code_defL (binds := [(Str.ofString "items", .ref l)]) (rb := [(Str.ofString "items", .ref l)]) ?k1 ?k2 ?k3 ?k4 ?k5 ?kA ?kF ?kK ?k6 ?k7 ?k8 ?k9 ?kB rfl ?_ ?c2 ?c3 ?c4 ?c5; (case kA => exact rfl); (case kF => exact rfl); (case kK => first | exact hk | exact rfl); (case k1 => exact B); (case k3 => exact X); (case k5 => exact T); (case k6 => k_is); (case k7 => k_is); (case c5 => decide); (case kB => exact locs rfl); (case c2 => exact rfl); (case c3 => exact rfl); (case c4 => exact rfl); (case k2 => exact F); (case k4 => exact N); (case k8 => exact dp_ltz hd); (case k9 => exact BindsTo.of_eq rfl); k_whole; intro g' L' h' tk' FG' m9 F' N' B' X' T' A9 qk ek)
  k_steps
  all_goals (first | (refine hret _ _ _ _ (by assumption) (by assumption) ⟨_, ta9, td9, ts9, tz9, dyn9, th9, tdd9, _, rfl, rfl, by rw [hi1], by rw [hi1]; exact hi2, hd9, fr9, (by first | assumption | exact allLt_of (by assumption))⟩))
theorem natural_column_ok_k {l : Addr} {n : Nat} {vs : List Value} {ds : List Nd} {led : Led} (hl : (l, PySem.W.listOf vs.toArray n) ∈ led) (hn : NodesIn w led vs ds) (hb : ∀ d ∈ ds, d.bk ∧ d.gok) :
  Kt w p loose mean mg mb 6 (.ref 628) [.ref l] [] led (fun K => ∀ t ta td ts tz tl th tdp o, (o = tupO [.ref ta, .int (clFold ds).2.1 th, .int (clFold ds).2.2 tdp] 0) → (TotL w (clFold ds).1 ta td ts tz tl) → (Dist4 ta td ts tz) → (Fresh tl led) → (AllLt t (tl ++ led)) → K (.ref t) ((t, o) :: (tl ++ led))) :=
  Ct.kt (natural_column_ok hl hn hb) (fun K hK r0 l0 P0 => by
    obtain ⟨t9, ta9, td9, ts9, tz9, tl9, th9, tdp9, o9, e1, e2, f1, f2, f3, f4, f5⟩ := P0
    subst e1; subst e2
    exact hK t9 ta9 td9 ts9 tz9 tl9 th9 tdp9 o9 f1 f2 f3 f4 f5)

end
end
section
section
variable {w : World} {p : Program} {loose : List Str} {mean : ExcName → Option Value} {mg mb : Str → Option Value}
noncomputable def badF (e t : Int) : Int := if e = 0 then 0 else if t ≤ 0 then 10000 else if 1290 < Int.fdiv (e * 297) t then 10000 else Int.fdiv (Int.fdiv (e * 297) t * Int.fdiv (e * 297) t * Int.fdiv (e * 297) t + 131072) 262144
noncomputable def quo (u d : Int) : Int × Int := if 0 < d then (u, d) else (-u, -d)
theorem reg_m6 : True := by
  k_with "mine:mul" => first | (exact PySem.IntMulOk.of_right (PySem.intBits_le_64 (by omega) (by omega))) | fail
  trivial

theorem badness_ok {e t : Int} {te tt : Tok} {led : Led} (h1 : 0 ≤ e) (h2 : e ≤ 100000) (h3 : t ≤ 100000) :
  Ct w p loose mean mg mb 2 (.ref 168) [.int e te, .int t tt] [] led (fun r led' => ∃ u, r = .int (badF e t) u ∧ led' = led) := by
  unfold Ct
  intro dpC unC gdC cnC csC L aC ccdC clC outer A₀ base h₀ mC sC Q E B F X N T hk hd hu hret
  have hr : 0 < t → 0 ≤ Int.fdiv (e * 297) t := fun h => Int.fdiv_nonneg (by omega) (by omega)
  refine wpAny_call ?_
  k_dflt (refine' code_defL (binds := [(Str.ofString "excess", .int e te), (Str.ofString "total", .int t tt)]) (rb := [(Str.ofString "total", .int t tt), (Str.ofString "excess", .int e te)]) ?k1 ?k2 ?k3 ?k4 ?k5 ?kA ?kF ?kK ?k6 ?k7 ?k8 ?k9 ?kB rfl ?_ ?c2 ?c3 ?c4 ?c5; (case kA => exact rfl); (case kF => exact rfl); (case kK => first | exact hk | exact rfl); (case k1 => exact B); (case k3 => exact X); (case k5 => exact T); (case k6 => k_is); (case k7 => k_is); (case c5 => decide); (case kB => exact locs rfl); (case c2 => exact rfl); (case c3 => exact rfl); (case c4 => exact rfl); (case k2 => exact F); (case k4 => exact N); (case k8 => exact dp_ltz hd); (case k9 => exact BindsTo.of_eq rfl); k_whole; intro g' L' h' tk' FG' m9 F' N' B' X' T' A9 qk ek)
  k_steps
  all_goals (first | (refine hret _ _ _ _ (by assumption) (by assumption) (ex_int ?_ rfl); (unfold badF); (repeat (first | rw [if_pos (by omega)] | rw [if_neg (by omega)])); done) | (refine hret _ _ _ _ (by assumption) (by assumption) (ex_int ?_ rfl); (unfold badF); (repeat (first | rw [if_pos (by omega)] | rw [if_neg (by omega)])); fail))
theorem badness_ok_k {e t : Int} {te tt : Tok} {led : Led} (h1 : 0 ≤ e) (h2 : e ≤ 100000) (h3 : t ≤ 100000) :
  Kt w p loose mean mg mb 2 (.ref 168) [.int e te, .int t tt] [] led (fun K => ∀ u, K (.int (badF e t) u) (led)) :=
  Ct.kt (badness_ok h1 h2 h3) (fun K hK r0 l0 P0 => by
    obtain ⟨u9, e1, e2⟩ := P0
    subst e1; subst e2
    exact hK u9)

theorem quotient_ok {u d : Int} {tu tt : Tok} {led : Led}  :
  Ct w p loose mean mg mb 2 (.ref 635) [.int u tu, .int d tt] [] led (fun r led' => ∃ a t1 t2 x y, r = .ref a ∧ quo u d = (x, y) ∧ led' = (a, tupO [.int x t1, .int y t2] 0) :: led ∧ AllLt a led) := by
  unfold Ct
  intro dpC unC gdC cnC csC L aC ccdC clC outer A₀ base h₀ mC sC Q E B F X N T hk hd hu hret
  refine wpAny_call ?_
  k_dflt (refine' code_defL (binds := [(Str.ofString "up", .int u tu), (Str.ofString "down", .int d tt)]) (rb := [(Str.ofString "down", .int d tt), (Str.ofString "up", .int u tu)]) ?k1 ?k2 ?k3 ?k4 ?k5 ?kA ?kF ?kK ?k6 ?k7 ?k8 ?k9 ?kB rfl ?_ ?c2 ?c3 ?c4 ?c5; (case kA => exact rfl); (case kF => exact rfl); (case kK => first | exact hk | exact rfl); (case k1 => exact B); (case k3 => exact X); (case k5 => exact T); (case k6 => k_is); (case k7 => k_is); (case c5 => decide); (case kB => exact locs rfl); (case c2 => exact rfl); (case c3 => exact rfl); (case c4 => exact rfl); (case k2 => exact F); (case k4 => exact N); (case k8 => exact dp_ltz hd); (case k9 => exact BindsTo.of_eq rfl); k_whole; intro g' L' h' tk' FG' m9 F' N' B' X' T' A9 qk ek)
  k_steps
  all_goals (first | (refine hret _ _ _ _ (by assumption) (by assumption) ⟨_, _, _, _, _, rfl, ?_, rfl, (by first | assumption | exact allLt_of (by assumption))⟩; unfold quo; first | (rw [if_pos (by omega)]; done) | (rw [if_neg (by omega)]; done)))
theorem quotient_ok_k {u d : Int} {tu tt : Tok} {led : Led}  :
  Kt w p loose mean mg mb 2 (.ref 635) [.int u tu, .int d tt] [] led (fun K => ∀ a t1 t2 x y, (quo u d = (x, y)) → (AllLt a led) → K (.ref a) ((a, tupO [.int x t1, .int y t2] 0) :: led)) :=
  Ct.kt (quotient_ok ) (fun K hK r0 l0 P0 => by
    obtain ⟨a9, t19, t29, x9, y9, e1, f1, e2, f2⟩ := P0
    subst e1; subst e2
    exact hK a9 t19 t29 x9 y9 f1 f2)

end
end
section
section
variable {w : World} {p : Program} {loose : List Str} {mean : ExcName → Option Value} {mg mb : Str → Option Value}
noncomputable def iabs (x : Int) : Int := if x < 0 then -x else x
noncomputable def sgO (T : Tot) (x : Int) : Int := if 0 < x then top4 T.st else top4 T.sh
noncomputable def sgT (T : Tot) (x : Int) : Int := if 0 < x then T.st.getD (top4 T.st).toNat 0 else T.sh.getD (top4 T.sh).toNat 0
noncomputable def sgP (T : Tot) (x : Int) : Int × Int := if sgO T x = 0 then (if x < 0 ∧ sgT T x < -x then (3, -x - sgT T x) else (if 0 < x then 1 else 2, badF (iabs x) (sgT T x))) else (0, 0)
noncomputable def sg (T : Tot) (x : Int) : Int × Int × (Int × Int) × (Int × Int) :=
  if x = 0 then (0, 0, (0, 1), (0, 0)) else if sgT T x = 0 then (0, 0, (0, 1), sgP T x) else if (sgP T x).1 = 3 then (2, sgO T x, (1, 1), sgP T x) else (if 0 < x then 1 else 2, sgO T x, quo (iabs x) (sgT T x), sgP T x)
theorem top4_lo (l : List Int) : 0 ≤ top4 l := by unfold top4; split <;> (try split) <;> (try split) <;> decide
theorem top4_hi (l : List Int) : top4 l ≤ 3 := by unfold top4; split <;> (try split) <;> (try split) <;> decide
section
variable {T : Tot} {x a b : Int}
theorem sg_0 (h : x = 0) : sg T x = (0, 0, (0, 1), (0, 0)) := by unfold sg; rw [if_pos h]
theorem sgO_p (h : 0 < x) : sgO T x = top4 T.st := if_pos h
theorem sgO_n (h : x < 0) : sgO T x = top4 T.sh := if_neg (by omega)
theorem sgT_p (h : 0 < x) : sgT T x = T.st.getD (top4 T.st).toNat 0 := if_pos h
theorem sgT_n (h : x < 0) : sgT T x = T.sh.getD (top4 T.sh).toNat 0 := if_neg (by omega)
theorem sgP_o (h : sgO T x ≠ 0) : sgP T x = (0, 0) := if_neg h
theorem sgP_p (h : 0 < x) (o : sgO T x = 0) : sgP T x = (1, badF (iabs x) (sgT T x)) := by unfold sgP; rw [if_pos o, if_neg (by omega), if_pos h]
theorem sgP_v (h : x < 0) (o : sgO T x = 0) (t : sgT T x < -x) : sgP T x = (3, -x - sgT T x) := by unfold sgP; rw [if_pos o, if_pos ⟨h, t⟩]
theorem sgP_n (h : x < 0) (o : sgO T x = 0) (t : ¬ sgT T x < -x) : sgP T x = (2, badF (iabs x) (sgT T x)) := by unfold sgP; rw [if_pos o, if_neg (by omega), if_neg (by omega)]
theorem sg_z {p : Int × Int} (h : x ≠ 0) (t : sgT T x = 0) (p' : sgP T x = p) : sg T x = (0, 0, (0, 1), p) := by unfold sg; rw [if_neg h, if_pos t, p']
theorem sg_v {q : Int} (h : x < 0) (t : sgT T x ≠ 0) (p' : sgP T x = (3, q)) : sg T x = (2, sgO T x, (1, 1), (3, q)) := by unfold sg; rw [if_neg (by omega), if_neg t, p', if_pos rfl]
theorem sg_p {q r : Int} (h : 0 < x) (t : sgT T x ≠ 0) (p' : sgP T x = (q, r)) (q3 : q ≠ 3) (e : quo (iabs x) (sgT T x) = (a, b)) : sg T x = (1, sgO T x, (a, b), (q, r)) := by unfold sg; rw [if_neg (by omega), if_neg t, p', if_neg q3, if_pos h, e]
theorem sg_n {q r : Int} (h : x < 0) (t : sgT T x ≠ 0) (p' : sgP T x = (q, r)) (q3 : q ≠ 3) (e : quo (iabs x) (sgT T x) = (a, b)) : sg T x = (2, sgO T x, (a, b), (q, r)) := by unfold sg; rw [if_neg (by omega), if_neg t, p', if_neg q3, if_neg (by omega), e]
theorem sgw_0 (h : x = 0) : sg T x = (0, 0, (0, 1), (0, 0)) := sg_0 h
theorem sgw_pz (h : 0 < x) (t : T.st.getD (top4 T.st).toNat 0 = 0) (o : top4 T.st ≠ 0) : sg T x = (0, 0, (0, 1), (0, 0)) := sg_z (by omega) ((sgT_p h).trans t) (sgP_o (by rw [sgO_p h]; exact o))
theorem sgw_nz (h : x < 0) (t : T.sh.getD (top4 T.sh).toNat 0 = 0) (o : top4 T.sh ≠ 0) : sg T x = (0, 0, (0, 1), (0, 0)) := sg_z (by omega) ((sgT_n h).trans t) (sgP_o (by rw [sgO_n h]; exact o))
theorem sgw_pz0 (h : 0 < x) (t : T.st.getD (top4 T.st).toNat 0 = 0) (o : top4 T.st = 0) : sg T x = (0, 0, (0, 1), (1, badF (iabs x) (T.st.getD (top4 T.st).toNat 0))) := sg_z (by omega) ((sgT_p h).trans t) (by rw [sgP_p h (by rw [sgO_p h]; exact o), sgT_p h])
theorem sgw_nz0 (h : x < 0) (t : T.sh.getD (top4 T.sh).toNat 0 = 0) (o : top4 T.sh = 0) : sg T x = (0, 0, (0, 1), (3, -x - T.sh.getD (top4 T.sh).toNat 0)) := sg_z (by omega) ((sgT_n h).trans t) (by rw [sgP_v h (by rw [sgO_n h]; exact o) (by rw [sgT_n h]; omega), sgT_n h])
theorem sgw_po (h : 0 < x) (t : T.st.getD (top4 T.st).toNat 0 ≠ 0) (o : top4 T.st ≠ 0) (e : quo (iabs x) (T.st.getD (top4 T.st).toNat 0) = (a, b)) : sg T x = (1, top4 T.st, (a, b), (0, 0)) := by
  rw [← sgT_p h] at t e; have := sg_p h t (sgP_o (by rw [sgO_p h]; exact o)) (by decide) e; rw [sgO_p h] at this; exact this
theorem sgw_no (h : x < 0) (t : T.sh.getD (top4 T.sh).toNat 0 ≠ 0) (o : top4 T.sh ≠ 0) (e : quo (iabs x) (T.sh.getD (top4 T.sh).toNat 0) = (a, b)) : sg T x = (2, top4 T.sh, (a, b), (0, 0)) := by
  rw [← sgT_n h] at t e; have := sg_n h t (sgP_o (by rw [sgO_n h]; exact o)) (by decide) e; rw [sgO_n h] at this; exact this
theorem sgw_p0 (h : 0 < x) (t : T.st.getD (top4 T.st).toNat 0 ≠ 0) (o : top4 T.st = 0) (e : quo (iabs x) (T.st.getD (top4 T.st).toNat 0) = (a, b)) : sg T x = (1, top4 T.st, (a, b), (1, badF (iabs x) (T.st.getD (top4 T.st).toNat 0))) := by
  rw [← sgT_p h] at t e ⊢; have := sg_p h t (sgP_p h (by rw [sgO_p h]; exact o)) (by decide) e; rw [sgO_p h] at this; exact this
theorem sgw_nv (h : x < 0) (t : T.sh.getD (top4 T.sh).toNat 0 ≠ 0) (o : top4 T.sh = 0) (v : T.sh.getD (top4 T.sh).toNat 0 < -x) : sg T x = (2, top4 T.sh, (1, 1), (3, -x - T.sh.getD (top4 T.sh).toNat 0)) := by
  rw [← sgT_n h] at t v ⊢; have := sg_v h t (sgP_v h (by rw [sgO_n h]; exact o) v); rw [sgO_n h] at this; exact this
theorem sgw_n0 (h : x < 0) (t : T.sh.getD (top4 T.sh).toNat 0 ≠ 0) (o : top4 T.sh = 0) (v : ¬ T.sh.getD (top4 T.sh).toNat 0 < -x) (e : quo (iabs x) (T.sh.getD (top4 T.sh).toNat 0) = (a, b)) : sg T x = (2, top4 T.sh, (a, b), (2, badF (iabs x) (T.sh.getD (top4 T.sh).toNat 0))) := by
  rw [← sgT_n h] at t e v ⊢; have := sg_n h t (sgP_n h (by rw [sgO_n h]; exact o) v) (by decide) e; rw [sgO_n h] at this; exact this
end
theorem abs_i {prog : Program} {w : World} {A : Around} {E : Value → Shared → Prop} {s : Shared} {a : Int} {t : Tok} {Q : Value → Shared → Prop} (h : ∀ u tk, Q (.int (iabs a) u) { s with toks := tk }) : wpAny (model prog w) A (call (.builtin "abs") [.int a t]) Q E s := call_abs_int h
theorem iabs_lo (x : Int) : 0 ≤ iabs x := by unfold iabs; split <;> omega
theorem iabs_hi {x : Int} (h : -100000 ≤ x) (h2 : x ≤ 100000) : iabs x ≤ 100000 := by unfold iabs; split <;> omega
theorem reg_AG7_6142 : True := by
  k_with "w:call builtin:abs" => first | ((k_here; (with_reducible show wpAny _ _ (call (Value.builtin _) [Value.int _ _]) _ _ _); ((first | with_reducible refine' abs_i ?_ | k_dflt (refine' abs_i ?_))); intro u9 tk9)) | fail
  k_with "w:subscriptTail Attribute Name Name ref int" => first | ((k_here; (with_reducible show wpAny _ _ (subscriptTail _ _ (Value.ref _) (Value.int _ _)) _ _ _); ((first | with_reducible refine' ksa_sub ?k1_k9 ?k2_k9 ?k3_k9 ?k4_k9 ?k5_k9 ?k6_k9 ?_ ?k7_k9 | k_dflt (refine' ksa_sub ?k1_k9 ?k2_k9 ?k3_k9 ?k4_k9 ?k5_k9 ?k6_k9 ?_ ?k7_k9)); k_dflt ((case k1_k9 => k_asm); (case k2_k9 => first | exact List.mem_append_left _ m1 | exact List.mem_append_left _ m2); (case k3_k9 => with_reducible assumption); (case k4_k9 => omega); (case k5_k9 => omega); (case k6_k9 => omega); (case k7_k9 => with_unfolding_all rfl); k_whole)); intro t9)) | fail
  k_with "w:getAttr ref" => first | ((k_here; ((first | with_reducible refine' at_get (S := tl) ?h_k9 ?F_k9 ?X_k9 ?N_k9 ?s_k9 ?_ | k_dflt (refine' at_get (S := tl) ?h_k9 ?F_k9 ?X_k9 ?N_k9 ?s_k9 ?_)); k_dflt ((case h_k9 => with_reducible assumption); (case F_k9 => k_asm); (case X_k9 => k_asm); (case N_k9 => k_asm); (case s_k9 => k_extra "mine:sub"); k_whole)))) | fail
  k_with "w:call ref" => first | ((k_here; (with_reducible show wpAny _ _ (call (Value.ref 168) _ _) _ _ _); ((first | with_reducible refine' Kt.use (badness_ok_k ?c1_k9 ?c2_k9 ?c3_k9) ?hh_k9 ?hf_k9 ?B_k9 ?F_k9 ?X_k9 ?N_k9 ?T_k9 ?hk_k9 ?hd_k9 ?hu_k9 ?_ | k_dflt (refine' Kt.use (badness_ok_k ?c1_k9 ?c2_k9 ?c3_k9) ?hh_k9 ?hf_k9 ?B_k9 ?F_k9 ?X_k9 ?N_k9 ?T_k9 ?hk_k9 ?hd_k9 ?hu_k9 ?_)); k_dflt ((case F_k9 => k_asm); (case B_k9 => k_asm); (case X_k9 => k_asm); (case N_k9 => k_asm); (case T_k9 => k_asm); (case hh_k9 => exact rfl); (case hf_k9 => exact rfl); (case hk_k9 => first | exact rfl | assumption); (case hd_k9 => k_extra "mine:dp"); (case hu_k9 => k_extra "mine:un"); (case c1_k9 => first | exact iabs_lo _ | omega); (case c2_k9 => first | assumption | omega); (case c3_k9 => first | assumption | (refine Int.le_trans ?_ (by assumption); decide) | (refine Int.le_trans (by assumption) ?_; decide) | omega))); intro u9 h9 tk9 F9 N9; (try k_sweep); (try dsimp only); (try k_fold))) | fail
  k_with "w:call ref" => first | ((k_here; (with_reducible show wpAny _ _ (call (Value.ref 635) _ _) _ _ _); ((first | with_reducible refine' Kt.use quotient_ok_k ?hh_k9 ?hf_k9 ?B_k9 ?F_k9 ?X_k9 ?N_k9 ?T_k9 ?hk_k9 ?hd_k9 ?hu_k9 ?_ | k_dflt (refine' Kt.use quotient_ok_k ?hh_k9 ?hf_k9 ?B_k9 ?F_k9 ?X_k9 ?N_k9 ?T_k9 ?hk_k9 ?hd_k9 ?hu_k9 ?_)); k_dflt ((case F_k9 => k_asm); (case B_k9 => k_asm); (case X_k9 => k_asm); (case N_k9 => k_asm); (case T_k9 => k_asm); (case hh_k9 => exact rfl); (case hf_k9 => exact rfl); (case hk_k9 => first | exact rfl | assumption); (case hd_k9 => k_extra "mine:dp"); (case hu_k9 => k_extra "mine:un"))); intro a9 t19 t29 x9 y9 hq9 f9 h9 tk9 F9 N9; (try k_sweep); (try dsimp only); (try k_fold))) | fail
  trivial
theorem set_glue_ok_k {ta td ts tz : Addr} {TT : Tot} {tl rest : Led} {x : Int} {tx : Tok} (ht : TotL w TT ta td ts tz tl) (hd4 : Dist4 ta td ts tz) (ho : ∀ p ∈ rest, p.1 ≠ ta ∧ p.1 ≠ td ∧ p.1 ≠ ts ∧ p.1 ≠ tz) (hx1 : -100000 ≤ x) (hx2 : x ≤ 100000) (bs : ∀ k : Nat, 0 ≤ TT.st.getD k 0 ∧ TT.st.getD k 0 ≤ 100000) (bz : ∀ k : Nat, 0 ≤ TT.sh.getD k 0 ∧ TT.sh.getD k 0 ≤ 100000) :
  Kt w p loose mean mg mb 5 (.ref 642) [.ref ta, .int x tx] [] (tl ++ rest) (fun K => ∀ t rt rp sn o r1 r2 p1 p2 u1 u2 u3 u4 u5 u6, (sg TT x = (sn, o, (r1, r2), (p1, p2))) → (AllLt t (tl ++ rest)) → (AllLt rt (tl ++ rest)) → (AllLt rp (tl ++ rest)) → K (.ref t) ((t, tupO [.int sn u1, .int o u2, .ref rt, .ref rp] 0) :: (rt, tupO [.int r1 u3, .int r2 u4] 0) :: (rp, tupO [.int p1 u5, .int p2 u6] 0) :: (tl ++ rest))) := by
  unfold Kt
  intro dpC unC gdC cnC csC L aC ccdC clC outer A₀ base h₀ mC hp sg sd tk₀ ox Q E B F X N T hk hd hu hret
  have hat := ht.at
  obtain ⟨⟨_, q1⟩, q2, q3⟩ := hat
  obtain ⟨z1, z2, ⟨vs9, n1, i1, m1⟩, us9, n2, i2, m2⟩ := ht.lists
  have b1 := top4_lo TT.st
  have b2 := top4_hi TT.st
  have b3 := top4_lo TT.sh
  have b4 := top4_hi TT.sh
  have b5 := (bs (top4 TT.st).toNat).1
  have b6 := (bs (top4 TT.st).toNat).2
  have b7 := (bz (top4 TT.sh).toNat).1
  have b8 := (bz (top4 TT.sh).toNat).2
  have b9 := iabs_hi hx1 hx2
  refine wpAny_call ?_
  k_dflt (refine' code_defL (binds := [(Str.ofString "totals", .ref ta), (Str.ofString "excess", .int x tx)]) (rb := [(Str.ofString "excess", .int x tx), (Str.ofString "totals", .ref ta)]) ?k1 ?k2 ?k3 ?k4 ?k5 ?kA ?kF ?kK ?k6 ?k7 ?k8 ?k9 ?kB rfl ?_ ?c2 ?c3 ?c4 ?c5; (case kA => exact rfl); (case kF => exact rfl); (case kK => first | exact hk | exact rfl); (case k1 => exact B); (case k3 => exact X); (case k5 => exact T); (case k6 => k_is); (case k7 => k_is); (case c5 => decide); (case kB => exact locs rfl); (case c2 => exact rfl); (case c3 => exact rfl); (case c4 => exact rfl); (case k2 => exact F); (case k4 => exact N); (case k8 => exact dp_ltz hd); (case k9 => exact BindsTo.of_eq rfl); k_whole; intro g' L' h' tk' FG' m9 F' N' B' X' T' A9 qk ek)
  k_steps
  all_goals (first | ((repeat (rename _ ∧ _ => z9; obtain ⟨_, _⟩ := z9)); refine' hret _ _ _ _ _ _ _ _ _ _ _ _ _ _ _ ?zE8 ?zA8 ?zB8 ?zC8 _ _ ?zF8 (News.re ?zN8 ?zS8); (case zF8 => assumption); (case zN8 => assumption); (case zS8 => k_extra "mine:subs"); (case zE8 => first | exact sgw_0 (by omega) | exact sgw_pz (by omega) (by omega) (by omega) | exact sgw_nz (by omega) (by omega) (by omega) | exact sgw_pz0 (by omega) (by omega) (by omega) | exact sgw_nz0 (by omega) (by omega) (by omega) | exact sgw_po (by omega) (by omega) (by omega) (by assumption) | exact sgw_no (by omega) (by omega) (by omega) (by assumption) | exact sgw_p0 (by omega) (by omega) (by omega) (by assumption) | exact sgw_nv (by omega) (by omega) (by omega) (by omega) | exact sgw_n0 (by omega) (by omega) (by omega) (by omega) (by assumption)); (case zA8 => k_extra "mine:allt2"); (case zB8 => k_extra "mine:allt2"); (case zC8 => k_extra "mine:allt2")))

end
end
section
section
variable {w : World} {p : Program} {loose : List Str} {mean : ExcName → Option Value} {mg mb : Str → Option Value}
noncomputable def gsz (own mode amount : Int) : Int := if mode = 0 then amount else own + amount
theorem getD_set {l : List Int} {j k : Nat} {x : Int} {B : Int} (h : ∀ k, 0 ≤ l.getD k 0 ∧ l.getD k 0 ≤ B) (hx : 0 ≤ x) (hB : x ≤ B) : 0 ≤ (l.set j x).getD k 0 ∧ (l.set j x).getD k 0 ≤ B := by
  by_cases e : j = k
  · subst e
    by_cases hj : j < l.length
    · have : (l.set j x).getD j 0 = x := by simp [List.getD, List.getElem?_set, hj]
      rw [this]; exact ⟨hx, hB⟩
    · have : (l.set j x).getD j 0 = l.getD j 0 := by simp [List.getD, List.getElem?_set, hj]
      rw [this]; exact h j
  · have : (l.set j x).getD k 0 = l.getD k 0 := by simp [List.getD, List.getElem?_set, e]
    rw [this]; exact h k
structure BT (n : Int) (c : Tot × Int × Int) : Prop where
  nat : -(100 * n) ≤ c.1.nat ∧ c.1.nat ≤ 100 * n
  st : ∀ k, 0 ≤ c.1.st.getD k 0 ∧ c.1.st.getD k 0 ≤ 100 * n
  sh : ∀ k, 0 ≤ c.1.sh.getD k 0 ∧ c.1.sh.getD k 0 ≤ 100 * n
  h : 0 ≤ c.2.1 ∧ c.2.1 ≤ 30
  d : -30 ≤ c.2.2 ∧ c.2.2 ≤ 30
theorem BT.zero : BT 0 (Tot.zero, 0, 0) := ⟨by decide, fun k => by rcases k with _ | _ | _ | _ | k <;> simp [Tot.zero], fun k => by rcases k with _ | _ | _ | _ | k <;> simp [Tot.zero], by decide, by decide⟩
theorem Nd.ok_b {nd : Nd} (h : nd.ok) : -4 ≤ nd.width ∧ nd.width ≤ 19 ∧ -8 ≤ nd.lheight ∧ nd.lheight ≤ 25 ∧ -8 ≤ nd.ldepth ∧ nd.ldepth ≤ 25 ∧ -8 ≤ nd.across ∧ nd.across ≤ 25 ∧ -4 ≤ nd.height ∧ nd.height ≤ 19 ∧ -4 ≤ nd.depth ∧ nd.depth ≤ 19 := by
  cases nd with
  | box k wd ht dp sf sg od r1 r2 items => dsimp only [Nd.ok, Nd.width, Nd.lheight, Nd.ldepth, Nd.across, Nd.height, Nd.depth] at *; omega
  | rule wd ht dp =>
    obtain ⟨h1, h2, h3⟩ := h
    rcases h1 with rfl | rfl <;> rcases h2 with rfl | rfl <;> (subst h3; decide)
  | skip g s => dsimp only [Nd.ok, Gl.ok, Nd.width, Nd.lheight, Nd.ldepth, Nd.across, Nd.height, Nd.depth] at *; omega
  | kern x => dsimp only [Nd.ok, Nd.width, Nd.lheight, Nd.ldepth, Nd.across, Nd.height, Nd.depth] at *; omega
  | _ => simp [Nd.width, Nd.lheight, Nd.ldepth, Nd.across, Nd.height, Nd.depth]
theorem BT.widen {n : Int} {T : Tot} {a b x a' b' : Int} (h : BT n (T, a, b)) (hx : -100 ≤ x ∧ x ≤ 100) (ha : 0 ≤ a' ∧ a' ≤ 30) (hb : -30 ≤ b' ∧ b' ≤ 30) (hn : 0 ≤ n) : BT (n + 1) (T.widen x, a', b') := by
  obtain ⟨h1, h2, h3, h4, h5⟩ := h
  exact ⟨by dsimp only [Tot.widen] at *; omega, fun k => by have := h2 k; dsimp only [Tot.widen] at *; omega, fun k => by have := h3 k; dsimp only [Tot.widen] at *; omega, ha, hb⟩
theorem Gl.bounds {T : Tot} {n : Int} {g : Gl} (hg : g.ok) (h2 : ∀ k, 0 ≤ T.st.getD k 0 ∧ T.st.getD k 0 ≤ 100 * n) (h3 : ∀ k, 0 ≤ T.sh.getD k 0 ∧ T.sh.getD k 0 ≤ 100 * n) (hn : 0 ≤ n) :
    (∀ k, 0 ≤ (T.add g).st.getD k 0 ∧ (T.add g).st.getD k 0 ≤ 100 * (n + 1)) ∧ ∀ k, 0 ≤ (T.add g).sh.getD k 0 ∧ (T.add g).sh.getD k 0 ≤ 100 * (n + 1) := by
  obtain ⟨g1, g2, g3, g4, g5, g6, g7, g8, g9, g10⟩ := hg
  refine ⟨fun k => getD_set (fun k => ?_) ?_ ?_, fun k => getD_set (fun k => ?_) ?_ ?_⟩
  · have := h2 k; omega
  · have := h2 g.so.toNat; omega
  · have := h2 g.so.toNat; omega
  · have := h3 k; omega
  · have := h3 g.sho.toNat; omega
  · have := h3 g.sho.toNat; omega
theorem BT.add {n x : Int} {T : Tot} {g : Gl} {a b a' b' : Int} (h : BT n (T, a, b)) (hg : g.ok) (hx : -50 ≤ x ∧ x ≤ 50) (ha : 0 ≤ a' ∧ a' ≤ 30) (hb : -30 ≤ b' ∧ b' ≤ 30) (hn : 0 ≤ n) : BT (n + 1) ((T.widen x).add g, a', b') := by
  obtain ⟨h1, h2, h3, h4, h5⟩ := h
  obtain ⟨k1, k2⟩ := Gl.bounds (T := T.widen x) hg h2 h3 hn
  obtain ⟨g1, g2, _⟩ := hg
  exact ⟨by dsimp only [Tot.widen, Tot.add] at *; omega, k1, k2, ha, hb⟩
theorem BT.add0 {n : Int} {T : Tot} {g : Gl} {a b a' b' : Int} (h : BT n (T, a, b)) (hg : g.ok) (ha : 0 ≤ a' ∧ a' ≤ 30) (hb : -30 ≤ b' ∧ b' ≤ 30) (hn : 0 ≤ n) : BT (n + 1) (T.add g, a', b') := by
  have := BT.add (x := 0) h hg (by decide) ha hb hn
  have e : T.widen 0 = T := by cases T; simp [Tot.widen]
  rw [e] at this; exact this
theorem BT.keep {n : Int} {T : Tot} {a b a' b' : Int} (h : BT n (T, a, b)) (ha : 0 ≤ a' ∧ a' ≤ 30) (hb : -30 ≤ b' ∧ b' ≤ 30) (hn : 0 ≤ n) : BT (n + 1) (T, a', b') := by
  have := BT.widen (x := 0) h (by decide) ha hb hn
  have e : T.widen 0 = T := by cases T; simp [Tot.widen]
  rw [e] at this; exact this
theorem mx_b {a x : Int} (h : 0 ≤ a ∧ a ≤ 30) (k : x ≤ 30) : 0 ≤ max a x ∧ max a x ≤ 30 := by omega
theorem md_b {a x : Int} (h : -30 ≤ a ∧ a ≤ 30) (k : x ≤ 30) : -30 ≤ max a x ∧ max a x ≤ 30 := by omega
theorem w_b {x : Int} (h : -4 ≤ x) (k : x ≤ 19) : -100 ≤ x ∧ x ≤ 100 := by omega
theorem wd_b {x d : Int} (h : -4 ≤ x) (k : x ≤ 19) (e : -30 ≤ d ∧ d ≤ 30) : -100 ≤ d + x ∧ d + x ≤ 100 := by omega
theorem d_b {x : Int} (h : -4 ≤ x) (k : x ≤ 19) : -30 ≤ x ∧ x ≤ 30 := by omega
theorem z_b {d : Int} (e : -30 ≤ d ∧ d ≤ 30) : -50 ≤ d ∧ d ≤ 50 := by omega
theorem ln_b {n : Int} {c : Tot × Int × Int} {nd : Nd} (h : BT n c) (hd : nd.ok) (hn : 0 ≤ n) : BT (n + 1) (lnStep c nd) := by
  obtain ⟨T, a, b⟩ := c
  obtain ⟨b1, b2, b3, b4, b5, b6, b7, b8, b9, b10, b11, b12⟩ := Nd.ok_b hd
  have m1 := mx_b h.h (Int.le_trans b4 (by decide))
  have m2 := md_b h.d (Int.le_trans b6 (by decide))
  have m3 := w_b b1 b2
  cases nd with
  | skip g s => exact h.add0 hd.1 m1 m2 hn
  | _ => exact h.widen m3 m1 m2 hn
theorem cl_b {n : Int} {c : Tot × Int × Int} {nd : Nd} (h : BT n c) (hd : nd.ok) (hn : 0 ≤ n) : BT (n + 1) (clStep c nd) := by
  obtain ⟨T, a, b⟩ := c
  obtain ⟨b1, b2, b3, b4, b5, b6, b7, b8, b9, b10, b11, b12⟩ := Nd.ok_b hd
  have m1 := mx_b h.h (Int.le_trans b8 (by decide))
  have m2 := d_b b11 b12
  cases nd with
  | skip g s => exact h.add hd.1 (z_b h.d) m1 (by decide) hn
  | kern x => exact h.widen (wd_b b1 b2 h.d) m1 (by decide) hn
  | box k wd ht dp sf sg od r1 r2 items => exact h.widen (wd_b b9 b10 h.d) m1 m2 hn
  | rule wd ht dp => exact h.widen (wd_b b9 b10 h.d) m1 m2 hn
  | _ => exact h.keep m1 h.d hn
theorem fold_b {f : Tot × Int × Int → Nd → Tot × Int × Int} (hf : ∀ n c nd, BT n c → nd.ok → 0 ≤ n → BT (n + 1) (f c nd)) : ∀ (ds : List Nd) (n : Int) (c : Tot × Int × Int), BT n c → (∀ d ∈ ds, d.ok) → 0 ≤ n → BT (n + ds.length) (ds.foldl f c)
  | [], n, c, h, _, _ => by simpa using h
  | d :: ds, n, c, h, hd, hn => by
    have := fold_b hf ds (n + 1) (f c d) (hf n c d h (hd _ (.head _)) hn) (fun x hx => hd x (.tail _ hx)) (by omega)
    rw [List.foldl_cons, List.length_cons, show n + ((ds.length + 1 : Nat) : Int) = n + 1 + ds.length by omega]; exact this
theorem ln_bt {ds : List Nd} (h : ∀ d ∈ ds, d.ok) : BT ds.length (lnFold ds) := by unfold lnFold; simpa using fold_b (fun n c nd => ln_b) ds 0 _ BT.zero h (by decide)
theorem cl_bt {ds : List Nd} (h : ∀ d ∈ ds, d.ok) : BT ds.length (clFold ds) := by unfold clFold; simpa using fold_b (fun n c nd => cl_b) ds 0 _ BT.zero h (by decide)
theorem Nd.ok_bk {nd : Nd} (h : nd.ok) : nd.bk ∧ nd.gok := by
  cases nd with
  | box k wd ht dp sf sg od r1 r2 items => exact ⟨by dsimp only [Nd.ok, Nd.bk] at *; omega, trivial⟩
  | skip g s => exact ⟨trivial, by obtain ⟨⟨g1, g2, g3, g4, g5, g6, g7, g8, g9, g10⟩, _⟩ := h; dsimp only [Nd.gok]; omega⟩
  | _ => exact ⟨trivial, trivial⟩
theorem ne_nil' {prog : Program} {w : World} {A : Around} {E : Value → Shared → Prop} {s : Shared} {h₀ : Heap} {L a b : Addr} {led : Led} {Q : Value → Shared → Prop} {vs : List Value} {n k : Nat} (N : News h₀ L s.heap led) (ma : (a, PySem.W.listOf vs.toArray n) ∈ led) (mb : (b, PySem.W.listOf ([] : List Value).toArray k) ∈ led) (hv : vs ≠ []) (hu : A.units < cLine) (h : Q (.bool true) s) : wpAny (model prog w) A (compareOp .NotEq (.ref a) (.ref b)) Q E s :=
  ne_nil N ma mb hu (by cases vs with | nil => exact absurd rfl hv | cons v vs => exact h)
theorem off_tl {tl : Led} {ta td ts tz d : Addr} (e : tl.map (·.1) = [ta, td, ts, tz]) (h : d ≠ ta ∧ d ≠ td ∧ d ≠ ts ∧ d ≠ tz) : ∀ q ∈ tl, q.1 ≠ d := fun q hq => by
  have k : q.1 ∈ tl.map (·.1) := List.mem_map.mpr ⟨q, hq, rfl⟩
  rw [e] at k
  obtain ⟨h1, h2, h3, h4⟩ := h
  simp only [List.mem_cons, List.not_mem_nil, or_false] at k
  rcases k with k | k | k | k <;> rw [k]
  · exact h1.symm
  · exact h2.symm
  · exact h3.symm
  · exact h4.symm
theorem reg_AG8_8174 : True := by
  k_with "w:compareOp NotEq ref ref" => first | ((k_here; (with_reducible show wpAny _ _ (compareOp CmpOp.NotEq (Value.ref _) (Value.ref _)) _ _ _); ((first | with_reducible refine' ne_nil' ?N_k9 ?a_k9 ?b_k9 ?v_k9 ?u_k9 ?_ | k_dflt (refine' ne_nil' ?N_k9 ?a_k9 ?b_k9 ?v_k9 ?u_k9 ?_)); k_dflt ((case N_k9 => k_asm); (case b_k9 => k_mem); (case a_k9 => k_extra "mine:in"); (case v_k9 => assumption); (case u_k9 => k_extra "mine:units"); k_whole)))) | fail
  k_with "mine:in" => first | (((have zg := only8); (clear zg); simp only [List.mem_append, List.mem_cons]; simp only [*, true_or, or_true])) | fail
  k_with "w:ite" => first | ((k_here; k_openite; first | ((with_reducible refine ite_ibt ?_ ?_); (focus omega); walk_say "MINE pruned") | ((with_reducible refine ite_ibf ?_ ?_); (focus omega); walk_say "MINE pruned") | ((with_reducible refine ite_nbt ?_ ?_); (focus omega); walk_say "MINE pruned") | ((with_reducible refine ite_nbf ?_ ?_); (focus omega); walk_say "MINE pruned") | ((with_reducible refine ite_bnt ?_ ?_); (focus omega); walk_say "MINE pruned") | ((with_reducible refine ite_bnf ?_ ?_); (focus omega); walk_say "MINE pruned"))) | fail
  trivial
theorem goal_size_ok_k {own mode amount : Int} {t1 t2 t3 : Tok} {led : Led} (h1 : mode = 0 ∨ mode = 1) (h2 : -1000000 ≤ amount) (h3 : amount ≤ 1000000) :
  Kt w p loose mean mg mb 3 (.ref 656) [.int own t1, .int mode t2, .int amount t3] [] led (fun K => ∀ u, K (.int (gsz own mode amount) u) (led)) := by
  unfold Kt
  intro dpC unC gdC cnC csC L aC ccdC clC outer A₀ base h₀ mC hp sg sd tk₀ ox Q E B F X N T hk hd hu hret
  refine wpAny_call ?_
  k_dflt (refine' code_defL (binds := [(Str.ofString "own", .int own t1), (Str.ofString "mode", .int mode t2), (Str.ofString "amount", .int amount t3)]) (rb := [(Str.ofString "amount", .int amount t3), (Str.ofString "mode", .int mode t2), (Str.ofString "own", .int own t1)]) ?k1 ?k2 ?k3 ?k4 ?k5 ?kA ?kF ?kK ?k6 ?k7 ?k8 ?k9 ?kB rfl ?_ ?c2 ?c3 ?c4 ?c5; (case kA => exact rfl); (case kF => exact rfl); (case kK => first | exact hk | exact rfl); (case k1 => exact B); (case k3 => exact X); (case k5 => exact T); (case k6 => k_is); (case k7 => k_is); (case c5 => decide); (case kB => exact locs rfl); (case c2 => exact rfl); (case c3 => exact rfl); (case c4 => exact rfl); (case k2 => exact F); (case k4 => exact N); (case k8 => exact dp_ltz hd); (case k9 => exact BindsTo.of_eq rfl); k_whole; intro g' L' h' tk' FG' m9 F' N' B' X' T' A9 qk ek)
  have only8 := True.intro
  k_steps
  all_goals (first | (have e9 : gsz own mode amount = amount := if_pos (by omega); rw [e9] at hret; refine hret _ _ _ (by assumption) (by assumption)) | (have e9 : gsz own mode amount = own + amount := if_neg (by omega); rw [e9] at hret; refine hret _ _ _ (by assumption) (by assumption)))

theorem reg_AG8_10929 : True := by
  k_with "w:call ref" => first | ((k_here; (with_reducible show wpAny _ _ (call (Value.ref 656) _ _) _ _ _); ((first | with_reducible refine' Kt.use (goal_size_ok_k ?c1_k9 ?c2_k9 ?c3_k9) ?hh_k9 ?hf_k9 ?B_k9 ?F_k9 ?X_k9 ?N_k9 ?T_k9 ?hk_k9 ?hd_k9 ?hu_k9 ?_ | k_dflt (refine' Kt.use (goal_size_ok_k ?c1_k9 ?c2_k9 ?c3_k9) ?hh_k9 ?hf_k9 ?B_k9 ?F_k9 ?X_k9 ?N_k9 ?T_k9 ?hk_k9 ?hd_k9 ?hu_k9 ?_)); k_dflt ((case F_k9 => k_asm); (case B_k9 => k_asm); (case X_k9 => k_asm); (case N_k9 => k_asm); (case T_k9 => k_asm); (case hh_k9 => exact rfl); (case hf_k9 => exact rfl); (case hk_k9 => first | exact rfl | assumption); (case hd_k9 => k_extra "mine:dp"); (case hu_k9 => k_extra "mine:un"); (case c1_k9 => first | assumption | omega); (case c2_k9 => first | assumption | (refine Int.le_trans ?_ (by assumption); decide) | (refine Int.le_trans (by assumption) ?_; decide) | omega); (case c3_k9 => first | assumption | (refine Int.le_trans ?_ (by assumption); decide) | (refine Int.le_trans (by assumption) ?_; decide) | omega))); intro u9 h9 tk9 F9 N9; (try k_sweep); (try dsimp only); (try k_fold))) | fail
  k_with "w:call ref" => first | ((k_here; (with_reducible show wpAny _ _ (call (Value.ref 642) _ _) _ _ _); ((first | with_reducible refine' Kt.use (set_glue_ok_k ?c1_k9 ?c2_k9 ?c3_k9 ?c4_k9 ?c5_k9 ?c6_k9 ?c7_k9) ?hh_k9 ?hf_k9 ?B_k9 ?F_k9 ?X_k9 ?N_k9 ?T_k9 ?hk_k9 ?hd_k9 ?hu_k9 ?_ | k_dflt (refine' Kt.use (set_glue_ok_k ?c1_k9 ?c2_k9 ?c3_k9 ?c4_k9 ?c5_k9 ?c6_k9 ?c7_k9) ?hh_k9 ?hf_k9 ?B_k9 ?F_k9 ?X_k9 ?N_k9 ?T_k9 ?hk_k9 ?hd_k9 ?hu_k9 ?_)); k_dflt ((case F_k9 => k_asm); (case B_k9 => k_asm); (case X_k9 => k_asm); (case N_k9 => k_asm); (case T_k9 => k_asm); (case hh_k9 => exact rfl); (case hf_k9 => exact rfl); (case hk_k9 => first | exact rfl | assumption); (case hd_k9 => k_extra "mine:dp"); (case hu_k9 => k_extra "mine:un"); (case c1_k9 => assumption); (case c2_k9 => assumption); (case c3_k9 => assumption); (case c4_k9 => first | assumption | (refine Int.le_trans ?_ (by assumption); decide) | (refine Int.le_trans (by assumption) ?_; decide) | omega); (case c5_k9 => first | assumption | (refine Int.le_trans ?_ (by assumption); decide) | (refine Int.le_trans (by assumption) ?_; decide) | omega); (case c6_k9 => assumption); (case c7_k9 => assumption))); intro t9 rt9 rp9 sn9 o9 r19 r29 p19 p29 u19 u29 u39 u49 u59 u69 hsg9 f19 f29 f39 h9 tk9 F9 N9; (try k_sweep); (try dsimp only); (try k_fold))) | fail
  trivial
theorem set_box_ok_k {ta td ts tz : Addr} {TT : Tot} {tl rest : Led} {x : Int} {tx : Tok} {d l ba : Addr} {es : List DictEntry} {n m : Nat} {vs : List Value} {v1 v2 v3 v4 v6 v7 v8 v9 : Value} (ht : TotL w TT ta td ts tz tl) (hd4 : Dist4 ta td ts tz) (ho : ∀ p ∈ (d, dictOf es n) :: rest, p.1 ≠ ta ∧ p.1 ≠ td ∧ p.1 ≠ ts ∧ p.1 ≠ tz) (hx1 : -100000 ≤ x) (hx2 : x ≤ 100000) (bs : ∀ k : Nat, 0 ≤ TT.st.getD k 0 ∧ TT.st.getD k 0 ≤ 100000) (bz : ∀ k : Nat, 0 ≤ TT.sh.getD k 0 ∧ TT.sh.getD k 0 ≤ 100000) (be : BoxEs w es v1 v2 v3 v4 (.ref l) v6 v7 v8 v9) (ma : (ba, instObj 358 d) ∈ rest) (ml : (l, PySem.W.listOf vs.toArray m) ∈ rest) (hv : vs ≠ []) (hoff : ∀ p ∈ rest, p.1 ≠ d) :
  Kt w p loose mean mg mb 6 (.ref 663) [.ref ba, .ref ta, .int x tx] [] (tl ++ ((d, dictOf es n) :: rest)) (fun K => ∀ rt rp es' sn o r1 r2 p1 p2 u1 u2 u3 u4 u5 u6, (sg TT x = (sn, o, (r1, r2), (p1, p2))) → (BoxEs w es' v1 v2 v3 v4 (.ref l) v6 (.int sn u1) (.int o u2) (.ref rt)) → (AllLt rt (tl ++ ((d, dictOf es n) :: rest))) → (AllLt rp (tl ++ ((d, dictOf es n) :: rest))) → K (.ref rp) ((rt, tupO [.int r1 u3, .int r2 u4] 0) :: (rp, tupO [.int p1 u5, .int p2 u6] 0) :: (tl ++ ((d, dictOf es' n) :: rest)))) := by
  unfold Kt
  intro dpC unC gdC cnC csC L aC ccdC clC outer A₀ base h₀ mC hp sg sd tk₀ ox Q E B F X N T hk hd hu hret
  have otd := off_tl ht.adr (ho _ (.head _))
  refine wpAny_call ?_
  k_dflt (refine' code_defL (binds := [(Str.ofString "box", .ref ba), (Str.ofString "totals", .ref ta), (Str.ofString "excess", .int x tx)]) (rb := [(Str.ofString "excess", .int x tx), (Str.ofString "totals", .ref ta), (Str.ofString "box", .ref ba)]) ?k1 ?k2 ?k3 ?k4 ?k5 ?kA ?kF ?kK ?k6 ?k7 ?k8 ?k9 ?kB rfl ?_ ?c2 ?c3 ?c4 ?c5; (case kA => exact rfl); (case kF => exact rfl); (case kK => first | exact hk | exact rfl); (case k1 => exact B); (case k3 => exact X); (case k5 => exact T); (case k6 => k_is); (case k7 => k_is); (case c5 => decide); (case kB => exact locs rfl); (case c2 => exact rfl); (case c3 => exact rfl); (case c4 => exact rfl); (case k2 => exact F); (case k4 => exact N); (case k8 => exact dp_ltz hd); (case k9 => exact BindsTo.of_eq rfl); k_whole; intro g' L' h' tk' FG' m9 F' N' B' X' T' A9 qk ek)
  have only8 := True.intro
  k_steps
  all_goals (first | (refine' hret _ _ _ _ _ _ _ _ _ _ _ _ _ _ _ hsg9 ?zB8 f29 f39 _ _ ?zF8 (News.re ?zN8 ?zS8); (case zF8 => assumption); (case zN8 => assumption); (case zB8 => assumption); (case zS8 => k_extra "mine:subs")))

end
end
section
section
variable {w : World} {p : Program} {loose : List Str} {mean : ExcName → Option Value} {mg mb : Str → Option Value}
noncomputable def hpNd (ds : List Nd) (mode amount : Int) : Nd :=
  .box 2 (gsz (lnFold ds).1.nat mode amount) (lnFold ds).2.1 (lnFold ds).2.2 0 (sg (lnFold ds).1 (gsz (lnFold ds).1.nat mode amount - (lnFold ds).1.nat)).1 (sg (lnFold ds).1 (gsz (lnFold ds).1.nat mode amount - (lnFold ds).1.nat)).2.1
    (sg (lnFold ds).1 (gsz (lnFold ds).1.nat mode amount - (lnFold ds).1.nat)).2.2.1.1 (sg (lnFold ds).1 (gsz (lnFold ds).1.nat mode amount - (lnFold ds).1.nat)).2.2.1.2 ds
noncomputable def repDat (p : Int × Int) : Dat := .tuple [.int p.1, .int p.2]
noncomputable def hpRep (ds : List Nd) (mode amount : Int) : Dat := repDat (sg (lnFold ds).1 (gsz (lnFold ds).1.nat mode amount - (lnFold ds).1.nat)).2.2.2
noncomputable def vpT (ds : List Nd) : Tot := if (clFold ds).2.2 > 2 then (clFold ds).1.widen ((clFold ds).2.2 - 2) else (clFold ds).1
noncomputable def vpD (ds : List Nd) : Int := if (clFold ds).2.2 > 2 then 2 else (clFold ds).2.2
noncomputable def vpNd (ds : List Nd) (mode amount : Int) : Nd :=
  .box 3 (clFold ds).2.1 (gsz (vpT ds).nat mode amount) (vpD ds) 0 (sg (vpT ds) (gsz (vpT ds).nat mode amount - (vpT ds).nat)).1 (sg (vpT ds) (gsz (vpT ds).nat mode amount - (vpT ds).nat)).2.1
    (sg (vpT ds) (gsz (vpT ds).nat mode amount - (vpT ds).nat)).2.2.1.1 (sg (vpT ds) (gsz (vpT ds).nat mode amount - (vpT ds).nat)).2.2.1.2 ds
noncomputable def vpRep (ds : List Nd) (mode amount : Int) : Dat := repDat (sg (vpT ds) (gsz (vpT ds).nat mode amount - (vpT ds).nat)).2.2.2
theorem hp_off {tl led X : Led} {ta td ts tz a d : Addr} {o1 o2 : Obj} (ho : ∀ p ∈ led, p.1 ≠ ta ∧ p.1 ≠ td ∧ p.1 ≠ ts ∧ p.1 ≠ tz) (e : tl.map (·.1) = [ta, td, ts, tz]) (h : AllLt d X) (sub : ∀ q ∈ tl ++ led, q ∈ X) (lt : @LT.lt Nat _ d a) :
    (∀ p ∈ (d, o1) :: (a, o2) :: led, p.1 ≠ ta ∧ p.1 ≠ td ∧ p.1 ≠ ts ∧ p.1 ≠ tz) ∧ ∀ p ∈ (a, o2) :: led, p.1 ≠ d := by
  have hl : ∀ b ∈ [ta, td, ts, tz], @LT.lt Nat _ b d := fun b hb => by
    rw [← e] at hb
    obtain ⟨q, hq, rfl⟩ := List.mem_map.mp hb
    exact ktn_ltOf h q (sub q (List.mem_append_left _ hq))
  have h1 := hl ta (by simp)
  have h2 := hl td (by simp)
  have h3 := hl ts (by simp)
  have h4 := hl tz (by simp)
  refine ⟨fun p hp => ?_, fun p hp => ?_⟩
  · rcases List.mem_cons.mp hp with rfl | hp
    · exact ⟨Ne.symm (Nat.ne_of_lt h1), Ne.symm (Nat.ne_of_lt h2), Ne.symm (Nat.ne_of_lt h3), Ne.symm (Nat.ne_of_lt h4)⟩
    · rcases List.mem_cons.mp hp with rfl | hp
      · exact ⟨Ne.symm (Nat.ne_of_lt (Nat.lt_trans h1 lt)), Ne.symm (Nat.ne_of_lt (Nat.lt_trans h2 lt)), Ne.symm (Nat.ne_of_lt (Nat.lt_trans h3 lt)), Ne.symm (Nat.ne_of_lt (Nat.lt_trans h4 lt))⟩
      · exact ho p hp
  · rcases List.mem_cons.mp hp with rfl | hp
    · exact Ne.symm (Nat.ne_of_lt lt)
    · exact Nat.ne_of_lt (ktn_ltOf h p (sub p (List.mem_append_right _ hp)))
theorem gsz_b {own mode amount B : Int} (h1 : -B ≤ own) (h2 : own ≤ B) (h3 : -1000 ≤ amount) (h4 : amount ≤ 1000) (hB : 0 ≤ B) : -(B + 1000) ≤ gsz own mode amount ∧ gsz own mode amount ≤ B + 1000 ∧ -(B + 1000) ≤ gsz own mode amount - own ∧ gsz own mode amount - own ≤ B + 1000 := by
  unfold gsz; split <;> omega
structure TB (T : Tot) : Prop where
  n1 : -12000 ≤ T.nat
  n2 : T.nat ≤ 12000
  st : ∀ k, 0 ≤ T.st.getD k 0 ∧ T.st.getD k 0 ≤ 100000
  sh : ∀ k, 0 ≤ T.sh.getD k 0 ∧ T.sh.getD k 0 ≤ 100000
theorem ln_tb {ds : List Nd} (h : ∀ d ∈ ds, d.ok) (hl : ds.length ≤ 100) : TB (lnFold ds).1 ∧ 0 ≤ (lnFold ds).2.1 ∧ (lnFold ds).2.1 ≤ 30 ∧ -30 ≤ (lnFold ds).2.2 ∧ (lnFold ds).2.2 ≤ 30 := by
  have b := ln_bt h
  exact ⟨⟨by have := b.nat; omega, by have := b.nat; omega, fun k => by have := b.st k; omega, fun k => by have := b.sh k; omega⟩, b.h.1, b.h.2, b.d.1, b.d.2⟩
theorem cl_tb {ds : List Nd} (h : ∀ d ∈ ds, d.ok) (hl : ds.length ≤ 100) : TB (clFold ds).1 ∧ TB ((clFold ds).1.widen ((clFold ds).2.2 - 2)) ∧ 0 ≤ (clFold ds).2.1 ∧ (clFold ds).2.1 ≤ 30 ∧ -30 ≤ (clFold ds).2.2 ∧ (clFold ds).2.2 ≤ 30 := by
  have b := cl_bt h
  have hn := b.nat
  have hd := b.d
  exact ⟨⟨by omega, by omega, fun k => by have := b.st k; omega, fun k => by have := b.sh k; omega⟩, ⟨by dsimp only [Tot.widen]; omega, by dsimp only [Tot.widen]; omega, fun k => by have := b.st k; dsimp only [Tot.widen]; omega, fun k => by have := b.sh k; dsimp only [Tot.widen]; omega⟩, b.h.1, b.h.2, b.d.1, b.d.2⟩
theorem reg_AG9_4393 : True := by
  k_with "mine:nods" => first | (first | assumption | ((refine NodesIn.mono ?_ (by assumption)); k_extra "mine:sub")) | fail
  k_with "w:call ref" => first | ((k_here; (with_reducible show wpAny _ _ (call (Value.ref 607) _ _) _ _ _); ((first | with_reducible refine' Kt.use (natural_line_ok_k ?c1_k9 ?c2_k9 ?c3_k9) ?hh_k9 ?hf_k9 ?B_k9 ?F_k9 ?X_k9 ?N_k9 ?T_k9 ?hk_k9 ?hd_k9 ?hu_k9 ?_ | k_dflt (refine' Kt.use (natural_line_ok_k ?c1_k9 ?c2_k9 ?c3_k9) ?hh_k9 ?hf_k9 ?B_k9 ?F_k9 ?X_k9 ?N_k9 ?T_k9 ?hk_k9 ?hd_k9 ?hu_k9 ?_)); k_dflt ((case F_k9 => k_asm); (case B_k9 => k_asm); (case X_k9 => k_asm); (case N_k9 => k_asm); (case T_k9 => k_asm); (case hh_k9 => exact rfl); (case hf_k9 => exact rfl); (case hk_k9 => first | exact rfl | assumption); (case hd_k9 => k_extra "mine:dp"); (case hu_k9 => k_extra "mine:un"); (case c1_k9 => k_extra "mine:in"); (case c2_k9 => k_extra "mine:nods"); (case c3_k9 => assumption))); intro t9 ta9 td9 ts9 tz9 tl9 th9 tdp9 o9 e3 ht9 hd9 f9 lt9 h9 tk9 F9 N9; subst e3; have hat9 := ht9.at; obtain ⟨⟨tn9, q19⟩, q29, q39⟩ := hat9; have hmt9 := ht9.mt; obtain ⟨mt19, mt29, mt39, mt49⟩ := hmt9; have ho0 : ∀ p ∈ led, p.1 ≠ ta9 ∧ p.1 ≠ td9 ∧ p.1 ≠ ts9 ∧ p.1 ≠ tz9 := fresh_off (Fresh.sub f9 (by k_extra "mine:sub")) ht9.adr; (try k_sweep); (try dsimp only); (try k_fold))) | fail
  k_with "w:call ref" => first | ((k_here; (with_reducible show wpAny _ _ (call (Value.ref 628) _ _) _ _ _); ((first | with_reducible refine' Kt.use (natural_column_ok_k ?c1_k9 ?c2_k9 ?c3_k9) ?hh_k9 ?hf_k9 ?B_k9 ?F_k9 ?X_k9 ?N_k9 ?T_k9 ?hk_k9 ?hd_k9 ?hu_k9 ?_ | k_dflt (refine' Kt.use (natural_column_ok_k ?c1_k9 ?c2_k9 ?c3_k9) ?hh_k9 ?hf_k9 ?B_k9 ?F_k9 ?X_k9 ?N_k9 ?T_k9 ?hk_k9 ?hd_k9 ?hu_k9 ?_)); k_dflt ((case F_k9 => k_asm); (case B_k9 => k_asm); (case X_k9 => k_asm); (case N_k9 => k_asm); (case T_k9 => k_asm); (case hh_k9 => exact rfl); (case hf_k9 => exact rfl); (case hk_k9 => first | exact rfl | assumption); (case hd_k9 => k_extra "mine:dp"); (case hu_k9 => k_extra "mine:un"); (case c1_k9 => k_extra "mine:in"); (case c2_k9 => k_extra "mine:nods"); (case c3_k9 => assumption))); intro t9 ta9 td9 ts9 tz9 tl9 th9 tdp9 o9 e3 ht9 hd9 f9 lt9 h9 tk9 F9 N9; subst e3; have hat9 := ht9.at; obtain ⟨⟨tn9, q19⟩, q29, q39⟩ := hat9; have hmt9 := ht9.mt; obtain ⟨mt19, mt29, mt39, mt49⟩ := hmt9; have ho0 : ∀ p ∈ led, p.1 ≠ ta9 ∧ p.1 ≠ td9 ∧ p.1 ≠ ts9 ∧ p.1 ≠ tz9 := fresh_off (Fresh.sub f9 (by k_extra "mine:sub")) ht9.adr; (try k_sweep); (try dsimp only); (try k_fold))) | fail
  k_with "mine:ap3" => first | (first | exact Ap.nil | (refine Ap.cons (AllLt_off ?_) ?_; k_extra "mine:allt2"; k_extra "mine:ap3")) | fail
  k_with "w:call ref" => first | ((k_here; (with_reducible show wpAny _ _ (call (Value.ref 663) _ _) _ _ _); (refine kimp (hp_off (tl := tl9) (led := led) (a := a9) (d := d9) (o1 := dictOf es9 n9) (o2 := instObj 358 d9) ho0 ht9.adr o1 ?_ o2) fun hof => ?_); (focus (k_extra "mine:subs")); ((first | with_reducible refine' Kt.use (Kt.weak (led' := tl9 ++ ((d9, dictOf es9 n9) :: (a9, instObj 358 d9) :: led)) (set_box_ok_k ht9 hd9 hof.1 ?c1_k9 ?c2_k9 (TB.st ?c3_k9) (TB.sh ?c4_k9) b9 (List.mem_cons_self) ?c5_k9 hv hof.2) ?c6_k9) ?hh_k9 ?hf_k9 ?B_k9 ?F_k9 ?X_k9 ?N_k9 ?T_k9 ?hk_k9 ?hd_k9 ?hu_k9 ?_ | k_dflt (refine' Kt.use (Kt.weak (led' := tl9 ++ ((d9, dictOf es9 n9) :: (a9, instObj 358 d9) :: led)) (set_box_ok_k ht9 hd9 hof.1 ?c1_k9 ?c2_k9 (TB.st ?c3_k9) (TB.sh ?c4_k9) b9 (List.mem_cons_self) ?c5_k9 hv hof.2) ?c6_k9) ?hh_k9 ?hf_k9 ?B_k9 ?F_k9 ?X_k9 ?N_k9 ?T_k9 ?hk_k9 ?hd_k9 ?hu_k9 ?_)); k_dflt ((case F_k9 => k_asm); (case B_k9 => k_asm); (case X_k9 => k_asm); (case N_k9 => k_asm); (case T_k9 => k_asm); (case hh_k9 => exact rfl); (case hf_k9 => exact rfl); (case hk_k9 => first | exact rfl | assumption); (case hd_k9 => k_extra "mine:dp"); (case hu_k9 => k_extra "mine:un"); (case c1_k9 => omega); (case c2_k9 => omega); (case c3_k9 => assumption); (case c4_k9 => assumption); (case c5_k9 => exact List.mem_cons_of_mem _ hl0); (case c6_k9 => k_extra "mine:subs"))); intro rt19 rp9 es19 sn9 so9 r19 r29 p19 p29 u19 u29 u39 u49 u59 u69 hsg9 be9 fr19 fr29 h9 tk9 F9 N9; (try k_sweep); (try dsimp only); (try k_fold))) | fail
  k_with "w:call ref" => first | ((k_here; (with_reducible show wpAny _ _ (call (Value.ref 289) _ _) _ _ _); ((first | with_reducible refine' Kt.use (Kt.weak (led' := tl9 ++ led) (tot_widen_k ht9 hd9 ho0) ?c6_k9) ?hh_k9 ?hf_k9 ?B_k9 ?F_k9 ?X_k9 ?N_k9 ?T_k9 ?hk_k9 ?hd_k9 ?hu_k9 ?_ | k_dflt (refine' Kt.use (Kt.weak (led' := tl9 ++ led) (tot_widen_k ht9 hd9 ho0) ?c6_k9) ?hh_k9 ?hf_k9 ?B_k9 ?F_k9 ?X_k9 ?N_k9 ?T_k9 ?hk_k9 ?hd_k9 ?hu_k9 ?_)); k_dflt ((case F_k9 => k_asm); (case B_k9 => k_asm); (case X_k9 => k_asm); (case N_k9 => k_asm); (case T_k9 => k_asm); (case hh_k9 => exact rfl); (case hf_k9 => exact rfl); (case hk_k9 => first | exact rfl | assumption); (case hd_k9 => k_extra "mine:dp"); (case hu_k9 => k_extra "mine:un"); (case c6_k9 => k_extra "mine:subs"))); intro tl9 ht9 h9 tk9 F9 N9; have hat9 := ht9.at; obtain ⟨⟨tn9, q19⟩, q29, q39⟩ := hat9; (try k_sweep); (try dsimp only); (try k_fold))) | fail
  k_with "w:call ref" => first | ((k_here; (with_reducible show wpAny _ _ (call (Value.ref 358) _ _) _ _ _); ((first | with_reducible refine' Kt.use (box_k ?c1_k9 ?c2_k9 ?c3_k9 ?c4_k9 ?c5_k9 ?c6_k9 ?c7_k9 ?c8_k9) ?hh_k9 ?hf_k9 ?B_k9 ?F_k9 ?X_k9 ?N_k9 ?T_k9 ?hk_k9 ?hd_k9 ?hu_k9 ?_ | k_dflt (refine' Kt.use (box_k ?c1_k9 ?c2_k9 ?c3_k9 ?c4_k9 ?c5_k9 ?c6_k9 ?c7_k9 ?c8_k9) ?hh_k9 ?hf_k9 ?B_k9 ?F_k9 ?X_k9 ?N_k9 ?T_k9 ?hk_k9 ?hd_k9 ?hu_k9 ?_)); k_dflt ((case F_k9 => k_asm); (case B_k9 => k_asm); (case X_k9 => k_asm); (case N_k9 => k_asm); (case T_k9 => k_asm); (case hh_k9 => exact rfl); (case hf_k9 => exact rfl); (case hk_k9 => first | exact rfl | assumption); (case hd_k9 => k_extra "mine:dp"); (case hu_k9 => k_extra "mine:un"); (case c1_k9 => first | assumption | (refine Int.le_trans ?_ (by assumption); decide) | (refine Int.le_trans (by assumption) ?_; decide) | omega); (case c2_k9 => first | assumption | (refine Int.le_trans ?_ (by assumption); decide) | (refine Int.le_trans (by assumption) ?_; decide) | omega); (case c3_k9 => first | assumption | (refine Int.le_trans ?_ (by assumption); decide) | (refine Int.le_trans (by assumption) ?_; decide) | omega); (case c4_k9 => first | assumption | (refine Int.le_trans ?_ (by assumption); decide) | (refine Int.le_trans (by assumption) ?_; decide) | omega); (case c5_k9 => first | assumption | (refine Int.le_trans ?_ (by assumption); decide) | (refine Int.le_trans (by assumption) ?_; decide) | omega); (case c6_k9 => first | assumption | (refine Int.le_trans ?_ (by assumption); decide) | (refine Int.le_trans (by assumption) ?_; decide) | omega); (case c7_k9 => first | assumption | (refine Int.le_trans ?_ (by assumption); decide) | (refine Int.le_trans (by assumption) ?_; decide) | omega); (case c8_k9 => first | assumption | (refine Int.le_trans ?_ (by assumption); decide) | (refine Int.le_trans (by assumption) ?_; decide) | omega))); intro a9 d9 rt9 es9 n9 u1 u2 u3 u4 u5 n29 b9 o1 o2 o3 h9 tk9 F9 N9; (try k_sweep); (try dsimp only); (try k_fold))) | fail
  k_with "w:call ref" => first | ((k_here; (with_reducible show wpAny _ _ (call (Value.ref 126) _ _) _ _ _); ((first | with_reducible refine' Kt.use (check_dimen_k ?c1_k9 ?c2_k9) ?hh_k9 ?hf_k9 ?B_k9 ?F_k9 ?X_k9 ?N_k9 ?T_k9 ?hk_k9 ?hd_k9 ?hu_k9 ?_ | k_dflt (refine' Kt.use (check_dimen_k ?c1_k9 ?c2_k9) ?hh_k9 ?hf_k9 ?B_k9 ?F_k9 ?X_k9 ?N_k9 ?T_k9 ?hk_k9 ?hd_k9 ?hu_k9 ?_)); k_dflt ((case F_k9 => k_asm); (case B_k9 => k_asm); (case X_k9 => k_asm); (case N_k9 => k_asm); (case T_k9 => k_asm); (case hh_k9 => exact rfl); (case hf_k9 => exact rfl); (case hk_k9 => first | exact rfl | assumption); (case hd_k9 => k_extra "mine:dp"); (case hu_k9 => k_extra "mine:un"); (case c1_k9 => first | assumption | (refine Int.le_trans ?_ (by assumption); decide) | (refine Int.le_trans (by assumption) ?_; decide) | omega); (case c2_k9 => first | assumption | (refine Int.le_trans ?_ (by assumption); decide) | (refine Int.le_trans (by assumption) ?_; decide) | omega))); intro  h9 tk9 F9 N9; (try k_sweep); (try dsimp only); (try k_fold))) | fail
  k_with "w:call ref" => first | ((k_here; (with_reducible show wpAny _ _ (call (Value.ref 621) _ _) _ _ _); ((first | with_reducible refine' Kt.use (check_column_ok_k ?c1_k9 ?c2_k9 ?c3_k9) ?hh_k9 ?hf_k9 ?B_k9 ?F_k9 ?X_k9 ?N_k9 ?T_k9 ?hk_k9 ?hd_k9 ?hu_k9 ?_ | k_dflt (refine' Kt.use (check_column_ok_k ?c1_k9 ?c2_k9 ?c3_k9) ?hh_k9 ?hf_k9 ?B_k9 ?F_k9 ?X_k9 ?N_k9 ?T_k9 ?hk_k9 ?hd_k9 ?hu_k9 ?_)); k_dflt ((case F_k9 => k_asm); (case B_k9 => k_asm); (case X_k9 => k_asm); (case N_k9 => k_asm); (case T_k9 => k_asm); (case hh_k9 => exact rfl); (case hf_k9 => exact rfl); (case hk_k9 => first | exact rfl | assumption); (case hd_k9 => k_extra "mine:dp"); (case hu_k9 => k_extra "mine:un"); (case c1_k9 => assumption); (case c2_k9 => assumption); (case c3_k9 => assumption))); intro  h9 tk9 F9 N9; (try k_sweep); (try dsimp only); (try k_fold))) | fail
  trivial
theorem hpack_ok_k {l : Addr} {n : Nat} {vs : List Value} {ds : List Nd} {S led : Led} {mode amount : Int} {t1 t2 : Tok} (hs : ∀ q ∈ S, q ∈ led) (hl : (l, PySem.W.listOf vs.toArray n) ∈ S) (hn : NodesIn w S vs ds) (hok : ∀ d ∈ ds, d.ok) (hlen : ds.length ≤ 100) (hv : vs ≠ []) (hm : mode = 0 ∨ mode = 1) (ha1 : -1000 ≤ amount) (ha2 : amount ≤ 1000) :
  Kt w p loose mean mg mb 9 (.ref 671) [.ref l, .int mode t1, .int amount t2] [] led (fun K => ∀ t a rp tl2, (Ap tl2 led) → ((t, tupO [.ref a, .ref rp] 0) ∈ tl2) → (DatIn tl2 (.ref rp) (hpRep ds mode amount)) → (NodeIn w (tl2 ++ S) (.ref a) (hpNd ds mode amount)) → K (.ref t) (tl2 ++ led)) := by
  unfold Kt
  intro dpC unC gdC cnC csC L aC ccdC clC outer A₀ base h₀ mC hp sg sd tk₀ ox Q E B F X N T hk hd hu hret
  have hl0 := hs _ hl
  have hn0 := hn.mono hs
  have hb : ∀ d ∈ ds, d.bk ∧ d.gok := fun d hd => Nd.ok_bk (hok d hd)
  obtain ⟨htb, y1, y2, y3, y4⟩ := ln_tb hok hlen
  obtain ⟨y5, y6, y7, y8⟩ := gsz_b (mode := mode) htb.n1 htb.n2 ha1 ha2 (by decide)
  refine wpAny_call ?_
  k_dflt (refine' code_defL (binds := [(Str.ofString "items", .ref l), (Str.ofString "mode", .int mode t1), (Str.ofString "amount", .int amount t2), (Str.ofString "outside", .none)]) (rb := [(Str.ofString "outside", .none), (Str.ofString "amount", .int amount t2), (Str.ofString "mode", .int mode t1), (Str.ofString "items", .ref l)]) ?k1 ?k2 ?k3 ?k4 ?k5 ?kA ?kF ?kK ?k6 ?k7 ?k8 ?k9 ?kB rfl ?_ ?c2 ?c3 ?c4 ?c5; (case kA => exact rfl); (case kF => exact rfl); (case kK => exact hk); (case k1 => exact B); (case k3 => exact X); (case k5 => exact T); (case k6 => k_is); (case k7 => k_is); (case c5 => decide); (case kB => exact locs rfl); (case c2 => exact rfl); (case c3 => exact rfl); (case c4 => exact rfl); (case k2 => exact F); (case k4 => exact N); (case k8 => exact dp_ltz hd); (case k9 => exact binds_K (by k_in) rfl (by k_is) rfl rfl rfl); k_whole; intro g' L' h' tk' FG' m9 F' N' B' X' T' A9 qk ek)
  k_steps
  all_goals (first | ((have b9A := tbn_up o2 o1); (repeat (rename _ ∧ _ => z9; obtain ⟨_, _⟩ := z9)); refine' hret _ a9 rp9 [(_, _), (rt19, _), (rp9, _), (a9, instObj 358 d9), (d9, dictOf es19 n9)] ?zA8 (.head _) ?zD8 ?zB8 _ _ ?zF8 (News.re ?zN8 ?zS8); (case zF8 => assumption); (case zN8 => assumption); (case zS8 => ((simp only [List.cons_append, List.nil_append]); k_extra "mine:subs")); (case zA8 => k_extra "mine:ap3"); (case zD8 => (unfold hpRep repDat; (first | rw [hsg9] | (rw [hvT]; rw [hsg9])); exact .tuple (by k_mem) (.cons (.int _ _) (.cons (.int _ _) .nil)))); (case zB8 => (unfold hpNd; (first | rw [hsg9] | (rw [hvT, hvD]; rw [hsg9])); (refine' .box (be9.at_kind ?h1 ?h2 rfl) (be9.at_width ?h1 ?h2 rfl) (be9.at_height ?h1 ?h2 rfl) (be9.at_depth ?h1 ?h2 rfl) (be9.at_items ?h1 ?h2 rfl) (be9.at_shift ?h1 ?h2 rfl) (be9.at_sign ?h1 ?h2 rfl) (be9.at_order ?h1 ?h2 rfl) (be9.at_ratio ?h1 ?h2 rfl) (by k_mem) (List.mem_append_right _ hl) (hn.mono fun _ h => List.mem_append_right _ h)); (case h1 => k_mem); (case h2 => k_mem)))))

theorem vpack_ok_k {l : Addr} {n : Nat} {vs : List Value} {ds : List Nd} {S led : Led} {mode amount : Int} {t1 t2 t3 : Tok} (hs : ∀ q ∈ S, q ∈ led) (hl : (l, PySem.W.listOf vs.toArray n) ∈ S) (hn : NodesIn w S vs ds) (hok : ∀ d ∈ ds, d.ok) (hlen : ds.length ≤ 100) (hv : vs ≠ []) (hm : mode = 0 ∨ mode = 1) (ha1 : -1000 ≤ amount) (ha2 : amount ≤ 1000) :
  Kt w p loose mean mg mb 9 (.ref 679) [.ref l, .int mode t1, .int amount t2, .int 2 t3] [] led (fun K => ∀ t a rp tl2, (Ap tl2 led) → ((t, tupO [.ref a, .ref rp] 0) ∈ tl2) → (DatIn tl2 (.ref rp) (vpRep ds mode amount)) → (NodeIn w (tl2 ++ S) (.ref a) (vpNd ds mode amount)) → K (.ref t) (tl2 ++ led)) := by
  unfold Kt
  intro dpC unC gdC cnC csC L aC ccdC clC outer A₀ base h₀ mC hp sg sd tk₀ ox Q E B F X N T hk hd hu hret
  have hl0 := hs _ hl
  have hn0 := hn.mono hs
  have hb : ∀ d ∈ ds, d.bk ∧ d.gok := fun d hd => Nd.ok_bk (hok d hd)
  obtain ⟨htb, htb2, y1, y2, y3, y4⟩ := cl_tb hok hlen
  obtain ⟨y5, y6, y7, y8⟩ := gsz_b (mode := mode) htb.n1 htb.n2 ha1 ha2 (by decide)
  obtain ⟨y9, y10, y11, y12⟩ := gsz_b (mode := mode) htb2.n1 htb2.n2 ha1 ha2 (by decide)
  refine wpAny_call ?_
  k_dflt (refine' code_defL (binds := [(Str.ofString "items", .ref l), (Str.ofString "mode", .int mode t1), (Str.ofString "amount", .int amount t2), (Str.ofString "most_depth", .int 2 t3)]) (rb := [(Str.ofString "most_depth", .int 2 t3), (Str.ofString "amount", .int amount t2), (Str.ofString "mode", .int mode t1), (Str.ofString "items", .ref l)]) ?k1 ?k2 ?k3 ?k4 ?k5 ?kA ?kF ?kK ?k6 ?k7 ?k8 ?k9 ?kB rfl ?_ ?c2 ?c3 ?c4 ?c5; (case kA => exact rfl); (case kF => exact rfl); (case kK => exact hk); (case k1 => exact B); (case k3 => exact X); (case k5 => exact T); (case k6 => k_is); (case k7 => k_is); (case c5 => decide); (case kB => exact locs rfl); (case c2 => exact rfl); (case c3 => exact rfl); (case c4 => exact rfl); (case k2 => exact F); (case k4 => exact N); (case k8 => exact dp_ltz hd); (case k9 => exact binds_K (by k_in) rfl (by k_is) rfl rfl rfl); k_whole; intro g' L' h' tk' FG' m9 F' N' B' X' T' A9 qk ek)
  k_steps
  all_goals ((first | ((refine kimp (P := vpT ds = (clFold ds).1.widen ((clFold ds).2.2 - 2)) (if_pos ?_) fun hvT => ?_); (focus omega)) | ((refine kimp (P := vpT ds = (clFold ds).1) (if_neg ?_) fun hvT => ?_); (focus omega))); (first | ((refine kimp (P := vpD ds = 2) (if_pos ?_) fun hvD => ?_); (focus omega)) | ((refine kimp (P := vpD ds = (clFold ds).2.2) (if_neg ?_) fun hvD => ?_); (focus omega))))
  all_goals (first | ((have b9A := tbn_up o2 o1); (repeat (rename _ ∧ _ => z9; obtain ⟨_, _⟩ := z9)); refine' hret _ a9 rp9 [(_, _), (rt19, _), (rp9, _), (a9, instObj 358 d9), (d9, dictOf es19 n9)] ?zA8 (.head _) ?zD8 ?zB8 _ _ ?zF8 (News.re ?zN8 ?zS8); (case zF8 => assumption); (case zN8 => assumption); (case zS8 => ((simp only [List.cons_append, List.nil_append]); k_extra "mine:subs")); (case zA8 => k_extra "mine:ap3"); (case zD8 => (unfold vpRep repDat; (first | rw [hsg9] | (rw [hvT]; rw [hsg9])); exact .tuple (by k_mem) (.cons (.int _ _) (.cons (.int _ _) .nil)))); (case zB8 => (unfold vpNd; (first | rw [hsg9] | (rw [hvT, hvD]; rw [hsg9])); (refine' .box (be9.at_kind ?h1 ?h2 rfl) (be9.at_width ?h1 ?h2 rfl) (be9.at_height ?h1 ?h2 rfl) (be9.at_depth ?h1 ?h2 rfl) (be9.at_items ?h1 ?h2 rfl) (be9.at_shift ?h1 ?h2 rfl) (be9.at_sign ?h1 ?h2 rfl) (be9.at_order ?h1 ?h2 rfl) (be9.at_ratio ?h1 ?h2 rfl) (by k_mem) (List.mem_append_right _ hl) (hn.mono fun _ h => List.mem_append_right _ h)); (case h1 => k_mem); (case h2 => k_mem)))))

end
end
section
section
variable {w : World} {p : Program} {loose : List Str} {mean : ExcName → Option Value} {mg mb : Str → Option Value}
noncomputable def pkNd (up : Bool) (ds : List Nd) (mode amount : Int) : Nd := if up then vpNd ds mode amount else hpNd ds mode amount
noncomputable def pkRep (up : Bool) (ds : List Nd) (mode amount : Int) : Dat := if up then vpRep ds mode amount else hpRep ds mode amount

theorem reg_AG10_396 : True := by
  k_with "w:call ref" => first | ((k_here; (with_reducible show wpAny _ _ (call (Value.ref 679) _ _) _ _ _); ((first | with_reducible refine' Kt.use (vpack_ok_k ?c1_k9 ?c2_k9 ?c3_k9 ?c4_k9 ?c5_k9 ?c6_k9 ?c7_k9 ?c8_k9 ?c9_k9) ?hh_k9 ?hf_k9 ?B_k9 ?F_k9 ?X_k9 ?N_k9 ?T_k9 ?hk_k9 ?hd_k9 ?hu_k9 ?_ | k_dflt (refine' Kt.use (vpack_ok_k ?c1_k9 ?c2_k9 ?c3_k9 ?c4_k9 ?c5_k9 ?c6_k9 ?c7_k9 ?c8_k9 ?c9_k9) ?hh_k9 ?hf_k9 ?B_k9 ?F_k9 ?X_k9 ?N_k9 ?T_k9 ?hk_k9 ?hd_k9 ?hu_k9 ?_)); k_dflt ((case F_k9 => k_asm); (case B_k9 => k_asm); (case X_k9 => k_asm); (case N_k9 => k_asm); (case T_k9 => k_asm); (case hh_k9 => exact rfl); (case hf_k9 => exact rfl); (case hk_k9 => first | exact rfl | assumption); (case hd_k9 => k_extra "mine:dp"); (case hu_k9 => k_extra "mine:un"); (case c1_k9 => assumption); (case c2_k9 => assumption); (case c3_k9 => assumption); (case c4_k9 => assumption); (case c5_k9 => assumption); (case c6_k9 => assumption); (case c7_k9 => assumption); (case c8_k9 => assumption); (case c9_k9 => assumption))); intro t9 a9 rp9 tl9 f9 m9 d9 n9 h9 tk9 F9 N9; (try k_sweep); (try dsimp only); (try k_fold))) | fail
  k_with "w:call ref" => first | ((k_here; (with_reducible show wpAny _ _ (call (Value.ref 671) _ _) _ _ _); ((first | with_reducible refine' Kt.use (hpack_ok_k ?c1_k9 ?c2_k9 ?c3_k9 ?c4_k9 ?c5_k9 ?c6_k9 ?c7_k9 ?c8_k9 ?c9_k9) ?hh_k9 ?hf_k9 ?B_k9 ?F_k9 ?X_k9 ?N_k9 ?T_k9 ?hk_k9 ?hd_k9 ?hu_k9 ?_ | k_dflt (refine' Kt.use (hpack_ok_k ?c1_k9 ?c2_k9 ?c3_k9 ?c4_k9 ?c5_k9 ?c6_k9 ?c7_k9 ?c8_k9 ?c9_k9) ?hh_k9 ?hf_k9 ?B_k9 ?F_k9 ?X_k9 ?N_k9 ?T_k9 ?hk_k9 ?hd_k9 ?hu_k9 ?_)); k_dflt ((case F_k9 => k_asm); (case B_k9 => k_asm); (case X_k9 => k_asm); (case N_k9 => k_asm); (case T_k9 => k_asm); (case hh_k9 => exact rfl); (case hf_k9 => exact rfl); (case hk_k9 => first | exact rfl | assumption); (case hd_k9 => k_extra "mine:dp"); (case hu_k9 => k_extra "mine:un"); (case c1_k9 => assumption); (case c2_k9 => assumption); (case c3_k9 => assumption); (case c4_k9 => assumption); (case c5_k9 => assumption); (case c6_k9 => assumption); (case c7_k9 => assumption); (case c8_k9 => assumption); (case c9_k9 => assumption))); intro t9 a9 rp9 tl9 f9 m9 d9 n9 h9 tk9 F9 N9; (try k_sweep); (try dsimp only); (try k_fold))) | fail
  trivial
theorem law_pack_true_k {l : Addr} {n : Nat} {vs : List Value} {ds : List Nd} {S led : Led} {mode amount : Int} {t1 t2 : Tok} (hs : ∀ q ∈ S, q ∈ led) (hl : (l, PySem.W.listOf vs.toArray n) ∈ S) (hn : NodesIn w S vs ds) (hok : ∀ d ∈ ds, d.ok) (hlen : ds.length ≤ 100) (hv : vs ≠ []) (hm : mode = 0 ∨ mode = 1) (ha1 : -1000 ≤ amount) (ha2 : amount ≤ 1000) :
  Kt w p loose mean mg mb 10 (.ref 728) [.ref l, .bool true, .int mode t1, .int amount t2] [] led (fun K => ∀ t a rp tl2, (Ap tl2 led) → ((t, tupO [.ref a, .ref rp] 0) ∈ tl2) → (DatIn tl2 (.ref rp) (pkRep true ds mode amount)) → (NodeIn w (tl2 ++ S) (.ref a) (pkNd true ds mode amount)) → K (.ref t) (tl2 ++ led)) := by
  unfold Kt
  intro dpC unC gdC cnC csC L aC ccdC clC outer A₀ base h₀ mC hp sg sd tk₀ ox Q E B F X N T hk hd hu hret
  refine wpAny_call ?_
  k_dflt (refine' code_defL (binds := [(Str.ofString "items", .ref l), (Str.ofString "upright", .bool true), (Str.ofString "mode", .int mode t1), (Str.ofString "amount", .int amount t2)]) (rb := [(Str.ofString "amount", .int amount t2), (Str.ofString "mode", .int mode t1), (Str.ofString "upright", .bool true), (Str.ofString "items", .ref l)]) ?k1 ?k2 ?k3 ?k4 ?k5 ?kA ?kF ?kK ?k6 ?k7 ?k8 ?k9 ?kB rfl ?_ ?c2 ?c3 ?c4 ?c5; (case kA => exact rfl); (case kF => exact rfl); (case kK => first | exact hk | exact rfl); (case k1 => exact B); (case k3 => exact X); (case k5 => exact T); (case k6 => k_is); (case k7 => k_is); (case c5 => decide); (case kB => exact locs rfl); (case c2 => exact rfl); (case c3 => exact rfl); (case c4 => exact rfl); (case k2 => exact F); (case k4 => exact N); (case k8 => exact dp_ltz hd); (case k9 => exact BindsTo.of_eq rfl); k_whole; intro g' L' h' tk' FG' m9 F' N' B' X' T' A9 qk ek)
  k_steps
  all_goals (first | exact hret _ _ _ tl9 f9 m9 d9 n9 _ _ (by assumption) (by assumption))

theorem law_pack_false_k {l : Addr} {n : Nat} {vs : List Value} {ds : List Nd} {S led : Led} {mode amount : Int} {t1 t2 : Tok} (hs : ∀ q ∈ S, q ∈ led) (hl : (l, PySem.W.listOf vs.toArray n) ∈ S) (hn : NodesIn w S vs ds) (hok : ∀ d ∈ ds, d.ok) (hlen : ds.length ≤ 100) (hv : vs ≠ []) (hm : mode = 0 ∨ mode = 1) (ha1 : -1000 ≤ amount) (ha2 : amount ≤ 1000) :
  Kt w p loose mean mg mb 10 (.ref 728) [.ref l, .bool false, .int mode t1, .int amount t2] [] led (fun K => ∀ t a rp tl2, (Ap tl2 led) → ((t, tupO [.ref a, .ref rp] 0) ∈ tl2) → (DatIn tl2 (.ref rp) (pkRep false ds mode amount)) → (NodeIn w (tl2 ++ S) (.ref a) (pkNd false ds mode amount)) → K (.ref t) (tl2 ++ led)) := by
  unfold Kt
  intro dpC unC gdC cnC csC L aC ccdC clC outer A₀ base h₀ mC hp sg sd tk₀ ox Q E B F X N T hk hd hu hret
  refine wpAny_call ?_
  k_dflt (refine' code_defL (binds := [(Str.ofString "items", .ref l), (Str.ofString "upright", .bool false), (Str.ofString "mode", .int mode t1), (Str.ofString "amount", .int amount t2)]) (rb := [(Str.ofString "amount", .int amount t2), (Str.ofString "mode", .int mode t1), (Str.ofString "upright", .bool false), (Str.ofString "items", .ref l)]) ?k1 ?k2 ?k3 ?k4 ?k5 ?kA ?kF ?kK ?k6 ?k7 ?k8 ?k9 ?kB rfl ?_ ?c2 ?c3 ?c4 ?c5; (case kA => exact rfl); (case kF => exact rfl); (case kK => first | exact hk | exact rfl); (case k1 => exact B); (case k3 => exact X); (case k5 => exact T); (case k6 => k_is); (case k7 => k_is); (case c5 => decide); (case kB => exact locs rfl); (case c2 => exact rfl); (case c3 => exact rfl); (case c4 => exact rfl); (case k2 => exact F); (case k4 => exact N); (case k8 => exact dp_ltz hd); (case k9 => exact BindsTo.of_eq rfl); k_whole; intro g' L' h' tk' FG' m9 F' N' B' X' T' A9 qk ek)
  k_steps
  all_goals (first | exact hret _ _ _ tl9 f9 m9 d9 n9 _ _ (by assumption) (by assumption))

theorem law_pack_k {l : Addr} {n : Nat} {vs : List Value} {ds : List Nd} {S led : Led} {up : Bool} {mode amount : Int} {t1 t2 : Tok} (hs : ∀ q ∈ S, q ∈ led) (hl : (l, PySem.W.listOf vs.toArray n) ∈ S) (hn : NodesIn w S vs ds) (hok : ∀ d ∈ ds, d.ok) (hlen : ds.length ≤ 100) (hv : vs ≠ []) (hm : mode = 0 ∨ mode = 1) (ha1 : -1000 ≤ amount) (ha2 : amount ≤ 1000) :
  Kt w p loose mean mg mb 10 (.ref 728) [.ref l, .bool up, .int mode t1, .int amount t2] [] led (fun K => ∀ t a rp tl2, (Ap tl2 led) → ((t, tupO [.ref a, .ref rp] 0) ∈ tl2) → (DatIn tl2 (.ref rp) (pkRep up ds mode amount)) → (NodeIn w (tl2 ++ S) (.ref a) (pkNd up ds mode amount)) → K (.ref t) (tl2 ++ led)) := by
  cases up
  · exact law_pack_false_k hs hl hn hok hlen hv hm ha1 ha2
  · exact law_pack_true_k hs hl hn hok hlen hv hm ha1 ha2

end
end
section
section
variable {w : World} {p : Program} {loose : List Str} {mean : ExcName → Option Value} {mg mb : Str → Option Value}
noncomputable def roomOf (g : Gl) (d : Nd) : Gl := ⟨max 0 (g.w - d.height), g.st, if g.st = 0 then 0 else g.so, g.sh, if g.sh = 0 then 0 else g.sho⟩
noncomputable def prn (g : Gl) : List Nd → List Nd
  | [] => []
  | d :: r => if d.kind = 2 ∨ d.kind = 3 ∨ d.kind = 4 then .skip (roomOf g d) 108 :: d :: r else if d.kind = 9 ∨ d.kind = 10 ∨ d.kind = 13 then d :: prn g r else prn g r
theorem prn_stand {g : Gl} {ds : List Nd} {i : Nat} {d : Nd} (h : ds[i]? = some d) (k : d.kind = 2 ∨ d.kind = 3 ∨ d.kind = 4) : prn g (ds.drop i) = .skip (roomOf g d) 108 :: ds.drop i := by
  rw [List.drop_eq_getElem?_toList_append, h]
  exact if_pos k
theorem prn_keep {g : Gl} {ds : List Nd} {i : Nat} {d : Nd} (h : ds[i]? = some d) (k : d.kind = 9 ∨ d.kind = 10 ∨ d.kind = 13) : prn g (ds.drop i) = d :: prn g (ds.drop (i + 1)) := by
  rw [List.drop_eq_getElem?_toList_append, h]
  exact (if_neg (by omega)).trans (if_pos k)
theorem prn_skip {g : Gl} {ds : List Nd} {i : Nat} {d : Nd} (h : ds[i]? = some d) (k : ¬ (d.kind = 2 ∨ d.kind = 3 ∨ d.kind = 4)) (k2 : ¬ (d.kind = 9 ∨ d.kind = 10 ∨ d.kind = 13)) : prn g (ds.drop i) = prn g (ds.drop (i + 1)) := by
  rw [List.drop_eq_getElem?_toList_append, h]
  exact (if_neg k).trans (if_neg k2)
theorem NodeIn.hha {w : World} {S : Led} {a : Addr} {nd : Nd} (h : NodeIn w S (.ref a) nd) (hb : nd.bk) (k : nd.kind = 2 ∨ nd.kind = 3 ∨ nd.kind = 4) : (∃ t, At w S a "height" (.int nd.height t)) ∨ (nd.height = 0 ∧ At w S a "height" .none) := by
  rcases k with k | k | k
  · exact .inl (h.hht hb (.inl k))
  · exact .inl (h.hht hb (.inr k))
  · exact h.hrh hb k
theorem pr_fin {w : World} {S tlA : Led} {x : Addr × Obj} {ks vs : List Value} {kd ds : List Nd} {v : Value} {g gl : Gl} {d : Nd} {i : Nat} (h1 : NodesIn w S ks kd) (h2 : NodeIn w tlA v (.skip gl 108)) (h3 : NodesIn w S vs ds) (e : prn g ds = kd ++ prn g (ds.drop i)) (hd : ds[i]? = some d) (k : d.kind = 2 ∨ d.kind = 3 ∨ d.kind = 4) (eg : roomOf g d = gl) : NodesIn w (x :: tlA ++ S) (ks ++ [v] ++ vs.drop i) (prn g ds) := by
  rw [e, prn_stand hd k, eg, show kd ++ (Nd.skip gl 108 :: ds.drop i) = kd ++ [Nd.skip gl 108] ++ ds.drop i by simp]
  have hS : ∀ q ∈ S, q ∈ x :: tlA ++ S := fun q h => List.mem_append_right _ h
  exact ((h1.mono hS).snoc (h2.mono fun q h => List.mem_append_left _ (.tail _ h))).append ((h3.mono hS).drop i)
theorem name_list {P : Prop} {h₀ h : Heap} {L K : Addr} {n : Nat} {led : Led} (_ : News h₀ L h ((K, PySem.W.listOf ([] : List Value).toArray n) :: led)) (k : ∀ K9 : Addr, K9 = K → P) : P := k K rfl
theorem get_ex {vs : List Value} {i : Nat} (h : i < vs.length) : ∃ v, vs[i]? = some v ∧ vs[((i : Nat) : Int).toNat]? = some v := ⟨vs[i], by simp [h], by rw [Int.toNat_natCast]; simp [h]⟩
theorem rs_nat (n : Nat) : Builtin.Range.rangeSize 0 (n : Int) 1 = (n : Int) := by rw [rangeSize_nat]; omega
theorem off_list {led own : Led} {K : Addr} {o : Obj} (h : ∀ p ∈ led, p.1 ≠ K) (ho : OwnOff own (([(K, o)] ++ led).map (·.1))) : ∀ p ∈ led ++ own, p.1 ≠ K := fun p hp => (List.mem_append.mp hp).elim (h p) fun hp => ho p hp K (.head _)
theorem off_ltP {led : Led} {K : Addr} (h : ∀ p ∈ led, @LT.lt Nat _ p.1 K) : ∀ p ∈ led, p.1 ≠ K := fun p hp => Nat.ne_of_lt (h p hp)
theorem reg_AP1_3309 : True := by
  k_with "mine:ap5" => first | (first | exact Ap.nil | ((refine Ap.app ?_ ?_); k_extra "mine:ap5"; k_extra "mine:ap5") | exact Ap.of_fresh (Fresh.sub (by assumption) (by k_extra "mine:sub")) | ((refine Ap.cons (AllLt_off ?_) ?_); k_extra "mine:allt2"; k_extra "mine:ap5")) | fail
  k_with "w:call builtin:len" => first | ((k_here; (with_reducible show wpAny _ _ (call (Value.builtin _) [Value.ref _]) _ _ _); ((first | with_reducible refine' len_led ?N_k9 ?m_k9 ?z_k9 ?_ | k_dflt (refine' len_led ?N_k9 ?m_k9 ?z_k9 ?_)); k_dflt ((case N_k9 => k_asm); (case m_k9 => first | assumption | k_mem); (case z_k9 => omega); k_whole)))) | fail
  k_with "w:compareOp In int ref" => first | ((k_here; (with_reducible show wpAny _ _ (compareOp CmpOp.In (Value.int _ _) (Value.ref _)) _ _ _); ((first | with_reducible refine' in_ints ?l_k9 ?i_k9 ?_ ?_ | k_dflt (refine' in_ints ?l_k9 ?i_k9 ?_ ?_)); k_dflt ((case l_k9 => first | exact News.isTup (by k_asm) (by k_mem) | exact kun_topT (by k_asm) (by k_asm) (by k_is)); (case i_k9 => first | exact .cons _ _ (.cons _ _ (.cons _ _ (.cons _ _ .nil))) | exact .cons _ _ (.cons _ _ (.cons _ _ .nil)) | exact .cons _ _ (.cons _ _ .nil)))); (all_goals (intro z9; simp only [List.mem_cons, List.not_mem_nil, or_false] at z9)))) | fail
  k_with "w:subscriptTail Name Name ref int" => first | ((k_here; (with_reducible show wpAny _ _ (subscriptTail _ _ (Value.ref _) (Value.int _ _)) _ _ _); ((first | with_reducible refine' item_led ?N_k9 ?m_k9 ?a_k9 ?b_k9 ?x_k9 ?_ ?s_k9 | k_dflt (refine' item_led ?N_k9 ?m_k9 ?a_k9 ?b_k9 ?x_k9 ?_ ?s_k9)); k_dflt ((case N_k9 => k_asm); (case m_k9 => k_extra "mine:in"); (case a_k9 => omega); (case b_k9 => omega); (case x_k9 => exact hv9'); (case s_k9 => with_unfolding_all rfl); k_whole)))) | fail
  k_with "w:call builtin:max" => first | ((k_here; (with_reducible show wpAny _ _ (call (Value.builtin _) [Value.int _ _, Value.int _ _]) _ _ _); ((first | with_reducible refine' max_int ?hh_k9 ?F_k9 ?N_k9 ?_ | k_dflt (refine' max_int ?hh_k9 ?F_k9 ?N_k9 ?_)); k_dflt ((case hh_k9 => exact rfl); (case F_k9 => k_asm); (case N_k9 => k_asm))); intro h9 tk9 v9 F9 N9)) | fail
  k_with "w:getAttr ref" => first | ((k_here; (with_reducible show wpAny _ _ (getAttr _ (PySem.Str.ofString "height") _) _ _ _); first | (((first | with_reducible refine' at_get ?h_k9 ?F_k9 ?X_k9 ?N_k9 ?s_k9 ?_ | k_dflt (refine' at_get ?h_k9 ?F_k9 ?X_k9 ?N_k9 ?s_k9 ?_)); k_dflt ((case h_k9 => with_reducible assumption); (case F_k9 => k_asm); (case X_k9 => k_asm); (case N_k9 => k_asm); (case s_k9 => k_extra "mine:sub"); k_whole))) | ((refine kimp (P := nd9.kind = 2 ∨ nd9.kind = 3 ∨ nd9.kind = 4) ?_ fun k9 => ?_); (focus omega); rcases hn9.hha hb9 k9 with ⟨t9, q9⟩ | ⟨he9, q9⟩ <;> (((first | with_reducible refine' at_get (S := led) q9 ?F_k9 ?X_k9 ?N_k9 ?s_k9 ?_ | k_dflt (refine' at_get (S := led) q9 ?F_k9 ?X_k9 ?N_k9 ?s_k9 ?_)); k_dflt ((case F_k9 => k_asm); (case X_k9 => k_asm); (case N_k9 => k_asm); (case s_k9 => k_extra "mine:sub"); k_whole)))))) | fail
  k_with "w:call builtin:list.append" => first | ((k_here; ((first | with_reducible refine' append_led ?F_k9 ?N_k9 (Upd.head hoK9) ?z_k9 ?_ | k_dflt (refine' append_led ?F_k9 ?N_k9 (Upd.head hoK9) ?z_k9 ?_)); k_dflt ((case F_k9 => k_asm); (case N_k9 => k_asm); (case z_k9 => omega); k_whole)); intro h9 F9 N9)) | fail
  k_with "w:binaryOp Add ref ref" => first | ((k_here; (with_reducible show wpAny _ _ (binaryOp _ (Value.ref _) (Value.ref _)) _ _ _); ((first | with_reducible refine' list_cat ?F_k9 ?N_k9 ?a_k9 ?b_k9 ?z_k9 ?y_k9 ?_ | k_dflt (refine' list_cat ?F_k9 ?N_k9 ?a_k9 ?b_k9 ?z_k9 ?y_k9 ?_)); k_dflt ((case F_k9 => k_asm); (case N_k9 => k_asm); (case a_k9 => first | k_mem | k_extra "mine:in"); (case b_k9 => first | k_mem | k_extra "mine:in"); (case z_k9 => ((try simp only [List.length_append, List.length_cons, List.length_nil]); omega)); (case y_k9 => ((try simp only [List.length_append, List.length_cons, List.length_nil, List.length_drop]); omega)); k_whole)); intro D' h' F' N' l1; (try k_lt l1))) | fail
  k_with "w:subscriptTail Name Slice ref ref" => first | ((k_here; (with_reducible show wpAny _ _ (subscriptTail _ (PySem.Expr.Slice _ _ none _) (Value.ref _) (Value.ref _)) _ _ _); ((first | with_reducible refine' slice_led ?F_k9 ?N_k9 ?l_k9 ?p_k9 ?q_k9 ?e_k9 ?z_k9 ?_ ?s_k9 ?t_k9 | k_dflt (refine' slice_led ?F_k9 ?N_k9 ?l_k9 ?p_k9 ?q_k9 ?e_k9 ?z_k9 ?_ ?s_k9 ?t_k9)); k_dflt ((case F_k9 => k_asm); (case N_k9 => k_asm); (case l_k9 => k_extra "mine:in"); (case p_k9 => kmk_part); (case q_k9 => kmk_part); (case e_k9 => first | exact pick_from _ _ | exact pick_upto _ _ | exact pick_init _); (case z_k9 => omega); (case s_k9 => with_unfolding_all rfl); (case t_k9 => kmk_pure); k_whole)); intro D' h' F' N' l1; (try k_lt l1))) | fail
  k_with "w:InvEndG" => first | ((((first | with_reducible refine' loop_end (dyn₀ := [(K9, PySem.W.listOf ks9.toArray kn9)]) (dyn := [(K9, PySem.W.listOf (ks9 ++ [Value.ref a9]).toArray (kn9 + 1))]) (ks9 ++ [Value.ref a9], kn9 + 1) ?F_k9 ?N_k9 ?hn_k9 ?ha_k9 ?hadr_k9 ?hk_k9 ?hr_k9 ?hi_k9 | k_dflt (refine' loop_end (dyn₀ := [(K9, PySem.W.listOf ks9.toArray kn9)]) (dyn := [(K9, PySem.W.listOf (ks9 ++ [Value.ref a9]).toArray (kn9 + 1))]) (ks9 ++ [Value.ref a9], kn9 + 1) ?F_k9 ?N_k9 ?hn_k9 ?ha_k9 ?hadr_k9 ?hk_k9 ?hr_k9 ?hi_k9)); k_dflt ((case F_k9 => k_asm); (case N_k9 => k_asm); (case hn_k9 => exact fun _ h => h); (case ha_k9 => assumption); (case hadr_k9 => exact rfl); (case hk_k9 => exact List.forall_mem_nil _); (case hr_k9 => kst_same); (case hi_k9 => exact ⟨rfl, _, hk1.snoc hnS, (by rw [hk2, prn_keep hnd9 (by omega)]; simp), (by simp only [List.length_append, List.length_cons, List.length_nil]; omega)⟩))))) | fail
  k_with "w:InvEndG" => first | ((((first | with_reducible refine' loop_end (dyn₀ := [(K9, PySem.W.listOf ks9.toArray kn9)]) (dyn := [(K9, PySem.W.listOf ks9.toArray kn9)]) (ks9, kn9) ?F_k9 ?N_k9 ?hn_k9 ?ha_k9 ?hadr_k9 ?hk_k9 ?hr_k9 ?hi_k9 | k_dflt (refine' loop_end (dyn₀ := [(K9, PySem.W.listOf ks9.toArray kn9)]) (dyn := [(K9, PySem.W.listOf ks9.toArray kn9)]) (ks9, kn9) ?F_k9 ?N_k9 ?hn_k9 ?ha_k9 ?hadr_k9 ?hk_k9 ?hr_k9 ?hi_k9)); k_dflt ((case F_k9 => k_asm); (case N_k9 => k_asm); (case hn_k9 => exact fun _ h => h); (case ha_k9 => assumption); (case hadr_k9 => exact rfl); (case hk_k9 => exact List.forall_mem_nil _); (case hr_k9 => kst_same); (case hi_k9 => exact ⟨rfl, _, hk1, (by rw [hk2, prn_skip hnd9 (by omega) (by omega)]), (by (try dsimp only); omega)⟩))))) | fail
  k_with "w:call ref" => first | ((k_here; (with_reducible show wpAny _ _ (call (Value.ref 422) _ _) _ _ _); ((first | with_reducible refine' Kt.use skip_k1 ?hh_k9 ?hf_k9 ?B_k9 ?F_k9 ?X_k9 ?N_k9 ?T_k9 ?hk_k9 ?hd_k9 ?hu_k9 ?_ | k_dflt (refine' Kt.use skip_k1 ?hh_k9 ?hf_k9 ?B_k9 ?F_k9 ?X_k9 ?N_k9 ?T_k9 ?hk_k9 ?hd_k9 ?hu_k9 ?_)); k_dflt ((case F_k9 => k_asm); (case B_k9 => k_asm); (case X_k9 => k_asm); (case N_k9 => k_asm); (case T_k9 => k_asm); (case hh_k9 => exact rfl); (case hf_k9 => exact rfl); (case hk_k9 => first | exact rfl | assumption); (case hd_k9 => k_extra "mine:dp"); (case hu_k9 => k_extra "mine:un"))); intro sa9 tlk9 fk9 nk9 h9 tk9 F9 N9; (try k_sweep); (try dsimp only); (try k_fold))) | fail
  k_with "w:call ref" => first | ((k_here; (with_reducible show wpAny _ _ (call (Value.ref 250) _ _) _ _ _); ((first | with_reducible refine' Kt.use (glue_k ?c1_k9 ?c2_k9 ?c3_k9 ?c4_k9 ?c5_k9 ?c6_k9 ?c7_k9 ?c8_k9 ?c9_k9 ?c10_k9) ?hh_k9 ?hf_k9 ?B_k9 ?F_k9 ?X_k9 ?N_k9 ?T_k9 ?hk_k9 ?hd_k9 ?hu_k9 ?_ | k_dflt (refine' Kt.use (glue_k ?c1_k9 ?c2_k9 ?c3_k9 ?c4_k9 ?c5_k9 ?c6_k9 ?c7_k9 ?c8_k9 ?c9_k9 ?c10_k9) ?hh_k9 ?hf_k9 ?B_k9 ?F_k9 ?X_k9 ?N_k9 ?T_k9 ?hk_k9 ?hd_k9 ?hu_k9 ?_)); k_dflt ((case F_k9 => k_asm); (case B_k9 => k_asm); (case X_k9 => k_asm); (case N_k9 => k_asm); (case T_k9 => k_asm); (case hh_k9 => exact rfl); (case hf_k9 => exact rfl); (case hk_k9 => first | exact rfl | assumption); (case hd_k9 => k_extra "mine:dp"); (case hu_k9 => k_extra "mine:un"); (case c1_k9 => first | assumption | (refine Int.le_trans ?_ (by assumption); decide) | (refine Int.le_trans (by assumption) ?_; decide) | omega); (case c2_k9 => first | assumption | (refine Int.le_trans ?_ (by assumption); decide) | (refine Int.le_trans (by assumption) ?_; decide) | omega); (case c3_k9 => first | assumption | (refine Int.le_trans ?_ (by assumption); decide) | (refine Int.le_trans (by assumption) ?_; decide) | omega); (case c4_k9 => first | assumption | (refine Int.le_trans ?_ (by assumption); decide) | (refine Int.le_trans (by assumption) ?_; decide) | omega); (case c5_k9 => first | assumption | (refine Int.le_trans ?_ (by assumption); decide) | (refine Int.le_trans (by assumption) ?_; decide) | omega); (case c6_k9 => first | assumption | (refine Int.le_trans ?_ (by assumption); decide) | (refine Int.le_trans (by assumption) ?_; decide) | omega); (case c7_k9 => first | assumption | (refine Int.le_trans ?_ (by assumption); decide) | (refine Int.le_trans (by assumption) ?_; decide) | omega); (case c8_k9 => first | assumption | (refine Int.le_trans ?_ (by assumption); decide) | (refine Int.le_trans (by assumption) ?_; decide) | omega); (case c9_k9 => first | assumption | (refine Int.le_trans ?_ (by assumption); decide) | (refine Int.le_trans (by assumption) ?_; decide) | omega); (case c10_k9 => first | assumption | (refine Int.le_trans ?_ (by assumption); decide) | (refine Int.le_trans (by assumption) ?_; decide) | omega))); intro a9 tl9 so9 sho9 f9 e3 e4 gg9 h9 tk9 F9 N9; subst e3; subst e4; (try k_sweep); (try dsimp only); (try k_fold))) | fail
  trivial
theorem pruned_ok_k {l ga : Addr} {n : Nat} {g : Gl} {vs : List Value} {ds : List Nd} {S led : Led} (hs : ∀ q ∈ S, q ∈ led) (hl : (l, PySem.W.listOf vs.toArray n) ∈ S) (hn : NodesIn w S vs ds) (hg : GlueIn w S ga g) (hgo : g.ok) (hq : ∀ d ∈ ds, d.bk ∧ -1000 ≤ d.height ∧ d.height ≤ 1000) (hlen : vs.length ≤ 100) :
  Kt w p loose mean mg mb 6 (.ref 578) [.ref l, .ref ga] [] led (fun K => ∀ a ks nn tl2, (Ap tl2 led) → ((a, PySem.W.listOf ks.toArray nn) ∈ tl2) → (NodesIn w (tl2 ++ S) ks (prn g ds)) → K (.ref a) (tl2 ++ led)) := by
  unfold Kt
  intro dpC unC gdC cnC csC L aC ccdC clC outer A₀ base h₀ mC hp sg sd tk₀ ox Q E B F X N T hk hd hu hret
  have hl0 := hs _ hl
  have hn0 := hn.mono hs
  have hg0 := hg.mono hs
  obtain ⟨⟨_, gg1⟩, ⟨_, gg2⟩, ⟨_, gg3⟩, ⟨_, gg4⟩, ⟨_, gg5⟩, gg6⟩ := hg0
  obtain ⟨g1, g2, g3, g4, g5, g6, g7, g8, g9, g10⟩ := hgo
  k_with "w:pyIter ref" => first | k_dflt (((with_reducible show wpAny _ _ (pyIter (Value.ref _)) (fun it s₂ => LoopAtV _ _ _ _ _ _ _ _ _ it s₂) _ _); k_here; (rename Fr _ _ _ _ => lF'); (rename News _ _ _ _ => lN'); (rename IsRange _ _ _ _ _ _ _ _ => rgX); (refine name_list lN' fun K9 eK => ?_); subst eK; (with_unfolding_all refine' loop_range (n := vs.length) [(K9, PySem.W.listOf ([] : List Value).toArray 0)] led (fun (_ : List Value × Nat) => []) [Str.ofString "node", Str.ofString "height", Str.ofString "room"] (fun i c dyn => dyn = [(K9, PySem.W.listOf c.1.toArray c.2)] ∧ ∃ kd, NodesIn w S c.1 kd ∧ prn g ds = kd ++ prn g (ds.drop i) ∧ c.1.length ≤ i) ([], 0) ?hz lF' lN' rgX ?sm ?rs ?hk ?hj ?_ ?_); (case hz => (with_unfolding_all exact rfl)); (case sm => exact small_one (by omega) (by omega) (by omega) (by omega)); (case rs => exact rs_nat _); (case hk => exact List.forall_mem_nil _); (case hj => exact ⟨rfl, [], .nil, rfl, Nat.le_refl _⟩); (all_goals (try clear lF' lN')); (focus (intro i9 ti9 c9 dyn9 u9 h9 tk9 own9 hi9 hv0 hoff9 F9 N9; obtain ⟨ks9, kn9⟩ := c9; obtain ⟨ed9, kd9, hk1, hk2, hk3⟩ := hv0; (dsimp only at ed9 hk1 hk3); subst ed9; (dsimp only [kstB] at F9); (simp only [List.cons_append, List.nil_append] at N9); obtain ⟨v9, hv9, hv9'⟩ := get_ex hi9; obtain ⟨nd9, hnd9, hnS⟩ := hn.get hv9; have hn9 := hnS.mono hs; obtain ⟨a9, tt9, e9, hk9⟩ := hn9.kd; subst e9; have hm9 := List.mem_of_getElem? hnd9; have hb9 := (hq nd9 hm9).1; have hh9 := (hq nd9 hm9).2; obtain ⟨k1, k2, k3, k4, k5⟩ := hn9.kb hb9; have hoK9 := off_list (by first | exact off_ltP (by assumption) | exact off_ltA (by assumption)) hoff9)); rotate_left 1; (focus (intro c9 dyn9 u9 h9 tk9 hv0 F9 N9; obtain ⟨ks9, kn9⟩ := c9; obtain ⟨ed9, kd9, hk1, hk2, hk3⟩ := hv0; (dsimp only at ed9 hk1 hk3); subst ed9; (dsimp only [kstB] at F9); (simp only [List.cons_append, List.nil_append] at N9))); rotate_left 1)) | fail
  refine wpAny_call ?_
  k_dflt (refine' code_defL (binds := [(Str.ofString "items", .ref l), (Str.ofString "top", .ref ga)]) (rb := [(Str.ofString "top", .ref ga), (Str.ofString "items", .ref l)]) ?k1 ?k2 ?k3 ?k4 ?k5 ?kA ?kF ?kK ?k6 ?k7 ?k8 ?k9 ?kB rfl ?_ ?c2 ?c3 ?c4 ?c5; (case kA => exact rfl); (case kF => exact rfl); (case kK => first | exact hk | exact rfl); (case k1 => exact B); (case k3 => exact X); (case k5 => exact T); (case k6 => k_is); (case k7 => k_is); (case c5 => decide); (case kB => exact locs rfl); (case c2 => exact rfl); (case c3 => exact rfl); (case c4 => exact rfl); (case k2 => exact F); (case k4 => exact N); (case k8 => exact dp_ltz hd); (case k9 => exact BindsTo.of_eq rfl); k_whole; intro g' L' h' tk' FG' m9 F' N' B' X' T' A9 qk ek)
  k_steps
  all_goals (first | ((have b9K : ∀ p ∈ led, p.1 ≠ K9 := fun p hp => hoK9 p (List.mem_append_left _ hp)); (repeat (rename _ ∧ _ => z9; obtain ⟨_, _⟩ := z9)); refine' hret _ _ _ ((_, PySem.W.listOf (ks9 ++ [Value.ref sa9] ++ vs.drop i9).toArray 0) :: (tlk9 ++ tl9)) ?zA8 (.head _) (pr_fin hk1 (nk9 tl9 _ gg9) hn hk2 hnd9 (by omega) (by first | rfl | (unfold roomOf; rw [he9]))) _ _ ?zF8 (News.re ?zN8 ?zS8); (case zF8 => assumption); (case zN8 => assumption); (case zS8 => ((simp only [List.cons_append, List.append_assoc]); k_extra "mine:subs")); (case zA8 => k_extra "mine:ap5")) | (refine hret _ ks9 _ [(K9, _)] (Ap.cons (by first | exact off_ltP (by assumption) | exact off_ltA (by assumption)) Ap.nil) (.head _) ?_ _ _ (by assumption) (by assumption); rw [hk2, List.drop_of_length_le (by rw [← hn.length]; exact Nat.le_refl _), show prn g [] = [] from rfl, List.append_nil]; exact hk1.mono fun _ h => List.mem_append_right _ h))

end
end
section
section
variable {w : World} {p : Program} {loose : List Str} {mean : ExcName → Option Value} {mg mb : Str → Option Value}
theorem reg_AB1b_ub : True := by
  k_with "w:ite" => first | ((k_here; k_openite; first | ((with_reducible refine ite_nbt ?_ ?_); (focus omega); walk_say "MINE pruned") | ((with_reducible refine ite_nbf ?_ ?_); (focus omega); walk_say "MINE pruned") | ((with_reducible refine ite_bnt ?_ ?_); (focus omega); walk_say "MINE pruned") | ((with_reducible refine ite_bnf ?_ ?_); (focus omega); walk_say "MINE pruned"))) | fail
  k_with "w:call type:list" => first | ((k_here; (with_reducible show wpAny _ _ (call (Value.type _) [Value.ref _]) _ _ _); ((first | with_reducible refine' copy_led ?F_k9 ?N_k9 ?m_k9 ?z_k9 ?_ | k_dflt (refine' copy_led ?F_k9 ?N_k9 ?m_k9 ?z_k9 ?_)); k_dflt ((case F_k9 => k_asm); (case N_k9 => k_asm); (case m_k9 => with_reducible assumption); (case z_k9 => omega); k_whole)); intro D' c' h' F' N' l1; (try k_lt l1))) | fail
  k_with "mine:in" => first | (exact hs _ (by with_reducible assumption)) | fail
  trivial

theorem unboxed_ok_k {a l : Addr} {k : Int} {t t2 : Tok} {vs : List Value} {n : Nat} {S led : Led} (hs : ∀ q ∈ S, q ∈ led) (h1 : At w S a "kind" (.int k t)) (h2 : At w S a "items" (.ref l)) (h3 : (l, PySem.W.listOf vs.toArray n) ∈ S) (hz : vs.length ≤ 100) :
  Kt w p loose mean mg mb 2 (.ref 585) [.ref a, .int k t2] [] led (fun K => ∀ D c, (AllLt D led) → K (.ref D) ((D, PySem.W.listOf vs.toArray c) :: led)) := by
  unfold Kt
  intro dpC unC gdC cnC csC L aC ccdC clC outer A₀ base h₀ mC hp sg sd tk₀ ox Q E B F X N T hk hd hu hret
  have h3 := hs _ h3
  refine wpAny_call ?_
  k_dflt (refine' code_defL (binds := [(Str.ofString "box", .ref a), (Str.ofString "kind", .int k t2)]) (rb := [(Str.ofString "kind", .int k t2), (Str.ofString "box", .ref a)]) ?k1 ?k2 ?k3 ?k4 ?k5 ?kA ?kF ?kK ?k6 ?k7 ?k8 ?k9 ?kB rfl ?_ ?c2 ?c3 ?c4 ?c5; (case kA => exact rfl); (case kF => exact rfl); (case kK => first | exact hk | exact rfl); (case k1 => exact B); (case k3 => exact X); (case k5 => exact T); (case k6 => k_is); (case k7 => k_is); (case c5 => decide); (case kB => exact locs rfl); (case c2 => exact rfl); (case c3 => exact rfl); (case c4 => exact rfl); (case k2 => exact F); (case k4 => exact N); (case k8 => exact dp_ltz hd); (case k9 => exact BindsTo.of_eq rfl); k_whole; intro g' L' h' tk' FG' m9 F' N' B' X' T' A9 qk ek)
  k_steps
  all_goals (first | (refine hret D' c' (by first | assumption | exact allLt_of (by assumption)) _ _ (by assumption) (by assumption)))

theorem unboxed_none_k {k : Int} {t2 : Tok} {led : Led}  :
  Kt w p loose mean mg mb 2 (.ref 585) [.none, .int k t2] [] led (fun K => ∀ D c, (AllLt D led) → K (.ref D) ((D, PySem.W.listOf ([] : List Value).toArray c) :: led)) := by
  unfold Kt
  intro dpC unC gdC cnC csC L aC ccdC clC outer A₀ base h₀ mC hp sg sd tk₀ ox Q E B F X N T hk hd hu hret
  refine wpAny_call ?_
  k_dflt (refine' code_defL (binds := [(Str.ofString "box", .none), (Str.ofString "kind", .int k t2)]) (rb := [(Str.ofString "kind", .int k t2), (Str.ofString "box", .none)]) ?k1 ?k2 ?k3 ?k4 ?k5 ?kA ?kF ?kK ?k6 ?k7 ?k8 ?k9 ?kB rfl ?_ ?c2 ?c3 ?c4 ?c5; (case kA => exact rfl); (case kF => exact rfl); (case kK => first | exact hk | exact rfl); (case k1 => exact B); (case k3 => exact X); (case k5 => exact T); (case k6 => k_is); (case k7 => k_is); (case c5 => decide); (case kB => exact locs rfl); (case c2 => exact rfl); (case c3 => exact rfl); (case c4 => exact rfl); (case k2 => exact F); (case k4 => exact N); (case k8 => exact dp_ltz hd); (case k9 => exact BindsTo.of_eq rfl); k_whole; intro g' L' h' tk' FG' m9 F' N' B' X' T' A9 qk ek)
  k_steps
  all_goals (first | (refine hret _ _ (by first | assumption | exact allLt_of (by assumption)) _ _ (by assumption) (by assumption)))

end
end
section
section
variable {w : World} {p : Program} {loose : List Str} {mean : ExcName → Option Value} {mg mb : Str → Option Value}
section
variable {prog : Program} {w : World} {A : Around} {E : Value → Shared → Prop} {s : Shared} {h₀ : Heap} {L a b : Addr} {led : Led} {Q : Value → Shared → Prop}
theorem eq_nilT {n k : Nat} (N : News h₀ L s.heap led) (ma : (a, PySem.W.listOf ([] : List Value).toArray n) ∈ led) (mb : (b, PySem.W.listOf ([] : List Value).toArray k) ∈ led) (hu : A.units < cLine) (h : Q (.bool true) s) : wpAny (model prog w) A (compareOp .Eq (.ref a) (.ref b)) Q E s := eq_nil N ma mb hu h
theorem eq_nilF {us : List Value} {x : Value} {n k : Nat} (N : News h₀ L s.heap led) (ma : (a, PySem.W.listOf (us ++ [x]).toArray n) ∈ led) (mb : (b, PySem.W.listOf ([] : List Value).toArray k) ∈ led) (hu : A.units < cLine) (h : Q (.bool false) s) : wpAny (model prog w) A (compareOp .Eq (.ref a) (.ref b)) Q E s := eq_nil N ma mb hu (by cases us <;> exact h)
end
theorem pick_last (us : List Value) (x : Value) : kms_pick (us ++ [x]) none (some (-1)) = us := by
  rw [pick_init]; simp
theorem reg_last : True := by
  k_with "w:compareOp Eq ref ref" => first | ((k_here; first | (((first | with_reducible refine' eq_nilF ?N_k9 ?a_k9 ?b_k9 ?u_k9 ?_ | k_dflt (refine' eq_nilF ?N_k9 ?a_k9 ?b_k9 ?u_k9 ?_)); k_dflt ((case N_k9 => k_asm); (case b_k9 => k_mem); (case a_k9 => first | k_mem | k_extra "mine:in"); (case u_k9 => k_extra "mine:units"); k_whole))) | (((first | with_reducible refine' eq_nilT ?N_k9 ?a_k9 ?b_k9 ?u_k9 ?_ | k_dflt (refine' eq_nilT ?N_k9 ?a_k9 ?b_k9 ?u_k9 ?_)); k_dflt ((case N_k9 => k_asm); (case b_k9 => k_mem); (case a_k9 => first | k_mem | k_extra "mine:in"); (case u_k9 => k_extra "mine:units"); k_whole))))) | fail
  k_with "w:ite" => first | ((k_here; k_openite; first | ((with_reducible refine ite_ibt ?_ ?_); (focus omega); walk_say "MINE pruned") | ((with_reducible refine ite_ibf ?_ ?_); (focus omega); walk_say "MINE pruned") | ((with_reducible refine ite_nbt ?_ ?_); (focus omega); walk_say "MINE pruned") | ((with_reducible refine ite_nbf ?_ ?_); (focus omega); walk_say "MINE pruned") | ((with_reducible refine ite_bnt ?_ ?_); (focus omega); walk_say "MINE pruned") | ((with_reducible refine ite_bnf ?_ ?_); (focus omega); walk_say "MINE pruned"))) | fail
  k_with "w:subscriptTail Name UnaryOp ref int" => first | ((k_here; (with_reducible show wpAny _ _ (subscriptTail _ _ (Value.ref _) (Value.int _ _)) _ _ _); ((first | with_reducible refine' item_last ?N_k9 ?m_k9 ?z_k9 ?_ ?s_k9 | k_dflt (refine' item_last ?N_k9 ?m_k9 ?z_k9 ?_ ?s_k9)); k_dflt ((case N_k9 => k_asm); (case m_k9 => k_extra "mine:in"); (case z_k9 => omega); (case s_k9 => with_unfolding_all rfl); k_whole)))) | fail
  k_with "w:subscriptTail Name Slice ref ref" => first | ((k_here; (with_reducible show wpAny _ _ (subscriptTail _ (PySem.Expr.Slice _ _ none _) (Value.ref _) (Value.ref _)) _ _ _); ((first | with_reducible refine' slice_led ?F_k9 ?N_k9 ?l_k9 ?p_k9 ?q_k9 ?e_k9 ?z_k9 ?_ ?s_k9 ?t_k9 | k_dflt (refine' slice_led ?F_k9 ?N_k9 ?l_k9 ?p_k9 ?q_k9 ?e_k9 ?z_k9 ?_ ?s_k9 ?t_k9)); k_dflt ((case F_k9 => k_asm); (case N_k9 => k_asm); (case l_k9 => k_extra "mine:in"); (case p_k9 => kmk_part); (case q_k9 => kmk_part); (case e_k9 => exact pick_last _ _); (case z_k9 => (rw [List.length_append, List.length_singleton]; omega)); (case s_k9 => with_unfolding_all rfl); (case t_k9 => kmk_pure); k_whole)); intro D' h' F' N' l1; (try k_lt l1))) | fail
  k_with "w:call type:list" => first | ((k_here; (with_reducible show wpAny _ _ (call (Value.type _) [Value.ref _]) _ _ _); ((first | with_reducible refine' copy_led ?F_k9 ?N_k9 ?m_k9 ?z_k9 ?_ | k_dflt (refine' copy_led ?F_k9 ?N_k9 ?m_k9 ?z_k9 ?_)); k_dflt ((case F_k9 => k_asm); (case N_k9 => k_asm); (case m_k9 => first | k_extra "mine:in" | k_mem); (case z_k9 => ((try rw [List.length_append, List.length_singleton]); (try rw [List.length_nil]); omega)); k_whole)); intro D' c' h' F' N' l1; (try k_lt l1))) | fail
  trivial
theorem item_last {prog : Program} {w : World} {A : Around} {E : Value → Shared → Prop} {s : Shared} {h₀ : Heap} {L : Addr} {led : Led} {value slice : PySem.Expr} {l : Addr} {us : List Value} {n : Nat} {u : Tok} {v : Value} {Q : Value → Shared → Prop} (N : News h₀ L s.heap led) (hm : (l, PySem.W.listOf (us ++ [v]).toArray n) ∈ led) (hz : us.length ≤ 1000) (h : Q v s)
    (hs : subscripted slice false (.ref l) (.int (-1) u) = operate [.ref l, .int (-1) u] (getItem (.ref l) (.int (-1) u))) :
    wpAny (model prog w) A (subscriptTail value slice (.ref l) (.int (-1) u)) Q E s :=
  have hl : s.heap.IsList l (us ++ [v]).toArray := ⟨_, N.get hm, rfl, n, rfl⟩
  tail_any hl.typeIs slot_list_getitem.lookup (wpAny_getItem_list_neg hl (by decide) (by simp; omega) (by decide) (by
    rw [List.size_toArray, List.length_append, List.length_singleton, show ((-1 : Int) + ((us.length + 1 : Nat) : Int)).toNat = us.length by omega]
    simp) h) hs

theorem last_box_nil_k {l : Addr} {n : Nat} {led : Led} (hl : (l, PySem.W.listOf ([] : List Value).toArray n) ∈ led) :
  Kt w p loose mean mg mb 2 (.ref 592) [.ref l] [] led (fun K => ∀ t D c, ((∀ p ∈ led, p.1 ≠ D)) → (t ≠ D) → K (.ref t) ((t, tupO [.none, .ref D] 0) :: (D, PySem.W.listOf ([] : List Value).toArray c) :: led)) := by
  unfold Kt
  intro dpC unC gdC cnC csC L aC ccdC clC outer A₀ base h₀ mC hp sg sd tk₀ ox Q E B F X N T hk hd hu hret
  refine wpAny_call ?_
  k_dflt (refine' code_defL (binds := [(Str.ofString "items", .ref l)]) (rb := [(Str.ofString "items", .ref l)]) ?k1 ?k2 ?k3 ?k4 ?k5 ?kA ?kF ?kK ?k6 ?k7 ?k8 ?k9 ?kB rfl ?_ ?c2 ?c3 ?c4 ?c5; (case kA => exact rfl); (case kF => exact rfl); (case kK => first | exact hk | exact rfl); (case k1 => exact B); (case k3 => exact X); (case k5 => exact T); (case k6 => k_is); (case k7 => k_is); (case c5 => decide); (case kB => exact locs rfl); (case c2 => exact rfl); (case c3 => exact rfl); (case c4 => exact rfl); (case k2 => exact F); (case k4 => exact N); (case k8 => exact dp_ltz hd); (case k9 => exact BindsTo.of_eq rfl); k_whole; intro g' L' h' tk' FG' m9 F' N' B' X' T' A9 qk ek)
  k_steps
  all_goals (first | ((repeat (rename _ ∧ _ => z9; obtain ⟨_, _⟩ := z9)); refine hret _ _ c' (off_ltA (by assumption)) (ne_ltA (by assumption)) _ _ (by assumption) (News.re (by assumption) ?_); k_extra "mine:subs"))

theorem last_box_plain_k {l a : Addr} {n : Nat} {k : Int} {t : Tok} {us : List Value} {led : Led} (hl : (l, PySem.W.listOf (us ++ [Value.ref a]).toArray n) ∈ led) (hz : us.length ≤ 200) (hk : At w led a "kind" (.int k t)) (hk2 : k ≠ 2) (hk3 : k ≠ 3) :
  Kt w p loose mean mg mb 2 (.ref 592) [.ref l] [] led (fun K => ∀ t D c, ((∀ p ∈ led, p.1 ≠ D)) → (t ≠ D) → K (.ref t) ((t, tupO [.none, .ref D] 0) :: (D, PySem.W.listOf (us ++ [Value.ref a]).toArray c) :: led)) := by
  unfold Kt
  intro dpC unC gdC cnC csC L aC ccdC clC outer A₀ base h₀ mC hp sg sd tk₀ ox Q E B F X N T hk hd hu hret
  refine wpAny_call ?_
  k_dflt (refine' code_defL (binds := [(Str.ofString "items", .ref l)]) (rb := [(Str.ofString "items", .ref l)]) ?k1 ?k2 ?k3 ?k4 ?k5 ?kA ?kF ?kK ?k6 ?k7 ?k8 ?k9 ?kB rfl ?_ ?c2 ?c3 ?c4 ?c5; (case kA => exact rfl); (case kF => exact rfl); (case kK => first | exact hk | exact rfl); (case k1 => exact B); (case k3 => exact X); (case k5 => exact T); (case k6 => k_is); (case k7 => k_is); (case c5 => decide); (case kB => exact locs rfl); (case c2 => exact rfl); (case c3 => exact rfl); (case c4 => exact rfl); (case k2 => exact F); (case k4 => exact N); (case k8 => exact dp_ltz hd); (case k9 => exact BindsTo.of_eq rfl); k_whole; intro g' L' h' tk' FG' m9 F' N' B' X' T' A9 qk ek)
  k_steps
  all_goals (first | ((repeat (rename _ ∧ _ => z9; obtain ⟨_, _⟩ := z9)); refine hret _ _ c' (off_ltA (by assumption)) (ne_ltA (by assumption)) _ _ (by assumption) (News.re (by assumption) ?_); k_extra "mine:subs"))

theorem last_box_box_k {l a d : Addr} {n kn : Nat} {k : Int} {t1 : Tok} {us : List Value} {es : List DictEntry} {v2 v3 v4 v5 v6 v7 v8 v9 : Value} {rest : Led} (hb : BoxEs w es (.int k t1) v2 v3 v4 v5 v6 v7 v8 v9) (hk : k = 2 ∨ k = 3) (off : ∀ p ∈ rest, p.1 ≠ d) (ha : (a, instObj 358 d) ∈ rest) (hl : (l, PySem.W.listOf (us ++ [Value.ref a]).toArray kn) ∈ rest) (hz : us.length ≤ 200) :
  Kt w p loose mean mg mb 2 (.ref 592) [.ref l] [] ((d, dictOf es n) :: rest) (fun K => ∀ t D es' n' u tl, (Ap tl ((d, dictOf es' n') :: rest)) → ((t, tupO [.ref a, .ref D] 0) ∈ tl) → ((D, PySem.W.listOf us.toArray 0) ∈ tl) → (BoxEs w es' (.int k t1) v2 v3 v4 v5 (.int 0 u) v7 v8 v9) → K (.ref t) (tl ++ ((d, dictOf es' n') :: rest))) := by
  unfold Kt
  intro dpC unC gdC cnC csC L aC ccdC clC outer A₀ base h₀ mC hp sg sd tk₀ ox Q E B F X N T hk hd hu hret
  refine wpAny_call ?_
  k_dflt (refine' code_defL (binds := [(Str.ofString "items", .ref l)]) (rb := [(Str.ofString "items", .ref l)]) ?k1 ?k2 ?k3 ?k4 ?k5 ?kA ?kF ?kK ?k6 ?k7 ?k8 ?k9 ?kB rfl ?_ ?c2 ?c3 ?c4 ?c5; (case kA => exact rfl); (case kF => exact rfl); (case kK => first | exact hk | exact rfl); (case k1 => exact B); (case k3 => exact X); (case k5 => exact T); (case k6 => k_is); (case k7 => k_is); (case c5 => decide); (case kB => exact locs rfl); (case c2 => exact rfl); (case c3 => exact rfl); (case c4 => exact rfl); (case k2 => exact F); (case k4 => exact N); (case k8 => exact dp_ltz hd); (case k9 => exact BindsTo.of_eq rfl); k_whole; intro g' L' h' tk' FG' m9 F' N' B' X' T' A9 qk ek)
  k_steps
  all_goals (first | ((repeat (rename _ ∧ _ => z9; obtain ⟨_, _⟩ := z9)); refine' hret _ D' es9 n _ _ ?zA8 (.head _) (.tail _ (.head _)) b9 _ _ ?zF8 (News.re ?zN8 ?zS8); (case zF8 => assumption); (case zN8 => assumption); (case zS8 => ((simp only [List.cons_append, List.nil_append]); k_extra "mine:subs")); (case zA8 => k_extra "mine:ap")))

end
end
section
open PySem PySem.W PySem.Calls PySem.Spec PyProof.Rows
noncomputable abbrev Nd.std (d : Nd) : Prop := d.kind = 2 ∨ d.kind = 3 ∨ d.kind = 4
noncomputable abbrev Nd.kps (d : Nd) : Prop := d.kind = 9 ∨ d.kind = 10 ∨ d.kind = 13
noncomputable def fs : List Nd → Nat
  | [] => 0
  | d :: r => if d.std then 0 else fs r + 1
noncomputable def kp (ds : List Nd) : List Nd := ds.filter fun d => decide d.kps
theorem fs_le : ∀ ds : List Nd, fs ds ≤ ds.length
  | [] => Nat.le_refl _
  | d :: r => by
    unfold fs
    split
    · exact Nat.zero_le _
    · exact Nat.succ_le_succ (fs_le r)
theorem fs_at : ∀ {ds : List Nd} {i : Nat} {d : Nd}, ds[i]? = some d → d.std → fs ds ≤ i
  | [], i, d, h, _ => by simp at h
  | x :: r, 0, d, h, k => by
    simp only [List.getElem?_cons_zero, Option.some.injEq] at h
    subst h; unfold fs; rw [if_pos k]; exact Nat.le_refl _
  | x :: r, i + 1, d, h, k => by
    simp only [List.getElem?_cons_succ] at h
    have := fs_at h k
    unfold fs; split <;> omega
theorem fs_not : ∀ {ds : List Nd} {i : Nat} {d : Nd}, ds[i]? = some d → ¬ d.std → fs ds ≠ i
  | [], i, d, h, _ => by simp at h
  | x :: r, 0, d, h, k => by
    simp only [List.getElem?_cons_zero, Option.some.injEq] at h
    subst h; unfold fs; rw [if_neg k]; exact Nat.succ_ne_zero _
  | x :: r, i + 1, d, h, k => by
    simp only [List.getElem?_cons_succ] at h
    have := fs_not h k
    unfold fs; split <;> omega
theorem fs_get : ∀ {ds : List Nd}, fs ds < ds.length → ∃ d, ds[fs ds]? = some d ∧ d.std
  | [], h => absurd h (Nat.lt_irrefl _)
  | x :: r, h => by
    by_cases k : x.std
    · exact ⟨x, by unfold fs; rw [if_pos k]; rfl, k⟩
    · have e : fs (x :: r) = fs r + 1 := by rw [fs, if_neg k]
      rw [e] at h ⊢
      obtain ⟨d, hd, kd⟩ := fs_get (ds := r) (Nat.lt_of_succ_lt_succ h)
      exact ⟨d, by simpa using hd, kd⟩
theorem prn_s {g : Gl} {d : Nd} {r : List Nd} (k : d.std) : prn g (d :: r) = .skip (roomOf g d) 108 :: d :: r := if_pos k
theorem prn_k {g : Gl} {d : Nd} {r : List Nd} (k : ¬ d.std) (q : d.kps) : prn g (d :: r) = d :: prn g r := (if_neg k).trans (if_pos q)
theorem prn_o {g : Gl} {d : Nd} {r : List Nd} (k : ¬ d.std) (q : ¬ d.kps) : prn g (d :: r) = prn g r := (if_neg k).trans (if_neg q)
theorem prn_form (g : Gl) : ∀ ds : List Nd, (fs ds = ds.length ∧ prn g ds = kp (ds.take (fs ds))) ∨ (fs ds < ds.length ∧ ∃ x, prn g ds = kp (ds.take (fs ds)) ++ x :: ds.drop (fs ds))
  | [] => .inl ⟨rfl, rfl⟩
  | d :: r => by
    by_cases k : d.std
    · refine .inr ⟨?_, .skip (roomOf g d) 108, ?_⟩
      · rw [fs, if_pos k]; exact Nat.succ_pos _
      · rw [fs, if_pos k, prn_s k]; rfl
    · have e : fs (d :: r) = fs r + 1 := by rw [fs, if_neg k]
      have ek : kp ((d :: r).take (fs r + 1)) = (if d.kps then [d] else []) ++ kp (r.take (fs r)) := by
        rw [List.take_succ_cons]
        unfold kp
        by_cases q : d.kps
        · rw [List.filter_cons_of_pos (by simpa using q), if_pos q]; rfl
        · rw [List.filter_cons_of_neg (by simpa using q), if_neg q]; rfl
      have ep : prn g (d :: r) = (if d.kps then [d] else []) ++ prn g r := by
        by_cases q : d.kps
        · rw [prn_k k q, if_pos q]; rfl
        · rw [prn_o k q, if_neg q]; rfl
      rw [e, ek, ep]
      rcases prn_form g r with ⟨h1, h2⟩ | ⟨h1, x, h2⟩
      · exact .inl ⟨by rw [h1]; rfl, by rw [h2]⟩
      · exact .inr ⟨Nat.succ_lt_succ h1, x, by rw [h2, List.drop_succ_cons]; simp⟩
theorem prn_front {g : Gl} {gone : List Nd} (h : ∀ d ∈ gone, ¬ d.std ∧ ¬ d.kps) (ds : List Nd) : prn g (gone ++ ds) = prn g ds := by
  induction gone with
  | nil => rfl
  | cons d r ih =>
    have hd := h d (.head _)
    show prn g (d :: (r ++ ds)) = _
    rw [prn_o hd.1 hd.2]
    exact ih fun x hx => h x (.tail _ hx)
theorem prn_twice (g g' : Gl) : ∀ ds : List Nd, prn g' (prn g ds) = prn g' ds
  | [] => rfl
  | d :: r => by
    by_cases k : d.std
    · rw [prn_s k, prn_o (d := .skip (roomOf g d) 108) (show ¬ ((6 : Int) = 2 ∨ (6 : Int) = 3 ∨ (6 : Int) = 4) by decide) (show ¬ ((6 : Int) = 9 ∨ (6 : Int) = 10 ∨ (6 : Int) = 13) by decide)]
    · by_cases q : d.kps
      · rw [prn_k k q, prn_k k q, prn_twice g g' r, prn_k k q]
      · rw [prn_o k q, prn_twice g g' r, prn_o k q]
theorem mem_prn {g : Gl} : ∀ {ds : List Nd} {d : Nd}, d ∈ prn g ds → d ∈ ds ∨ ∃ gl, d = .skip gl 108
  | [], d, h => nomatch h
  | x :: r, d, h => by
    rw [prn] at h
    split at h
    · rcases List.mem_cons.mp h with rfl | h
      · exact .inr ⟨_, rfl⟩
      · exact .inl h
    · split at h
      · rcases List.mem_cons.mp h with rfl | h
        · exact .inl (.head _)
        · exact (mem_prn h).imp (.tail _) fun x => x
      · exact (mem_prn h).imp (.tail _) fun x => x
theorem prn_len (g : Gl) (ds : List Nd) : (prn g ds).length ≤ ds.length + 1 := by
  induction ds with
  | nil => exact Nat.zero_le _
  | cons x r ih =>
    rw [prn]
    split
    · exact Nat.le_refl _
    · split
      · exact Nat.succ_le_succ ih
      · exact Nat.le_succ_of_le ih
end
section
open PySem PySem.W PySem.Calls PySem.Spec PyProof.Rows
theorem Nd.ok_dk1 {nd : Nd} (h : nd.ok) (n : Nat) : nd.dk (n + 1) := by
  cases nd with
  | box k wd ht dp sf sg od r1 r2 items =>
    obtain ⟨h1, h2, _, _, _, _, _, _, _, _, _, _, _, _, h3⟩ := h
    refine ⟨by omega, ?_, ?_⟩
    · rcases h3 with rfl | ⟨x, rfl⟩
      · exact Nat.zero_le _
      · exact Nat.le_of_ble_eq_true rfl
    · rcases h3 with rfl | ⟨x, rfl⟩
      · intro y hy; exact nomatch hy
      · intro y hy; rw [List.mem_singleton.mp hy]; exact Nd.dk_kern _ _
  | _ => trivial
theorem pk_dk {up : Bool} {ds : List Nd} {mode amount : Int} (hok : ∀ d ∈ ds, d.ok) (hlen : ds.length ≤ 100) : (pkNd up ds mode amount).dk 2 := by
  cases up
  · exact ⟨.inl rfl, hlen, fun d hd => Nd.ok_dk1 (hok d hd) 0⟩
  · exact ⟨.inr rfl, hlen, fun d hd => Nd.ok_dk1 (hok d hd) 0⟩
theorem box_atN {w : World} {S : Led} {a : Addr} {k wd ht dp sf sg od r1 r2 : Int} {items : List Nd} (h : NodeIn w S (.ref a) (.box k wd ht dp sf sg od r1 r2 items)) : ∃ t l vs n, At w S a "kind" (.int k t) ∧ At w S a "items" (.ref l) ∧ (l, PySem.W.listOf vs.toArray n) ∈ S ∧ NodesIn w S vs items := by
  cases h with
  | box a1 a2 a3 a4 a5 a6 a7 a8 a9 b1 b2 cc => exact ⟨_, _, _, _, a1, a5, b2, cc⟩
theorem pk_at {w : World} {S : Led} {a : Addr} {up : Bool} {ds : List Nd} {mode amount : Int} (h : NodeIn w S (.ref a) (pkNd up ds mode amount)) : ∃ t l vs n, At w S a "kind" (.int (if up then 3 else 2) t) ∧ At w S a "items" (.ref l) ∧ (l, PySem.W.listOf vs.toArray n) ∈ S ∧ NodesIn w S vs ds := by
  cases up
  · exact box_atN h
  · exact box_atN h
theorem kqd_mono : ∀ (n : Nat) (d : Dat), kqdOk n d = true → kqdOk (n + 1) d = true := by
  intro n
  induction n with
  | zero => intro d h; cases d <;> simp_all [kqdOk]
  | succ n ih =>
    intro d h
    cases d with
    | tuple ds => simp only [kqdOk, List.all_eq_true] at h ⊢; exact fun x hx => ih x (h x hx)
    | list ds => simp only [kqdOk, List.all_eq_true] at h ⊢; exact fun x hx => ih x (h x hx)
    | _ => simp_all [kqdOk]
theorem kqd_le {n m : Nat} {d : Dat} (h : kqdOk n d = true) (k : n ≤ m) : kqdOk m d = true := by
  induction k with
  | refl => exact h
  | step _ ih => exact kqd_mono _ _ ih
theorem dat_ok : ∀ (n : Nat) (nd : Nd), nd.dk n → kqdOk (3 + 2 * n) nd.dat = true := by
  have plain : ∀ (nd : Nd), nd.dk 0 → kqdOk 3 nd.dat = true := by
    intro nd h
    cases nd with
    | box k wd ht dp sf sg od r1 r2 items => exact h.elim
    | ins => exact h.elim
    | rule wd ht dp => cases wd <;> cases ht <;> rfl
    | _ => rfl
  intro n
  induction n with
  | zero => exact plain
  | succ n ih =>
    intro nd h
    cases nd with
    | box k wd ht dp sf sg od r1 r2 items =>
      have e : kqdOk (3 + 2 * n + 1) (.tuple (Nd.dats items)) = true := kqd_tup fun d hd => by
        rw [Nd.dats_map] at hd
        obtain ⟨x, hx, rfl⟩ := List.mem_map.mp hd
        exact ih x (h.2.2 x hx)
      rw [show 3 + 2 * (n + 1) = 3 + 2 * n + 1 + 1 by omega]
      rw [Nd.dat]
      refine kqd_tup fun d hd => ?_
      simp only [List.mem_cons, List.not_mem_nil, or_false] at hd
      rcases hd with rfl | rfl | rfl | rfl | rfl | rfl | rfl | rfl | rfl
      all_goals first | exact e | exact kqd_le (n := 1) rfl (by omega) | rfl
    | ins => exact kqd_le (n := 3) rfl (by omega)
    | rule wd ht dp => exact kqd_le (plain (.rule wd ht dp) trivial) (by omega)
    | kern x => exact kqd_le (plain (.kern x) trivial) (by omega)
    | skip g s => exact kqd_le (plain (.skip g s) trivial) (by omega)
    | pen x => exact kqd_le (plain (.pen x) trivial) (by omega)
    | mark x => exact kqd_le (plain (.mark x) trivial) (by omega)
    | spec => exact kqd_le (plain .spec trivial) (by omega)
theorem dats_ok {ds : List Nd} {n : Nat} (h : ∀ d ∈ ds, d.dk n) : kqdOk (3 + 2 * n + 1) (.tuple (Nd.dats ds)) = true := kqd_tup fun d hd => by
  rw [Nd.dats_map] at hd
  obtain ⟨x, hx, rfl⟩ := List.mem_map.mp hd
  exact dat_ok n x (h x hx)
theorem rep_ok (up : Bool) (ds : List Nd) (mode amount : Int) : kqdOk 9 (pkRep up ds mode amount) = true := by cases up <;> rfl
theorem append_pick {prog : Program} {w : World} {A : Around} {E : Value → Shared → Prop} {s : Shared} {h₀ : Heap} {L D : Addr} {m : Str → Option Value} {news rest : Led} {vs : List Value} {n : Nat} {v : Value} {Q : Value → Shared → Prop} (F : Fr h₀ L s.heap m) (N : News h₀ L s.heap news) (k : Pick (D, PySem.W.listOf vs.toArray n) news rest) (off : ∀ p ∈ rest, p.1 ≠ D) (hz : vs.length ≤ 1000)
    (h : ∀ h', Fr h₀ L h' m → News h₀ L h' ((D, PySem.W.listOf (vs ++ [v]).toArray (n + 1)) :: rest) → Q .none { s with heap := h' }) : wpAny (model prog w) A (call (.builtin "list.append") [.ref D, v]) Q E s :=
  append_led F (fun q hq => N q (k.sub q hq)) (Upd.head off) hz h
theorem nodes_len {w : World} {S : Led} {vs : List Value} {ds : List Nd} (h : NodesIn w S vs ds) (hl : ds.length ≤ 100) : vs.length ≤ 100 := by rw [h.length]; exact hl
theorem nodes_ne {w : World} {S S' : Led} {vs us : List Value} {ds : List Nd} (h : NodesIn w S vs ds) (k : NodesIn w S' us ds) (hv : us ≠ []) : vs ≠ [] := fun e => by
  subst e
  have h1 := h.length
  have h2 := k.length
  cases us with
  | nil => exact hv rfl
  | cons x us => rw [← h1] at h2; exact absurd h2 (Nat.succ_ne_zero _)
theorem off_ap {tl led : Led} {D : Addr} {o : Obj} (h : Ap tl led) (m : (D, o) ∈ led) : ∀ q ∈ tl, q.1 ≠ D := fun q hq => (h q hq _ m).symm
theorem off_fr {tl led : Led} {D : Addr} {o : Obj} (h : Fresh tl led) (m : (D, o) ∈ led) : ∀ q ∈ tl, q.1 ≠ D := fun q hq => (Nat.ne_of_lt (h q hq _ m)).symm
theorem off_lt {led : Led} {D : Addr} (h : ∀ q ∈ led, q.1 < D) : ∀ q ∈ led, q.1 ≠ D := fun q hq => Nat.ne_of_lt (h q hq)
theorem off_gt {led : Led} {D x : Addr} {o : Obj} (h : ∀ q ∈ led, q.1 < x) (m : (D, o) ∈ led) : x ≠ D := (Nat.ne_of_lt (h _ m)).symm
theorem Sub.trans {a b c : Led} (h : ∀ q ∈ a, q ∈ b) (k : ∀ q ∈ b, q ∈ c) : ∀ q ∈ a, q ∈ c := fun q m => k q (h q m)
end
section
section
variable {w : World} {p : Program} {loose : List Str} {mean : ExcName → Option Value} {mg mb : Str → Option Value}
section
variable {P : Prop} {h₀ h : Heap} {L : Addr} {tl led : Led} {x p : Addr × Obj} {v a : Value} {rep : Dat} {nd : Nd} {w : World}
theorem nameP (N : News h₀ L h (tl ++ x :: led)) (m : p ∈ tl) (d : DatIn tl v rep) (n : NodeIn w (tl ++ x :: led) a nd) (k : ∀ led1, News h₀ L h led1 → p ∈ led1 → DatIn led1 v rep → NodeIn w led1 a nd → (∀ q ∈ led, q ∈ led1) → P) : P :=
  k _ N (List.mem_append_left _ m) (d.mono Sub.left) n (Sub.right (Sub.skip Sub.refl))
theorem nameD {led1 : Led} (N : News h₀ L h (tl ++ led1)) (d : DatIn (tl ++ led1) v rep) (k : ∀ led2, News h₀ L h led2 → DatIn led2 v rep → (∀ q ∈ led1, q ∈ led2) → P) : P := k _ N d (Sub.right Sub.refl)
theorem nameP2 {D : Addr} {o : Obj} {led2 : Led} (N : News h₀ L h (tl ++ x :: (D, o) :: led2)) (ap : Ap tl (x :: (D, o) :: led2)) (lt : AllLt x.1 ((D, o) :: led2)) (off : AllLt D led2) (m : p ∈ tl) (d : DatIn tl v rep) (n : NodeIn w (tl ++ x :: led2) a nd)
    (k : ∀ led4, News h₀ L h ((D, o) :: led4) → (∀ q ∈ led4, q.1 ≠ D) → p ∈ led4 → DatIn led4 v rep → NodeIn w led4 a nd → (∀ q ∈ led2, q ∈ led4) → P) : P :=
  k (tl ++ x :: led2) (News.re N (Sub.cons (List.mem_append_right _ (.tail _ (.head _))) (Sub.app Sub.left (Sub.right (Sub.cons (.head _) (Sub.skip (Sub.skip Sub.refl)))))))
    (fun q hq => by
      rcases List.mem_append.mp hq with hq | hq
      · exact (ap q hq _ (.tail _ (.head _))).symm
      · rcases List.mem_cons.mp hq with rfl | hq
        · exact ne_ltA (ktn_ltOf lt _ (.head _))
        · exact off_ltA off q hq)
    (List.mem_append_left _ m) (d.mono Sub.left) n (Sub.right (Sub.skip Sub.refl))
end

theorem reg_AG12b_op : True := by
  k_with "w:call ref" => first | k_dflt ((k_here; (with_reducible show wpAny _ _ (call (Value.ref 80) _ _) _ _ _); ((first | with_reducible refine' bb_call ?F_k9 ?X_k9 ?N_k9 ?z_k9 ?_ | k_dflt (refine' bb_call ?F_k9 ?X_k9 ?N_k9 ?z_k9 ?_)); k_dflt ((case F_k9 => k_asm); (case X_k9 => k_asm); (case N_k9 => k_asm); (case z_k9 => exact Nat.le_of_ble_eq_true rfl); k_whole)); intro e9 t9 h' F' N' lt9 lx9; k_extra "mine:enter")) | fail
  k_with "w:setAttr ref" => first | ((k_here; ((first | with_reducible refine' bb_set ?F_k9 ?X_k9 ?N_k9 ?o_k9 ?_ | k_dflt (refine' bb_set ?F_k9 ?X_k9 ?N_k9 ?o_k9 ?_)); k_dflt ((case F_k9 => k_asm); (case X_k9 => k_asm); (case N_k9 => k_asm); (case o_k9 => exact bb_off (by assumption) (by assumption)); k_whole)); intro d9 h' F' N'; (try k_sweep))) | fail
  k_with "w:exec Raise some none" => first | ((k_here; ((first | with_reducible refine' bb_raise ?hh_k9 ?_ | k_dflt (refine' bb_raise ?hh_k9 ?_)); k_dflt ((case hh_k9 => exact rfl))))) | fail
  k_with "w:BBRaise" => first | ((refine' bb_raised ?F_k9 ?X_k9 ?N_k9 ?_; (case F_k9 => k_asm); (case X_k9 => k_asm); (case N_k9 => k_asm); (try dsimp only))) | fail
  k_with "w:leaving ref" => first | ((k_here; ((first | with_reducible refine' leave_xS ?K_k9 ?F_k9 ?N_k9 ?ne_k9 ?_ | k_dflt (refine' leave_xS ?K_k9 ?F_k9 ?N_k9 ?ne_k9 ?_)); k_dflt ((case K_k9 => k_asm); (case F_k9 => k_asm); (case N_k9 => k_asm); (case ne_k9 => exact bb_ne (by assumption) (by assumption)); k_whole)); intro h' S' R' U'; (try dsimp only at S' R' U' ⊢))) | fail
  k_with "w:call type:list" => first | ((k_here; (with_reducible show wpAny _ _ (call (Value.type _) [Value.ref _]) _ _ _); ((first | with_reducible refine' copy_led ?F_k9 ?N_k9 ?m_k9 ?z_k9 ?_ | k_dflt (refine' copy_led ?F_k9 ?N_k9 ?m_k9 ?z_k9 ?_)); k_dflt ((case F_k9 => k_asm); (case N_k9 => k_asm); (case m_k9 => first | k_extra "mine:in" | k_mem); (case z_k9 => omega))); intro D' c' h' F' N' l1; (try k_lt l1))) | fail
  k_with "w:call type:list" => first | ((k_here; (with_reducible show wpAny _ _ (call (Value.type _) [Value.ref li9]) _ _ _); ((first | with_reducible refine' copy_led (news := led2) ?F_k9 (News.re ?N_k9 ?s_k9) (s12 _ ml9) ?z_k9 ?_ | k_dflt (refine' copy_led (news := led2) ?F_k9 (News.re ?N_k9 ?s_k9) (s12 _ ml9) ?z_k9 ?_)); k_dflt ((case F_k9 => k_asm); (case N_k9 => k_asm); (case s_k9 => k_extra "mine:subs"); (case z_k9 => omega))); intro D2 c2 h' F' N' l1; have lD2 := allLt_of l1; (try k_lt l1))) | fail
  k_with "mine:dok" => first | (first | exact kqd_le (dats_ok fun d hd => Nd.ok_dk1 (hok d hd) 0) (by decide) | exact kqd_le (dat_ok 2 _ (pk_dk hok hlen)) (by decide) | exact rep_ok _ _ _ _) | fail
  k_with "mine:cmp" => first | (first | (with_reducible refine' dat_ne ?N_k9 ?da_k9 ?sa_k9 ?db_k9 ?sb_k9 ?dx_k9 ?ex_k9 ?hu_k9 ?_; (case N_k9 => k_asm); (case da_k9 => with_reducible assumption); (case db_k9 => with_reducible assumption); (case sa_k9 => k_extra "mine:subs"); (case sb_k9 => k_extra "mine:subs"); (case dx_k9 => k_extra "mine:dok"); (case ex_k9 => k_extra "mine:dok"); (case hu_k9 => k_extra "mine:units"); k_whole) | (with_reducible refine' dat_eq ?N_k9 ?da_k9 ?sa_k9 ?db_k9 ?sb_k9 ?dx_k9 ?ex_k9 ?hu_k9 ?_; (case N_k9 => k_asm); (case da_k9 => with_reducible assumption); (case db_k9 => with_reducible assumption); (case sa_k9 => k_extra "mine:subs"); (case sb_k9 => k_extra "mine:subs"); (case dx_k9 => k_extra "mine:dok"); (case ex_k9 => k_extra "mine:dok"); (case hu_k9 => k_extra "mine:units"); k_whole)) | fail
  k_with "w:compareOp NotEq ref ref" => first | ((k_here; ((first | with_reducible refine' ne_nil (vs := []) ?N_k9 ?a_k9 ?b_k9 ?u_k9 ?_ | k_dflt (refine' ne_nil (vs := []) ?N_k9 ?a_k9 ?b_k9 ?u_k9 ?_)); k_dflt ((case N_k9 => k_asm); (case b_k9 => k_mem); (case a_k9 => k_mem); (case u_k9 => k_extra "mine:units"); k_whole)))) | fail
  k_with "w:compareOp NotEq" => first | ((k_here; k_dflt (k_extra "mine:cmp"); (try simp only [decide_true, Bool.not_true]))) | fail
  k_with "w:compareOp Eq" => first | ((k_here; k_dflt (k_extra "mine:cmp"); (try simp only [decide_true, Bool.not_true]))) | fail
  k_with "w:compareOp Eq ref ref" => first | ((k_here; k_dflt (k_extra "mine:cmp"); (try simp only [decide_true, Bool.not_true]))) | fail
  k_with "mine:sub" => first | (k_extra "mine:subs") | fail
  k_with "mine:offs" => first | (first | assumption | exact off_ltA (by assumption) | (refine List.forall_mem_append.mpr (And.intro ?_ ?_); k_extra "mine:offs"; k_extra "mine:offs") | exact off_fr (by assumption) (by k_extra "mine:m1")) | fail
  k_with "w:call builtin:list.append" => first | ((k_here; ((first | with_reducible refine' append_pick ?F_k9 ?N_k9 ?k_k9 ?o_k9 ?z_k9 ?_ | k_dflt (refine' append_pick ?F_k9 ?N_k9 ?k_k9 ?o_k9 ?z_k9 ?_)); k_dflt ((case F_k9 => k_asm); (case N_k9 => k_asm); (case k_k9 => k_extra "mine:pick"); (case o_k9 => k_extra "mine:offs"); (case z_k9 => omega); k_whole)); intro h' F' N'; (try k_sweep))) | fail
  k_with "w:unpackItems ref" => first | ((k_here; ((first | with_reducible refine' unpackItemsN_ ?k1_k9 ?k2_k9 ?k3_k9 ?k4_k9 ?k5_k9 ?_ | k_dflt (refine' unpackItemsN_ ?k1_k9 ?k2_k9 ?k3_k9 ?k4_k9 ?k5_k9 ?_)); k_dflt ((case k1_k9 => k_asm); (case k2_k9 => k_asm); (case k3_k9 => exact News.isTup (by k_asm) (by k_extra "mine:in")); (case k4_k9 => exact rfl); (case k5_k9 => exact rfl); k_whole)); intro h' F' N'; (try k_sweep))) | fail
  k_with "w:call ref" => first | ((k_here; (with_reducible show wpAny _ _ (call (Value.ref 728) _ _) _ _ _); ((first | with_reducible refine' Kt.use (Kt.weak (led' := (_, PySem.W.listOf vs.toArray _) :: led) (law_pack_k (S := (_, PySem.W.listOf vs.toArray _) :: led) Sub.refl List.mem_cons_self (hn.mono (Sub.skip Sub.refl)) hok hlen hv hm ha1 ha2) ?cs_k9) ?hh_k9 ?hf_k9 ?B_k9 ?F_k9 ?X_k9 ?N_k9 ?T_k9 ?hk_k9 ?hd_k9 ?hu_k9 ?_ | k_dflt (refine' Kt.use (Kt.weak (led' := (_, PySem.W.listOf vs.toArray _) :: led) (law_pack_k (S := (_, PySem.W.listOf vs.toArray _) :: led) Sub.refl List.mem_cons_self (hn.mono (Sub.skip Sub.refl)) hok hlen hv hm ha1 ha2) ?cs_k9) ?hh_k9 ?hf_k9 ?B_k9 ?F_k9 ?X_k9 ?N_k9 ?T_k9 ?hk_k9 ?hd_k9 ?hu_k9 ?_)); k_dflt ((case F_k9 => k_asm); (case B_k9 => k_asm); (case X_k9 => k_asm); (case N_k9 => k_asm); (case T_k9 => k_asm); (case hh_k9 => exact rfl); (case hf_k9 => exact rfl); (case hk_k9 => first | exact rfl | assumption); (case hd_k9 => k_extra "mine:dp"); (case hu_k9 => k_extra "mine:un"); (case cs_k9 => k_extra "mine:subs"))); intro t9 a9 rp9 tl9 f9 m9 d9 n9 h9 tk9 F9 N9; refine nameP N9 m9 d9 n9 fun led1 N9 m9 dR1 n1 s01 => ?_; obtain ⟨tk9, li9, vs9, nn9, qk9, qi9, ml9, hnP⟩ := pk_at n1; (simp only [Bool.false_eq_true, reduceIte] at qk9); have hvl9 : vs9.length ≤ 100 := (nodes_len hnP hlen); have hv9 : vs9 ≠ [] := (nodes_ne hnP hn hv); (try k_sweep); (try dsimp only); (try k_fold))) | fail
  k_with "w:call ref" => first | ((k_here; (with_reducible show wpAny _ _ (call (Value.ref 728) _ _) _ _ _); ((first | with_reducible refine' Kt.use (Kt.weak (led' := (_, PySem.W.listOf vs9.toArray _) :: (D2, PySem.W.listOf vs9.toArray c2) :: led2) (law_pack_k (S := (_, PySem.W.listOf vs9.toArray _) :: led2) (Sub.cons (.head _) (Sub.skip (Sub.skip Sub.refl))) List.mem_cons_self (hnP.mono (Sub.skip s12)) hok hlen hv9 hm ha1 ha2) ?cs_k9) ?hh_k9 ?hf_k9 ?B_k9 ?F_k9 ?X_k9 ?N_k9 ?T_k9 ?hk_k9 ?hd_k9 ?hu_k9 ?_ | k_dflt (refine' Kt.use (Kt.weak (led' := (_, PySem.W.listOf vs9.toArray _) :: (D2, PySem.W.listOf vs9.toArray c2) :: led2) (law_pack_k (S := (_, PySem.W.listOf vs9.toArray _) :: led2) (Sub.cons (.head _) (Sub.skip (Sub.skip Sub.refl))) List.mem_cons_self (hnP.mono (Sub.skip s12)) hok hlen hv9 hm ha1 ha2) ?cs_k9) ?hh_k9 ?hf_k9 ?B_k9 ?F_k9 ?X_k9 ?N_k9 ?T_k9 ?hk_k9 ?hd_k9 ?hu_k9 ?_)); k_dflt ((case F_k9 => k_asm); (case B_k9 => k_asm); (case X_k9 => k_asm); (case N_k9 => k_asm); (case T_k9 => k_asm); (case hh_k9 => exact rfl); (case hf_k9 => exact rfl); (case hk_k9 => first | exact rfl | assumption); (case hd_k9 => k_extra "mine:dp"); (case hu_k9 => k_extra "mine:un"); (case cs_k9 => k_extra "mine:subs"))); intro t9 a9 rp9 tl9 f9 m9 d9 n9 h9 tk9 F9 N9; refine nameP2 N9 f9 (AllLt.ofsub l1.2.2 (by k_extra "mine:subs")) lD2 m9 d9 n9 fun led4 N9 off4 m9 dR4 n4 s24 => ?_; have s14 := Sub.trans s12 s24; have s04 := Sub.trans s02 s24; (try k_sweep); (try dsimp only); (try k_fold))) | fail
  k_with "w:call ref" => first | ((k_here; (with_reducible show wpAny _ _ (call (Value.ref 535) _ _) _ _ _); ((first | with_reducible refine' Kt.use (described1_k (S := led1) Sub.refl n1 (pk_dk hok hlen)) ?hh_k9 ?hf_k9 ?B_k9 ?F_k9 ?X_k9 ?N_k9 ?T_k9 ?hk_k9 ?hd_k9 ?hu_k9 ?_ | k_dflt (refine' Kt.use (described1_k (S := led1) Sub.refl n1 (pk_dk hok hlen)) ?hh_k9 ?hf_k9 ?B_k9 ?F_k9 ?X_k9 ?N_k9 ?T_k9 ?hk_k9 ?hd_k9 ?hu_k9 ?_)); k_dflt ((case F_k9 => k_asm); (case B_k9 => k_asm); (case X_k9 => k_asm); (case N_k9 => k_asm); (case T_k9 => k_asm); (case hh_k9 => exact rfl); (case hf_k9 => exact rfl); (case hk_k9 => first | exact rfl | assumption); (case hd_k9 => k_extra "mine:dp"); (case hu_k9 => k_extra "mine:un"))); intro tl9 r9 f9 d9 h9 tk9 F9 N9; refine nameD N9 d9 fun led2 N9 dW2 s12 => ?_; have s02 := Sub.trans s01 s12; (try k_sweep); (try dsimp only); (try k_fold))) | fail
  k_with "w:call ref" => first | ((k_here; (with_reducible show wpAny _ _ (call (Value.ref 535) _ _) _ _ _); ((first | with_reducible refine' Kt.use (Kt.weak (led' := led4) (described1_k (S := led4) Sub.refl n4 (pk_dk hok hlen)) ?cs_k9) ?hh_k9 ?hf_k9 ?B_k9 ?F_k9 ?X_k9 ?N_k9 ?T_k9 ?hk_k9 ?hd_k9 ?hu_k9 ?_ | k_dflt (refine' Kt.use (Kt.weak (led' := led4) (described1_k (S := led4) Sub.refl n4 (pk_dk hok hlen)) ?cs_k9) ?hh_k9 ?hf_k9 ?B_k9 ?F_k9 ?X_k9 ?N_k9 ?T_k9 ?hk_k9 ?hd_k9 ?hu_k9 ?_)); k_dflt ((case F_k9 => k_asm); (case B_k9 => k_asm); (case X_k9 => k_asm); (case N_k9 => k_asm); (case T_k9 => k_asm); (case hh_k9 => exact rfl); (case hf_k9 => exact rfl); (case hk_k9 => first | exact rfl | assumption); (case hd_k9 => k_extra "mine:dp"); (case hu_k9 => k_extra "mine:un"); (case cs_k9 => k_extra "mine:subs"))); intro tl9 r9 f9 d9 h9 tk9 F9 N9; (try k_sweep); (try dsimp only); (try k_fold))) | fail
  k_with "w:call ref" => first | ((k_here; (with_reducible show wpAny _ _ (call (Value.ref 535) _ _) _ _ _); ((first | with_reducible refine' Kt.use (Kt.weak (led' := led4) (described1_k (S := led1) s14 n1 (pk_dk hok hlen)) ?cs_k9) ?hh_k9 ?hf_k9 ?B_k9 ?F_k9 ?X_k9 ?N_k9 ?T_k9 ?hk_k9 ?hd_k9 ?hu_k9 ?_ | k_dflt (refine' Kt.use (Kt.weak (led' := led4) (described1_k (S := led1) s14 n1 (pk_dk hok hlen)) ?cs_k9) ?hh_k9 ?hf_k9 ?B_k9 ?F_k9 ?X_k9 ?N_k9 ?T_k9 ?hk_k9 ?hd_k9 ?hu_k9 ?_)); k_dflt ((case F_k9 => k_asm); (case B_k9 => k_asm); (case X_k9 => k_asm); (case N_k9 => k_asm); (case T_k9 => k_asm); (case hh_k9 => exact rfl); (case hf_k9 => exact rfl); (case hk_k9 => first | exact rfl | assumption); (case hd_k9 => k_extra "mine:dp"); (case hu_k9 => k_extra "mine:un"); (case cs_k9 => k_extra "mine:subs"))); intro tl9 r9 f9 d9 h9 tk9 F9 N9; (try k_sweep); (try dsimp only); (try k_fold))) | fail
  k_with "w:call ref" => first | ((k_here; (with_reducible show wpAny _ _ (call (Value.ref 585) _ _) _ _ _); ((first | with_reducible refine' Kt.use (Kt.weak (led' := led2) (unboxed_ok_k s12 qk9 qi9 ml9 hvl9) ?cs_k9) ?hh_k9 ?hf_k9 ?B_k9 ?F_k9 ?X_k9 ?N_k9 ?T_k9 ?hk_k9 ?hd_k9 ?hu_k9 ?_ | k_dflt (refine' Kt.use (Kt.weak (led' := led2) (unboxed_ok_k s12 qk9 qi9 ml9 hvl9) ?cs_k9) ?hh_k9 ?hf_k9 ?B_k9 ?F_k9 ?X_k9 ?N_k9 ?T_k9 ?hk_k9 ?hd_k9 ?hu_k9 ?_)); k_dflt ((case F_k9 => k_asm); (case B_k9 => k_asm); (case X_k9 => k_asm); (case N_k9 => k_asm); (case T_k9 => k_asm); (case hh_k9 => exact rfl); (case hf_k9 => exact rfl); (case hk_k9 => first | exact rfl | assumption); (case hd_k9 => k_extra "mine:dp"); (case hu_k9 => k_extra "mine:un"); (case cs_k9 => k_extra "mine:subs"))); intro D2 c2 lD2 h9 tk9 F9 N9; (try k_sweep); (try dsimp only); (try k_fold))) | fail
  k_with "w:call ref" => first | ((k_here; (with_reducible show wpAny _ _ (call (Value.ref 585) _ _) _ _ _); ((first | with_reducible refine' Kt.use unboxed_none_k ?hh_k9 ?hf_k9 ?B_k9 ?F_k9 ?X_k9 ?N_k9 ?T_k9 ?hk_k9 ?hd_k9 ?hu_k9 ?_ | k_dflt (refine' Kt.use unboxed_none_k ?hh_k9 ?hf_k9 ?B_k9 ?F_k9 ?X_k9 ?N_k9 ?T_k9 ?hk_k9 ?hd_k9 ?hu_k9 ?_)); k_dflt ((case F_k9 => k_asm); (case B_k9 => k_asm); (case X_k9 => k_asm); (case N_k9 => k_asm); (case T_k9 => k_asm); (case hh_k9 => exact rfl); (case hf_k9 => exact rfl); (case hk_k9 => first | exact rfl | assumption); (case hd_k9 => k_extra "mine:dp"); (case hu_k9 => k_extra "mine:un"))); intro D5 c5 lD5 h9 tk9 F9 N9; (try k_sweep); (try dsimp only); (try k_fold))) | fail
  k_with "w:call ref" => first | ((k_here; (with_reducible show wpAny _ _ (call (Value.ref 541) _ _) _ _ _); ((first | with_reducible refine' Kt.use (dlist1_k (S := led) ?cs_k9 hl hn (fun d hd => Nd.ok_dk1 (hok d hd) 1) hvl) ?hh_k9 ?hf_k9 ?B_k9 ?F_k9 ?X_k9 ?N_k9 ?T_k9 ?hk_k9 ?hd_k9 ?hu_k9 ?_ | k_dflt (refine' Kt.use (dlist1_k (S := led) ?cs_k9 hl hn (fun d hd => Nd.ok_dk1 (hok d hd) 1) hvl) ?hh_k9 ?hf_k9 ?B_k9 ?F_k9 ?X_k9 ?N_k9 ?T_k9 ?hk_k9 ?hd_k9 ?hu_k9 ?_)); k_dflt ((case F_k9 => k_asm); (case B_k9 => k_asm); (case X_k9 => k_asm); (case N_k9 => k_asm); (case T_k9 => k_asm); (case hh_k9 => exact rfl); (case hf_k9 => exact rfl); (case hk_k9 => first | exact rfl | assumption); (case hd_k9 => k_extra "mine:dp"); (case hu_k9 => k_extra "mine:un"); (case cs_k9 => k_extra "mine:subs"))); intro tld9 r9 fd9 dd9 h9 tk9 F9 N9; (try k_sweep); (try dsimp only); (try k_fold))) | fail
  k_with "w:call ref" => first | ((k_here; (with_reducible show wpAny _ _ (call (Value.ref 541) _ _) _ _ _); ((first | with_reducible refine' Kt.use (dlist1_k (S := (D2, PySem.W.listOf vs9.toArray c2) :: led2) Sub.refl (.head _) (hnP.mono (Sub.skip s12)) (fun d hd => Nd.ok_dk1 (hok d hd) 1) hvl9) ?hh_k9 ?hf_k9 ?B_k9 ?F_k9 ?X_k9 ?N_k9 ?T_k9 ?hk_k9 ?hd_k9 ?hu_k9 ?_ | k_dflt (refine' Kt.use (dlist1_k (S := (D2, PySem.W.listOf vs9.toArray c2) :: led2) Sub.refl (.head _) (hnP.mono (Sub.skip s12)) (fun d hd => Nd.ok_dk1 (hok d hd) 1) hvl9) ?hh_k9 ?hf_k9 ?B_k9 ?F_k9 ?X_k9 ?N_k9 ?T_k9 ?hk_k9 ?hd_k9 ?hu_k9 ?_)); k_dflt ((case F_k9 => k_asm); (case B_k9 => k_asm); (case X_k9 => k_asm); (case N_k9 => k_asm); (case T_k9 => k_asm); (case hh_k9 => exact rfl); (case hf_k9 => exact rfl); (case hk_k9 => first | exact rfl | assumption); (case hd_k9 => k_extra "mine:dp"); (case hu_k9 => k_extra "mine:un"))); intro tld9 r9 fd9 dd9 h9 tk9 F9 N9; (try k_sweep); (try dsimp only); (try k_fold))) | fail
  trivial

theorem law_opened_t {l : Addr} {n : Nat} {vs : List Value} {ds : List Nd} {led : Led} {mode amount : Int} {t1 t2 : Tok} (hl : (l, PySem.W.listOf vs.toArray n) ∈ led) (hn : NodesIn w led vs ds) (hok : ∀ d ∈ ds, d.ok) (hlen : ds.length ≤ 100) (hv : vs ≠ []) (hm : mode = 0 ∨ mode = 1) (ha1 : -1000 ≤ amount) (ha2 : amount ≤ 1000) :
  CtT w p loose mean mg mb 28 (.ref 735) [.ref l, .bool true, .int mode t1, .int amount t2] led (fun r led' => r = .bool true ∧ led' = led) := by
  have hvl : vs.length ≤ 100 := by rw [hn.length]; exact hlen
  unfold CtT
  intro dp un gd cn cs L a ccd A₀ base h₀ m s cl Q E B F X Xb N T Tb hk hd hu hret
  refine wpAny_call ?_
  refine' code_defX0 ?k1 ?k2 ?k3 ?k4 ?k5 ?kA ?k6 ?k7 ?k8 ?k9 ?kB ?_ ?cK ?c2 ?c3 ?c4 ?c5
  case kA => exact rfl
  case k1 => exact B
  case k2 => exact F
  case k3 => exact X
  case k4 => exact N
  case k5 => exact T
  case k6 => k_is
  case k7 => k_is
  case k8 => exact dp_ltz hd
  case k9 => exact BindsTo.of_eq rfl
  case kB => exact locs rfl
  case cK => exact hk
  case c2 => exact rfl
  case c3 => exact rfl
  case c4 => exact rfl
  case c5 => decide

  all_goals (k_whole; intro g' L' h' FG' F' N' B' X' T' D'; (try dsimp only); k_dflt (refine letA (P := fun A' => wpAny _ A' _ _ _ _) ?_; intro A9); (try k_fold))
  k_steps
  all_goals (first | (refine hret _ led _ _ (by assumption) (News.re (by assumption) ?_) ⟨rfl, rfl⟩; k_extra "mine:subs"))

theorem law_opened_f {l : Addr} {n : Nat} {vs : List Value} {ds : List Nd} {led : Led} {mode amount : Int} {t1 t2 : Tok} (hl : (l, PySem.W.listOf vs.toArray n) ∈ led) (hn : NodesIn w led vs ds) (hok : ∀ d ∈ ds, d.ok) (hlen : ds.length ≤ 100) (hv : vs ≠ []) (hm : mode = 0 ∨ mode = 1) (ha1 : -1000 ≤ amount) (ha2 : amount ≤ 1000) :
  CtT w p loose mean mg mb 28 (.ref 735) [.ref l, .bool false, .int mode t1, .int amount t2] led (fun r led' => r = .bool true ∧ led' = led) := by
  have hvl : vs.length ≤ 100 := by rw [hn.length]; exact hlen
  unfold CtT
  intro dp un gd cn cs L a ccd A₀ base h₀ m s cl Q E B F X Xb N T Tb hk hd hu hret
  refine wpAny_call ?_
  refine' code_defX0 ?k1 ?k2 ?k3 ?k4 ?k5 ?kA ?k6 ?k7 ?k8 ?k9 ?kB ?_ ?cK ?c2 ?c3 ?c4 ?c5
  case kA => exact rfl
  case k1 => exact B
  case k2 => exact F
  case k3 => exact X
  case k4 => exact N
  case k5 => exact T
  case k6 => k_is
  case k7 => k_is
  case k8 => exact dp_ltz hd
  case k9 => exact BindsTo.of_eq rfl
  case kB => exact locs rfl
  case cK => exact hk
  case c2 => exact rfl
  case c3 => exact rfl
  case c4 => exact rfl
  case c5 => decide

  all_goals (k_whole; intro g' L' h' FG' F' N' B' X' T' D'; (try dsimp only); k_dflt (refine letA (P := fun A' => wpAny _ A' _ _ _ _) ?_; intro A9); (try k_fold))
  k_steps
  all_goals (first | (refine hret _ led _ _ (by assumption) (News.re (by assumption) ?_) ⟨rfl, rfl⟩; k_extra "mine:subs"))

end
end
section
open PySem PySem.W PySem.Calls PySem.Spec PyProof.Rows
section
variable {prog : Program} {w : World} {A : Around} {E : Value → Shared → Prop} {s : Shared} {h₀ : Heap} {L t : Addr} {m : Str → Option Value} {led : Led} {vs : List Value} {n : Nat} {Q : Value → Shared → Prop}
theorem places_ab (a b : Nat) : Builtin.Slice.slicePlaces (a : Int) (b : Int) 1 = b - a := by
  unfold Builtin.Slice.slicePlaces
  have h1 : (1 : Int) > 0 := by omega
  simp only [h1, if_true, Int.ediv_one]
  split <;> omega
theorem adjust_upto (a n : Nat) (ha : a ≤ n) : Builtin.Slice.sliceAdjust none (some (a : Int)) 1 (n : Int) = (((0 : Nat) : Int), (a : Int)) := by
  unfold Builtin.Slice.sliceAdjust
  have h1 : ¬ ((1 : Int) < 0) := by omega
  have h2 : ¬ ((a : Int) < 0) := by omega
  simp only [h1, h2, if_false]
  congr 1
  omega
theorem sliceApplied_upto {sl : Addr} {a n : Nat} {u : Tok} {Q : Int × Int × Nat → Shared → Prop} (hs : s.heap.IsSliceOf sl .none (.int a u) .none) (ha : a ≤ n) (h : Q (((0 : Nat) : Int), 1, a - 0) s) :
    wpAny (model prog w) A (Builtin.Slice.sliceApplied (.ref sl) (pure (n : Int))) Q E s := by
  obtain ⟨os, hos, hcs, hds⟩ := id hs
  unfold Builtin.Slice.sliceApplied Builtin.Slice.sliceFields
  refine wpAny_bind (wpAny_bind (wpAny_field hos hds (x := .none) rfl (wpAny_bind (wpAny_field hos hds (x := .int a u) rfl (wpAny_bind (wpAny_field hos hds (x := .none) rfl (wpAny_pure ?_)))))))
  refine wpAny_bind (slicePart_none ?_)
  show wpAny _ _ (if ((1 : Int) == 0) = true then _ else _) _ _ s
  rw [if_neg (by decide)]
  refine wpAny_bind (slicePart_none (wpAny_bind (slicePart_int (wpAny_bind (wpAny_pure ?_)))))
  show wpAny _ _ (match Builtin.Slice.sliceAdjust none (some (a : Int)) 1 (n : Int) with | (lo, hi) => pure (lo, (1 : Int), Builtin.Slice.slicePlaces lo hi 1)) _ _ s
  rw [adjust_upto a n ha]
  show wpAny _ _ (pure (((0 : Nat) : Int), (1 : Int), Builtin.Slice.slicePlaces ((0 : Nat) : Int) (a : Int) 1)) _ _ s
  rw [places_ab 0 a]
  exact wpAny_pure h
theorem pick_ak (xs : List Value) (a k : Nat) (h : a + k ≤ xs.length) : ((List.range k).filterMap fun (j : Nat) => xs.toArray[((a : Int) + (j : Int) * 1).toNat]?) = (xs.drop a).take k := by
  have e : (fun (j : Nat) => xs.toArray[((a : Int) + (j : Int) * 1).toNat]?) = fun j => xs[a + j]? := by
    funext j
    have : ((a : Int) + (j : Int) * 1).toNat = a + j := by omega
    rw [this]; simp
  rw [e]
  clear e
  induction k with
  | zero => rfl
  | succ k ih =>
    rw [List.range_succ, List.filterMap_append, ih (by omega), List.take_succ, List.getElem?_drop]
    simp [show a + k < xs.length by omega]
theorem getItem_tup {sl : Addr} (ht : IsTup s.heap t vs.toArray) (hT : s.TypeIs (.ref sl) "slice") (a k : Nat) (hak : a + k ≤ vs.length)
    (sa : ∀ (A' : Around) (Q : Int × Int × Nat → Shared → Prop), Q ((a : Int), 1, k) s → wpAny (model prog w) A' (Builtin.Slice.sliceApplied (.ref sl) (pure ((vs.toArray.size : Nat) : Int))) Q E s)
    (h1 : a = 0 → k = vs.length → Q (.ref t) s) (h2 : Q (.ref s.heap.objs.size) { s with heap := s.heap.push { cls := .type "tuple", data := .seq ((vs.drop a).take k).toArray } })
    (hsz : vs.length ≤ sizeLine) : wpAny (model prog w) A (getItem (.ref t) (.ref sl)) Q E s := by
  have hdrop : sizeOk (.seq ((vs.drop a).take k).toArray) := by
    show ((vs.drop a).take k).toArray.size ≤ sizeLine
    rw [List.size_toArray, List.length_take, List.length_drop]
    omega
  unfold getItem
  try with_reducible refine wpAny_holding ?_
  first | refine wpAny_bind (wpAny_pure ?_) | skip
  refine wpAny_bind (wpAny_sequenceKey ht.typeIs (by decide) ?_)
  refine wpAny_bind (wpAny_callSpecial?_slot (name := Str.ofString "__getitem__") ht.typeIs slot_tuple_getitem
    (wpAny_call_entry slot_tuple_getitem ht.typeIs entry_tuple_getitem ?_ (args_tuple_getitem _ _)))
  show wpAny _ _ (Builtin.Tuple.tupleItemsOf (.ref t) >>= _) _ _ s
  refine wpAny_bind (tupleItemsOf_ ht ?_)
  refine wpAny_bind (wpAny_typeOf hT ?_)
  rw [if_pos (by decide)]
  refine wpAny_bind (sa _ _ ?_)
  by_cases hw : a = 0 ∧ k = vs.length
  · have hy : ((((a : Nat) : Int) == 0 && (1 : Int) == 1 && k == vs.toArray.size) = true) := by
      obtain ⟨rfl, rfl⟩ := hw; simp
    show wpAny _ _ (if ((((a : Nat) : Int) == 0 && (1 : Int) == 1 && k == vs.toArray.size) = true) then _ else _) _ _ s
    rw [if_pos hy]
    refine wpAny_bind (m := Builtin.Tuple.tupleIsExact _) (wpAny_bind (wpAny_typeOf ht.typeIs (wpAny_pure ?_)))
    rw [if_pos (by decide)]
    first
      | exact wpAny_bind (wpAny_rule (wpAny_pure ⟨_, rfl, wpAny_pure (h1 hw.1 hw.2)⟩))
      | exact wpAny_bind (wpAny_rule (wpAny_bind (wpAny_pure (wpAny_pure ⟨_, rfl, wpAny_pure (h1 hw.1 hw.2)⟩))))
      | fail
  · have hno : ¬ ((((a : Nat) : Int) == 0 && (1 : Int) == 1 && k == vs.toArray.size) = true) := by
      simp only [Bool.and_eq_true, beq_iff_eq, List.size_toArray, beq_self_eq_true, and_true]
      omega
    show wpAny _ _ (if ((((a : Nat) : Int) == 0 && (1 : Int) == 1 && k == vs.toArray.size) = true) then _ else _) _ _ s
    rw [if_neg hno, pick_ak vs a k hak]
    first
      | exact wpAny_bind (m := Builtin.Tuple.tupleExact _) (wpAny_newObj_type (wpAny_pure ⟨_, rfl, wpAny_pure h2⟩) hdrop)
      | exact wpAny_bind (m := Builtin.Tuple.tupleExact _) (wpAny_newObj_type (wpAny_bind (wpAny_pure (wpAny_pure ⟨_, rfl, wpAny_pure h2⟩))) hdrop)
      | exact wpAny_bind (wpAny_bind (m := Builtin.Tuple.tupleExact _) (wpAny_newObj_type (wpAny_pure (wpAny_pure ⟨_, rfl, wpAny_pure h2⟩)) hdrop))
      | exact wpAny_bind (wpAny_bind (m := Builtin.Tuple.tupleExact _) (wpAny_newObj_type (wpAny_pure ⟨_, rfl, wpAny_pure h2⟩) hdrop))
theorem tslice {value slice : Expr} {vl vu : Value} (F : Fr h₀ L s.heap m) (N : News h₀ L s.heap led) (hm : (t, tupO vs n) ∈ led) (a k : Nat) (hak : a + k ≤ vs.length)
    (sa : ∀ (A' : Around) (s : Shared) (sl : Addr) (E' : Value → Shared → Prop) (Q : Int × Int × Nat → Shared → Prop), s.heap.IsSliceOf sl vl vu .none → Q ((a : Int), 1, k) s → wpAny (model prog w) A' (Builtin.Slice.sliceApplied (.ref sl) (pure ((vs.toArray.size : Nat) : Int))) Q E' s)
    (hz : vs.length ≤ 1000)
    (h : ∀ D n' h' led', Fr h₀ L h' m → News h₀ L h' led' → (D, tupO ((vs.drop a).take k) n') ∈ led' → (∀ q ∈ led, q ∈ led') → Q (.ref D) { s with heap := h' })
    (hs : subscripted slice false (.ref t) (.ref s.heap.objs.size) = operate [.ref s.heap.objs.size, .ref t] (getItem (.ref t) (.ref s.heap.objs.size)))
    (hg : ∀ r, letTemporaryGo value (.ref t) r = pure ()) :
    wpAny (model prog w) A (subscriptTail value slice (.ref t) (.ref s.heap.objs.size)) Q E { s with heap := s.heap.push { cls := .type "slice", data := .fields #[vl, vu, .none] } } := by
  have ht := tup_led N hm
  have ht' : IsTup (s.heap.push { cls := .type "slice", data := .fields #[vl, vu, .none] }) t vs.toArray := ht.keeps fun _ _ e => Heap.get?_push_of_some _ e
  have N0 : News h₀ L (s.heap.push { cls := .type "slice", data := .fields #[vl, vu, .none] }) led := N.grown fun _ _ e => Heap.get?_push_of_some _ e
  have hsl : (s.heap.push { cls := .type "slice", data := .fields #[vl, vu, .none] }).IsSliceOf s.heap.objs.size vl vu .none := Heap.IsSliceOf.new ..
  refine subscriptTail_ops (s := { s with heap := s.heap.push { cls := .type "slice", data := .fields #[vl, vu, .none] } }) ht'.typeIs slot_tuple_getitem.lookup
    (getItem_tup ht' (by obtain ⟨os, hos, hcs, _⟩ := hsl; exact ⟨os, hos, hcs⟩) a k hak (fun A' Q hq => sa A' _ _ _ Q hsl hq) (fun e1 e2 => ?_) ?_ (by rw [sizeLine_eq]; omega)) hs hg
  · exact h t n _ led (F.push _) N0 (by subst e1 e2; simpa using hm) fun _ h => h
  · have N1 := News.push (F.push { cls := .type "slice", data := .fields #[vl, vu, .none] }) N0 { cls := .type "tuple", data := .seq ((vs.drop a).take k).toArray }
    exact h _ 0 _ _ ((F.push _).push _) N1 (.head _) fun _ h => .tail _ h
theorem tslice_from {value slice : Expr} {a : Nat} {i : Int} {u : Tok} (hi : i = (a : Int)) (F : Fr h₀ L s.heap m) (N : News h₀ L s.heap led) (hm : (t, tupO vs n) ∈ led) (ha : a ≤ vs.length) (hz : vs.length ≤ 1000)
    (h : ∀ D n' h' led', Fr h₀ L h' m → News h₀ L h' led' → (D, tupO (vs.drop a) n') ∈ led' → (∀ q ∈ led, q ∈ led') → Q (.ref D) { s with heap := h' })
    (hs : subscripted slice false (.ref t) (.ref s.heap.objs.size) = operate [.ref s.heap.objs.size, .ref t] (getItem (.ref t) (.ref s.heap.objs.size)))
    (hg : ∀ r, letTemporaryGo value (.ref t) r = pure ()) :
    wpAny (model prog w) A (subscriptTail value slice (.ref t) (.ref s.heap.objs.size)) Q E { s with heap := s.heap.push { cls := .type "slice", data := .fields #[.int i u, .none, .none] } } := by
  subst hi
  refine tslice F N hm a (vs.length - a) (by omega) (fun A' s sl E' Q hsl hq => sliceApplied_from hsl (by simpa using ha) (by simpa using hq)) hz ?_ hs hg
  rw [List.take_of_length_le (by rw [List.length_drop]; exact Nat.le_refl _)]
  exact h
theorem tslice_upto {value slice : Expr} {a : Nat} {i : Int} {u : Tok} (hi : i = (a : Int)) (F : Fr h₀ L s.heap m) (N : News h₀ L s.heap led) (hm : (t, tupO vs n) ∈ led) (ha : a ≤ vs.length) (hz : vs.length ≤ 1000)
    (h : ∀ D n' h' led', Fr h₀ L h' m → News h₀ L h' led' → (D, tupO (vs.take a) n') ∈ led' → (∀ q ∈ led, q ∈ led') → Q (.ref D) { s with heap := h' })
    (hs : subscripted slice false (.ref t) (.ref s.heap.objs.size) = operate [.ref s.heap.objs.size, .ref t] (getItem (.ref t) (.ref s.heap.objs.size)))
    (hg : ∀ r, letTemporaryGo value (.ref t) r = pure ()) :
    wpAny (model prog w) A (subscriptTail value slice (.ref t) (.ref s.heap.objs.size)) Q E { s with heap := s.heap.push { cls := .type "slice", data := .fields #[.none, .int i u, .none] } } := by
  subst hi
  exact tslice F N hm 0 a (by omega) (fun A' s sl E' Q hsl hq => sliceApplied_upto hsl (by simpa using ha) (by simpa using hq)) hz h hs hg
theorem len_tupled (N : News h₀ L s.heap led) (hm : (t, tupO vs n) ∈ led) (hz : vs.length ≤ 1000) (h : Q (.int (vs.length : Int) (s.toks + 1)) { s with toks := s.toks + 1 + 1 }) : wpAny (model prog w) A (call (.builtin "len") [.ref t]) Q E s :=
  len_tuple (tup_led N hm) (by rw [List.size_toArray]; omega) (by rw [List.size_toArray]; exact h)
end
end
section
open PySem PySem.W PySem.Calls PySem.Spec PyProof.Rows
section
variable {P : Prop} {h₀ h : Heap} {L : Addr} {tl led S : Led} {x p : Addr × Obj} {v : Value} {rep : Dat} {w : World} {ks : List Value} {ds : List Nd}
theorem nameQ (N : News h₀ L h (tl ++ x :: led)) (m : p ∈ tl) (n : NodesIn w (tl ++ S) ks ds) (hs : ∀ q ∈ S, q ∈ led) (k : ∀ led1, News h₀ L h (x :: led1) → p ∈ led1 → NodesIn w led1 ks ds → (∀ q ∈ led, q ∈ led1) → P) : P :=
  k (tl ++ led) (fun q hq => N q (by
    rcases List.mem_cons.mp hq with rfl | hq
    · exact List.mem_append_right _ (.head _)
    · exact (List.mem_append.mp hq).elim (fun h => List.mem_append_left _ h) fun h => List.mem_append_right _ (.tail _ h)))
    (List.mem_append_left _ m) (n.mono fun q hq => (List.mem_append.mp hq).elim (fun h => List.mem_append_left _ h) fun h => List.mem_append_right _ (hs q h)) fun q h => List.mem_append_right _ h
theorem nameE (N : News h₀ L h (tl ++ x :: led)) (d : DatIn (tl ++ S) v rep) (hs : ∀ q ∈ S, q ∈ led) (k : ∀ led1, News h₀ L h (x :: led1) → DatIn led1 v rep → (∀ q ∈ led, q ∈ led1) → P) : P :=
  k (tl ++ led) (fun q hq => N q (by
    rcases List.mem_cons.mp hq with rfl | hq
    · exact List.mem_append_right _ (.head _)
    · exact (List.mem_append.mp hq).elim (fun h => List.mem_append_left _ h) fun h => List.mem_append_right _ (.tail _ h)))
    (d.mono fun q hq => (List.mem_append.mp hq).elim (fun h => List.mem_append_left _ h) fun h => List.mem_append_right _ (hs q h)) fun q h => List.mem_append_right _ h
theorem nameC {led0 : Led} (N : News h₀ L h led0) (hx : x ∈ led0) (hp : p ∈ led0) (hs : ∀ q ∈ led, q ∈ led0) (k : ∀ led1, News h₀ L h (x :: led1) → p ∈ led1 → (∀ q ∈ led, q ∈ led1) → P) : P :=
  k (p :: led) (News.re N (Sub.cons hx (Sub.cons hp hs))) (.head _) (fun q h => .tail _ h)
end
noncomputable def PQ (d : Nd) : Prop := d.bk ∧ -1000 ≤ d.height ∧ d.height ≤ 1000
theorem ok_pq {d : Nd} (h : d.ok) : PQ d := by
  cases d with
  | box k wd ht dp sf sg od r1 r2 items =>
    obtain ⟨h1, h2, _, _, h5, h6, _⟩ := h
    refine ⟨?_, ?_, ?_⟩
    · show k = 2 ∨ k = 3
      omega
    · show -1000 ≤ ht
      omega
    · show ht ≤ 1000
      omega
  | rule wd ht dp =>
    obtain ⟨_, h2, _⟩ := h
    rcases h2 with rfl | rfl
    · exact ⟨trivial, by show (-1000 : Int) ≤ 0; decide, by show (0 : Int) ≤ 1000; decide⟩
    · exact ⟨trivial, by show (-1000 : Int) ≤ 6; decide, by show (6 : Int) ≤ 1000; decide⟩
  | _ => exact ⟨trivial, by show (-1000 : Int) ≤ 0; decide, by show (0 : Int) ≤ 1000; decide⟩
theorem prn_pq {g : Gl} {ds : List Nd} (h : ∀ d ∈ ds, PQ d) : ∀ d ∈ prn g ds, PQ d := fun d hd => by
  rcases mem_prn hd with hd | ⟨gl, rfl⟩
  · exact h d hd
  · exact ⟨trivial, by show (-1000 : Int) ≤ 0; decide, by show (0 : Int) ≤ 1000; decide⟩
theorem app_pq {gn ds : List Nd} (h : ∀ d ∈ gn, PQ d) (k : ∀ d ∈ ds, PQ d) : ∀ d ∈ gn ++ ds, PQ d := fun d hd => (List.mem_append.mp hd).elim (h d) (k d)
theorem prn_dk {g : Gl} {ds : List Nd} (h : ∀ d ∈ ds, d.ok) (n : Nat) : ∀ d ∈ prn g ds, d.dk (n + 1) := fun d hd => by
  rcases mem_prn hd with hd | ⟨gl, rfl⟩
  · exact Nd.ok_dk1 (h d hd) n
  · trivial
noncomputable def Stn (ds : List Nd) (i : Nat) (ys : List Value) : Prop := ys.length ≤ i ∧ ((ys = [] ∧ i ≤ fs ds) ∨ (fs ds < i ∧ ∃ t r, ys = .int (fs ds : Int) t :: r))
theorem Stn.zero (ds : List Nd) : Stn ds 0 [] := ⟨Nat.le_refl _, .inl ⟨rfl, Nat.zero_le _⟩⟩
theorem Stn.no {ds : List Nd} {i : Nat} {ys : List Value} {d : Nd} (h : Stn ds i ys) (hd : ds[i]? = some d) (k : ¬ d.std) : Stn ds (i + 1) ys := by
  obtain ⟨h1, h2⟩ := h
  refine ⟨Nat.le_succ_of_le h1, ?_⟩
  rcases h2 with ⟨e, l⟩ | ⟨l, x⟩
  · have := fs_not hd k
    exact .inl ⟨e, by omega⟩
  · exact .inr ⟨by omega, x⟩
theorem Stn.yes {ds : List Nd} {i : Nat} {ys : List Value} {d : Nd} {t : Tok} (h : Stn ds i ys) (hd : ds[i]? = some d) (k : d.std) : Stn ds (i + 1) (ys ++ [.int (i : Int) t]) := by
  obtain ⟨h1, h2⟩ := h
  refine ⟨by rw [List.length_append]; exact Nat.succ_le_succ h1, .inr ?_⟩
  have l9 := fs_at hd k
  rcases h2 with ⟨rfl, l⟩ | ⟨l, u, r, rfl⟩
  · have e : fs ds = i := Nat.le_antisymm l9 l
    exact ⟨by omega, t, [], by rw [e]; rfl⟩
  · exact ⟨by omega, u, r ++ [.int (i : Int) t], rfl⟩
theorem Stn.end {ds : List Nd} {ys : List Value} {n : Nat} (h : Stn ds n ys) (hn : n = ds.length) : (ys = [] ∧ fs ds = ds.length) ∨ (fs ds < ds.length ∧ ∃ t r, ys = .int (fs ds : Int) t :: r) := by
  subst hn
  rcases h.2 with ⟨e, l⟩ | h
  · exact .inl ⟨e, Nat.le_antisymm (fs_le ds) l⟩
  · exact .inr h
theorem Stn.head {ds : List Nd} {ys : List Value} {n : Nat} {t : Tok} (h : Stn ds n ys) (hn : n = ds.length) : ∃ t', (ys ++ [.int (n : Int) t])[(0 : Int).toNat]? = some (.int (fs ds : Int) t') := by
  rcases h.end hn with ⟨rfl, e⟩ | ⟨_, u, r, rfl⟩
  · exact ⟨t, by rw [e, hn]; rfl⟩
  · exact ⟨u, rfl⟩
theorem prn_law (g : Gl) (ds : List Nd) : (kp (ds.take (fs ds))).length + (ds.drop (fs ds)).length + (if ds.drop (fs ds) = [] then 0 else 1) = (prn g ds).length ∧ (prn g ds).take (kp (ds.take (fs ds))).length = kp (ds.take (fs ds)) ∧ (prn g ds).drop ((prn g ds).length - (ds.drop (fs ds)).length) = ds.drop (fs ds) := by
  rcases prn_form g ds with ⟨h1, h2⟩ | ⟨h1, x, h2⟩
  · have e : ds.drop (fs ds) = [] := by rw [h1, List.drop_length]
    rw [e, if_pos rfl, h2]
    refine ⟨rfl, List.take_length .., ?_⟩
    simp
  · have e : ds.drop (fs ds) ≠ [] := by
      intro e
      have := congrArg List.length e
      rw [List.length_drop] at this
      simp at this; omega
    rw [if_neg e, h2]
    refine ⟨by simp only [List.length_append, List.length_cons]; omega, List.take_left .., ?_⟩
    rw [show (kp (ds.take (fs ds)) ++ x :: ds.drop (fs ds)).length - (ds.drop (fs ds)).length = (kp (ds.take (fs ds)) ++ [x]).length by simp only [List.length_append, List.length_cons, List.length_nil]; omega, show kp (ds.take (fs ds)) ++ x :: ds.drop (fs ds) = (kp (ds.take (fs ds)) ++ [x]) ++ ds.drop (fs ds) by simp]
    exact List.drop_left ..
theorem dats_len (ds : List Nd) : (Nd.dats ds).length = ds.length := by rw [Nd.dats_map, List.length_map]
theorem dats_nil {ds : List Nd} : (Nd.dats ds = []) = (ds = []) := by rw [Nd.dats_map]; simp
theorem datsT (g : Gl) (ds : List Nd) : (Nd.dats (prn g ds)).take (kp (ds.take (fs ds))).length = Nd.dats (kp (ds.take (fs ds))) := by
  have h := (prn_law g ds).2.1
  rw [Nd.dats_map, Nd.dats_map, ← List.map_take, h]
theorem datsD (g : Gl) (ds : List Nd) : (Nd.dats (prn g ds)).drop ((prn g ds).length - (ds.drop (fs ds)).length) = Nd.dats (ds.drop (fs ds)) := by
  have h := (prn_law g ds).2.2
  rw [Nd.dats_map, Nd.dats_map, ← List.map_drop, h]
theorem DatAll.take {S : Led} : ∀ (i : Nat) {vs : List Value} {ds : List Dat}, DatAll S vs ds → DatAll S (vs.take i) (ds.take i)
  | 0, _, _, _ => .nil
  | _ + 1, _, _, .nil => .nil
  | i + 1, _, _, .cons h t => .cons h (DatAll.take i t)
theorem DatAll.drop {S : Led} : ∀ (i : Nat) {vs : List Value} {ds : List Dat}, DatAll S vs ds → DatAll S (vs.drop i) (ds.drop i)
  | 0, _, _, h => h
  | _ + 1, _, _, .nil => .nil
  | i + 1, _, _, .cons _ t => DatAll.drop i t
theorem dat_tup {S : Led} {v : Value} {ds : List Dat} (h : DatIn S v (.tuple ds)) : ∃ t vs n, v = .ref t ∧ (t, tupO vs n) ∈ S ∧ DatAll S vs ds ∧ vs.length = ds.length := by
  cases h with
  | tuple m a => exact ⟨_, _, _, rfl, m, a, DatAll.length a⟩
theorem kp_step {ds : List Nd} {i : Nat} {d : Nd} (h : ds[i]? = some d) : kp (ds.take (i + 1)) = kp (ds.take i) ++ (if d.kps then [d] else []) := by
  unfold kp
  rw [List.take_add_one, h, List.filter_append]
  congr 1
  by_cases q : d.kps
  · rw [if_pos q]; simp [q]
  · rw [if_neg q]; simp [q]
theorem kp_yes {S S' : Led} {ds : List Nd} {i : Nat} {d : Nd} {ys : List Value} {y : Value} (h : ds[i]? = some d) (k : d.kps) (a : DatAll S ys (Nd.dats (kp (ds.take i)))) (b : DatIn S' y d.dat) (hs : ∀ q ∈ S, q ∈ led) (hs' : ∀ q ∈ S', q ∈ led) : DatAll led (ys ++ [y]) (Nd.dats (kp (ds.take (i + 1)))) := by
  rw [kp_step h, if_pos k, Nd.dats_map, List.map_append, ← Nd.dats_map]
  exact DatAll.append (a.mono hs) (DatAll.one (b.mono hs'))
theorem kp_no {S : Led} {ds : List Nd} {i : Nat} {d : Nd} {ys : List Value} (h : ds[i]? = some d) (k : ¬ d.kps) (a : DatAll S ys (Nd.dats (kp (ds.take i)))) (hs : ∀ q ∈ S, q ∈ led) : DatAll led ys (Nd.dats (kp (ds.take (i + 1)))) := by
  rw [kp_step h, if_neg k, List.append_nil]
  exact a.mono hs
theorem kp_sub {ds : List Nd} {i : Nat} {P : Nd → Prop} (h : ∀ d ∈ ds, P d) : ∀ d ∈ kp (ds.take i), P d := fun d hd => h d (List.mem_of_mem_take (List.mem_filter.mp hd).1)
theorem kp_len (ds : List Nd) (i : Nat) : (kp (ds.take i)).length ≤ ds.length := Nat.le_trans (List.length_filter_le ..) (List.length_take_le' ..)
end
section
section
variable {w : World} {p : Program} {loose : List Str} {mean : ExcName → Option Value} {mg mb : Str → Option Value}
theorem prn_le {S : Led} {ks : List Value} {g : Gl} {ds : List Nd} (n : NodesIn w S ks (prn g ds)) (h : ds.length ≤ 80) : ks.length ≤ 100 := by
  rw [n.length]
  exact Nat.le_trans (prn_len g ds) (by omega)
theorem unit_dat {led : Led} {t : Addr} {n : Nat} (m : (t, tupO [] n) ∈ led) : DatIn led (.ref t) (.tuple []) := .tuple m .nil
theorem fin_eq {a b c : Nat} {l : List Nd} {inst : Decidable (Dat.tuple (Nd.dats l) = Dat.tuple [])} (h : b + c + (if l = [] then 0 else 1) = a) : ((a : Int) == (b : Int) + (c : Int) + if (!decide (Dat.tuple (Nd.dats l) = Dat.tuple [])) = true then 1 else 0) = true := by
  subst h
  have e : (Dat.tuple (Nd.dats l) = Dat.tuple []) = (l = []) := by rw [Dat.tuple.injEq, dats_nil]
  rw [beq_iff_eq]
  by_cases z : l = []
  · rw [if_pos z, decide_eq_true (e ▸ z)]; simp
  · rw [if_neg z, decide_eq_false (e ▸ z)]; simp
noncomputable def BehP (g : Heap) (L : Addr) (m : Str → Option Value) (x p : Addr × Obj) (led2 : Led) (rep : Dat) (s : Shared) (Q : Value → Shared → Prop) : Prop :=
  ∀ b h tk led9, Fr g L h m → News g L h (x :: led9) → p ∈ led9 → (∀ q ∈ led2, q ∈ led9) → DatIn led9 b rep → Q b { s with heap := h, toks := tk }
theorem cut_beh {M : Model} {A : Around} {t : Sem Value} {Q E : Value → Shared → Prop} {s : Shared} {g : Heap} {L : Addr} {m : Str → Option Value} {x p : Addr × Obj} {led2 : Led} (_ : Fr g L s.heap m) (_ : News g L s.heap (p :: x :: led2)) (rep : Dat)
    (h1 : ∀ Q', BehP g L m x p led2 rep s Q' → wpAny M A t Q' E s) (h2 : BehP g L m x p led2 rep s Q) : wpAny M A t Q E s := h1 Q h2
theorem beh_go {g h : Heap} {L : Addr} {m : Str → Option Value} {x p : Addr × Obj} {led2 led9 S : Led} {rep : Dat} {s : Shared} {Q : Value → Shared → Prop} {b : Value} {tk : Nat} (hQ : BehP g L m x p led2 rep s Q) (F : Fr g L h m) (N : News g L h led9) (hx : x ∈ led9) (hp : p ∈ led9) (hs : ∀ q ∈ led2, q ∈ led9) (d : DatIn S b rep) (hS : ∀ q ∈ S, q ∈ led9) : Q b { s with heap := h, toks := tk } :=
  hQ b h tk led9 F (News.re N (Sub.cons hx Sub.refl)) hp hs (d.mono hS)
theorem nameW {P : Prop} {h₀ h : Heap} {L : Addr} {p : Addr × Obj} {led0 led10 S : Led} {kys : List Value} {es : List Dat} (N : News h₀ L h led0) (m : p ∈ led0) (d : DatAll S kys es) (hS : ∀ q ∈ S, q ∈ led0) (hs : ∀ q ∈ led10, q ∈ led0) (k : ∀ led11, News h₀ L h led11 → p ∈ led11 → DatAll led11 kys es → (∀ q ∈ led10, q ∈ led11) → P) : P := k led0 N m (d.mono hS) hs
theorem fin_b {Q : Value → Shared → Prop} {s : Shared} {b : Bool} (h : Q (.bool true) s) (e : b = true) : Q (.bool b) s := by rw [e]; exact h
theorem reg_AH3b_lp : True := by
  k_with "mine:enterD" => first | ((refine' code_defC ?k1_k9 ?k2_k9 ?k3_k9 ?k4_k9 ?k5_k9 ?kA_k9 ?kF_k9 ?kK_k9 ?k6_k9 ?k7_k9 ?k8_k9 ?k9_k9 ?kB_k9 ?kD_k9 ?_ ?c2_k9 ?c3_k9 ?c4_k9; (case kA_k9 => exact rfl); (case kF_k9 => exact rfl); (case kK_k9 => first | assumption | exact rfl); (case k1_k9 => k_asm); (case k2_k9 => k_asm); (case k3_k9 => k_asm); (case k4_k9 => k_asm); (case k5_k9 => k_asm); (case k6_k9 => k_is); (case k7_k9 => k_is); (case k8_k9 => exact dp_ltz hd); (case k9_k9 => exact BindsTo.of_eq rfl); (case kB_k9 => exact rfl); (case kD_k9 => decide +kernel); (case c2_k9 => exact rfl); (case c3_k9 => exact rfl); (case c4_k9 => exact rfl); k_whole; intro g' L' h' tk' cells' FG' F' N' Y' B' X' T' l1; (try k_lt l1); k_cells Y'; (try simp only [List.cons_append, List.nil_append] at N'); (try dsimp only); (refine letA (P := fun A' => wpAny _ A' _ _ _ _) ?_; intro A9); (try k_fold))) | fail
  k_with "w:eval Name" => first | ((k_here; (with_reducible show wpAny _ _ (eval (PySem.Expr.Name (Str.ofString "items") _) _) _ _ _); ((first | with_reducible refine' nameX_C ?N_k9 ?c_k9 ?m_k9 ?d_k9 ?_ ?a_k9 ?b_k9 | k_dflt (refine' nameX_C ?N_k9 ?c_k9 ?m_k9 ?d_k9 ?_ ?a_k9 ?b_k9)); k_dflt ((case a_k9 => rfl); (case b_k9 => rfl); (case N_k9 => k_asm); (case c_k9 => rfl); (case m_k9 => k_mem); (case d_k9 => k_asm); k_whole)))) | fail
  k_with "w:exec Assign cons ListComp" => first | ((k_here; lct_look; ((first | with_reducible refine LCt.Assign_ListComp_T (F₀ := by k_asm) (by rfl) (by with_unfolding_all rfl) (by with_unfolding_all rfl) (by decide) (by rfl) (by decide) (by rfl) (by rfl) (by rfl) ?_ | k_dflt (refine LCt.Assign_ListComp_T (F₀ := by k_asm) (by rfl) (by with_unfolding_all rfl) (by with_unfolding_all rfl) (by decide) (by rfl) (by decide) (by rfl) (by rfl) (by rfl) ?_))))) | fail
  k_with "mine:sub" => first | (k_extra "mine:subs") | fail
  k_with "mine:dok" => first | (first | exact kqd_le (dats_ok fun d hd => prn_dk hok 0 d hd) (by decide)) | fail
  k_with "mine:cmp" => first | ((with_reducible refine' dat_ne ?N_k9 ?da_k9 ?sa_k9 ?db_k9 ?sb_k9 ?dx_k9 ?ex_k9 ?hu_k9 ?_; (case N_k9 => k_asm); (case da_k9 => with_reducible assumption); (case db_k9 => with_reducible assumption); (case sa_k9 => k_extra "mine:subs"); (case sb_k9 => k_extra "mine:subs"); (case dx_k9 => k_extra "mine:dok"); (case ex_k9 => k_extra "mine:dok"); (case hu_k9 => k_extra "mine:units"); k_whole)) | fail
  k_with "w:compareOp NotEq ref ref" => first | ((k_here; k_dflt (k_extra "mine:cmp"); (try simp only [decide_true, Bool.not_true]))) | fail
  k_with "w:compareOp NotEq" => first | ((k_here; k_dflt (k_extra "mine:cmp"); (try simp only [decide_true, Bool.not_true]))) | fail
  k_with "w:call builtin:len" => first | ((k_here; (with_reducible show wpAny _ _ (call (Value.builtin _) [Value.ref l]) _ _ _); k_dflt (first | (refine' len_led (news := _ :: led8) ?N_k9 (List.mem_cons_of_mem _ (s08 _ hl)) ?z_k9 ?_; (case N_k9 => k_asm); (case z_k9 => omega); k_whole) | (refine' len_led ?N_k9 ?m_k9 ?z_k9 ?_; (case N_k9 => k_asm); (case m_k9 => k_extra "mine:lm"); (case z_k9 => omega); k_whole)))) | fail
  k_with "mine:lm" => first | (first | exact List.mem_cons_of_mem _ ml9 | (refine List.mem_cons_of_mem _ ?_; k_extra "mine:lm")) | fail
  k_with "w:call builtin:len" => first | ((k_here; (with_reducible show wpAny _ _ (call (Value.builtin _) [Value.ref tk5]) _ _ _); ((first | with_reducible refine' len_led (vs := kys) ?N_k9 ?m_k9 ?z_k9 ?_ | k_dflt (refine' len_led (vs := kys) ?N_k9 ?m_k9 ?z_k9 ?_)); k_dflt ((case N_k9 => k_asm); (case m_k9 => k_extra "mine:in"); (case z_k9 => omega); k_whole)))) | fail
  k_with "w:call builtin:len" => first | ((k_here; (with_reducible show wpAny _ _ (call (Value.builtin _) [Value.ref to]) _ _ _); ((first | with_reducible refine' len_tupled (vs := vo) ?N_k9 ?m_k9 ?z_k9 ?_ | k_dflt (refine' len_tupled (vs := vo) ?N_k9 ?m_k9 ?z_k9 ?_)); k_dflt ((case N_k9 => k_asm); (case m_k9 => k_extra "mine:in"); (case z_k9 => omega); k_whole)))) | fail
  k_with "w:call builtin:len" => first | ((k_here; (with_reducible show wpAny _ _ (call (Value.builtin _) [Value.ref tb]) _ _ _); ((first | with_reducible refine' len_tupled (vs := vb) ?N_k9 ?m_k9 ?z_k9 ?_ | k_dflt (refine' len_tupled (vs := vb) ?N_k9 ?m_k9 ?z_k9 ?_)); k_dflt ((case N_k9 => k_asm); (case m_k9 => k_extra "mine:in"); (case z_k9 => omega); k_whole)))) | fail
  k_with "w:binaryOp Add ref ref" => first | ((k_here; (with_reducible show wpAny _ _ (binaryOp _ (Value.ref lg) (Value.ref l)) _ _ _); ((first | with_reducible refine' list_cat (news := _ :: led5) ?F_k9 ?N_k9 (List.mem_cons_of_mem _ (s05 _ hg)) (List.mem_cons_of_mem _ (s05 _ hl)) ?z_k9 ?y_k9 ?_ | k_dflt (refine' list_cat (news := _ :: led5) ?F_k9 ?N_k9 (List.mem_cons_of_mem _ (s05 _ hg)) (List.mem_cons_of_mem _ (s05 _ hl)) ?z_k9 ?y_k9 ?_)); k_dflt ((case F_k9 => k_asm); (case N_k9 => k_asm); (case z_k9 => omega); (case y_k9 => omega); k_whole)); intro d6 h9 F9 N9 l9; refine nameC N9 (List.mem_cons_of_mem _ List.mem_cons_self) List.mem_cons_self (Sub.skip (Sub.skip Sub.refl)) fun led6 N9 m6 s56 => ?_; have s06 := Sub.trans s05 s56; have n6 := NodesIn.append (hgn.mono s06) (hn.mono s06); (try k_sweep))) | fail
  k_with "w:subscriptTail Name Name ref int" => first | ((k_here; (with_reducible show wpAny _ _ (subscriptTail _ _ (Value.ref _) (Value.int _ _)) _ _ _); ((first | with_reducible refine' item_led (vs := vs) ?N_k9 ?m_k9 ?a_k9 ?b_k9 ?x_k9 ?_ ?s_k9 | k_dflt (refine' item_led (vs := vs) ?N_k9 ?m_k9 ?a_k9 ?b_k9 ?x_k9 ?_ ?s_k9)); k_dflt ((case N_k9 => k_asm); (case m_k9 => k_extra "mine:in"); (case a_k9 => omega); (case b_k9 => omega); (case x_k9 => exact hv9'); (case s_k9 => with_unfolding_all rfl); k_whole)))) | fail
  k_with "w:compareOp In int ref" => first | ((k_here; (with_reducible show wpAny _ _ (compareOp CmpOp.In (Value.int _ _) (Value.ref _)) _ _ _); ((first | with_reducible refine' in_ints ?l_k9 ?i_k9 ?_ ?_ | k_dflt (refine' in_ints ?l_k9 ?i_k9 ?_ ?_)); k_dflt ((case l_k9 => first | exact News.isTup (by k_asm) (by k_mem) | exact kun_topT (by k_asm) (by k_asm) (by k_is)); (case i_k9 => exact .cons _ _ (.cons _ _ (.cons _ _ .nil))))); (all_goals (intro z9; simp only [List.mem_cons, List.not_mem_nil, or_false] at z9)))) | fail
  k_with "w:CompSrcT" => first | (((rename IsRange _ _ _ _ _ _ _ _ => rgX); (rename Fr _ _ _ _ => F8); (rename News _ _ _ _ => N8); ((first | with_reducible refine' LCt.CompSrcT.range (n := vs.length) (news := _ :: led2) ?hh_k9 ?F_k9 ?N_k9 ?hr_k9 ?hsm_k9 ?hn_k9 ?hz_k9 ?_ | k_dflt (refine' LCt.CompSrcT.range (n := vs.length) (news := _ :: led2) ?hh_k9 ?F_k9 ?N_k9 ?hr_k9 ?hsm_k9 ?hn_k9 ?hz_k9 ?_)); k_dflt ((case hh_k9 => exact rfl); (case F_k9 => exact F8); (case N_k9 => ((refine News.re N8 ?_); (refine Sub.cons ?_ ?_); (focus exact List.mem_cons_self); exact Sub.skip s28)); (case hr_k9 => exact rgX); (case hsm_k9 => exact small_one (by omega) (by omega) (by omega) (by omega)); (case hn_k9 => exact rs_nat _); (case hz_k9 => rw [sizeLine_eq]; omega))); intro g9; refine comp_invT vs.length (fun i ys nw => nw = _ :: led2 ∧ Stn ds i ys) ⟨rfl, Stn.zero ds⟩ ?_ ?_; rotate_left 1; (focus (k_dflt (intro i9 ys9 nw9 v9 I oI C oC D m₂ h9 tk9 E9 hi9 hInv9 hv9 hC hx F9 N9 off9 ne9; obtain ⟨e0, hS9⟩ := hInv9; subst e0; obtain ⟨t9, e9⟩ := hv9; (rw [Int.zero_add] at e9); subst e9; obtain ⟨u9, hu9, hv9'⟩ := get_ex hi9; obtain ⟨nd9, hnd9, hnS9⟩ := hn.get hu9; have hin9 := hnS9.mono s02; obtain ⟨a9, tt9, e9, hk9⟩ := hin9.kd; subst e9; have ml2 := s02 _ hl; have offI' := fun p hp => ((LCg.Off3.mem off9) p hp).1; have offC' := fun p hp => ((LCg.Off3.mem off9) p hp).2.1; have offD' := fun p hp => ((LCg.Off3.mem off9) p hp).2.2; k_steps; all_goals (first | (refine' comp_end (all := (I, oI) :: (C, oC) :: (D, LCg.lst ys9) :: _ :: led2) ?F8_k9 (News.re ?N8_k9 ?s8_k9) .head .head .head offI' offC' offD' trivial ⟨rfl, ?_⟩; (case F8_k9 => assumption); (case N8_k9 => assumption); (case s8_k9 => k_extra "mine:subs"); first | exact Stn.yes hS9 hnd9 z9 | exact Stn.no hS9 hnd9 z9))))); intro ys nw hInv; obtain ⟨e0, hS⟩ := hInv; subst e0; k_dflt (intro D1 h9 tk9 F9 N9 of9); k_dflt (have hys := hS.1); (try k_sweep); (try dsimp only); (try k_fold))) | fail
  k_with "w:eval IfExp" => first | ((k_here; (fail_if_success (have z9 := hQ9)); (rename Fr _ _ _ _ => F8); (rename News _ _ _ _ => N8); ((first | with_reducible refine' cut_beh F8 N8 (.tuple (Nd.dats (ds.drop (fs ds)))) ?c1_k9 ?c2_k9 | k_dflt (refine' cut_beh F8 N8 (.tuple (Nd.dats (ds.drop (fs ds)))) ?c1_k9 ?c2_k9)); k_dflt ((case c1_k9 => (intro Q9 hQ9; have ml2 := s02 _ hl; rcases hS.end hn.length with ⟨e9, f9⟩ | ⟨f9, t9, r9, e9⟩; (focus (subst e9; have e8 : Nd.dats (ds.drop (fs ds)) = [] := (by rw [f9, List.drop_length]; rfl); (rw [e8] at hQ9); k_steps; all_goals (first | (refine' beh_go hQ9 ?zF_k9 ?zN_k9 ?zx_k9 ?zp_k9 ?zs_k9 (unit_dat ?zd_k9) Sub.refl; (case zF_k9 => assumption); (case zN_k9 => assumption); (case zx_k9 => k_mem); (case zp_k9 => k_mem); (case zs_k9 => k_extra "mine:subs"); (case zd_k9 => k_mem))))); (focus (subst e9; k_steps; all_goals (first | (refine' beh_go hQ9 ?zF_k9 ?zN_k9 ?zx_k9 ?zp_k9 ?zs_k9 d9 ?zS_k9; (case zF_k9 => assumption); (case zN_k9 => assumption); (case zx_k9 => k_mem); (case zp_k9 => k_mem); (case zs_k9 => k_extra "mine:subs"); (case zS_k9 => k_extra "mine:subs"))))))))); k_dflt (intro b9 h9 tk9 led9 F9 N9 mD1 s29 dB); obtain ⟨tb, vb, nb, eb, mb9, ab, -⟩ := dat_tup dB; subst eb; have ml9 := s29 _ (s02 _ hl); (try k_sweep); (try dsimp only); (try k_fold))) | fail
  k_with "w:compareOp NotEq ref ref" => first | ((k_here; ((first | with_reducible refine' ne_nil ?N_k9 ?a_k9 ?b_k9 ?u_k9 ?_ | k_dflt (refine' ne_nil ?N_k9 ?a_k9 ?b_k9 ?u_k9 ?_)); k_dflt ((case N_k9 => k_asm); (case b_k9 => k_mem); (case a_k9 => k_mem); (case u_k9 => k_extra "mine:units"); k_whole)); (try simp only [List.isEmpty_nil, List.isEmpty_cons, Bool.not_true, Bool.not_false]))) | fail
  k_with "w:subscriptTail Name Slice ref ref" => first | ((k_here; (with_reducible show wpAny _ _ (subscriptTail _ (PySem.Expr.Slice _ _ none _) (Value.ref l) (Value.ref _)) _ _ _); (have z9 := hQ9); ((first | with_reducible refine' slice_led (vs := vs) ?F_k9 ?N_k9 ?l_k9 ?p_k9 ?q_k9 ?e_k9 ?z_k9 ?_ ?s_k9 ?t_k9 | k_dflt (refine' slice_led (vs := vs) ?F_k9 ?N_k9 ?l_k9 ?p_k9 ?q_k9 ?e_k9 ?z_k9 ?_ ?s_k9 ?t_k9)); k_dflt ((case F_k9 => k_asm); (case N_k9 => k_asm); (case l_k9 => k_extra "mine:in"); (case p_k9 => kmk_part); (case q_k9 => kmk_part); (case e_k9 => exact pick_from _ _); (case z_k9 => omega); (case s_k9 => with_unfolding_all rfl); (case t_k9 => kmk_pure); k_whole)); intro d3 h9 F9 N9 l9; (try k_sweep))) | fail
  k_with "w:subscriptTail Name Slice ref ref" => first | ((k_here; (with_reducible show wpAny _ _ (subscriptTail _ (PySem.Expr.Slice _ _ none _) (Value.ref l) (Value.ref _)) _ _ _); (fail_if_success (have z9 := hQ9)); ((first | with_reducible refine' slice_led (vs := vs) ?F_k9 ?N_k9 ?l_k9 ?p_k9 ?q_k9 ?e_k9 ?z_k9 ?_ ?s_k9 ?t_k9 | k_dflt (refine' slice_led (vs := vs) ?F_k9 ?N_k9 ?l_k9 ?p_k9 ?q_k9 ?e_k9 ?z_k9 ?_ ?s_k9 ?t_k9)); k_dflt ((case F_k9 => k_asm); (case N_k9 => k_asm); (case l_k9 => k_extra "mine:in"); (case p_k9 => kmk_part); (case q_k9 => kmk_part); (case e_k9 => exact pick_upto _ _); (case z_k9 => omega); (case s_k9 => with_unfolding_all rfl); (case t_k9 => kmk_pure); k_whole)); intro d5 h9 F9 N9 l9; refine nameC N9 (List.mem_cons_of_mem _ (List.mem_cons_of_mem _ (List.mem_cons_of_mem _ List.mem_cons_self))) List.mem_cons_self (Sub.skip (Sub.skip (Sub.skip (Sub.skip Sub.refl)))) fun led10 N9 m5 s9A => ?_; have s2A := Sub.trans s29 s9A; have n5 := NodesIn.take (fs ds) (hn.mono (Sub.trans s02 s2A)); (try k_sweep))) | fail
  k_with "w:binaryOp Add ref ref" => first | ((k_here; (with_reducible show wpAny _ _ (binaryOp _ (Value.ref D1) (Value.ref _)) _ _ _); ((first | with_reducible refine' list_cat (vs := ys) ?F_k9 ?N_k9 ?a_k9 ?b_k9 ?z_k9 ?y_k9 ?_ | k_dflt (refine' list_cat (vs := ys) ?F_k9 ?N_k9 ?a_k9 ?b_k9 ?z_k9 ?y_k9 ?_)); k_dflt ((case F_k9 => k_asm); (case N_k9 => k_asm); (case a_k9 => k_extra "mine:in"); (case b_k9 => k_mem); (case z_k9 => omega); (case y_k9 => (simp only [List.length_cons, List.length_nil]; omega)); k_whole)); intro d4 h9 F9 N9 l9; (try k_sweep))) | fail
  k_with "w:subscriptTail BinOp Name Add List Constant ref int" => first | ((k_here; (with_reducible show wpAny _ _ (subscriptTail _ _ (Value.ref _) (Value.int _ _)) _ _ _); ((first | with_reducible refine' Exists.elim (Stn.head hS hn.length) fun t8 he8 => item_led ?N_k9 ?m_k9 ?a_k9 ?b_k9 he8 ?_ ?s_k9 | k_dflt (refine' Exists.elim (Stn.head hS hn.length) fun t8 he8 => item_led ?N_k9 ?m_k9 ?a_k9 ?b_k9 he8 ?_ ?s_k9)); k_dflt ((case N_k9 => k_asm); (case m_k9 => k_mem); (case a_k9 => decide); (case b_k9 => decide); (case s_k9 => with_unfolding_all rfl); k_whole)))) | fail
  k_with "w:CompSrcT" => first | (((with_reducible show LCt.CompSrcT _ _ _ _ _ _ _ _ _ _ _ _ _ (Value.ref d5) _); (rename Fr _ _ _ _ => F8); (rename News _ _ _ _ => N8); ((first | with_reducible refine' LCt.CompSrcT.ledger (its := (vs.take (fs ds)).toArray) (news := _ :: led10) ?hh_k9 ?F_k9 ?N_k9 ?hm_k9 ?hz_k9 ?_ | k_dflt (refine' LCt.CompSrcT.ledger (its := (vs.take (fs ds)).toArray) (news := _ :: led10) ?hh_k9 ?F_k9 ?N_k9 ?hm_k9 ?hz_k9 ?_)); k_dflt ((case hh_k9 => exact rfl); (case F_k9 => exact F8); (case N_k9 => exact N8); (case hm_k9 => exact List.mem_cons_of_mem _ m5); (case hz_k9 => (rw [List.size_toArray, List.length_take, sizeLine_eq]; omega)))); intro g9; refine comp_tlT _ (fun i ys tl => DatAll (tl ++ led10) ys (Nd.dats (kp ((ds.take (fs ds)).take i)))) .nil ?_ ?_; rotate_left 1; (focus (k_dflt (intro i9 ys9 tl0 v9 I oI C oC D m₂ h9 tk9 E9 hi9 a0 d0 hv9 hC hx F9 N9 off9 ne9; have hv2 : (vs.take (fs ds))[i9]? = some v9 := (by rw [← List.getElem?_toArray]; exact hv9); obtain ⟨nd9, hnd9, hin9⟩ := n5.get hv2; obtain ⟨a9, tt9, e9, hk9⟩ := hin9.kd; subst e9; have hok9 := hok nd9 (List.mem_of_mem_take (List.mem_of_getElem? hnd9)); have offI' := fun p hp => ((LCg.Off3.mem off9) p hp).1; have offC' := fun p hp => ((LCg.Off3.mem off9) p hp).2.1; have offD' := fun p hp => ((LCg.Off3.mem off9) p hp).2.2; k_steps; all_goals (first | (refine' comp_end (all := (I, oI) :: (C, oC) :: (D, LCg.lst ys9) :: (tl0 ++ _ :: led10)) ?F8_k9 (News.re ?N8_k9 ?s8_k9) .head .head .head offI' offC' offD' (Or.inr ⟨_, List.mem_append_right _ (List.mem_cons_of_mem _ m5), rfl, _, rfl⟩) ⟨tl0, rfl, a0, kp_no hnd9 z9 d0 Sub.refl⟩; (case F8_k9 => assumption); (case N8_k9 => assumption); (case s8_k9 => k_extra "mine:subs")) | (refine' comp_end (all := (I, oI) :: (C, oC) :: (D, LCg.lst ys9) :: (tl9 ++ (tl0 ++ _ :: led10))) ?F8_k9 (News.re ?N8_k9 ?s8_k9) .head .head .head ?o1_k9 ?o2_k9 ?o3_k9 (Or.inr ⟨_, List.mem_append_right _ (List.mem_append_right _ (List.mem_cons_of_mem _ m5)), rfl, _, rfl⟩) ⟨tl9 ++ tl0, (List.append_assoc _ _ _).symm, Ap.app (Ap.sub f9 ?sa_k9) a0, kp_yes hnd9 z9 d0 d9 sub3a sub3b⟩; (case F8_k9 => assumption); (case N8_k9 => assumption); (case s8_k9 => k_extra "mine:subs"); (case sa_k9 => k_extra "mine:subs"); (case o1_k9 => exact List.forall_mem_append.mpr ⟨Ap.ne f9 (H := I) (o := oI) (by k_mem), offI'⟩); (case o2_k9 => exact List.forall_mem_append.mpr ⟨Ap.ne f9 (H := C) (o := oC) (by k_mem), offC'⟩); (case o3_k9 => exact List.forall_mem_append.mpr ⟨Ap.ne f9 (H := D) (o := LCg.lst ys9) (by k_mem), offD'⟩)))))); intro kys tl0 a0 d0; (rw [List.take_of_length_le (by rw [List.size_toArray, ← n5.length]; exact Nat.le_refl _)] at d0); k_dflt (intro tk5 h9 tk9 F9 N9 of9); refine nameW (led10 := led10) N9 List.mem_cons_self d0 ?sub1_k9 ?sub2_k9 fun led11 N9 mK aK sAB => ?_; (case sub1_k9 => k_extra "mine:subs"); (case sub2_k9 => k_extra "mine:subs"); have s2B := Sub.trans s2A sAB; have s9B := Sub.trans s9A sAB; have mo11 := s2B _ mo; have ao11 := ao.mono s2B; have mb11 := s9B _ mb9; have dB11 := dB.mono s9B; have hkl := DatAll.length aK; have lo := DatAll.length ao11; have lb := DatAll.length (ab.mono s9B); (rw [dats_len] at hkl lo lb); obtain ⟨pl1, pl2, pl3⟩ := prn_law g2 ds; have pl4 := prn_len g2 ds; (try k_sweep); (try dsimp only); (try k_fold))) | fail
  k_with "w:compareOp NotEq ref ref" => first | ((k_here; (with_reducible show wpAny _ _ (compareOp _ (Value.ref tb) (Value.ref _)) _ _ _); ((first | with_reducible refine' dat_ne ?N_k9 ?da_k9 ?sa_k9 (unit_dat (n := 0) (List.mem_singleton.mpr rfl)) ?sb_k9 ?dx_k9 ?ex_k9 ?hu_k9 ?_ | k_dflt (refine' dat_ne ?N_k9 ?da_k9 ?sa_k9 (unit_dat (n := 0) (List.mem_singleton.mpr rfl)) ?sb_k9 ?dx_k9 ?ex_k9 ?hu_k9 ?_)); k_dflt ((case N_k9 => k_asm); (case da_k9 => exact dB12); (case sa_k9 => k_extra "mine:subs"); (case sb_k9 => (refine List.forall_mem_cons.mpr ⟨?mm_k9, List.forall_mem_nil _⟩; k_mem)); (case dx_k9 => k_extra "mine:dok"); (case ex_k9 => exact rfl); (case hu_k9 => k_extra "mine:units"); k_whole)))) | fail
  k_with "w:subscriptTail Name Slice ref ref" => first | ((k_here; (with_reducible show wpAny _ _ (subscriptTail _ (PySem.Expr.Slice _ _ none _) (Value.ref to) (Value.ref _)) _ _ _); ((first | with_reducible refine' tslice_from (vs := vo) (a := vo.length - vb.length) ?hi_k9 ?F_k9 ?N_k9 ?m_k9 ?ha_k9 ?hz_k9 ?_ ?s_k9 ?t_k9 | k_dflt (refine' tslice_from (vs := vo) (a := vo.length - vb.length) ?hi_k9 ?F_k9 ?N_k9 ?m_k9 ?ha_k9 ?hz_k9 ?_ ?s_k9 ?t_k9)); k_dflt ((case hi_k9 => omega); (case F_k9 => k_asm); (case N_k9 => k_asm); (case m_k9 => k_extra "mine:in"); (case ha_k9 => omega); (case hz_k9 => omega); (case s_k9 => with_unfolding_all rfl); (case t_k9 => kmk_pure); k_whole)); intro D8 n8 h9 led13 F9 N9 m8 sC; have dT8 : DatIn led13 (.ref D8) (.tuple (Nd.dats (ds.drop (fs ds)))) := DatIn.tuple m8 (by rw [← datsD g2 ds, ← lo, ← lb]; exact DatAll.drop _ (ao12.mono fun q h => sC q (by k_extra "mine:in"))); have sBD : ∀ q ∈ led12, q ∈ led13 := fun q h => sC q (by k_extra "mine:in"); have s0D := Sub.trans (Sub.trans (Sub.trans s02 s2B) sBC) sBD; have mo13 := sBD _ mo12; have mb13 := sBD _ mb12; have mK13 := sBD _ mK12; (try k_sweep))) | fail
  k_with "w:subscriptTail Name Slice ref ref" => first | ((k_here; (with_reducible show wpAny _ _ (subscriptTail _ (PySem.Expr.Slice _ _ none _) (Value.ref to) (Value.ref _)) _ _ _); ((first | with_reducible refine' tslice_upto (led := led11) (vs := vo) (a := kys.length) ?hi_k9 ?F_k9 ?N_k9 ?m_k9 ?ha_k9 ?hz_k9 ?_ ?s_k9 ?t_k9 | k_dflt (refine' tslice_upto (led := led11) (vs := vo) (a := kys.length) ?hi_k9 ?F_k9 ?N_k9 ?m_k9 ?ha_k9 ?hz_k9 ?_ ?s_k9 ?t_k9)); k_dflt ((case hi_k9 => exact rfl); (case F_k9 => k_asm); (case N_k9 => k_asm); (case m_k9 => exact mo11); (case ha_k9 => omega); (case hz_k9 => omega); (case s_k9 => with_unfolding_all rfl); (case t_k9 => kmk_pure); k_whole)); intro D6 n6 h9 led12 F9 N9 m6 sBC; have dT6 : DatIn led12 (.ref D6) (.tuple (Nd.dats (kp (ds.take (fs ds))))) := DatIn.tuple m6 (by rw [← datsT g2 ds, ← hkl]; exact DatAll.take _ (ao11.mono sBC)); have mo12 := sBC _ mo11; have ao12 := ao11.mono sBC; have mb12 := sBC _ mb11; have dB12 := dB11.mono sBC; have mK12 := sBC _ mK; have aK12 := aK.mono sBC; (try k_sweep))) | fail
  k_with "w:call type:tuple" => first | ((k_here; (with_reducible show wpAny _ _ (call (Value.type _) [Value.ref tk5]) _ _ _); ((first | with_reducible refine' kde_tupleOf ?k1_k9 ?k2_k9 ?k3_k9 ?k4_k9 ?k5_k9 ?_ | k_dflt (refine' kde_tupleOf ?k1_k9 ?k2_k9 ?k3_k9 ?k4_k9 ?k5_k9 ?_)); k_dflt ((case k1_k9 => k_asm); (case k2_k9 => k_asm); (case k3_k9 => exact News.isList (by k_asm) mK12); (case k4_k9 => (simp only [List.size_toArray]; omega)); (case k5_k9 => exact rfl))); intro D7 h9 F9 N9 l9; have dK7 : DatIn ((D7, tupO kys 0) :: led12) (.ref D7) (.tuple (Nd.dats (kp (ds.take (fs ds))))) := DatIn.tuple List.mem_cons_self (aK12.mono (Sub.skip Sub.refl)); (try k_sweep))) | fail
  k_with "mine:dok" => first | (first | exact kqd_le (dats_ok fun d hd => prn_dk hok 0 d hd) (by decide) | exact kqd_le (dats_ok fun d hd => kp_sub (fun d hd => Nd.ok_dk1 (hok d hd) 0) d hd) (by decide) | exact kqd_le (dats_ok fun d hd => Nd.ok_dk1 (hok d (List.mem_of_mem_drop hd)) 0) (by decide) | exact rfl) | fail
  k_with "w:compareOp Eq ref ref" => first | ((k_here; ((first | with_reducible refine' dat_eq ?N_k9 ?da_k9 ?sa_k9 ?db_k9 ?sb_k9 ?dx_k9 ?ex_k9 ?hu_k9 ?_ | k_dflt (refine' dat_eq ?N_k9 ?da_k9 ?sa_k9 ?db_k9 ?sb_k9 ?dx_k9 ?ex_k9 ?hu_k9 ?_)); k_dflt ((case N_k9 => k_asm); (case da_k9 => with_reducible assumption); (case db_k9 => with_reducible assumption); (case sa_k9 => k_extra "mine:subs"); (case sb_k9 => k_extra "mine:subs"); (case dx_k9 => k_extra "mine:dok"); (case ex_k9 => k_extra "mine:dok"); (case hu_k9 => k_extra "mine:units"); k_whole)); (try simp only [decide_true, Bool.not_true]))) | fail
  k_with "w:call ref" => first | ((k_here; (with_reducible show wpAny _ _ (call (Value.ref 578) [Value.ref l, Value.ref gb] _) _ _ _); ((first | with_reducible refine' Kt.use (pruned_ok_k (S := led) ?cs_k9 hl hn h2 k2 hq hvl) ?hh_k9 ?hf_k9 ?B_k9 ?F_k9 ?X_k9 ?N_k9 ?T_k9 ?hk_k9 ?hd_k9 ?hu_k9 ?_ | k_dflt (refine' Kt.use (pruned_ok_k (S := led) ?cs_k9 hl hn h2 k2 hq hvl) ?hh_k9 ?hf_k9 ?B_k9 ?F_k9 ?X_k9 ?N_k9 ?T_k9 ?hk_k9 ?hd_k9 ?hu_k9 ?_)); k_dflt ((case F_k9 => k_asm); (case B_k9 => k_asm); (case X_k9 => k_asm); (case N_k9 => k_asm); (case T_k9 => k_asm); (case hh_k9 => exact rfl); (case hf_k9 => exact rfl); (case hk_k9 => first | exact rfl | assumption); (case hd_k9 => k_extra "mine:dp"); (case hu_k9 => k_extra "mine:un"); (case cs_k9 => k_extra "mine:subs"))); intro a1 ks1 nn1 tl9 f9 m9 n9 h9 tk9 F9 N9; refine nameQ N9 m9 n9 Sub.refl fun led1 N9 m1 n1 s01 => ?_; (try k_sweep); (try dsimp only); (try k_fold))) | fail
  k_with "w:call ref" => first | ((k_here; (with_reducible show wpAny _ _ (call (Value.ref 541) [Value.ref a1] _) _ _ _); ((first | with_reducible refine' Kt.use (dlist1_k (S := led1) ?cs_k9 m1 n1 (prn_dk hok 1) (prn_le n1 hlen)) ?hh_k9 ?hf_k9 ?B_k9 ?F_k9 ?X_k9 ?N_k9 ?T_k9 ?hk_k9 ?hd_k9 ?hu_k9 ?_ | k_dflt (refine' Kt.use (dlist1_k (S := led1) ?cs_k9 m1 n1 (prn_dk hok 1) (prn_le n1 hlen)) ?hh_k9 ?hf_k9 ?B_k9 ?F_k9 ?X_k9 ?N_k9 ?T_k9 ?hk_k9 ?hd_k9 ?hu_k9 ?_)); k_dflt ((case F_k9 => k_asm); (case B_k9 => k_asm); (case X_k9 => k_asm); (case N_k9 => k_asm); (case T_k9 => k_asm); (case hh_k9 => exact rfl); (case hf_k9 => exact rfl); (case hk_k9 => first | exact rfl | assumption); (case hd_k9 => k_extra "mine:dp"); (case hu_k9 => k_extra "mine:un"); (case cs_k9 => k_extra "mine:subs"))); intro tl9 r9 f9 d9 h9 tk9 F9 N9; refine nameE N9 d9 Sub.refl fun led2 N9 dO s12 => ?_; have s02 := Sub.trans s01 s12; obtain ⟨to, vo, no, eo, mo, ao, -⟩ := dat_tup dO; subst eo; (try k_sweep); (try dsimp only); (try k_fold))) | fail
  k_with "w:call ref" => first | ((k_here; (with_reducible show wpAny _ _ (call (Value.ref 578) [Value.ref l, Value.ref ga] _) _ _ _); ((first | with_reducible refine' Kt.use (pruned_ok_k (S := led) ?cs_k9 hl hn h1 k1 hq hvl) ?hh_k9 ?hf_k9 ?B_k9 ?F_k9 ?X_k9 ?N_k9 ?T_k9 ?hk_k9 ?hd_k9 ?hu_k9 ?_ | k_dflt (refine' Kt.use (pruned_ok_k (S := led) ?cs_k9 hl hn h1 k1 hq hvl) ?hh_k9 ?hf_k9 ?B_k9 ?F_k9 ?X_k9 ?N_k9 ?T_k9 ?hk_k9 ?hd_k9 ?hu_k9 ?_)); k_dflt ((case F_k9 => k_asm); (case B_k9 => k_asm); (case X_k9 => k_asm); (case N_k9 => k_asm); (case T_k9 => k_asm); (case hh_k9 => exact rfl); (case hf_k9 => exact rfl); (case hk_k9 => first | exact rfl | assumption); (case hd_k9 => k_extra "mine:dp"); (case hu_k9 => k_extra "mine:un"); (case cs_k9 => k_extra "mine:subs"))); intro a3 ks3 nn3 tl9 f9 m9 n9 h9 tk9 F9 N9; refine nameQ N9 m9 n9 s02 fun led3 N9 m3 n3 s23 => ?_; have s03 := Sub.trans s02 s23; (try k_sweep); (try dsimp only); (try k_fold))) | fail
  k_with "w:call ref" => first | ((k_here; (with_reducible show wpAny _ _ (call (Value.ref 578) [Value.ref a3, Value.ref gb] _) _ _ _); ((first | with_reducible refine' Kt.use (pruned_ok_k (S := led3) ?cs_k9 m3 n3 (h2.mono s03) k2 (prn_pq hq) (prn_le n3 hlen)) ?hh_k9 ?hf_k9 ?B_k9 ?F_k9 ?X_k9 ?N_k9 ?T_k9 ?hk_k9 ?hd_k9 ?hu_k9 ?_ | k_dflt (refine' Kt.use (pruned_ok_k (S := led3) ?cs_k9 m3 n3 (h2.mono s03) k2 (prn_pq hq) (prn_le n3 hlen)) ?hh_k9 ?hf_k9 ?B_k9 ?F_k9 ?X_k9 ?N_k9 ?T_k9 ?hk_k9 ?hd_k9 ?hu_k9 ?_)); k_dflt ((case F_k9 => k_asm); (case B_k9 => k_asm); (case X_k9 => k_asm); (case N_k9 => k_asm); (case T_k9 => k_asm); (case hh_k9 => exact rfl); (case hf_k9 => exact rfl); (case hk_k9 => first | exact rfl | assumption); (case hd_k9 => k_extra "mine:dp"); (case hu_k9 => k_extra "mine:un"); (case cs_k9 => k_extra "mine:subs"))); intro a4 ks4 nn4 tl9 f9 m9 n9 h9 tk9 F9 N9; refine nameQ N9 m9 n9 Sub.refl fun led4 N9 m4 n4 s34 => ?_; (rw [prn_twice] at n4); have s24 := Sub.trans s23 s34; (try k_sweep); (try dsimp only); (try k_fold))) | fail
  k_with "w:call ref" => first | ((k_here; (with_reducible show wpAny _ _ (call (Value.ref 541) [Value.ref a4] _) _ _ _); ((first | with_reducible refine' Kt.use (dlist1_k (S := led4) ?cs_k9 m4 n4 (prn_dk hok 1) (prn_le n4 hlen)) ?hh_k9 ?hf_k9 ?B_k9 ?F_k9 ?X_k9 ?N_k9 ?T_k9 ?hk_k9 ?hd_k9 ?hu_k9 ?_ | k_dflt (refine' Kt.use (dlist1_k (S := led4) ?cs_k9 m4 n4 (prn_dk hok 1) (prn_le n4 hlen)) ?hh_k9 ?hf_k9 ?B_k9 ?F_k9 ?X_k9 ?N_k9 ?T_k9 ?hk_k9 ?hd_k9 ?hu_k9 ?_)); k_dflt ((case F_k9 => k_asm); (case B_k9 => k_asm); (case X_k9 => k_asm); (case N_k9 => k_asm); (case T_k9 => k_asm); (case hh_k9 => exact rfl); (case hf_k9 => exact rfl); (case hk_k9 => first | exact rfl | assumption); (case hd_k9 => k_extra "mine:dp"); (case hu_k9 => k_extra "mine:un"); (case cs_k9 => k_extra "mine:subs"))); intro tl9 r9 f9 d9 h9 tk9 F9 N9; refine nameE N9 d9 Sub.refl fun led5 N9 d5 s45 => ?_; have s25 := Sub.trans s24 s45; have s05 := Sub.trans s02 s25; (try k_sweep); (try dsimp only); (try k_fold))) | fail
  k_with "w:call ref" => first | ((k_here; (with_reducible show wpAny _ _ (call (Value.ref 578) [Value.ref d6, Value.ref gb] _) _ _ _); ((first | with_reducible refine' Kt.use (pruned_ok_k (S := led6) ?cs_k9 m6 n6 (h2.mono s06) k2 (app_pq hgp hq) (by simp only [List.length_append]; omega)) ?hh_k9 ?hf_k9 ?B_k9 ?F_k9 ?X_k9 ?N_k9 ?T_k9 ?hk_k9 ?hd_k9 ?hu_k9 ?_ | k_dflt (refine' Kt.use (pruned_ok_k (S := led6) ?cs_k9 m6 n6 (h2.mono s06) k2 (app_pq hgp hq) (by simp only [List.length_append]; omega)) ?hh_k9 ?hf_k9 ?B_k9 ?F_k9 ?X_k9 ?N_k9 ?T_k9 ?hk_k9 ?hd_k9 ?hu_k9 ?_)); k_dflt ((case F_k9 => k_asm); (case B_k9 => k_asm); (case X_k9 => k_asm); (case N_k9 => k_asm); (case T_k9 => k_asm); (case hh_k9 => exact rfl); (case hf_k9 => exact rfl); (case hk_k9 => first | exact rfl | assumption); (case hd_k9 => k_extra "mine:dp"); (case hu_k9 => k_extra "mine:un"); (case cs_k9 => k_extra "mine:subs"))); intro a7 ks7 nn7 tl9 f9 m9 n9 h9 tk9 F9 N9; refine nameQ N9 m9 n9 Sub.refl fun led7 N9 m7 n7 s67 => ?_; (rw [prn_front hgo] at n7); (try k_sweep); (try dsimp only); (try k_fold))) | fail
  k_with "w:call ref" => first | ((k_here; (with_reducible show wpAny _ _ (call (Value.ref 541) [Value.ref a7] _) _ _ _); ((first | with_reducible refine' Kt.use (dlist1_k (S := led7) ?cs_k9 m7 n7 (prn_dk hok 1) (prn_le n7 hlen)) ?hh_k9 ?hf_k9 ?B_k9 ?F_k9 ?X_k9 ?N_k9 ?T_k9 ?hk_k9 ?hd_k9 ?hu_k9 ?_ | k_dflt (refine' Kt.use (dlist1_k (S := led7) ?cs_k9 m7 n7 (prn_dk hok 1) (prn_le n7 hlen)) ?hh_k9 ?hf_k9 ?B_k9 ?F_k9 ?X_k9 ?N_k9 ?T_k9 ?hk_k9 ?hd_k9 ?hu_k9 ?_)); k_dflt ((case F_k9 => k_asm); (case B_k9 => k_asm); (case X_k9 => k_asm); (case N_k9 => k_asm); (case T_k9 => k_asm); (case hh_k9 => exact rfl); (case hf_k9 => exact rfl); (case hk_k9 => first | exact rfl | assumption); (case hd_k9 => k_extra "mine:dp"); (case hu_k9 => k_extra "mine:un"); (case cs_k9 => k_extra "mine:subs"))); intro tl9 r9 f9 d9 h9 tk9 F9 N9; refine nameE N9 d9 Sub.refl fun led8 N9 d8 s78 => ?_; have s28 := Sub.trans s25 (Sub.trans s56 (Sub.trans s67 s78)); have s08 := Sub.trans s02 s28; (try k_sweep); (try dsimp only); (try k_fold))) | fail
  k_with "w:call ref" => first | ((k_here; (with_reducible show wpAny _ _ (call (Value.ref 541) [Value.ref d3] _) _ _ _); ((first | with_reducible refine' Kt.use (dlist1_k (S := (d3, _) :: led2) ?cs_k9 (.head _) ((NodesIn.drop (fs ds) (hn.mono s02)).mono (Sub.skip Sub.refl)) (fun d hd => Nd.ok_dk1 (hok d (List.mem_of_mem_drop hd)) 1) (by rw [List.length_drop]; omega)) ?hh_k9 ?hf_k9 ?B_k9 ?F_k9 ?X_k9 ?N_k9 ?T_k9 ?hk_k9 ?hd_k9 ?hu_k9 ?_ | k_dflt (refine' Kt.use (dlist1_k (S := (d3, _) :: led2) ?cs_k9 (.head _) ((NodesIn.drop (fs ds) (hn.mono s02)).mono (Sub.skip Sub.refl)) (fun d hd => Nd.ok_dk1 (hok d (List.mem_of_mem_drop hd)) 1) (by rw [List.length_drop]; omega)) ?hh_k9 ?hf_k9 ?B_k9 ?F_k9 ?X_k9 ?N_k9 ?T_k9 ?hk_k9 ?hd_k9 ?hu_k9 ?_)); k_dflt ((case F_k9 => k_asm); (case B_k9 => k_asm); (case X_k9 => k_asm); (case N_k9 => k_asm); (case T_k9 => k_asm); (case hh_k9 => exact rfl); (case hf_k9 => exact rfl); (case hk_k9 => first | exact rfl | assumption); (case hd_k9 => k_extra "mine:dp"); (case hu_k9 => k_extra "mine:un"); (case cs_k9 => k_extra "mine:subs"))); intro tl9 r9 f9 d9 h9 tk9 F9 N9; (try k_sweep); (try dsimp only); (try k_fold))) | fail
  k_with "w:call ref" => first | ((k_here; (with_reducible show wpAny _ _ (call (Value.ref 535) [Value.ref a9] _) _ _ _); ((first | with_reducible refine' Kt.use (described1_k (S := led10) ?cs_k9 hin9 (Nd.ok_dk1 hok9 1)) ?hh_k9 ?hf_k9 ?B_k9 ?F_k9 ?X_k9 ?N_k9 ?T_k9 ?hk_k9 ?hd_k9 ?hu_k9 ?_ | k_dflt (refine' Kt.use (described1_k (S := led10) ?cs_k9 hin9 (Nd.ok_dk1 hok9 1)) ?hh_k9 ?hf_k9 ?B_k9 ?F_k9 ?X_k9 ?N_k9 ?T_k9 ?hk_k9 ?hd_k9 ?hu_k9 ?_)); k_dflt ((case F_k9 => k_asm); (case B_k9 => k_asm); (case X_k9 => k_asm); (case N_k9 => k_asm); (case T_k9 => k_asm); (case hh_k9 => exact rfl); (case hf_k9 => exact rfl); (case hk_k9 => first | exact rfl | assumption); (case hd_k9 => k_extra "mine:dp"); (case hu_k9 => k_extra "mine:un"); (case cs_k9 => k_extra "mine:subs"))); intro tl9 r9 f9 d9 h9 tk9 F9 N9; (try k_sweep); (try dsimp only); (try k_fold))) | fail
  trivial

theorem law_pruned_ok_k {l ga gb lg : Addr} {n ng : Nat} {vs gs : List Value} {ds gn : List Nd} {g1 g2 : Gl} {led : Led} (hl : (l, PySem.W.listOf vs.toArray n) ∈ led) (hn : NodesIn w led vs ds) (hok : ∀ d ∈ ds, d.ok) (hlen : ds.length ≤ 80) (h1 : GlueIn w led ga g1) (k1 : g1.ok) (h2 : GlueIn w led gb g2) (k2 : g2.ok) (hg : (lg, PySem.W.listOf gs.toArray ng) ∈ led) (hgn : NodesIn w led gs gn) (hgp : ∀ d ∈ gn, PQ d) (hgo : ∀ d ∈ gn, ¬ d.std ∧ ¬ d.kps) (hgl : gn.length ≤ 3) :
  Kt w p loose mean mg mb 29 (.ref 745) [.ref l, .ref ga, .ref gb, .ref lg] [] led (fun K => K (.bool true) (led)) := by
  unfold Kt
  intro dpC unC gdC cnC csC L aC ccdC clC outer A₀ base h₀ mC hp sg sd tk₀ ox Q E B F X N T hk hd hu hret
  have hq : ∀ d ∈ ds, PQ d := fun d hd => ok_pq (hok d hd)
  have hvl : vs.length ≤ 100 := by rw [hn.length]; omega
  have hvl8 : vs.length ≤ 80 := by rw [hn.length]; exact hlen
  have hgl2 : gs.length ≤ 3 := by rw [hgn.length]; exact hgl
  refine wpAny_call ?_
  k_dflt (k_extra "mine:enterD")
  k_steps
  all_goals (first | (refine' fin_b (hret _ _ ?zF (News.re ?zN ?zS)) ?zE; (case zF => assumption); (case zN => assumption); (case zS => k_extra "mine:subs"); (case zE => exact fin_eq (l := ds.drop (fs ds)) (show kys.length + vb.length + _ = vo.length by rw [lo, hkl, lb]; exact pl1))))


end
end
section
section
variable {w : World} {p : Program} {loose : List Str} {mean : ExcName → Option Value} {mg mb : Str → Option Value}
theorem ints_get {vs : List Value} {ns : List Int} (h : IntsAre vs ns) : ∀ {i : Nat} {v : Value}, vs[i]? = some v → ∃ n t, v = .int n t := by
  induction h with
  | nil => intro i v e; simp at e
  | cons n t _ ih =>
    intro i v e
    cases i with
    | zero => simp only [List.getElem?_cons_zero, Option.some.injEq] at e; exact ⟨n, t, e.symm⟩
    | succ i => simp only [List.getElem?_cons_succ] at e; exact ih e
theorem take_get {vs : List Value} {k i : Nat} {v : Value} (h : (vs.take k)[i]? = some v) : vs[i]? = some v := by
  rw [List.getElem?_take] at h
  split at h
  · exact h
  · exact nomatch h
theorem w_nn {W n x : Int} (h : 0 ≤ W) : 0 ≤ W * 1000003 + n.fmod (10 ^ Int.toNat 30) * 2 + if decide (x < 0) = true then 1 else 0 :=
  Int.add_nonneg (Int.add_nonneg (Int.mul_nonneg h (by decide)) (Int.mul_nonneg (Int.fmod_nonneg_of_pos _ (by decide)) (by decide))) (by split <;> decide)
theorem lst_keep {h₀ g h : Heap} {L L' sa : Addr} {m m' : Str → Option Value} {xs : Array Value} (F : Fr h₀ L g m) (F' : Fr g L' h m') (hl : h₀.IsList sa xs) : h.IsList sa xs := by
  obtain ⟨o, h1, h2⟩ := hl
  exact ⟨o, F'.keep _ _ (F.keep _ _ h1), h2⟩
theorem reg_ALb_lh : True := by
  k_with "mine:mul" => first | (exact PySem.IntMulOk.of_right (PySem.intBits_le_64 (by omega) (by omega))) | fail
  k_with "w:subscriptTail Name Slice ref ref" => first | ((k_here; (with_reducible show wpAny _ _ (subscriptTail _ (PySem.Expr.Slice _ _ none _) (Value.ref sa) (Value.ref _)) _ _ _); (rename Fr _ _ _ _ => F8); ((first | with_reducible refine' kms_slice_lit F8 ?N_k9 (lst_keep FG' F8 hl) ?p_k9 ?q_k9 ?e_k9 ?_ ?s_k9 ?t_k9 ?z_k9 | k_dflt (refine' kms_slice_lit F8 ?N_k9 (lst_keep FG' F8 hl) ?p_k9 ?q_k9 ?e_k9 ?_ ?s_k9 ?t_k9 ?z_k9)); k_dflt ((case N_k9 => k_asm); (case p_k9 => kmk_part); (case q_k9 => kmk_part); (case e_k9 => exact (pick_upto 24 vs)); (case z_k9 => (rw [sizeLine_eq, List.size_toArray]; omega)); (case s_k9 => with_unfolding_all rfl); (case t_k9 => kmk_pure); k_whole)); intro ls h9 F9 N9 l9; (try k_sweep))) | fail
  k_with "w:pyIter ref" => first | k_dflt (((with_reducible show wpAny _ _ (pyIter (Value.ref _)) (fun it s₂ => LoopAtV _ _ _ _ _ _ _ _ _ it s₂) _ _); k_here; (rename Fr _ _ _ _ => lF'); (rename News _ _ _ _ => lN'); (with_unfolding_all refine' loop_list [] ((ls, PySem.W.listOf (vs.take 24).toArray 0) :: led) (vs.take 24) 0 (fun (c : Int × Tok) => [(Str.ofString "whole_one", Value.int c.1 c.2)]) [] (fun _ c dyn => dyn = [] ∧ 0 ≤ c.1) (0, _) ?hz_k9 lF' lN' ?hl_k9 ?hk_k9 ?hj_k9 ?_ ?_); (case hz_k9 => (with_unfolding_all exact rfl)); (case hl_k9 => exact List.mem_cons_self); (case hk_k9 => kst_all); (case hj_k9 => exact ⟨rfl, Int.le_refl _⟩); (all_goals (try clear lF' lN')); (focus (intro i9 v9 c9 dyn9 u9 h9 tk9 own9 hv9 hi9 hoff9 F9 N9; obtain ⟨W9, tw9⟩ := c9; obtain ⟨hi1, hi2⟩ := hi9; subst hi1; (dsimp only [kstB] at F9); (dsimp only at hi2); obtain ⟨x9, tx9, e9⟩ := ints_get hI (take_get hv9); subst e9)); rotate_left 1; (focus (intro c9 dyn9 u9 h9 tk9 hi9 F9 N9; obtain ⟨W9, tw9⟩ := c9; obtain ⟨hi1, hi2⟩ := hi9; subst hi1; (dsimp only [kstB] at F9); (dsimp only at hi2))); rotate_left 1)) | fail
  k_with "w:InvEndG" => first | ((((first | with_reducible refine' loop_end (dyn₀ := []) (_, _) ?F_k9 ?N_k9 ?hn_k9 ?ha_k9 ?hadr_k9 ?hk_k9 ?hr_k9 ?hi_k9 | k_dflt (refine' loop_end (dyn₀ := []) (_, _) ?F_k9 ?N_k9 ?hn_k9 ?ha_k9 ?hadr_k9 ?hk_k9 ?hr_k9 ?hi_k9)); k_dflt ((case F_k9 => k_asm); (case N_k9 => k_asm); (case hn_k9 => exact fun _ h => h); (case ha_k9 => assumption); (case hadr_k9 => exact rfl); (case hk_k9 => kst_all); (case hr_k9 => kst_same); (case hi_k9 => exact ⟨rfl, w_nn hi2⟩))))) | fail
  trivial
theorem law_heap_k {sa : Addr} {vs : List Value} {ns : List Int} {led : Led} {A : Around} {cnC : Str} {csC : Scope} {L aC : Addr} {ccdC : Value} {clC : List (Str × Addr)} {outer : List Env} {A₀ : Around} {base h₀ : Heap} {mC : Str → Option Value} {s : Shared} {Q E : Value → Shared → Prop}
    (hI : IntsAre vs ns) (hz : vs.length ≤ 63) (hl : h₀.IsList sa vs.toArray) (hh : A.handled = none) (hf : A.frames = some (envX cnC csC L aC ccdC clC :: outer)) (B : Below A₀ base outer h₀) (F : Fr h₀ L s.heap mC) (X : (Mine.hd.heap_1 w.params).In h₀) (N : News h₀ L s.heap led) (T : Top p loose mean mg mb h₀) (hk : csC.kind = .function)
    (hd' : A.depth + 2 < recursionLimit) (hu' : A.units + 8 * 2 + 100 < cLine)
    (hret : ∀ D o h' tk', HO 0 o → (∀ q ∈ led, q.1 < D) → Fr h₀ L h' mC → News h₀ L h' ((D, o) :: led) → Q (.ref D) { s with heap := h', toks := tk' }) :
    wpAny (model PG w) A (call (.ref 686) [.ref sa] []) Q E s := by
  obtain ⟨hnd, dpC, fr, gdC, unC⟩ := A
  obtain ⟨hp, sg, sd, tk₀, ox⟩ := s
  subst hh hf
  have hd : dpC + 2 < recursionLimit := hd'
  have hu : unC + 8 * 2 + 100 < cLine := hu'
  show wpAny (model PG w) (ktrTop dpC unC gdC cnC csC L aC ccdC clC outer) (call (.ref 686) [.ref sa] []) Q E ⟨hp, sg, sd, tk₀, ox⟩
  refine wpAny_call ?_
  k_dflt (refine' code_defL (binds := [(Str.ofString "script", .ref sa)]) (rb := [(Str.ofString "script", .ref sa)]) ?k1 ?k2 ?k3 ?k4 ?k5 ?kA ?kF ?kK ?k6 ?k7 ?k8 ?k9 ?kB rfl ?_ ?c2 ?c3 ?c4 ?c5; (case kA => exact rfl); (case kF => exact rfl); (case kK => exact hk); (case k1 => exact B); (case k3 => exact X); (case k5 => exact T); (case k6 => k_is); (case k7 => k_is); (case c5 => decide); (case kB => exact locs rfl); (case c2 => exact rfl); (case c3 => exact rfl); (case c4 => exact rfl); (case k2 => exact F); (case k4 => exact N); (case k8 => exact dp_ltz hd); (case k9 => exact BindsTo.of_eq rfl); k_whole; intro g' L' h' tk' FG' m9 F' N' B' X' T' A9 qk ek)
  k_steps
  all_goals (first | (refine hret _ _ _ _ ⟨W9, 0, _, _, _, rfl, hi2, Int.le_refl _, Int.le_refl _⟩ (by (rename AllLt _ _ => z9); exact fun q hq => ktn_ltOf z9 q (.tail _ hq)) (by assumption) (News.re (by assumption) (by exact Sub.cons List.mem_cons_self (fun q h => .tail _ (.tail _ h))))))

end
end
section
open PySem PySem.W PySem.Calls PySem.Spec PyProof.Rows
theorem PartIn.node {w : World} {S : Led} {v : Value} {nd : Nd} (h : PartIn w S v nd) : NodeIn w S v nd := by
  cases h with
  | box S0 h1 h2 b c1 c2 c3 c4 c5 c6 => exact .box (b.at_kind h1 h2 rfl) (b.at_width h1 h2 rfl) (b.at_height h1 h2 rfl) (b.at_depth h1 h2 rfl) (b.at_items h1 h2 rfl) (b.at_shift h1 h2 rfl) (b.at_sign h1 h2 rfl) (b.at_order h1 h2 rfl) (b.at_ratio h1 h2 rfl) (c1 _ c4) (c1 _ c5) (NodesIn.mono c1 c6)
  | plain h _ _ => exact h
inductive Its (w : World) : List Value → List Nd → Led → Prop
  | nil : Its w [] [] []
  | snoc {vs : List Value} {ds : List Nd} {S tl : Led} {v : Value} {nd : Nd} : Its w vs ds S → PartIn w tl v nd → (∀ q ∈ tl, ∀ p ∈ S, p.1 ≠ q.1) → Its w (vs ++ [v]) (ds ++ [nd]) (tl ++ S)
theorem Its.nodes {w : World} {vs : List Value} {ds : List Nd} {S : Led} (h : Its w vs ds S) : NodesIn w S vs ds := by
  induction h with
  | nil => exact .nil
  | snoc _ p _ ih => exact (ih.mono fun q h => List.mem_append_right _ h).snoc (p.node.mono fun q h => List.mem_append_left _ h)
noncomputable def rowD : Nd → Dat
  | .box k wd ht dp _ _ _ _ _ items => .tuple [.int k, .int wd, .int ht, .int dp, .tuple (Nd.dats items)]
  | _ => .none
theorem rowD_none {nd : Nd} (h2 : nd.kind ≠ 2) (h3 : nd.kind ≠ 3) (ok : nd.ok) : rowD nd = .none := by
  cases nd with
  | box k wd ht dp sf sg od r1 r2 items =>
    obtain ⟨h1, h4, _⟩ := ok
    have : k ≠ 2 := h2
    have : k ≠ 3 := h3
    omega
  | _ => rfl
theorem rowD_ok {nd : Nd} (ok : nd.ok) : kqdOk 9 (rowD nd) = true := by
  cases nd with
  | box k wd ht dp sf sg od r1 r2 items =>
    obtain ⟨_, _, _, _, _, _, _, _, _, _, _, _, _, _, h⟩ := ok
    rcases h with rfl | ⟨x, rfl⟩ <;> rfl
  | _ => rfl
theorem row_at {w : World} {S : Led} {v : Value} {nd : Nd} (h : NodeIn w S v nd) (ok : nd.ok) :
    (∃ (a l : Addr) (k wd ht dp : Int) (items : List Nd) (vs : List Value) (n : Nat) (t1 t2 t3 t4 : Tok), v = .ref a ∧ (k = 2 ∨ k = 3) ∧ At w S a "kind" (.int k t1) ∧ At w S a "width" (.int wd t2) ∧ At w S a "height" (.int ht t3) ∧ At w S a "depth" (.int dp t4) ∧ At w S a "items" (.ref l) ∧ (l, PySem.W.listOf vs.toArray n) ∈ S ∧ NodesIn w S vs items ∧ items.length ≤ 1 ∧ (∀ d ∈ items, d.dk 2) ∧ rowD nd = .tuple [.int k, .int wd, .int ht, .int dp, .tuple (Nd.dats items)]) ∨
    (∃ (a : Addr) (k : Int) (t1 : Tok), v = .ref a ∧ k ≠ 2 ∧ k ≠ 3 ∧ At w S a "kind" (.int k t1) ∧ rowD nd = .none) := by
  cases h with
  | box a1 a2 a3 a4 a5 a6 a7 a8 a9 b1 b2 c =>
    obtain ⟨h1, h2, _, _, _, _, _, _, _, _, _, _, _, _, hi⟩ := ok
    refine .inl ⟨_, _, _, _, _, _, _, _, _, _, _, _, _, rfl, by omega, a1, a2, a3, a4, a5, b2, c, ?_, ?_, rfl⟩
    · rcases hi with rfl | ⟨x, rfl⟩
      · exact Nat.zero_le _
      · exact Nat.le_refl _
    · rcases hi with rfl | ⟨x, rfl⟩
      · exact fun d hd => nomatch hd
      · exact fun d hd => by rw [List.mem_singleton.mp hd]; trivial
  | rule a _ _ _ _ _ => exact .inr ⟨_, _, _, rfl, by decide, by decide, a, rfl⟩
  | kern a _ _ => exact .inr ⟨_, _, _, rfl, by decide, by decide, a, rfl⟩
  | skip a _ _ _ _ => exact .inr ⟨_, _, _, rfl, by decide, by decide, a, rfl⟩
  | pen a _ => exact .inr ⟨_, _, _, rfl, by decide, by decide, a, rfl⟩
  | mark a _ _ => exact .inr ⟨_, _, _, rfl, by decide, by decide, a, rfl⟩
  | ins a _ _ _ _ _ _ _ _ _ => exact .inr ⟨_, _, _, rfl, by decide, by decide, a, rfl⟩
  | spec a _ _ => exact .inr ⟨_, _, _, rfl, by decide, by decide, a, rfl⟩
inductive Last (w : World) (us : List Value) (es : List Nd) (S : Led) : Prop
  | nil : us = [] → es = [] → S = [] → Last w us es S
  | plain {us' : List Value} {es' : List Nd} {a : Addr} {nd : Nd} {k : Int} {t : Tok} : us = us' ++ [.ref a] → es = es' ++ [nd] → At w S a "kind" (.int k t) → k ≠ 2 → k ≠ 3 → rowD nd = .none → Last w us es S
  | box {us' : List Value} {es' : List Nd} {S' S0 : Led} {nd : Nd} {a d l : Addr} {ds : List DictEntry} {n n1 : Nat} {vs : List Value} {items : List Nd} {k wd ht dp : Int} {t1 t2 t3 t4 : Tok} {v6 v7 v8 v9 : Value} : us = us' ++ [.ref a] → es = es' ++ [nd] → Its w us' es' S' → (∀ q ∈ S0 ++ S', q ∈ S) → (d, dictOf ds n) ∈ S → (∀ q ∈ S0 ++ S', q.1 ≠ d) → (k = 2 ∨ k = 3) →
      BoxEs w ds (.int k t1) (.int wd t2) (.int ht t3) (.int dp t4) (.ref l) v6 v7 v8 v9 → (a, instObj 358 d) ∈ S0 → (l, PySem.W.listOf vs.toArray n1) ∈ S0 → NodesIn w S0 vs items → items.length ≤ 1 → (∀ d ∈ items, d.dk 2) → rowD nd = .tuple [.int k, .int wd, .int ht, .int dp, .tuple (Nd.dats items)] → Last w us es S
theorem Its.last {w : World} {us : List Value} {es : List Nd} {S : Led} (h : Its w us es S) (ok : ∀ d ∈ es, d.ok) : Last w us es S := by
  cases h with
  | nil => exact .nil rfl rfl rfl
  | @snoc us' es' S' tl v nd h p off =>
    have hok := ok nd (List.mem_append_right _ (.head _))
    cases p with
    | @box a d rt l ds n n1 n2 vs items k wd ht dp sf sg od r1 r2 t1 t2 t3 t4 t5 t6 t7 t8 t9 S0 h1 h2 b c1 c2 c3 c4 c5 c6 =>
      obtain ⟨k1, k2, _, _, _, _, _, _, _, _, _, _, _, _, hi⟩ := hok
      refine .box rfl rfl h (S0 := S0) (fun q hq => (List.mem_append.mp hq).elim (fun h => List.mem_append_left _ (c1 q h)) fun h => List.mem_append_right _ h) (List.mem_append_left _ h2) (fun q hq => (List.mem_append.mp hq).elim (c2 q) fun hq => off _ h2 q hq) (by omega) b c3 c5 c6 ?_ ?_ rfl
      · rcases hi with rfl | ⟨x, rfl⟩
        · exact Nat.zero_le _
        · exact Nat.le_refl _
      · rcases hi with rfl | ⟨x, rfl⟩
        · exact fun d hd => nomatch hd
        · exact fun d hd => by rw [List.mem_singleton.mp hd]; trivial
    | plain h k2 k3 =>
      obtain ⟨a, t, e, hk⟩ := h.kd
      subst e
      exact .plain rfl rfl (hk.mono fun q h => List.mem_append_left _ h) k2 k3 (rowD_none k2 k3 hok)
noncomputable def rowsD (ds : List Nd) : List Dat := ds.map rowD
theorem rows_take {ds : List Nd} {i : Nat} {nd : Nd} (h : ds[i]? = some nd) : (rowsD ds).take (i + 1) = (rowsD ds).take i ++ [rowD nd] := by
  unfold rowsD
  rw [List.take_add_one, List.getElem?_map, h]; rfl
theorem row_get {S : Led} {rvs : List Value} {es r : List Nd} {nd : Nd} (h : DatAll S rvs (rowsD (es ++ nd :: r))) : ∃ v, rvs[es.length]? = some v ∧ DatIn S v (rowD nd) := by
  have hl : es.length < (rowsD (es ++ nd :: r)).length := by unfold rowsD; rw [List.length_map, List.length_append, List.length_cons]; omega
  obtain ⟨v, hv, hd⟩ := DatAll.get h hl
  refine ⟨v, hv, ?_⟩
  have e : (rowsD (es ++ nd :: r))[es.length]'hl = rowD nd := by unfold rowsD; simp
  rw [e] at hd
  exact hd
theorem dat_none {S : Led} {v : Value} (h : DatIn S v .none) : v = .none := by cases h; rfl
theorem kqd_lst {ds : List Nd} {n : Nat} (h : ∀ d ∈ ds, d.dk n) : kqdOk (3 + 2 * n + 1) (.list (Nd.dats ds)) = true := dats_ok (ds := ds) h
theorem told_take {S : Led} {tvs : List Value} {es r : List Nd} (h : DatAll S tvs (Nd.dats (es ++ r))) : DatAll S (tvs.take es.length) (Nd.dats es) := by
  have := DatAll.take es.length h
  rw [Nd.dats_map, List.map_append, List.take_left' (by rw [List.length_map]), ← Nd.dats_map] at this
  exact this
theorem ap_mono {S S' R : Led} (h : Ap S R) (hs : ∀ q ∈ S', q ∈ S) : Ap S' R := fun q hq => h q (hs q hq)
end
section
section
variable {w : World} {p : Program} {loose : List Str} {mean : ExcName → Option Value} {mg mb : Str → Option Value}
theorem last_box_no_k {l : Addr} {n : Nat} {us : List Value} {led : Led} (hl : (l, PySem.W.listOf us.toArray n) ∈ led) (hz : us.length ≤ 200) (h : us = [] ∨ ∃ us' a k t, us = us' ++ [Value.ref a] ∧ At w led a "kind" (.int k t) ∧ k ≠ 2 ∧ k ≠ 3) :
    Kt w p loose mean mg mb 2 (.ref 592) [.ref l] [] led (fun K => ∀ t D c, (∀ p ∈ led, p.1 ≠ D) → (t ≠ D) → K (.ref t) ((t, tupO [.none, .ref D] 0) :: (D, PySem.W.listOf us.toArray c) :: led)) := by
  rcases h with rfl | ⟨us', a, k, t, rfl, h1, h2, h3⟩
  · exact last_box_nil_k hl
  · exact last_box_plain_k hl (by rw [List.length_append] at hz; omega) h1 h2 h3
section
open Classical
noncomputable def sq (led : Led) : Led := led.filter fun q => decide (q.2.cls ≠ .type "dict")
theorem sq_sub {led : Led} : ∀ q ∈ sq led, q ∈ led := fun q h => (List.mem_filter.mp h).1
theorem sq_mem {led : Led} {q : Addr × Obj} (h : q ∈ led) (k : q.2.cls ≠ .type "dict") : q ∈ sq led := List.mem_filter.mpr ⟨h, decide_eq_true k⟩
theorem sq_cls {led : Led} {q : Addr × Obj} (h : q ∈ sq led) : q.2.cls ≠ .type "dict" := of_decide_eq_true (List.mem_filter.mp h).2
end
theorem tup_cls : Value.type "tuple" ≠ Value.type "dict" := by intro e; injection e with e; exact absurd e (by decide)
theorem lst_cls : Value.type "list" ≠ Value.type "dict" := by intro e; injection e with e; exact absurd e (by decide)
mutual
theorem DatIn.sq {S : Led} : ∀ {v : Value} {d : Dat}, DatIn S v d → DatIn (sq S) v d
  | _, _, .none => .none
  | _, _, .bool b => .bool b
  | _, _, .int i t => .int i t
  | _, _, .str x t => .str x t
  | _, _, .bytes b t => .bytes b t
  | _, _, .tuple m a => .tuple (sq_mem m tup_cls) (DatAll.sq a)
  | _, _, .list m a => .list (sq_mem m lst_cls) (DatAll.sq a)
theorem DatAll.sq {S : Led} : ∀ {vs : List Value} {ds : List Dat}, DatAll S vs ds → DatAll (sq S) vs ds
  | _, _, .nil => .nil
  | _, _, .cons h t => .cons (DatIn.sq h) (DatAll.sq t)
end
theorem nd_off {h₀ h : Heap} {L d : Addr} {es : List DictEntry} {n : Nat} {led : Led} (N : News h₀ L h led) (hd : (d, dictOf es n) ∈ led) {p : Addr × Obj} (hp : p ∈ led) (hc : p.2.cls ≠ .type "dict") : p.1 ≠ d := fun e => by
  have h1 := N.get hd
  have h2 := N.get (a := p.1) (o := p.2) hp
  rw [e, h1] at h2
  exact hc (by rw [← Option.some.inj h2])
noncomputable def NoBox (w : World) (us : List Value) (S : Led) : Prop := us = [] ∨ ∃ us' a k t, us = us' ++ [Value.ref a] ∧ At w S a "kind" (.int k t) ∧ k ≠ 2 ∧ k ≠ 3
noncomputable abbrev TkS := List Value × List Nd × Addr × Nat × Led × Int × Tok
noncomputable def tkLed (C : Led) (c : TkS) : Led := (c.2.2.1, PySem.W.listOf c.1.toArray c.2.2.2.1) :: (c.2.2.2.2.1 ++ C)
noncomputable def tkPs (c : TkS) : List (Str × Value) := [(Str.ofString "left", .ref c.2.2.1), (Str.ofString "at", .int c.2.2.2.2.2.1 c.2.2.2.2.2.2)]
noncomputable def TkP (w : World) (ds : List Nd) (c : TkS) : Prop := Its w c.1 c.2.1 c.2.2.2.2.1 ∧ (∃ r, ds = c.2.1 ++ r) ∧ c.2.2.2.2.2.1 = (c.1.length : Int)
noncomputable def TkQ (w : World) (g : Heap) (L : Addr) (m₀ : Str → Option Value) (C : Led) (ds : List Nd) (s : Shared) (Q : Flow → Shared → Prop) : Prop :=
  ∀ us es r D n S i t h tk (u : Str → Option Value), ds = es ++ r → Its w us es S → NoBox w us S → i = (us.length : Int) → Fr g L h (kstB (fun z => if [Str.ofString "ahead", Str.ofString "node"].contains z then u z else m₀ z) [(Str.ofString "left", .ref D), (Str.ofString "at", .int i t)]) → News g L h ((D, PySem.W.listOf us.toArray n) :: (S ++ C)) → Q .next { s with heap := h, toks := tk }
theorem nameB {P : Prop} {h₀ h : Heap} {L D2 t d : Addr} {es : List DictEntry} {n : Nat} {a : Value} {us : List Value} {tl rest : Led} (N : News h₀ L h (tl ++ (d, dictOf es n) :: rest)) (m1 : (t, tupO [a, .ref D2] 0) ∈ tl) (m2 : (D2, PySem.W.listOf us.toArray 0) ∈ tl)
    (k : ∀ led3, News h₀ L h led3 → (t, tupO [a, .ref D2] 0) ∈ led3 → (D2, PySem.W.listOf us.toArray 0) ∈ led3 → (d, dictOf es n) ∈ led3 → (∀ q ∈ rest, q ∈ led3) → P) : P :=
  k _ N (List.mem_append_left _ m1) (List.mem_append_left _ m2) (List.mem_append_right _ (.head _)) fun q h => List.mem_append_right _ (.tail _ h)
theorem cut_tk {M : Model} {A : Around} {t : Sem Flow} {Q : Flow → Shared → Prop} {E : Value → Shared → Prop} {s : Shared} {w : World} {g : Heap} {L : Addr} {m₀ : Str → Option Value} (_ : Fr g L s.heap m₀) (C : Led) (ds : List Nd)
    (h1 : ∀ Q', TkQ w g L m₀ C ds s Q' → wpAny M A t Q' E s) (h2 : TkQ w g L m₀ C ds s Q) : wpAny M A t Q E s := h1 Q h2
theorem row_box {S : Led} {tn : Addr} {i1 i2 i3 i4 : Int} {t1 t2 t3 t4 : Tok} {r : Value} {d : Dat} {n : Nat} (h : DatIn S r d) : DatIn ((tn, tupO [.int i1 t1, .int i2 t2, .int i3 t3, .int i4 t4, r] n) :: S) (.ref tn) (.tuple [.int i1, .int i2, .int i3, .int i4, d]) :=
  .tuple (.head _) (.cons (.int _ _) (.cons (.int _ _) (.cons (.int _ _) (.cons (.int _ _) (.cons (h.mono fun q h => .tail _ h) .nil)))))

theorem nameD3 {P : Prop} {h₀ h : Heap} {L : Addr} {tl led1 : Led} {v : Value} {rep : Dat} (N : News h₀ L h (tl ++ led1)) (d : DatIn (tl ++ led1) v rep) (k : ∀ led2, News h₀ L h led2 → DatIn led2 v rep → (∀ q ∈ led1, q ∈ led2) → P) : P := k _ N d (Sub.right Sub.refl)
theorem NoBox.mono {us : List Value} {S S' : Led} (h : NoBox w us S) (hs : ∀ q ∈ S, q ∈ S') : us = [] ∨ ∃ us' a k t, us = us' ++ [Value.ref a] ∧ At w S' a "kind" (.int k t) ∧ k ≠ 2 ∧ k ≠ 3 :=
  h.imp (fun x => x) fun ⟨us', a, k, t, e, h1, h2, h3⟩ => ⟨us', a, k, t, e, h1.mono hs, h2, h3⟩
theorem tk_off {h₀ h : Heap} {L d A1 D9 : Addr} {dd : List DictEntry} {nn c1 n9 : Nat} {us : List Value} {S9 T C : Led} (N : News h₀ L h ((A1, PySem.W.listOf us.toArray c1) :: (D9, PySem.W.listOf us.toArray n9) :: (S9 ++ sq C))) (hd : (d, dictOf dd nn) ∈ S9) (ho : ∀ q ∈ T, q.1 ≠ d) :
    ∀ q ∈ (A1, PySem.W.listOf us.toArray c1) :: (D9, PySem.W.listOf us.toArray n9) :: (T ++ sq C), q.1 ≠ d :=
  have hdm : (d, dictOf dd nn) ∈ (A1, PySem.W.listOf us.toArray c1) :: (D9, PySem.W.listOf us.toArray n9) :: (S9 ++ sq C) := .tail _ (.tail _ (List.mem_append_left _ hd))
  List.forall_mem_cons.mpr ⟨nd_off N hdm (.head _) lst_cls, List.forall_mem_cons.mpr ⟨nd_off N hdm (.tail _ (.head _)) lst_cls, List.forall_mem_append.mpr ⟨ho, fun q hq => nd_off N hdm (.tail _ (.tail _ (List.mem_append_right _ hq))) (sq_cls hq)⟩⟩⟩
theorem tk_sub {d A1 D9 : Addr} {o1 o2 od : Obj} {S9 T C : Led} (hd : (d, od) ∈ S9) (hs : ∀ q ∈ T, q ∈ S9) : ∀ q ∈ (d, od) :: (A1, o1) :: (D9, o2) :: (T ++ C), q ∈ (A1, o1) :: (D9, o2) :: (S9 ++ C) :=
  Sub.cons (.tail _ (.tail _ (List.mem_append_left _ hd))) (Sub.cons (.head _) (Sub.cons (.tail _ (.head _)) (Sub.skip (Sub.skip (Sub.app (fun q h => List.mem_append_left _ (hs q h)) (Sub.right Sub.refl))))))

theorem reg_ATb_tk : True := by
  k_with "w:exec Assign cons ListComp" => first | ((k_here; ((first | with_reducible refine LCg.Assign_ListComp_U (F₀ := by k_asm) (by rfl) (by with_unfolding_all rfl) (by with_unfolding_all rfl) (by decide) (by rfl) (by decide) (by rfl) (by rfl) (by rfl) ?_ | k_dflt (refine LCg.Assign_ListComp_U (F₀ := by k_asm) (by rfl) (by with_unfolding_all rfl) (by with_unfolding_all rfl) (by decide) (by rfl) (by decide) (by rfl) (by rfl) (by rfl) ?_))))) | fail
  k_with "w:eval ListComp" => first | ((k_here; ((first | with_reducible refine LCg.ListComp_U (F₀ := by k_asm) (by with_unfolding_all rfl) (by decide) (by rfl) (by decide) (by rfl) ?_ | k_dflt (refine LCg.ListComp_U (F₀ := by k_asm) (by with_unfolding_all rfl) (by decide) (by rfl) (by decide) (by rfl) ?_))))) | fail
  k_with "w:compareOp In int ref" => first | ((k_here; (with_reducible show wpAny _ _ (compareOp CmpOp.In (Value.int _ _) (Value.ref _)) _ _ _); ((first | with_reducible refine' in_ints ?l_k9 ?i_k9 ?_ ?_ | k_dflt (refine' in_ints ?l_k9 ?i_k9 ?_ ?_)); k_dflt ((case l_k9 => first | exact News.isTup (by k_asm) (by k_mem) | exact kun_topT (by k_asm) (by k_asm) (by k_is)); (case i_k9 => exact .cons _ _ (.cons _ _ .nil)))); (all_goals (intro z9; simp only [List.mem_cons, List.not_mem_nil, or_false] at z9; first | (exfalso; omega) | skip)))) | fail
  k_with "w:newTuple" => first | ((k_here; (have z9 := q8); (have z9 := d9); ((first | with_reducible refine' kup_newTuple ?F_k9 ?N_k9 ?_ ?z_k9 | k_dflt (refine' kup_newTuple ?F_k9 ?N_k9 ?_ ?z_k9)); k_dflt ((case F_k9 => k_asm); (case N_k9 => k_asm); (case z_k9 => kmk_size))); intro tn h9 F9 N9 l9t; (try k_sweep))) | fail
  k_with "w:call type:list" => first | ((k_here; (with_reducible show wpAny _ _ (call (Value.type _) [Value.ref l]) _ _ _); ((first | with_reducible refine' copy_led (news := led2) ?F_k9 ?N_k9 (s02 _ hl) ?z_k9 ?_ | k_dflt (refine' copy_led (news := led2) ?F_k9 ?N_k9 (s02 _ hl) ?z_k9 ?_)); k_dflt ((case F_k9 => k_asm); (case N_k9 => k_asm); (case z_k9 => omega))); intro D0 c0 h9 F9 N9 l9; (try k_sweep))) | fail
  k_with "w:call builtin:len" => first | ((k_here; (with_reducible show wpAny _ _ (call (Value.builtin _) [Value.ref l]) _ _ _); ((first | with_reducible refine' len_led (news := _ :: led2) ?N_k9 (List.mem_cons_of_mem _ (s02 _ hl)) ?z_k9 ?_ | k_dflt (refine' len_led (news := _ :: led2) ?N_k9 (List.mem_cons_of_mem _ (s02 _ hl)) ?z_k9 ?_)); k_dflt ((case N_k9 => k_asm); (case z_k9 => omega); k_whole)))) | fail
  k_with "w:CompSrc" => first | (((fail_if_success (have z9 := mR)); (rename Fr _ _ _ _ => F8); (rename News _ _ _ _ => N8); ((first | with_reducible refine' LCg.CompSrc.ledger (ax := l) (its := (vs).toArray) (k := n) (news := led) ?hh_k9 ?F_k9 ?N_k9 ?hm_k9 ?hz_k9 ?_ | k_dflt (refine' LCg.CompSrc.ledger (ax := l) (its := (vs).toArray) (k := n) (news := led) ?hh_k9 ?F_k9 ?N_k9 ?hm_k9 ?hz_k9 ?_)); k_dflt ((case hh_k9 => exact rfl); (case F_k9 => exact F8); (case N_k9 => first | exact N8 | ((refine News.re N8 ?_); k_extra "mine:subs")); (case hm_k9 => exact hl); (case hz_k9 => (rw [List.size_toArray, sizeLine_eq]; omega)))); intro g9; refine comp_tl _ (fun i ys tl => DatAll (tl ++ led) ys ((rowsD ds).take i)) .nil ?_ ?_; rotate_left 1; (focus (k_dflt (intro i9 ys9 tl0 v9 I oI C oC D9 m₂ h9 tk9 E9 hi9 a0 d0 hv9 hC hx F9 N9 off9 ne9; have hv2 : (vs)[i9]? = some v9 := (by rw [← List.getElem?_toArray]; exact hv9); obtain ⟨nd9, hnd9, hin9⟩ := (hI.nodes.mono hS).get hv2; have offI' := fun p hp => ((LCg.Off3.mem off9) p hp).1; have offC' := fun p hp => ((LCg.Off3.mem off9) p hp).2.1; have offD' := fun p hp => ((LCg.Off3.mem off9) p hp).2.2; have hok9 := hok nd9 (List.mem_of_getElem? hnd9); rcases row_at hin9 hok9 with ⟨a9, l9', k9, wd9, ht9, dp9, items9, vs9, n9', t1', t2', t3', t4', e9, hk9, q1, q2, q3, q4, q5, q6, q7, q8, q9, e8⟩ | ⟨a9, k9, t1', e9, hk2, hk3, q1, e8⟩; (focus (subst e9; k_steps; all_goals (first | (have fT := Ap.cons (q := (tn, tupO [.int k9 t1', .int wd9 t2', .int ht9 t3', .int dp9 t4', r9] 0)) (fun p hp => Nat.ne_of_lt (l9t p (List.mem_append_right _ hp))) f9; (refine' comp_end (all := (I, oI) :: (C, oC) :: (D9, LCg.lst ys9) :: (((tn, tupO [.int k9 t1', .int wd9 t2', .int ht9 t3', .int dp9 t4', r9] 0) :: tl9) ++ (tl0 ++ led))) ?F8_k9 (News.re ?N8_k9 ?s8_k9) .head .head .head (List.forall_mem_append.mpr ⟨Ap.ne fT (H := I) (o := oI) ?q1_k9, offI'⟩) (List.forall_mem_append.mpr ⟨Ap.ne fT (H := C) (o := oC) ?q2_k9, offC'⟩) (List.forall_mem_append.mpr ⟨Ap.ne fT (H := D9) (o := LCg.lst ys9) ?q3_k9, offD'⟩) (Or.inr ⟨_, List.mem_append_right _ (List.mem_append_right _ hl), rfl, _, rfl⟩) ⟨((tn, tupO [.int k9 t1', .int wd9 t2', .int ht9 t3', .int dp9 t4', r9] 0) :: tl9) ++ tl0, (List.append_assoc _ _ _).symm, Ap.app (Ap.sub fT ?sa_k9) a0, ?zR_k9⟩; (case F8_k9 => assumption); (case N8_k9 => assumption); (case s8_k9 => k_extra "mine:subs"); (case sa_k9 => k_extra "mine:subs"); (case q1_k9 => k_mem); (case q2_k9 => k_mem); (case q3_k9 => k_mem); (case zR_k9 => (rw [rows_take hnd9, e8]; exact datall_snoc (DatAll.mono sub3a d0) (DatIn.mono sub3b (row_box d9))))))))); (focus (subst e9; k_steps; all_goals (first | (refine' comp_end (all := (I, oI) :: (C, oC) :: (D9, LCg.lst ys9) :: (tl0 ++ led)) ?F8_k9 (News.re ?N8_k9 ?s8_k9) .head .head .head offI' offC' offD' (Or.inr ⟨_, List.mem_append_right _ hl, rfl, _, rfl⟩) ⟨tl0, rfl, a0, ?zR_k9⟩; (case F8_k9 => assumption); (case N8_k9 => assumption); (case s8_k9 => k_extra "mine:subs"); (case zR_k9 => (rw [rows_take hnd9, e8]; exact datall_snoc d0 .none))))))))); intro rvs tl0 a0 d0; (rw [List.take_of_length_le (by unfold rowsD; rw [List.size_toArray, (hI.nodes).length, List.length_map]; exact Nat.le_refl _)] at d0); k_dflt (intro lr h9 tk9 F9 N9 of9); refine nameW (led10 := led) N9 List.mem_cons_self d0 ?sub1_k9 ?sub2_k9 fun led1 N9 mR aR s01 => ?_; (case sub1_k9 => k_extra "mine:subs"); (case sub2_k9 => k_extra "mine:subs"); (try k_sweep); (try dsimp only); (try k_fold))) | fail
  k_with "w:CompSrc" => first | (((have z9 := mR); (fail_if_success (have z9 := mT)); (rename Fr _ _ _ _ => F8); (rename News _ _ _ _ => N8); ((first | with_reducible refine' LCg.CompSrc.ledger (ax := l) (its := (vs).toArray) (k := n) (news := led1) ?hh_k9 ?F_k9 ?N_k9 ?hm_k9 ?hz_k9 ?_ | k_dflt (refine' LCg.CompSrc.ledger (ax := l) (its := (vs).toArray) (k := n) (news := led1) ?hh_k9 ?F_k9 ?N_k9 ?hm_k9 ?hz_k9 ?_)); k_dflt ((case hh_k9 => exact rfl); (case F_k9 => exact F8); (case N_k9 => first | exact N8 | ((refine News.re N8 ?_); k_extra "mine:subs")); (case hm_k9 => exact (s01 _ hl)); (case hz_k9 => (rw [List.size_toArray, sizeLine_eq]; omega)))); intro g9; refine comp_tl _ (fun i ys tl => DatAll (tl ++ led1) ys ((Nd.dats ds).take i)) .nil ?_ ?_; rotate_left 1; (focus (k_dflt (intro i9 ys9 tl0 v9 I oI C oC D9 m₂ h9 tk9 E9 hi9 a0 d0 hv9 hC hx F9 N9 off9 ne9; have hv2 : (vs)[i9]? = some v9 := (by rw [← List.getElem?_toArray]; exact hv9); obtain ⟨nd9, hnd9, hin9⟩ := (hI.nodes.mono (Sub.trans hS s01)).get hv2; have offI' := fun p hp => ((LCg.Off3.mem off9) p hp).1; have offC' := fun p hp => ((LCg.Off3.mem off9) p hp).2.1; have offD' := fun p hp => ((LCg.Off3.mem off9) p hp).2.2; obtain ⟨a9, tt9, e9, hk9⟩ := hin9.kd; subst e9; have hok9 := hok nd9 (List.mem_of_getElem? hnd9); k_steps; all_goals (first | (refine' comp_end (all := (I, oI) :: (C, oC) :: (D9, LCg.lst ys9) :: (tl9 ++ (tl0 ++ led1))) ?F8_k9 (News.re ?N8_k9 ?s8_k9) .head .head .head (List.forall_mem_append.mpr ⟨Ap.ne f9 (H := I) (o := oI) ?q1_k9, offI'⟩) (List.forall_mem_append.mpr ⟨Ap.ne f9 (H := C) (o := oC) ?q2_k9, offC'⟩) (List.forall_mem_append.mpr ⟨Ap.ne f9 (H := D9) (o := LCg.lst ys9) ?q3_k9, offD'⟩) (Or.inr ⟨_, List.mem_append_right _ (List.mem_append_right _ (s01 _ hl)), rfl, _, rfl⟩) ⟨tl9 ++ tl0, (List.append_assoc _ _ _).symm, Ap.app (Ap.sub f9 ?sa_k9) a0, ?zR_k9⟩; (case F8_k9 => assumption); (case N8_k9 => assumption); (case s8_k9 => k_extra "mine:subs"); (case sa_k9 => k_extra "mine:subs"); (case q1_k9 => k_mem); (case q2_k9 => k_mem); (case q3_k9 => k_mem); (case zR_k9 => (rw [dats_take hnd9]; exact datall_snoc (DatAll.mono sub3a d0) (DatIn.mono sub3b d9)))))))); intro tvs tl0 a0 d0; (rw [List.take_of_length_le (by rw [List.size_toArray, (hI.nodes.mono (Sub.trans hS s01)).length, dats_len]; exact Nat.le_refl _)] at d0); k_dflt (intro lt h9 tk9 F9 N9 of9); refine nameW (led10 := led1) N9 List.mem_cons_self d0 ?sub1_k9 ?sub2_k9 fun led2 N9 mT aT s12 => ?_; (case sub1_k9 => k_extra "mine:subs"); (case sub2_k9 => k_extra "mine:subs"); have s02 := Sub.trans s01 s12; (try k_sweep); (try dsimp only); (try k_fold))) | fail
  k_with "w:call ref" => first | ((k_here; (with_reducible show wpAny _ _ (call (Value.ref 541) [Value.ref l9'] _) _ _ _); ((first | with_reducible refine' Kt.use (dlist1_k (S := led) ?cs_k9 q6 q7 q9 (by rw [q7.length]; omega)) ?hh_k9 ?hf_k9 ?B_k9 ?F_k9 ?X_k9 ?N_k9 ?T_k9 ?hk_k9 ?hd_k9 ?hu_k9 ?_ | k_dflt (refine' Kt.use (dlist1_k (S := led) ?cs_k9 q6 q7 q9 (by rw [q7.length]; omega)) ?hh_k9 ?hf_k9 ?B_k9 ?F_k9 ?X_k9 ?N_k9 ?T_k9 ?hk_k9 ?hd_k9 ?hu_k9 ?_)); k_dflt ((case F_k9 => k_asm); (case B_k9 => k_asm); (case X_k9 => k_asm); (case N_k9 => k_asm); (case T_k9 => k_asm); (case hh_k9 => exact rfl); (case hf_k9 => exact rfl); (case hk_k9 => first | exact rfl | assumption); (case hd_k9 => k_extra "mine:dp"); (case hu_k9 => k_extra "mine:un"); (case cs_k9 => k_extra "mine:subs"))); intro tl9 r9 f9 d9 h9 tk9 F9 N9; (try k_sweep); (try dsimp only); (try k_fold))) | fail
  k_with "w:call ref" => first | ((k_here; (with_reducible show wpAny _ _ (call (Value.ref 535) [Value.ref a9] _) _ _ _); ((first | with_reducible refine' Kt.use (described1_k (S := led1) ?cs_k9 hin9 (Nd.ok_dk1 hok9 1)) ?hh_k9 ?hf_k9 ?B_k9 ?F_k9 ?X_k9 ?N_k9 ?T_k9 ?hk_k9 ?hd_k9 ?hu_k9 ?_ | k_dflt (refine' Kt.use (described1_k (S := led1) ?cs_k9 hin9 (Nd.ok_dk1 hok9 1)) ?hh_k9 ?hf_k9 ?B_k9 ?F_k9 ?X_k9 ?N_k9 ?T_k9 ?hk_k9 ?hd_k9 ?hu_k9 ?_)); k_dflt ((case F_k9 => k_asm); (case B_k9 => k_asm); (case X_k9 => k_asm); (case N_k9 => k_asm); (case T_k9 => k_asm); (case hh_k9 => exact rfl); (case hf_k9 => exact rfl); (case hk_k9 => first | exact rfl | assumption); (case hd_k9 => k_extra "mine:dp"); (case hu_k9 => k_extra "mine:un"); (case cs_k9 => k_extra "mine:subs"))); intro tl9 r9 f9 d9 h9 tk9 F9 N9; (try k_sweep); (try dsimp only); (try k_fold))) | fail
  k_with "w:KswEnd" => first | ((show False; skip)) | fail
  k_with "w:ite" => first | ((k_here; k_openite; first | ((with_reducible refine ite_ibt ?_ ?_); (focus omega); walk_say "MINE pruned") | ((with_reducible refine ite_ibf ?_ ?_); (focus omega); walk_say "MINE pruned") | ((with_reducible refine ite_nbt ?_ ?_); (focus omega); walk_say "MINE pruned") | ((with_reducible refine ite_nbf ?_ ?_); (focus omega); walk_say "MINE pruned") | ((with_reducible refine ite_bnt ?_ ?_); (focus omega); walk_say "MINE pruned") | ((with_reducible refine ite_bnf ?_ ?_); (focus omega); walk_say "MINE pruned"))) | fail
  k_with "w:exec While" => first | ((k_here; (rename Fr _ _ _ _ => F8); (rename News _ _ _ _ => N8); ((first | with_reducible refine' cut_tk (w := w) F8 (sq led2) ds ?zw1_k9 ?zw2_k9 | k_dflt (refine' cut_tk (w := w) F8 (sq led2) ds ?zw1_k9 ?zw2_k9)); k_dflt ((case zw1_k9 => (intro Q9 hQ9; have aR' := DatAll.sq (aR.mono s12); have aT' := DatAll.sq aT; have mR' := sq_mem (s12 _ mR) lst_cls; have mT' := sq_mem mT lst_cls; refine' ksw_while (σ := TkS) (tkLed (sq led2)) tkPs (fun _ => True) [Str.ofString "ahead", Str.ofString "node"] (TkP w ds) (fun c => c.1.length) (vs, ds, D0, c0, S, (vs.length : Int), _) F8 (News.re N8 ?kn_k9) trivial ?kk_k9 ⟨hI, ⟨[], (List.append_nil _).symm⟩, rfl⟩ ?turn_k9; (case kn_k9 => (show ∀ q ∈ (D0, PySem.W.listOf vs.toArray c0) :: (S ++ sq led2), q ∈ _; exact Sub.cons (List.mem_cons_of_mem _ List.mem_cons_self) (Sub.skip (Sub.skip (Sub.app (Sub.trans hS s02) sq_sub))))); (case kk_k9 => ((unfold tkPs); (dsimp only); (refine List.forall_mem_cons.mpr ⟨?ka_k9, List.forall_mem_cons.mpr ⟨?kb_k9, List.forall_mem_nil _⟩⟩); (case ka_k9 => exact rfl); (case kb_k9 => exact rfl))); (case turn_k9 => (intro c9 u9 h9 tk9 ht9 hp9 F9 N9; obtain ⟨us9, es9, D9, n9, S9, i9, t9⟩ := c9; obtain ⟨hIt9, ⟨r9, hr9⟩, hi9⟩ := hp9; (dsimp only [tkLed, tkPs, kstB] at F9 N9 hIt9 hr9 hi9); have hoke : ∀ d ∈ es9, d.ok := (fun d hd => hok d (by rw [hr9]; exact List.mem_append_left _ hd)); have hle : us9.length ≤ 80 := (by rw [hIt9.nodes.length]; have z9 := congrArg List.length hr9; rw [List.length_append] at z9; omega); rcases hIt9.last hoke with ⟨e1, e2, e3⟩ | @⟨us', es', a', nd', k', t1', e1, e2, hk', hk2, hk3, e8⟩ | @⟨us', es', S', S0, nd', a', d', lI, dd', nn', nI, vsI, itI, k', wd', ht', dp', t1', t2', t3', t4', v6', v7', v8', v9', e1, e2, hIt', hsub, hdS, hoff, hk', hb', ha', hlI, hnI, hlen', hdk', e8⟩; (focus (have h0 : i9 = 0 := (by rw [hi9, e1]; rfl); k_steps; all_goals (first | exact hQ9 _ _ r9 _ _ _ _ _ _ _ u9 hr9 hIt9 (.inl e1) hi9 (by assumption) (by assumption)))); (focus (have hds : ds = es' ++ nd' :: r9 := (by rw [hr9, e2, List.append_assoc]; rfl); obtain ⟨vr, hvr, dvr⟩ := row_get (es := es') (r := r9) (nd := nd') (by rw [← hds]; exact aR'); (rw [e8] at dvr); have hel : es9.length = es'.length + 1 := (by rw [e2, List.length_append]; rfl); have hul : us9.length = es9.length := hIt9.nodes.length; have hix : (i9 - 1).toNat = es'.length := (by omega); have er := dat_none dvr; subst er; have hrow : rvs[(i9 - 1).toNat]? = some Value.none := (by rw [hix]; exact hvr); have h0 : 0 < i9 := (by omega); k_steps; all_goals (first | exact hQ9 _ _ r9 _ _ _ _ _ _ _ u9 hr9 hIt9 (.inr ⟨us', a', k', t1', e1, hk', hk2, hk3⟩) hi9 (by assumption) (by assumption)))); (focus (have hds : ds = es' ++ nd' :: r9 := (by rw [hr9, e2, List.append_assoc]; rfl); obtain ⟨vr, hvr, dvr⟩ := row_get (es := es') (r := r9) (nd := nd') (by rw [← hds]; exact aR'); (rw [e8] at dvr); have hel : es9.length = es'.length + 1 := (by rw [e2, List.length_append]; rfl); have hul : us9.length = es9.length := hIt9.nodes.length; have hix : (i9 - 1).toNat = es'.length := (by omega); have hrk := rowD_ok (hoke nd' (by rw [e2]; exact List.mem_append_right _ (.head _))); (rw [e8] at hrk); obtain ⟨tr, vr', nr, er, mr, ar, -⟩ := dat_tup dvr; subst er; have hrow : rvs[(i9 - 1).toNat]? = some (Value.ref tr) := (by rw [hix]; exact hvr); have h0 : 0 < i9 := (by omega); have hle' : us'.length ≤ 80 := (by rw [e1, List.length_append] at hle; omega); have aT'' := told_take (es := es') (r := nd' :: r9) (hds ▸ aT'); have hoke' : ∀ d ∈ es', d.ok := (fun d hd => hoke d (by rw [e2]; exact List.mem_append_left _ hd)); have hie : i9 - 1 = ((es'.length : Nat) : Int) := (by omega); subst e1; k_steps; all_goals (first | (refine' ksw_end (us', es', D2, 0, S', i9 - 1, _) ?zF_k9 ?zN_k9 ?hn_k9 trivial ?hk_k9 ?hr_k9 ⟨hIt', ⟨_, hds⟩, ?hi_k9⟩ ?hm_k9; (case zF_k9 => assumption); (case zN_k9 => assumption); (case hk_k9 => ((unfold tkPs); (dsimp only); (refine List.forall_mem_cons.mpr ⟨?ka_k9, List.forall_mem_cons.mpr ⟨?kb_k9, List.forall_mem_nil _⟩⟩); (case ka_k9 => exact rfl); (case kb_k9 => exact rfl))); (case hr_k9 => (intro z h2 h3; (unfold tkPs at h2); (dsimp only at h2); k_extra "mine:same1")); (case hi_k9 => (show i9 - 1 = (us'.length : Int); have z9 := hIt'.nodes.length; omega)); (case hm_k9 => (show us'.length < (us' ++ [Value.ref a']).length; rw [List.length_append]; exact Nat.lt_succ_self _)); (case hn_k9 => (show ∀ p ∈ (D2, PySem.W.listOf us'.toArray 0) :: (S' ++ sq led2), p ∈ _; k_extra "mine:subs")))))))))))); k_dflt (intro us9 es9 r9 D1 n1 S1 i1 t1 h9 tk9 u9 hds9 hIt9 hnb9 hi9 F9 N9); have hoke9 : ∀ d ∈ es9, d.ok := (fun d hd => hok d (by rw [hds9]; exact List.mem_append_left _ hd)); have hle9 : us9.length ≤ 80 := (by rw [hIt9.nodes.length]; have z9 := congrArg List.length hds9; rw [List.length_append] at z9; omega); have hie9 : i1 = ((es9.length : Nat) : Int) := (by rw [hi9, hIt9.nodes.length]); have aT9 := told_take (es := es9) (r := r9) (hds9 ▸ DatAll.sq aT); have mT9 := sq_mem mT lst_cls; (try k_sweep); (try dsimp only); (try k_fold))) | fail
  k_with "w:subscriptTail" => first | ((k_here; (with_reducible show wpAny _ _ (subscriptTail _ _ (Value.ref lr) (Value.int _ _)) _ _ _); ((first | with_reducible refine' item_led (vs := rvs) ?N_k9 ?m_k9 ?a_k9 ?b_k9 hrow ?_ ?s_k9 | k_dflt (refine' item_led (vs := rvs) ?N_k9 ?m_k9 ?a_k9 ?b_k9 hrow ?_ ?s_k9)); k_dflt ((case N_k9 => k_asm); (case m_k9 => first | k_extra "mine:in" | exact List.mem_cons_of_mem _ (s34 _ mR3)); (case a_k9 => omega); (case b_k9 => omega); (case s_k9 => with_unfolding_all rfl); k_whole)))) | fail
  k_with "w:call type:list" => first | ((k_here; (with_reducible show wpAny _ _ (call (Value.type _) [Value.ref D9]) _ _ _); ((first | with_reducible refine' copy_led ?F_k9 ?N_k9 (List.mem_cons_self) ?z_k9 ?_ | k_dflt (refine' copy_led ?F_k9 ?N_k9 (List.mem_cons_self) ?z_k9 ?_)); k_dflt ((case F_k9 => k_asm); (case N_k9 => k_asm); (case z_k9 => omega))); intro A1 c1 h9 F9 N9 l9; (try k_sweep))) | fail
  k_with "w:call ref" => first | ((k_here; (with_reducible show wpAny _ _ (call (Value.ref 592) [Value.ref A1] _) _ _ _); (rename News _ _ _ _ => N8); have off8 := tk_off N8 hdS hoff; ((first | with_reducible refine' Kt.use (Kt.weak (led' := (d', dictOf dd' nn') :: (A1, PySem.W.listOf (us' ++ [Value.ref a']).toArray c1) :: (D9, PySem.W.listOf (us' ++ [Value.ref a']).toArray n9) :: ((S0 ++ S') ++ sq led2)) (last_box_box_k hb' hk' off8 (List.mem_cons_of_mem _ (List.mem_cons_of_mem _ (List.mem_append_left _ (List.mem_append_left _ ha')))) List.mem_cons_self (by omega)) (tk_sub hdS hsub)) ?hh_k9 ?hf_k9 ?B_k9 ?F_k9 ?X_k9 ?N_k9 ?T_k9 ?hk_k9 ?hd_k9 ?hu_k9 ?_ | k_dflt (refine' Kt.use (Kt.weak (led' := (d', dictOf dd' nn') :: (A1, PySem.W.listOf (us' ++ [Value.ref a']).toArray c1) :: (D9, PySem.W.listOf (us' ++ [Value.ref a']).toArray n9) :: ((S0 ++ S') ++ sq led2)) (last_box_box_k hb' hk' off8 (List.mem_cons_of_mem _ (List.mem_cons_of_mem _ (List.mem_append_left _ (List.mem_append_left _ ha')))) List.mem_cons_self (by omega)) (tk_sub hdS hsub)) ?hh_k9 ?hf_k9 ?B_k9 ?F_k9 ?X_k9 ?N_k9 ?T_k9 ?hk_k9 ?hd_k9 ?hu_k9 ?_)); k_dflt ((case F_k9 => k_asm); (case B_k9 => k_asm); (case X_k9 => k_asm); (case N_k9 => exact N8); (case T_k9 => k_asm); (case hh_k9 => exact rfl); (case hf_k9 => exact rfl); (case hk_k9 => first | exact rfl | assumption); (case hd_k9 => k_extra "mine:dp"); (case hu_k9 => k_extra "mine:un"))); intro t2 D2 dd2 n2 u2 tl9 f9 m9 mD9 b9 h9 tk9 F9 N9; refine nameB N9 m9 mD9 fun led3 N9 mt3 mD3 md3 s3 => ?_; have mA3 := s3 (A1, PySem.W.listOf (us' ++ [Value.ref a']).toArray c1) List.mem_cons_self; have sI : ∀ q ∈ S0, q ∈ led3 := (fun q h => s3 q (List.mem_cons_of_mem _ (List.mem_cons_of_mem _ (List.mem_append_left _ (List.mem_append_left _ h))))); have sP : ∀ q ∈ S', q ∈ led3 := (fun q h => s3 q (List.mem_cons_of_mem _ (List.mem_cons_of_mem _ (List.mem_append_left _ (List.mem_append_right _ h))))); have sC : ∀ q ∈ sq led2, q ∈ led3 := (fun q h => s3 q (List.mem_cons_of_mem _ (List.mem_cons_of_mem _ (List.mem_append_right _ h)))); have ma3 := sI _ ha'; have k1 := b9.at_kind ma3 md3 rfl; have k2 := b9.at_width ma3 md3 rfl; have k3 := b9.at_height ma3 md3 rfl; have k4 := b9.at_depth ma3 md3 rfl; have k5 := b9.at_items ma3 md3 rfl; have k6 := b9.at_shift ma3 md3 rfl; have ml3 := sI _ hlI; have n3 := hnI.mono sI; have mR3 := sC _ mR'; have mT3 := sC _ mT'; (try k_sweep); (try dsimp only); (try k_fold))) | fail
  k_with "w:unpackItems ref" => first | ((k_here; ((first | with_reducible refine' unpackItemsN_ ?k1_k9 ?k2_k9 ?k3_k9 ?k4_k9 ?k5_k9 ?_ | k_dflt (refine' unpackItemsN_ ?k1_k9 ?k2_k9 ?k3_k9 ?k4_k9 ?k5_k9 ?_)); k_dflt ((case k1_k9 => k_asm); (case k2_k9 => k_asm); (case k3_k9 => exact News.isTup (by k_asm) (by k_extra "mine:in")); (case k4_k9 => exact rfl); (case k5_k9 => exact rfl); k_whole)); intro h' F' N'; (try k_sweep))) | fail
  k_with "w:newTuple" => first | ((k_here; (have z9 := dI); ((first | with_reducible refine' kup_newTuple ?F_k9 ?N_k9 ?_ ?z_k9 | k_dflt (refine' kup_newTuple ?F_k9 ?N_k9 ?_ ?z_k9)); k_dflt ((case F_k9 => k_asm); (case N_k9 => k_asm); (case z_k9 => kmk_size))); intro tn h9 F9 N9 l9t; (try k_sweep))) | fail
  k_with "w:compareOp NotEq ref ref" => first | ((k_here; (with_reducible show wpAny _ _ (compareOp _ (Value.ref tn) (Value.ref tr)) _ _ _); ((first | with_reducible refine' dat_ne ?N_k9 (row_box (n := 0) dI) ?sa_k9 dvr ?sb_k9 hrk hrk ?hu_k9 ?_ | k_dflt (refine' dat_ne ?N_k9 (row_box (n := 0) dI) ?sa_k9 dvr ?sb_k9 hrk hrk ?hu_k9 ?_)); k_dflt ((case N_k9 => k_asm); (case sa_k9 => k_extra "mine:subs"); (case sb_k9 => exact Sub.skip (Sub.trans sC s34)); (case hu_k9 => k_extra "mine:units"); k_whole)); (try simp only [decide_true, Bool.not_true]))) | fail
  k_with "w:call builtin:len" => first | ((k_here; (with_reducible show wpAny _ _ (call (Value.builtin _) [Value.ref A1]) _ _ _); ((first | with_reducible refine' len_led ?N_k9 ?m_k9 ?z_k9 ?_ | k_dflt (refine' len_led ?N_k9 ?m_k9 ?z_k9 ?_)); k_dflt ((case N_k9 => k_asm); (case m_k9 => exact List.mem_cons_of_mem _ (s34 _ mA3)); (case z_k9 => omega); k_whole)))) | fail
  k_with "w:call ref" => first | ((k_here; (with_reducible show wpAny _ _ (call (Value.ref 541) [Value.ref lI] _) _ _ _); ((first | with_reducible refine' Kt.use (dlist1_k (S := led3) ?cs_k9 ml3 n3 hdk' (by rw [n3.length]; omega)) ?hh_k9 ?hf_k9 ?B_k9 ?F_k9 ?X_k9 ?N_k9 ?T_k9 ?hk_k9 ?hd_k9 ?hu_k9 ?_ | k_dflt (refine' Kt.use (dlist1_k (S := led3) ?cs_k9 ml3 n3 hdk' (by rw [n3.length]; omega)) ?hh_k9 ?hf_k9 ?B_k9 ?F_k9 ?X_k9 ?N_k9 ?T_k9 ?hk_k9 ?hd_k9 ?hu_k9 ?_)); k_dflt ((case F_k9 => k_asm); (case B_k9 => k_asm); (case X_k9 => k_asm); (case N_k9 => k_asm); (case T_k9 => k_asm); (case hh_k9 => exact rfl); (case hf_k9 => exact rfl); (case hk_k9 => first | exact rfl | assumption); (case hd_k9 => k_extra "mine:dp"); (case hu_k9 => k_extra "mine:un"); (case cs_k9 => k_extra "mine:subs"))); intro tl9 r9 f9 d9 h9 tk9 F9 N9; refine nameD3 N9 d9 fun led4 N9 dI s34 => ?_; (try k_sweep); (try dsimp only); (try k_fold))) | fail
  k_with "w:CompSrc" => first | (((have z9 := dI); (rename Fr _ _ _ _ => F8); (rename News _ _ _ _ => N8); ((first | with_reducible refine' LCg.CompSrc.ledger (ax := D2) (its := (us').toArray) (k := 0) (news := led4) ?hh_k9 ?F_k9 ?N_k9 ?hm_k9 ?hz_k9 ?_ | k_dflt (refine' LCg.CompSrc.ledger (ax := D2) (its := (us').toArray) (k := 0) (news := led4) ?hh_k9 ?F_k9 ?N_k9 ?hm_k9 ?hz_k9 ?_)); k_dflt ((case hh_k9 => exact rfl); (case F_k9 => exact F8); (case N_k9 => first | exact N8 | ((refine News.re N8 ?_); k_extra "mine:subs")); (case hm_k9 => exact (s34 _ mD3)); (case hz_k9 => (rw [List.size_toArray, sizeLine_eq]; omega)))); intro g9; refine comp_tl _ (fun i ys tl => DatAll (tl ++ led4) ys ((Nd.dats es').take i)) .nil ?_ ?_; rotate_left 1; (focus (k_dflt (intro i9 ys9 tl0 v9 I oI C oC D9 m₂ h9 tk9 E9 hi9 a0 d0 hv9 hC hx F9 N9 off9 ne9; have hv2 : (us')[i9]? = some v9 := (by rw [← List.getElem?_toArray]; exact hv9); obtain ⟨nd9, hnd9, hin9⟩ := (hIt'.nodes.mono (Sub.trans sP s34)).get hv2; have offI' := fun p hp => ((LCg.Off3.mem off9) p hp).1; have offC' := fun p hp => ((LCg.Off3.mem off9) p hp).2.1; have offD' := fun p hp => ((LCg.Off3.mem off9) p hp).2.2; obtain ⟨a9, tt9, e9, hk9⟩ := hin9.kd; subst e9; have hok9 := hoke' nd9 (List.mem_of_getElem? hnd9); k_steps; all_goals (first | (refine' comp_end (all := (I, oI) :: (C, oC) :: (D9, LCg.lst ys9) :: (tl9 ++ (tl0 ++ led4))) ?F8_k9 (News.re ?N8_k9 ?s8_k9) .head .head .head (List.forall_mem_append.mpr ⟨Ap.ne f9 (H := I) (o := oI) ?q1_k9, offI'⟩) (List.forall_mem_append.mpr ⟨Ap.ne f9 (H := C) (o := oC) ?q2_k9, offC'⟩) (List.forall_mem_append.mpr ⟨Ap.ne f9 (H := D9) (o := LCg.lst ys9) ?q3_k9, offD'⟩) (Or.inr ⟨_, List.mem_append_right _ (List.mem_append_right _ (s34 _ mD3)), rfl, _, rfl⟩) ⟨tl9 ++ tl0, (List.append_assoc _ _ _).symm, Ap.app (Ap.sub f9 ?sa_k9) a0, ?zR_k9⟩; (case F8_k9 => assumption); (case N8_k9 => assumption); (case s8_k9 => k_extra "mine:subs"); (case sa_k9 => k_extra "mine:subs"); (case q1_k9 => k_mem); (case q2_k9 => k_mem); (case q3_k9 => k_mem); (case zR_k9 => (rw [dats_take hnd9]; exact datall_snoc (DatAll.mono sub3a d0) (DatIn.mono sub3b d9)))))))); intro cys tl0 a0 d0; (rw [List.take_of_length_le (by rw [List.size_toArray, (hIt'.nodes.mono (Sub.trans sP s34)).length, dats_len]; exact Nat.le_refl _)] at d0); k_dflt (intro lc h9 tk9 F9 N9 of9); refine nameW (led10 := led4) N9 List.mem_cons_self d0 ?sub1_k9 ?sub2_k9 fun led6 N9 mC aC s46 => ?_; (case sub1_k9 => k_extra "mine:subs"); (case sub2_k9 => k_extra "mine:subs"); have mT6 := s46 _ (s34 _ mT3); have mD6 := s46 _ (s34 _ mD3); have sP6 := Sub.trans (Sub.trans sP s34) s46; have sC6 := Sub.trans (Sub.trans sC s34) s46; (try k_sweep); (try dsimp only); (try k_fold))) | fail
  k_with "w:CompSrc" => first | (((have z9 := hnb9); (rename Fr _ _ _ _ => F8); (rename News _ _ _ _ => N8); ((first | with_reducible refine' LCg.CompSrc.ledger (ax := D1) (its := (us9).toArray) (k := n1) (news := ((D1, PySem.W.listOf us9.toArray n1) :: (S1 ++ sq led2))) ?hh_k9 ?F_k9 ?N_k9 ?hm_k9 ?hz_k9 ?_ | k_dflt (refine' LCg.CompSrc.ledger (ax := D1) (its := (us9).toArray) (k := n1) (news := ((D1, PySem.W.listOf us9.toArray n1) :: (S1 ++ sq led2))) ?hh_k9 ?F_k9 ?N_k9 ?hm_k9 ?hz_k9 ?_)); k_dflt ((case hh_k9 => exact rfl); (case F_k9 => exact F8); (case N_k9 => first | exact N8 | ((refine News.re N8 ?_); k_extra "mine:subs")); (case hm_k9 => exact List.mem_cons_self); (case hz_k9 => (rw [List.size_toArray, sizeLine_eq]; omega)))); intro g9; refine comp_tl _ (fun i ys tl => DatAll (tl ++ (((D1, PySem.W.listOf us9.toArray n1) :: (S1 ++ sq led2)) : Led)) ys ((Nd.dats es9).take i)) .nil ?_ ?_; rotate_left 1; (focus (k_dflt (intro i9 ys9 tl0 v9 I oI C oC D9 m₂ h9 tk9 E9 hi9 a0 d0 hv9 hC hx F9 N9 off9 ne9; have hv2 : (us9)[i9]? = some v9 := (by rw [← List.getElem?_toArray]; exact hv9); obtain ⟨nd9, hnd9, hin9⟩ := ((hIt9.nodes.mono (Sub.skip Sub.left) : NodesIn w ((D1, PySem.W.listOf us9.toArray n1) :: (S1 ++ sq led2)) us9 es9)).get hv2; have offI' := fun p hp => ((LCg.Off3.mem off9) p hp).1; have offC' := fun p hp => ((LCg.Off3.mem off9) p hp).2.1; have offD' := fun p hp => ((LCg.Off3.mem off9) p hp).2.2; obtain ⟨a9, tt9, e9, hk9⟩ := hin9.kd; subst e9; have hok9 := hoke9 nd9 (List.mem_of_getElem? hnd9); k_steps; all_goals (first | (refine' comp_end (all := (I, oI) :: (C, oC) :: (D9, LCg.lst ys9) :: (tl9 ++ (tl0 ++ ((D1, PySem.W.listOf us9.toArray n1) :: (S1 ++ sq led2))))) ?F8_k9 (News.re ?N8_k9 ?s8_k9) .head .head .head (List.forall_mem_append.mpr ⟨Ap.ne f9 (H := I) (o := oI) ?q1_k9, offI'⟩) (List.forall_mem_append.mpr ⟨Ap.ne f9 (H := C) (o := oC) ?q2_k9, offC'⟩) (List.forall_mem_append.mpr ⟨Ap.ne f9 (H := D9) (o := LCg.lst ys9) ?q3_k9, offD'⟩) (Or.inr ⟨_, List.mem_append_right _ (List.mem_append_right _ List.mem_cons_self), rfl, _, rfl⟩) ⟨tl9 ++ tl0, (List.append_assoc _ _ _).symm, Ap.app (Ap.sub f9 ?sa_k9) a0, ?zR_k9⟩; (case F8_k9 => assumption); (case N8_k9 => assumption); (case s8_k9 => k_extra "mine:subs"); (case sa_k9 => k_extra "mine:subs"); (case q1_k9 => k_mem); (case q2_k9 => k_mem); (case q3_k9 => k_mem); (case zR_k9 => (rw [dats_take hnd9]; exact datall_snoc (DatAll.mono sub3a d0) (DatIn.mono sub3b d9)))))))); intro cys tl0 a0 d0; (rw [List.take_of_length_le (by rw [List.size_toArray, ((hIt9.nodes.mono (Sub.skip Sub.left) : NodesIn w ((D1, PySem.W.listOf us9.toArray n1) :: (S1 ++ sq led2)) us9 es9)).length, dats_len]; exact Nat.le_refl _)] at d0); k_dflt (intro lc h9 tk9 F9 N9 of9); refine nameW (led10 := ((D1, PySem.W.listOf us9.toArray n1) :: (S1 ++ sq led2))) N9 List.mem_cons_self d0 ?sub1_k9 ?sub2_k9 fun led6 N9 mC aC s46 => ?_; (case sub1_k9 => k_extra "mine:subs"); (case sub2_k9 => k_extra "mine:subs"); have mT6 := s46 _ (List.mem_cons_of_mem _ (List.mem_append_right _ mT9)); have sC6 : ∀ q ∈ sq led2, q ∈ led6 := (fun q h => s46 q (List.mem_cons_of_mem _ (List.mem_append_right _ h))); (try k_sweep); (try dsimp only); (try k_fold))) | fail
  k_with "w:call ref" => first | ((k_here; (have z9 := dI); (with_reducible show wpAny _ _ (call (Value.ref 535) [Value.ref a9] _) _ _ _); ((first | with_reducible refine' Kt.use (described1_k (S := led4) ?cs_k9 hin9 (Nd.ok_dk1 hok9 1)) ?hh_k9 ?hf_k9 ?B_k9 ?F_k9 ?X_k9 ?N_k9 ?T_k9 ?hk_k9 ?hd_k9 ?hu_k9 ?_ | k_dflt (refine' Kt.use (described1_k (S := led4) ?cs_k9 hin9 (Nd.ok_dk1 hok9 1)) ?hh_k9 ?hf_k9 ?B_k9 ?F_k9 ?X_k9 ?N_k9 ?T_k9 ?hk_k9 ?hd_k9 ?hu_k9 ?_)); k_dflt ((case F_k9 => k_asm); (case B_k9 => k_asm); (case X_k9 => k_asm); (case N_k9 => k_asm); (case T_k9 => k_asm); (case hh_k9 => exact rfl); (case hf_k9 => exact rfl); (case hk_k9 => first | exact rfl | assumption); (case hd_k9 => k_extra "mine:dp"); (case hu_k9 => k_extra "mine:un"); (case cs_k9 => k_extra "mine:subs"))); intro tl9 r9 f9 d9 h9 tk9 F9 N9; (try k_sweep); (try dsimp only); (try k_fold))) | fail
  k_with "w:call ref" => first | ((k_here; (have z9 := hnb9); (with_reducible show wpAny _ _ (call (Value.ref 535) [Value.ref a9] _) _ _ _); ((first | with_reducible refine' Kt.use (described1_k (S := ((D1, PySem.W.listOf us9.toArray n1) :: (S1 ++ sq led2))) ?cs_k9 hin9 (Nd.ok_dk1 hok9 1)) ?hh_k9 ?hf_k9 ?B_k9 ?F_k9 ?X_k9 ?N_k9 ?T_k9 ?hk_k9 ?hd_k9 ?hu_k9 ?_ | k_dflt (refine' Kt.use (described1_k (S := ((D1, PySem.W.listOf us9.toArray n1) :: (S1 ++ sq led2))) ?cs_k9 hin9 (Nd.ok_dk1 hok9 1)) ?hh_k9 ?hf_k9 ?B_k9 ?F_k9 ?X_k9 ?N_k9 ?T_k9 ?hk_k9 ?hd_k9 ?hu_k9 ?_)); k_dflt ((case F_k9 => k_asm); (case B_k9 => k_asm); (case X_k9 => k_asm); (case N_k9 => k_asm); (case T_k9 => k_asm); (case hh_k9 => exact rfl); (case hf_k9 => exact rfl); (case hk_k9 => first | exact rfl | assumption); (case hd_k9 => k_extra "mine:dp"); (case hu_k9 => k_extra "mine:un"); (case cs_k9 => k_extra "mine:subs"))); intro tl9 r9 f9 d9 h9 tk9 F9 N9; (try k_sweep); (try dsimp only); (try k_fold))) | fail
  k_with "w:subscriptTail Name Slice ref ref" => first | ((k_here; (have z9 := dI); (with_reducible show wpAny _ _ (subscriptTail _ (PySem.Expr.Slice _ _ none _) (Value.ref lt) (Value.ref _)) _ _ _); ((first | with_reducible refine' slice_led (vs := tvs) (ws := tvs.take es'.length) ?F_k9 ?N_k9 ?l_k9 ?p_k9 ?q_k9 ?e_k9 ?z_k9 ?_ ?s_k9 ?t_k9 | k_dflt (refine' slice_led (vs := tvs) (ws := tvs.take es'.length) ?F_k9 ?N_k9 ?l_k9 ?p_k9 ?q_k9 ?e_k9 ?z_k9 ?_ ?s_k9 ?t_k9)); k_dflt ((case F_k9 => k_asm); (case N_k9 => k_asm); (case l_k9 => k_extra "mine:in"); (case p_k9 => kmk_part); (case q_k9 => kmk_part); (case e_k9 => (rw [hie]; exact pick_upto _ _)); (case z_k9 => (have z9 := DatAll.length aT; rw [dats_len] at z9; omega)); (case s_k9 => with_unfolding_all rfl); (case t_k9 => kmk_pure); k_whole)); intro ls h9 F9 N9 l9; (try k_sweep))) | fail
  k_with "w:subscriptTail Name Slice ref ref" => first | ((k_here; (have z9 := hnb9); (with_reducible show wpAny _ _ (subscriptTail _ (PySem.Expr.Slice _ _ none _) (Value.ref lt) (Value.ref _)) _ _ _); ((first | with_reducible refine' slice_led (vs := tvs) (ws := tvs.take es9.length) ?F_k9 ?N_k9 ?l_k9 ?p_k9 ?q_k9 ?e_k9 ?z_k9 ?_ ?s_k9 ?t_k9 | k_dflt (refine' slice_led (vs := tvs) (ws := tvs.take es9.length) ?F_k9 ?N_k9 ?l_k9 ?p_k9 ?q_k9 ?e_k9 ?z_k9 ?_ ?s_k9 ?t_k9)); k_dflt ((case F_k9 => k_asm); (case N_k9 => k_asm); (case l_k9 => k_extra "mine:in"); (case p_k9 => kmk_part); (case q_k9 => kmk_part); (case e_k9 => (rw [hie9]; exact pick_upto _ _)); (case z_k9 => (have z9 := DatAll.length aT; rw [dats_len] at z9; omega)); (case s_k9 => with_unfolding_all rfl); (case t_k9 => kmk_pure); k_whole)); intro ls h9 F9 N9 l9; (try k_sweep))) | fail
  k_with "w:compareOp NotEq ref ref" => first | ((k_here; (with_reducible show wpAny _ _ (compareOp _ (Value.ref lc) (Value.ref ls)) _ _ _); ((first | with_reducible refine' dat_ne (S' := (ls, PySem.W.listOf (tvs.take es'.length).toArray 0) :: sq led2) ?N_k9 (DatIn.list mC aC) ?sa_k9 (DatIn.list List.mem_cons_self (aT''.mono (Sub.skip Sub.refl))) ?sb_k9 ?dx_k9 ?ex_k9 ?hu_k9 ?_ | k_dflt (refine' dat_ne (S' := (ls, PySem.W.listOf (tvs.take es'.length).toArray 0) :: sq led2) ?N_k9 (DatIn.list mC aC) ?sa_k9 (DatIn.list List.mem_cons_self (aT''.mono (Sub.skip Sub.refl))) ?sb_k9 ?dx_k9 ?ex_k9 ?hu_k9 ?_)); k_dflt ((case N_k9 => k_asm); (case sa_k9 => k_extra "mine:subs"); (case sb_k9 => k_extra "mine:subs"); (case dx_k9 => exact kqd_le (kqd_lst fun d hd => Nd.ok_dk1 (hoke' d hd) 0) (by decide)); (case ex_k9 => exact kqd_le (kqd_lst fun d hd => Nd.ok_dk1 (hoke' d hd) 0) (by decide)); (case hu_k9 => k_extra "mine:units"); k_whole)); (try simp only [decide_true, Bool.not_true]))) | fail
  k_with "w:compareOp Eq ref ref" => first | ((k_here; (with_reducible show wpAny _ _ (compareOp _ (Value.ref lc) (Value.ref ls)) _ _ _); ((first | with_reducible refine' dat_eq (S' := (ls, PySem.W.listOf (tvs.take es9.length).toArray 0) :: sq led2) ?N_k9 (DatIn.list mC aC) ?sa_k9 (DatIn.list List.mem_cons_self (aT9.mono (Sub.skip Sub.refl))) ?sb_k9 ?dx_k9 ?ex_k9 ?hu_k9 ?_ | k_dflt (refine' dat_eq (S' := (ls, PySem.W.listOf (tvs.take es9.length).toArray 0) :: sq led2) ?N_k9 (DatIn.list mC aC) ?sa_k9 (DatIn.list List.mem_cons_self (aT9.mono (Sub.skip Sub.refl))) ?sb_k9 ?dx_k9 ?ex_k9 ?hu_k9 ?_)); k_dflt ((case N_k9 => k_asm); (case sa_k9 => k_extra "mine:subs"); (case sb_k9 => k_extra "mine:subs"); (case dx_k9 => exact kqd_le (kqd_lst fun d hd => Nd.ok_dk1 (hoke9 d hd) 0) (by decide)); (case ex_k9 => exact kqd_le (kqd_lst fun d hd => Nd.ok_dk1 (hoke9 d hd) 0) (by decide)); (case hu_k9 => k_extra "mine:units"); k_whole)); (try simp only [decide_true, Bool.not_true]))) | fail
  k_with "w:call ref" => first | ((k_here; (with_reducible show wpAny _ _ (call (Value.ref 592) [Value.ref D1] _) _ _ _); ((first | with_reducible refine' Kt.use (last_box_no_k (led := (D1, PySem.W.listOf us9.toArray n1) :: (S1 ++ sq led2)) List.mem_cons_self (by omega) (hnb9.mono (Sub.skip Sub.left))) ?hh_k9 ?hf_k9 ?B_k9 ?F_k9 ?X_k9 ?N_k9 ?T_k9 ?hk_k9 ?hd_k9 ?hu_k9 ?_ | k_dflt (refine' Kt.use (last_box_no_k (led := (D1, PySem.W.listOf us9.toArray n1) :: (S1 ++ sq led2)) List.mem_cons_self (by omega) (hnb9.mono (Sub.skip Sub.left))) ?hh_k9 ?hf_k9 ?B_k9 ?F_k9 ?X_k9 ?N_k9 ?T_k9 ?hk_k9 ?hd_k9 ?hu_k9 ?_)); k_dflt ((case F_k9 => k_asm); (case B_k9 => k_asm); (case X_k9 => k_asm); (case N_k9 => k_asm); (case T_k9 => k_asm); (case hh_k9 => exact rfl); (case hf_k9 => exact rfl); (case hk_k9 => first | exact rfl | assumption); (case hd_k9 => k_extra "mine:dp"); (case hu_k9 => k_extra "mine:un"))); intro t2 D2 c2 f9b ne9 h9 tk9 F9 N9; (try k_sweep); (try dsimp only); (try k_fold))) | fail
  k_with "w:call builtin:list.append" => first | ((k_here; ((first | with_reducible refine' append_pick (rest := (D1, PySem.W.listOf us9.toArray n1) :: (S1 ++ sq led2)) (vs := us9) (n := c2) ?F_k9 (News.re ?N_k9 ?s_k9) .head f9b ?z_k9 ?_ | k_dflt (refine' append_pick (rest := (D1, PySem.W.listOf us9.toArray n1) :: (S1 ++ sq led2)) (vs := us9) (n := c2) ?F_k9 (News.re ?N_k9 ?s_k9) .head f9b ?z_k9 ?_)); k_dflt ((case F_k9 => k_asm); (case N_k9 => k_asm); (case s_k9 => k_extra "mine:subs"); (case z_k9 => omega); k_whole)); intro h' F' N'; (try k_sweep))) | fail
  trivial

theorem law_taken_ok_k {l : Addr} {n : Nat} {vs : List Value} {ds : List Nd} {S led : Led} (hI : Its w vs ds S) (hS : ∀ q ∈ S, q ∈ led) (hok : ∀ d ∈ ds, d.ok) (hlen : ds.length ≤ 80) (hl : (l, PySem.W.listOf vs.toArray n) ∈ led) :
  Kt w p loose mean mg mb 29 (.ref 740) [.ref l] [] led (fun K => K (.bool true) (([] : Led))) := by
  unfold Kt
  intro dpC unC gdC cnC csC L aC ccdC clC outer A₀ base h₀ mC hp sg sd tk₀ ox Q E B F X N T hk hd hu hret
  have hvl : vs.length ≤ 80 := by rw [hI.nodes.length]; exact hlen
  refine wpAny_call ?_
  k_dflt (refine' code_defL (binds := [(Str.ofString "items", .ref l)]) (rb := [(Str.ofString "items", .ref l)]) ?k1 ?k2 ?k3 ?k4 ?k5 ?kA ?kF ?kK ?k6 ?k7 ?k8 ?k9 ?kB rfl ?_ ?c2 ?c3 ?c4 ?c5; (case kA => exact rfl); (case kF => exact rfl); (case kK => first | exact hk | exact rfl); (case k1 => exact B); (case k3 => exact X); (case k5 => exact T); (case k6 => k_is); (case k7 => k_is); (case c5 => decide); (case kB => exact locs rfl); (case c2 => exact rfl); (case c3 => exact rfl); (case c4 => exact rfl); (case k2 => exact F); (case k4 => exact N); (case k8 => exact dp_ltz hd); (case k9 => exact BindsTo.of_eq rfl); k_whole; intro g' L' h' tk' FG' m9 F' N' B' X' T' A9 qk ek)
  k_steps
  all_goals (first | (refine' hret _ _ ?zF (News.re ?zN (List.forall_mem_nil _)); (case zF => assumption); (case zN => assumption)))


end
end
section
open PySem PySem.W PySem.Calls PySem.Spec PyProof.Rows
theorem rs_pos {e : Int} (h : 0 ≤ e) : Builtin.Range.rangeSize 0 e 1 = ((e.toNat : Nat) : Int) := by
  obtain ⟨n, rfl⟩ := Int.eq_ofNat_of_zero_le h
  rw [rs_nat]; omega
noncomputable def LItems (w : World) (H : Addr) (cst : Led) (b : Nat) (i : Nat) (ys : List Value) (nw : Led) : Prop :=
  ∃ o ds tl, nw = (H, o) :: (tl ++ cst) ∧ HO (b + 8 * i) o ∧ Its w ys ds tl ∧ (∀ d ∈ ds, d.ok) ∧ ds.length = i ∧ (∀ p ∈ tl ++ cst, p.1 ≠ H)
theorem lit_zero {w : World} {H : Addr} {o : Obj} {cst : Led} {b : Nat} (ho : HO b o) (off : ∀ p ∈ cst, p.1 ≠ H) : LItems w H cst b 0 [] ((H, o) :: cst) :=
  ⟨o, [], [], rfl, ho, .nil, (fun _ h => nomatch h), rfl, off⟩
theorem lit_off {I C D H : Addr} {oI oC oD o : Obj} {R : Led} (hof : ∀ p ∈ R, p.1 ≠ H) (off : LCg.Off3 I C D ((H, o) :: R)) : ∀ p ∈ ((I, oI) :: (C, oC) :: (D, oD) :: R : Led), p.1 ≠ H := fun p hp => by
  obtain ⟨h1, h2, h3⟩ := LCg.Off3.mem off (H, o) (.head _)
  rcases List.mem_cons.mp hp with rfl | hp
  · exact fun e => h1 e.symm
  · rcases List.mem_cons.mp hp with rfl | hp
    · exact fun e => h2 e.symm
    · rcases List.mem_cons.mp hp with rfl | hp
      · exact fun e => h3 e.symm
      · exact hof p hp
theorem lit_end {w : World} {h₀ h' : Heap} {L I C D H a : Addr} {m : Str → Option Value} {s₁ : Shared} {oI oC o o' : Obj} {tl9 tl8 cst : Led} {ys : List Value} {ds : List Nd} {nd : Nd} {b i tk : Nat}
    (F : Fr h₀ L h' m) (N : News h₀ L h' ((H, o') :: (tl9 ++ ((I, oI) :: (C, oC) :: (D, LCg.lst ys) :: (tl8 ++ cst))))) (off : LCg.Off3 I C D ((H, o) :: (tl8 ++ cst))) (f : Fresh tl9 ((H, o) :: ((I, oI) :: (C, oC) :: (D, LCg.lst ys) :: (tl8 ++ cst)))) (ho : HO (b + 8 * i + 8) o')
    (hit : Its w ys ds tl8) (hok : ∀ d ∈ ds, d.ok) (hln : ds.length = i) (hof : ∀ p ∈ tl8 ++ cst, p.1 ≠ H) (p : PartIn w tl9 (.ref a) nd) (ok : nd.ok) :
    LCg.CompEnd h₀ L m s₁ I oI C oC D (LCg.lst ys) (fun _ => True) (fun y nw' => LItems w H cst b (i + 1) (ys ++ [y]) nw') (.ref a) { s₁ with heap := h', toks := tk } := by
  have fne : ∀ {K : Addr} {oK : Obj}, (K, oK) ∈ ((H, o) :: ((I, oI) :: (C, oC) :: (D, LCg.lst ys) :: (tl8 ++ cst)) : Led) → ∀ q ∈ tl9, q.1 ≠ K := fun hm => f.ne hm
  have fI := fne (K := I) (oK := oI) (.tail _ (.head _))
  have fC := fne (K := C) (oK := oC) (.tail _ (.tail _ (.head _)))
  have fD := fne (K := D) (oK := LCg.lst ys) (.tail _ (.tail _ (.tail _ (.head _))))
  have fH := fne (K := H) (oK := o) (.head _)
  have ofs : ∀ q ∈ ((H, o') :: ((tl9 ++ tl8) ++ cst) : Led), q.1 ≠ I ∧ q.1 ≠ C ∧ q.1 ≠ D := fun q hq => by
    rcases List.mem_cons.mp hq with rfl | hq
    · exact LCg.Off3.mem off (H, o) (.head _)
    · rw [List.append_assoc] at hq
      rcases List.mem_append.mp hq with hq | hq
      · exact ⟨fI q hq, fC q hq, fD q hq⟩
      · exact LCg.Off3.mem off q (.tail _ hq)
  refine comp_end (all := (I, oI) :: (C, oC) :: (D, LCg.lst ys) :: (H, o') :: ((tl9 ++ tl8) ++ cst)) F (News.re N ?_) .head .head .head (fun q hq => (ofs q hq).1) (fun q hq => (ofs q hq).2.1) (fun q hq => (ofs q hq).2.2) trivial
    ⟨o', ds ++ [nd], tl9 ++ tl8, rfl, ?_, hit.snoc p ?_, ?_, ?_, ?_⟩
  · intro q hq
    rcases List.mem_cons.mp hq with rfl | hq
    · exact .tail _ (List.mem_append_right _ (.head _))
    · rcases List.mem_cons.mp hq with rfl | hq
      · exact .tail _ (List.mem_append_right _ (.tail _ (.head _)))
      · rcases List.mem_cons.mp hq with rfl | hq
        · exact .tail _ (List.mem_append_right _ (.tail _ (.tail _ (.head _))))
        · rcases List.mem_cons.mp hq with rfl | hq
          · exact .head _
          · rw [List.append_assoc] at hq
            rcases List.mem_append.mp hq with hq | hq
            · exact .tail _ (List.mem_append_left _ hq)
            · exact .tail _ (List.mem_append_right _ (.tail _ (.tail _ (.tail _ hq))))
  · exact ho.up (by omega)
  · exact fun q hq x hx => Nat.ne_of_lt (f q hq x (.tail _ (.tail _ (.tail _ (.tail _ (List.mem_append_left _ hx))))))
  · intro d hd
    rcases List.mem_append.mp hd with hd | hd
    · exact hok d hd
    · rw [List.mem_singleton.mp hd]; exact ok
  · rw [List.length_append, List.length_singleton, hln]
  · intro q hq
    rw [List.append_assoc] at hq
    rcases List.mem_append.mp hq with hq | hq
    · exact fH q hq
    · exact hof q hq
theorem lit_name {P : Prop} {h₀ h : Heap} {L li H : Addr} {o : Obj} {ys : List Value} {tl cst : Led} (N : News h₀ L h ((li, LCg.lst ys) :: (H, o) :: (tl ++ cst))) (of9 : LCg.Off1 li ((H, o) :: (tl ++ cst))) (hof : ∀ p ∈ tl ++ cst, p.1 ≠ H)
    (k : ∀ rest, News h₀ L h ((H, o) :: rest) → (∀ p ∈ rest, p.1 ≠ H) → (li, LCg.lst ys) ∈ rest → (∀ q ∈ tl, q ∈ rest) → (∀ q ∈ cst, q ∈ rest) → P) : P :=
  k ((li, LCg.lst ys) :: (tl ++ cst)) (News.re N (Sub.cons (.tail _ (.head _)) (Sub.cons (.head _) (Sub.skip (Sub.skip Sub.refl)))))
    (fun q hq => by
      rcases List.mem_cons.mp hq with rfl | hq
      · exact fun e => of9.1 e.symm
      · exact hof q hq) (.head _) (fun q hq => .tail _ (List.mem_append_left _ hq)) (fun q hq => .tail _ (List.mem_append_right _ hq))
theorem name_cst {P : Prop} {h₀ h : Heap} {L H c : Addr} {o oc : Obj} {cst0 : Led} {v : Value} (N : News h₀ L h ((H, o) :: cst0)) (hd : oc.data = .cell (some v)) (mc : (c, oc) ∈ cst0) (off : ∀ p ∈ cst0, p.1 ≠ H)
    (k : ∀ cst, News h₀ L h ((H, o) :: cst) → (∀ p ∈ cst, p.1 ≠ H) → (c, oc) ∈ cst → P) : P := k cst0 N off mc
theorem law_opened_b {w : World} {p : Program} {loose : List Str} {mean : ExcName → Option Value} {mg mb : Str → Option Value} {l : Addr} {n : Nat} {vs : List Value} {ds : List Nd} {led : Led} {mode amount : Int} {t1 t2 : Tok} (b : Bool) (hl : (l, PySem.W.listOf vs.toArray n) ∈ led) (hn : NodesIn w led vs ds) (hok : ∀ d ∈ ds, d.ok) (hlen : ds.length ≤ 100) (hv : vs ≠ []) (hm : mode = 0 ∨ mode = 1) (ha1 : -1000 ≤ amount) (ha2 : amount ≤ 1000) :
  CtT w p loose mean mg mb 28 (.ref 735) [.ref l, .bool b, .int mode t1, .int amount t2] led (fun r led' => r = .bool true ∧ led' = led) := by
  cases b
  · exact law_opened_f hl hn hok hlen hv hm ha1 ha2
  · exact law_opened_t hl hn hok hlen hv hm ha1 ha2
theorem gone_ok {g : Gl} (n : Nat) : (∀ d ∈ ([.skip g 0, .kern 3, .pen (-50)] : List Nd).take n, PQ d) ∧ (∀ d ∈ ([.skip g 0, .kern 3, .pen (-50)] : List Nd).take n, ¬ d.std ∧ ¬ d.kps) ∧ (([.skip g 0, .kern 3, .pen (-50)] : List Nd).take n).length ≤ 3 := by
  have h : ∀ d ∈ ([.skip g 0, .kern 3, .pen (-50)] : List Nd).take n, d = .skip g 0 ∨ d = .kern 3 ∨ d = .pen (-50) := fun d hd => by
    have := List.mem_of_mem_take hd
    simpa using this
  refine ⟨fun d hd => ?_, fun d hd => ?_, List.length_take_le' ..⟩
  · rcases h d hd with rfl | rfl | rfl <;> exact ⟨trivial, by show (-1000 : Int) ≤ 0; decide, by show (0 : Int) ≤ 1000; decide⟩
  · rcases h d hd with rfl | rfl | rfl
    · exact ⟨by show ¬ ((6 : Int) = 2 ∨ (6 : Int) = 3 ∨ (6 : Int) = 4); decide, by show ¬ ((6 : Int) = 9 ∨ (6 : Int) = 10 ∨ (6 : Int) = 13); decide⟩
    · exact ⟨by show ¬ ((5 : Int) = 2 ∨ (5 : Int) = 3 ∨ (5 : Int) = 4); decide, by show ¬ ((5 : Int) = 9 ∨ (5 : Int) = 10 ∨ (5 : Int) = 13); decide⟩
    · exact ⟨by show ¬ ((7 : Int) = 2 ∨ (7 : Int) = 3 ∨ (7 : Int) = 4); decide, by show ¬ ((7 : Int) = 9 ∨ (7 : Int) = 10 ∨ (7 : Int) = 13); decide⟩
theorem its_ne {w : World} {vs : List Value} {ds : List Nd} {S : Led} (h : Its w vs ds S) {n : Nat} (hl : ds.length = n) (hn : 0 < n) : vs ≠ [] := fun e => by
  have := h.nodes.length
  rw [e, hl] at this
  simp at this; omega
theorem pick_uptoZ {i : Int} (h : 0 ≤ i) (vs : List Value) : kms_pick vs none (some i) = vs.take i.toNat := by
  obtain ⟨n, rfl⟩ := Int.eq_ofNat_of_zero_le h
  exact pick_upto n vs
theorem gone_nodes {w : World} {S1 S2 S3 led : Led} {v1 v2 v3 : Value} {d1 d2 d3 : Nd} (n1 : NodeIn w S1 v1 d1) (n2 : NodeIn w S2 v2 d2) (n3 : NodeIn w S3 v3 d3) (h1 : ∀ q ∈ S1, q ∈ led) (h2 : ∀ q ∈ S2, q ∈ led) (h3 : ∀ q ∈ S3, q ∈ led) (k : Nat) :
    NodesIn w led (([v1, v2, v3] : List Value).take k) (([d1, d2, d3] : List Nd).take k) := NodesIn.take k (.cons (n1.mono h1) (.cons (n2.mono h2) (.cons (n3.mono h3) .nil)))
theorem name_law {P : Prop} {h₀ h : Heap} {L ga gb : Addr} {led led1 t1 t2 : Led} {w : World} {g1 g2 : Gl} {gs : List Value} {gn : List Nd} {x : Addr × Obj} (N : News h₀ L h led) (s0 : ∀ q ∈ led1, q ∈ led) (gl1 : GlueIn w t1 ga g1) (s1 : ∀ q ∈ t1, q ∈ led) (gl2 : GlueIn w t2 gb g2) (s2 : ∀ q ∈ t2, q ∈ led) (n : NodesIn w led gs gn) (hx : x ∈ led)
    (k : ∀ led2, News h₀ L h led2 → (∀ q ∈ led1, q ∈ led2) → GlueIn w led2 ga g1 → GlueIn w led2 gb g2 → NodesIn w led2 gs gn → x ∈ led2 → P) : P := k led N s0 (gl1.mono s1) (gl2.mono s2) n hx
end
local macro_rules | `(tactic| k_qdec) => `(tactic| decide +kernel)
section
section
variable {w : World} {p : Program} {loose : List Str} {mean : ExcName → Option Value} {mg mb : Str → Option Value}
theorem callerA_hd : callerA.depth + 40 < recursionLimit := by decide
theorem callerA_hu : callerA.units + 8 * 40 + 100 < cLine := by decide
theorem ints_len {vs : List Value} {ns : List Int} (h : IntsAre vs ns) : vs.length = ns.length := by
  induction h with
  | nil => rfl
  | cons _ _ _ ih => rw [List.length_cons, List.length_cons, ih]

theorem reg_AWb_aw : True := by
  k_with "w:call ref" => first | ((k_here; (with_reducible show wpAny _ _ (call (Value.ref 686) [Value.ref _] _) _ _ _); ((first | with_reducible refine' law_heap_k (p := q0) ?hI_k9 ?hz_k9 ?hl_k9 ?hh_k9 ?hf_k9 ?B_k9 ?F_k9 ?X_k9 ?N_k9 ?T_k9 ?hk_k9 ?hd_k9 ?hu_k9 ?_ | k_dflt (refine' law_heap_k (p := q0) ?hI_k9 ?hz_k9 ?hl_k9 ?hh_k9 ?hf_k9 ?B_k9 ?F_k9 ?X_k9 ?N_k9 ?T_k9 ?hk_k9 ?hd_k9 ?hu_k9 ?_)); k_dflt ((case hI_k9 => assumption); (case hz_k9 => (rw [ints_len (by assumption)]; omega)); (case hl_k9 => assumption); (case hh_k9 => exact rfl); (case hf_k9 => exact rfl); (case B_k9 => k_asm); (case F_k9 => k_asm); (case X_k9 => k_asm); (case N_k9 => k_asm); (case T_k9 => k_asm); (case hk_k9 => exact rfl); (case hd_k9 => k_extra "mine:dp"); (case hu_k9 => k_extra "mine:un"))); intro H9 o9 h9 tk9 ho9 l9 F9 N9; (try k_lt l9); (try k_sweep); (try dsimp only); (try k_fold))) | fail
  k_with "w:exec Assign cons ListComp" => first | ((k_here; ((first | with_reducible refine LCg.Assign_ListComp_U (F₀ := by k_asm) (by rfl) (by with_unfolding_all rfl) (by with_unfolding_all rfl) (by decide) (by rfl) (by decide) (by rfl) (by rfl) (by rfl) ?_ | k_dflt (refine LCg.Assign_ListComp_U (F₀ := by k_asm) (by rfl) (by with_unfolding_all rfl) (by with_unfolding_all rfl) (by decide) (by rfl) (by decide) (by rfl) (by rfl) (by rfl) ?_))))) | fail
  k_with "w:CompSrc" => first | (((rename IsRange _ _ _ _ _ _ _ _ => rgX); (rename Fr _ _ _ _ => F8); (rename News _ _ _ _ => N8); refine' name_cst (o := o9) N8 ?zd_k9 ?zm_k9 ?zz_k9 ?_; (case zd_k9 => assumption); (case zm_k9 => k_mem); (case zz_k9 => k_all); intro cst9 N8 hcst mC9; ((first | with_reducible refine' LCg.CompSrc.range (n := (2 + d9).toNat) (news := (H9, o9) :: cst9) ?hh_k9 ?F_k9 ?N_k9 ?hr_k9 ?hsm_k9 ?hn_k9 ?hz_k9 ?_ | k_dflt (refine' LCg.CompSrc.range (n := (2 + d9).toNat) (news := (H9, o9) :: cst9) ?hh_k9 ?F_k9 ?N_k9 ?hr_k9 ?hsm_k9 ?hn_k9 ?hz_k9 ?_)); k_dflt ((case hh_k9 => exact rfl); (case F_k9 => exact F8); (case N_k9 => exact N8); (case hr_k9 => exact rgX); (case hsm_k9 => exact small_one (by omega) (by omega) (by omega) (by omega)); (case hn_k9 => exact rs_pos (by omega)); (case hz_k9 => (rw [sizeLine_eq]; omega)))); intro g9; refine comp_inv (news := (H9, o9) :: cst9) _ (fun i ys nw => LItems w H9 cst9 4 i ys nw) (lit_zero ho9 ?zo_k9) ?zf_k9 ?zs_k9; (case zo_k9 => exact hcst); (case zs_k9 => (k_dflt (intro i9 ys9 nw9 v9 I oI C oC D9 m₂ h9 tk9 E9 hi9 hInv9 hv9 hC hx F9 N9 off9 ne9; obtain ⟨o8, ds8, tl8, e8, ho8, hIt8, hok8, hln8, hof8⟩ := hInv9; subst e8; have mC8 := List.mem_append_right tl8 mC9; have hr8 := lit_off (oI := oI) (oC := oC) (oD := LCg.lst ys9) hof8 off9; have hb8 : 4 + 8 * i9 ≤ 9600 := (by omega); k_steps; all_goals (first | exact lit_end (by assumption) (by assumption) off9 f9 ho9 hIt8 hok8 hln8 hof8 p9 ok9)))); intro ys9 nw9 hInv9; k_dflt (obtain ⟨o9, ds9, S9, e9, ho9, hIt, hok, hln, hof⟩ := hInv9; subst e9); k_dflt (intro li h9 tk9 F9 N9 of9); refine lit_name N9 of9 hof fun led1 N9 hr1 ml1 sS1 sC1 => ?_; have mC1 := sC1 _ mC9;  have hlen : ds9.length ≤ 80 := (by omega); have hne := its_ne hIt hln (by omega); (try k_sweep); (try dsimp only); (try k_fold))) | fail
  k_with "w:eval Name" => first | ((k_here; k_dflt (first | (refine' nameX_C ?N_k9 ?c_k9 ?m_k9 ?d_k9 ?_ ?a_k9 ?b_k9; (case a_k9 => rfl); (case b_k9 => rfl); (case N_k9 => k_asm); (case c_k9 => rfl); (case m_k9 => k_extra "mine:in"); (case d_k9 => k_asm); k_whole) | (refine' nameX_F ?N_k9 ?c_k9 ?m_k9 ?d_k9 ?_ ?a_k9 ?b_k9; (case a_k9 => rfl); (case b_k9 => rfl); (case N_k9 => k_asm); (case c_k9 => rfl); (case m_k9 => k_extra "mine:in"); (case d_k9 => k_asm); k_whole)))) | fail
  k_with "w:call ref" => first | ((k_here; (with_reducible show wpAny _ _ (call (Value.ref 721) _ _) _ _ _); ((first | with_reducible refine' Kt.use (Kt.pick ?zpk_k9 (law_part_k (rest := (I, oI) :: (C, oC) :: (D9, LCg.lst ys9) :: (tl8 ++ cst9)) hr8 ho8 hb8)) ?hh_k9 ?hf_k9 ?B_k9 ?F_k9 ?X_k9 ?N_k9 ?T_k9 ?hk_k9 ?hd_k9 ?hu_k9 ?_ | k_dflt (refine' Kt.use (Kt.pick ?zpk_k9 (law_part_k (rest := (I, oI) :: (C, oC) :: (D9, LCg.lst ys9) :: (tl8 ++ cst9)) hr8 ho8 hb8)) ?hh_k9 ?hf_k9 ?B_k9 ?F_k9 ?X_k9 ?N_k9 ?T_k9 ?hk_k9 ?hd_k9 ?hu_k9 ?_)); k_dflt ((case F_k9 => k_asm); (case B_k9 => k_asm); (case X_k9 => k_asm); (case N_k9 => k_asm); (case T_k9 => k_asm); (case zpk_k9 => k_extra "mine:pick"); (case hh_k9 => exact rfl); (case hf_k9 => exact rfl); (case hk_k9 => first | exact rfl | assumption); (case hd_k9 => k_extra "mine:dp"); (case hu_k9 => k_extra "mine:un"))); intro a9 nd9 tl9 o9 f9 ho9 p9 ok9 h9 tk9 F9 N9; (try k_sweep); (try dsimp only); (try k_fold))) | fail
  k_with "w:call ref" => first | ((k_here; (fail_if_success (have zg := gl1)); (with_reducible show wpAny _ _ (call (Value.ref 707) _ _) _ _ _); ((first | with_reducible refine' Kt.use (Kt.pick ?zpk_k9 (flow_k ?zc1_k9 ?zc2_k9 ?zc3_k9)) ?hh_k9 ?hf_k9 ?B_k9 ?F_k9 ?X_k9 ?N_k9 ?T_k9 ?hk_k9 ?hd_k9 ?hu_k9 ?_ | k_dflt (refine' Kt.use (Kt.pick ?zpk_k9 (flow_k ?zc1_k9 ?zc2_k9 ?zc3_k9)) ?hh_k9 ?hf_k9 ?B_k9 ?F_k9 ?X_k9 ?N_k9 ?T_k9 ?hk_k9 ?hd_k9 ?hu_k9 ?_)); k_dflt ((case F_k9 => k_asm); (case B_k9 => k_asm); (case X_k9 => k_asm); (case N_k9 => k_asm); (case T_k9 => k_asm); (case zpk_k9 => k_extra "mine:pick"); (case hh_k9 => exact rfl); (case hf_k9 => exact rfl); (case hk_k9 => first | exact rfl | assumption); (case hd_k9 => k_extra "mine:dp"); (case hu_k9 => k_extra "mine:un"); (case zc1_k9 => first | assumption | k_all); (case zc2_k9 => assumption); (case zc3_k9 => k_extra "mine:bnd"))); intro ga1 g1 tlg1 o9 fg1 ho9 gl1 go1 h9 tk9 F9 N9; have fo1 := Fresh.offH fg1; (try k_sweep); (try dsimp only); (try k_fold))) | fail
  k_with "w:call ref" => first | ((k_here; (have zg := gl1); (fail_if_success (have zg := gl2)); (with_reducible show wpAny _ _ (call (Value.ref 707) _ _) _ _ _); ((first | with_reducible refine' Kt.use (Kt.pick ?zpk_k9 (flow_k ?zc1_k9 ?zc2_k9 ?zc3_k9)) ?hh_k9 ?hf_k9 ?B_k9 ?F_k9 ?X_k9 ?N_k9 ?T_k9 ?hk_k9 ?hd_k9 ?hu_k9 ?_ | k_dflt (refine' Kt.use (Kt.pick ?zpk_k9 (flow_k ?zc1_k9 ?zc2_k9 ?zc3_k9)) ?hh_k9 ?hf_k9 ?B_k9 ?F_k9 ?X_k9 ?N_k9 ?T_k9 ?hk_k9 ?hd_k9 ?hu_k9 ?_)); k_dflt ((case F_k9 => k_asm); (case B_k9 => k_asm); (case X_k9 => k_asm); (case N_k9 => k_asm); (case T_k9 => k_asm); (case zpk_k9 => k_extra "mine:pick"); (case hh_k9 => exact rfl); (case hf_k9 => exact rfl); (case hk_k9 => first | exact rfl | assumption); (case hd_k9 => k_extra "mine:dp"); (case hu_k9 => k_extra "mine:un"); (case zc1_k9 => first | assumption | k_all); (case zc2_k9 => assumption); (case zc3_k9 => k_extra "mine:bnd"))); intro ga2 g2 tlg2 o9 fg2 ho9 gl2 go2 h9 tk9 F9 N9; have fo2 := Fresh.offH fg2; (try k_sweep); (try dsimp only); (try k_fold))) | fail
  k_with "w:call ref" => first | ((k_here; (have zg := gl2); (fail_if_success (have zg := gl3)); (with_reducible show wpAny _ _ (call (Value.ref 707) _ _) _ _ _); ((first | with_reducible refine' Kt.use (Kt.pick ?zpk_k9 (flow_k ?zc1_k9 ?zc2_k9 ?zc3_k9)) ?hh_k9 ?hf_k9 ?B_k9 ?F_k9 ?X_k9 ?N_k9 ?T_k9 ?hk_k9 ?hd_k9 ?hu_k9 ?_ | k_dflt (refine' Kt.use (Kt.pick ?zpk_k9 (flow_k ?zc1_k9 ?zc2_k9 ?zc3_k9)) ?hh_k9 ?hf_k9 ?B_k9 ?F_k9 ?X_k9 ?N_k9 ?T_k9 ?hk_k9 ?hd_k9 ?hu_k9 ?_)); k_dflt ((case F_k9 => k_asm); (case B_k9 => k_asm); (case X_k9 => k_asm); (case N_k9 => k_asm); (case T_k9 => k_asm); (case zpk_k9 => k_extra "mine:pick"); (case hh_k9 => exact rfl); (case hf_k9 => exact rfl); (case hk_k9 => first | exact rfl | assumption); (case hd_k9 => k_extra "mine:dp"); (case hu_k9 => k_extra "mine:un"); (case zc1_k9 => first | assumption | k_all); (case zc2_k9 => assumption); (case zc3_k9 => k_extra "mine:bnd"))); intro ga3 g3 tlg3 o9 fg3 ho9 gl3 go3 h9 tk9 F9 N9; have fo3 := Fresh.offH fg3; (try k_sweep); (try dsimp only); (try k_fold))) | fail
  k_with "w:call ref" => first | ((k_here; (with_reducible show wpAny _ _ (call (Value.ref 422) _ _) _ _ _); ((first | with_reducible refine' Kt.use skip_k0 ?hh_k9 ?hf_k9 ?B_k9 ?F_k9 ?X_k9 ?N_k9 ?T_k9 ?hk_k9 ?hd_k9 ?hu_k9 ?_ | k_dflt (refine' Kt.use skip_k0 ?hh_k9 ?hf_k9 ?B_k9 ?F_k9 ?X_k9 ?N_k9 ?T_k9 ?hk_k9 ?hd_k9 ?hu_k9 ?_)); k_dflt ((case F_k9 => k_asm); (case B_k9 => k_asm); (case X_k9 => k_asm); (case N_k9 => k_asm); (case T_k9 => k_asm); (case hh_k9 => exact rfl); (case hf_k9 => exact rfl); (case hk_k9 => first | exact rfl | assumption); (case hd_k9 => k_extra "mine:dp"); (case hu_k9 => k_extra "mine:un"))); intro as9 tls9 fs9 ns9 h9 tk9 F9 N9; (try k_sweep); (try dsimp only); (try k_fold))) | fail
  k_with "w:call ref" => first | ((k_here; (with_reducible show wpAny _ _ (call (Value.ref 400) _ _) _ _ _); ((first | with_reducible refine' Kt.use (kern_k ?zc1_k9 ?zc2_k9) ?hh_k9 ?hf_k9 ?B_k9 ?F_k9 ?X_k9 ?N_k9 ?T_k9 ?hk_k9 ?hd_k9 ?hu_k9 ?_ | k_dflt (refine' Kt.use (kern_k ?zc1_k9 ?zc2_k9) ?hh_k9 ?hf_k9 ?B_k9 ?F_k9 ?X_k9 ?N_k9 ?T_k9 ?hk_k9 ?hd_k9 ?hu_k9 ?_)); k_dflt ((case F_k9 => k_asm); (case B_k9 => k_asm); (case X_k9 => k_asm); (case N_k9 => k_asm); (case T_k9 => k_asm); (case hh_k9 => exact rfl); (case hf_k9 => exact rfl); (case hk_k9 => first | exact rfl | assumption); (case hd_k9 => k_extra "mine:dp"); (case hu_k9 => k_extra "mine:un"); (case zc1_k9 => omega); (case zc2_k9 => omega))); intro ak9 tlk9 fk9 nk9 h9 tk9 F9 N9; (try k_sweep); (try dsimp only); (try k_fold))) | fail
  k_with "w:call ref" => first | ((k_here; (with_reducible show wpAny _ _ (call (Value.ref 443) _ _) _ _ _); ((first | with_reducible refine' Kt.use (pen_k ?zc1_k9 ?zc2_k9) ?hh_k9 ?hf_k9 ?B_k9 ?F_k9 ?X_k9 ?N_k9 ?T_k9 ?hk_k9 ?hd_k9 ?hu_k9 ?_ | k_dflt (refine' Kt.use (pen_k ?zc1_k9 ?zc2_k9) ?hh_k9 ?hf_k9 ?B_k9 ?F_k9 ?X_k9 ?N_k9 ?T_k9 ?hk_k9 ?hd_k9 ?hu_k9 ?_)); k_dflt ((case F_k9 => k_asm); (case B_k9 => k_asm); (case X_k9 => k_asm); (case N_k9 => k_asm); (case T_k9 => k_asm); (case hh_k9 => exact rfl); (case hf_k9 => exact rfl); (case hk_k9 => first | exact rfl | assumption); (case hd_k9 => k_extra "mine:dp"); (case hu_k9 => k_extra "mine:un"); (case zc1_k9 => omega); (case zc2_k9 => omega))); intro ap9 tlp9 fp9 np9 h9 tk9 F9 N9; (try k_sweep); (try dsimp only); (try k_fold))) | fail
  k_with "w:subscriptTail" => first | ((k_here; (with_reducible show wpAny _ _ (subscriptTail _ (PySem.Expr.Slice _ _ none _) (Value.ref _) (Value.ref _)) _ _ _); ((first | with_reducible refine kba_turn (value' := PySem.Expr.Name (PySem.Str.ofString "_") ⟨0, 0, 0, 0⟩) (fun _ => rfl) ?_ | k_dflt (refine kba_turn (value' := PySem.Expr.Name (PySem.Str.ofString "_") ⟨0, 0, 0, 0⟩) (fun _ => rfl) ?_)); k_dflt (refine' slice_led (s := ⟨h9, _, _, _, _⟩) (vs := [Value.ref as9, Value.ref ak9, Value.ref ap9]) (ws := ([Value.ref as9, Value.ref ak9, Value.ref ap9] : List Value).take d9.toNat) ?F_k9 ?N_k9 ?l_k9 ?p_k9 ?q_k9 ?e_k9 ?z_k9 ?_ ?s_k9 ?t_k9; (case F_k9 => k_asm); (case N_k9 => k_asm); (case l_k9 => first | k_mem | k_extra "mine:in"); (case p_k9 => kmk_part); (case q_k9 => kmk_part); (case e_k9 => exact pick_uptoZ (by assumption) _); (case z_k9 => exact Nat.le_of_ble_eq_true rfl); (case s_k9 => with_unfolding_all rfl); (case t_k9 => kmk_pure); k_whole)); intro lg h9 F9 N9 l9; (try k_lt l9); (try k_sweep))) | fail
  k_with "w:call ref" => first | ((k_here; (with_reducible show wpAny _ _ (call (Value.ref 541) [Value.ref li] _) _ _ _); (fail_if_success (have zg := sL2)); (rename News _ _ _ _ => N8); ((first | with_reducible refine' name_law (led1 := led1) (x := (lg, PySem.W.listOf (([Value.ref as9, Value.ref ak9, Value.ref ap9] : List Value).take d9.toNat).toArray 0)) N8 ?s0_k9 gl1 ?s1_k9 gl2 ?s2_k9 (gone_nodes (ns9 _ _ gl3) nk9 np9 ?s3_k9 ?s4_k9 ?s5_k9 d9.toNat) ?s6_k9 ?_ | k_dflt (refine' name_law (led1 := led1) (x := (lg, PySem.W.listOf (([Value.ref as9, Value.ref ak9, Value.ref ap9] : List Value).take d9.toNat).toArray 0)) N8 ?s0_k9 gl1 ?s1_k9 gl2 ?s2_k9 (gone_nodes (ns9 _ _ gl3) nk9 np9 ?s3_k9 ?s4_k9 ?s5_k9 d9.toNat) ?s6_k9 ?_)); k_dflt ((case s0_k9 => k_extra "mine:subs"); (case s1_k9 => k_extra "mine:subs"); (case s2_k9 => k_extra "mine:subs"); (case s3_k9 => k_extra "mine:subs"); (case s4_k9 => k_extra "mine:subs"); (case s5_k9 => k_extra "mine:subs"); (case s6_k9 => k_mem))); intro led2 N9 sL2 gA gB gN mG; have hgo := gone_ok (g := g3) d9.toNat; (try k_sweep))) | fail
  k_with "w:call ref" => first | ((k_here; (have zg := sL2); (fail_if_success (have zg := s23)); (with_reducible show wpAny _ _ (call (Value.ref 541) [Value.ref li] _) _ _ _); ((first | with_reducible refine' Kt.use (dlist1_k (S := led2) ?cs_k9 (sL2 _ ml1) (hIt.nodes.mono (Sub.trans sS1 sL2)) (fun d hd => Nd.ok_dk1 (hok d hd) 1) (by rw [hIt.nodes.length]; omega)) ?hh_k9 ?hf_k9 ?B_k9 ?F_k9 ?X_k9 ?N_k9 ?T_k9 ?hk_k9 ?hd_k9 ?hu_k9 ?_ | k_dflt (refine' Kt.use (dlist1_k (S := led2) ?cs_k9 (sL2 _ ml1) (hIt.nodes.mono (Sub.trans sS1 sL2)) (fun d hd => Nd.ok_dk1 (hok d hd) 1) (by rw [hIt.nodes.length]; omega)) ?hh_k9 ?hf_k9 ?B_k9 ?F_k9 ?X_k9 ?N_k9 ?T_k9 ?hk_k9 ?hd_k9 ?hu_k9 ?_)); k_dflt ((case F_k9 => k_asm); (case B_k9 => k_asm); (case X_k9 => k_asm); (case N_k9 => k_asm); (case T_k9 => k_asm); (case hh_k9 => exact rfl); (case hf_k9 => exact rfl); (case hk_k9 => first | exact rfl | assumption); (case hd_k9 => k_extra "mine:dp"); (case hu_k9 => k_extra "mine:un"); (case cs_k9 => k_extra "mine:subs"))); intro tl9 r9 f9 d9 h9 tk9 F9 N9; refine nameD3 N9 d9 fun led3 N9 dW s23 => ?_; (try k_sweep); (try dsimp only); (try k_fold))) | fail
  k_with "w:call ref" => first | ((k_here; (have zg := s23); (fail_if_success (have zg := s34)); (with_reducible show wpAny _ _ (call (Value.ref 541) [Value.ref li] _) _ _ _); ((first | with_reducible refine' Kt.use (dlist1_k (S := led3) ?cs_k9 ((Sub.trans sL2 s23) _ ml1) (hIt.nodes.mono (Sub.trans sS1 (Sub.trans sL2 s23))) (fun d hd => Nd.ok_dk1 (hok d hd) 1) (by rw [hIt.nodes.length]; omega)) ?hh_k9 ?hf_k9 ?B_k9 ?F_k9 ?X_k9 ?N_k9 ?T_k9 ?hk_k9 ?hd_k9 ?hu_k9 ?_ | k_dflt (refine' Kt.use (dlist1_k (S := led3) ?cs_k9 ((Sub.trans sL2 s23) _ ml1) (hIt.nodes.mono (Sub.trans sS1 (Sub.trans sL2 s23))) (fun d hd => Nd.ok_dk1 (hok d hd) 1) (by rw [hIt.nodes.length]; omega)) ?hh_k9 ?hf_k9 ?B_k9 ?F_k9 ?X_k9 ?N_k9 ?T_k9 ?hk_k9 ?hd_k9 ?hu_k9 ?_)); k_dflt ((case F_k9 => k_asm); (case B_k9 => k_asm); (case X_k9 => k_asm); (case N_k9 => k_asm); (case T_k9 => k_asm); (case hh_k9 => exact rfl); (case hf_k9 => exact rfl); (case hk_k9 => first | exact rfl | assumption); (case hd_k9 => k_extra "mine:dp"); (case hu_k9 => k_extra "mine:un"); (case cs_k9 => k_extra "mine:subs"))); intro tl9 r9 f9 d9 h9 tk9 F9 N9; refine nameD3 N9 d9 fun led4 N9 dX s34 => ?_; (try k_sweep); (try dsimp only); (try k_fold))) | fail
  k_with "w:call ref" => first | ((k_here; (have zg := s34); (fail_if_success (have zg := s45)); (with_reducible show wpAny _ _ (call (Value.ref 541) [Value.ref li] _) _ _ _); ((first | with_reducible refine' Kt.use (dlist1_k (S := led4) ?cs_k9 ((Sub.trans (Sub.trans sL2 s23) s34) _ ml1) (hIt.nodes.mono (Sub.trans sS1 (Sub.trans (Sub.trans sL2 s23) s34))) (fun d hd => Nd.ok_dk1 (hok d hd) 1) (by rw [hIt.nodes.length]; omega)) ?hh_k9 ?hf_k9 ?B_k9 ?F_k9 ?X_k9 ?N_k9 ?T_k9 ?hk_k9 ?hd_k9 ?hu_k9 ?_ | k_dflt (refine' Kt.use (dlist1_k (S := led4) ?cs_k9 ((Sub.trans (Sub.trans sL2 s23) s34) _ ml1) (hIt.nodes.mono (Sub.trans sS1 (Sub.trans (Sub.trans sL2 s23) s34))) (fun d hd => Nd.ok_dk1 (hok d hd) 1) (by rw [hIt.nodes.length]; omega)) ?hh_k9 ?hf_k9 ?B_k9 ?F_k9 ?X_k9 ?N_k9 ?T_k9 ?hk_k9 ?hd_k9 ?hu_k9 ?_)); k_dflt ((case F_k9 => k_asm); (case B_k9 => k_asm); (case X_k9 => k_asm); (case N_k9 => k_asm); (case T_k9 => k_asm); (case hh_k9 => exact rfl); (case hf_k9 => exact rfl); (case hk_k9 => first | exact rfl | assumption); (case hd_k9 => k_extra "mine:dp"); (case hu_k9 => k_extra "mine:un"); (case cs_k9 => k_extra "mine:subs"))); intro tl9 r9 f9 d9 h9 tk9 F9 N9; refine nameD3 N9 d9 fun led5 N9 dY s45 => ?_; (try k_sweep); (try dsimp only); (try k_fold))) | fail
  k_with "w:call ref" => first | ((k_here; (with_reducible show wpAny _ _ (call (Value.ref 735) _ _) _ _ _); ((first | with_reducible refine' CtT.use (law_opened_b (led := led3) _ (s23 _ (sL2 _ ml1)) (hIt.nodes.mono (Sub.trans sS1 (Sub.trans sL2 s23))) hok ?zl_k9 hne ?zm_k9 ?z1_k9 ?z2_k9) ?hh_k9 ?hf_k9 ?B_k9 ?F_k9 ?X_k9 ?Xb_k9 ?N_k9 ?T_k9 ?Tb_k9 ?hk_k9 ?hd_k9 ?hu_k9 ?_ | k_dflt (refine' CtT.use (law_opened_b (led := led3) _ (s23 _ (sL2 _ ml1)) (hIt.nodes.mono (Sub.trans sS1 (Sub.trans sL2 s23))) hok ?zl_k9 hne ?zm_k9 ?z1_k9 ?z2_k9) ?hh_k9 ?hf_k9 ?B_k9 ?F_k9 ?X_k9 ?Xb_k9 ?N_k9 ?T_k9 ?Tb_k9 ?hk_k9 ?hd_k9 ?hu_k9 ?_)); k_dflt ((case hh_k9 => exact rfl); (case hf_k9 => exact rfl); (case F_k9 => k_asm); (case B_k9 => k_asm); (case X_k9 => k_asm); (case Xb_k9 => k_asm); (case N_k9 => k_asm); (case T_k9 => k_asm); (case Tb_k9 => k_asm); (case hk_k9 => first | exact rfl | assumption); (case hd_k9 => k_extra "mine:dp"); (case hu_k9 => k_extra "mine:un"); (case zl_k9 => omega); (case zm_k9 => omega); (case z1_k9 => omega); (case z2_k9 => omega))); intro r9 led9 h9 tk9 F9 N9 P9; obtain ⟨e1, e2⟩ := P9; subst r9; subst led9; (try k_sweep); (try dsimp only); (try k_fold))) | fail
  k_with "mine:ldok" => first | (exact kqd_le (dats_ok fun d hd => Nd.ok_dk1 (hok d hd) 0) (by decide)) | fail
  k_with "w:compareOp NotEq" => first | ((k_here; ((first | with_reducible refine' dat_ne ?N_k9 dX Sub.refl dW s34 ?dx_k9 ?ex_k9 ?hu_k9 ?_ | k_dflt (refine' dat_ne ?N_k9 dX Sub.refl dW s34 ?dx_k9 ?ex_k9 ?hu_k9 ?_)); k_dflt ((case N_k9 => k_asm); (case dx_k9 => k_extra "mine:ldok"); (case ex_k9 => k_extra "mine:ldok"); (case hu_k9 => k_extra "mine:units"); k_whole)); (try simp only [decide_true, Bool.not_true]))) | fail
  k_with "w:compareOp Eq" => first | ((k_here; ((first | with_reducible refine' dat_eq ?N_k9 dY Sub.refl dW (Sub.trans s34 s45) ?dx_k9 ?ex_k9 ?hu_k9 ?_ | k_dflt (refine' dat_eq ?N_k9 dY Sub.refl dW (Sub.trans s34 s45) ?dx_k9 ?ex_k9 ?hu_k9 ?_)); k_dflt ((case N_k9 => k_asm); (case dx_k9 => k_extra "mine:ldok"); (case ex_k9 => k_extra "mine:ldok"); (case hu_k9 => k_extra "mine:units"); k_whole)); (try simp only [decide_true, Bool.not_true]))) | fail
  k_with "w:call ref" => first | ((k_here; (with_reducible show wpAny _ _ (call (Value.ref 745) _ _) _ _ _); ((first | with_reducible refine' Kt.use (law_pruned_ok_k (led := led4) ((Sub.trans s23 s34) _ (sL2 _ ml1)) (hIt.nodes.mono (Sub.trans sS1 (Sub.trans sL2 (Sub.trans s23 s34)))) hok hlen (gA.mono (Sub.trans s23 s34)) go1 (gB.mono (Sub.trans s23 s34)) go2 ((Sub.trans s23 s34) _ mG) (gN.mono (Sub.trans s23 s34)) hgo.1 hgo.2.1 hgo.2.2) ?hh_k9 ?hf_k9 ?B_k9 ?F_k9 ?X_k9 ?N_k9 ?T_k9 ?hk_k9 ?hd_k9 ?hu_k9 ?_ | k_dflt (refine' Kt.use (law_pruned_ok_k (led := led4) ((Sub.trans s23 s34) _ (sL2 _ ml1)) (hIt.nodes.mono (Sub.trans sS1 (Sub.trans sL2 (Sub.trans s23 s34)))) hok hlen (gA.mono (Sub.trans s23 s34)) go1 (gB.mono (Sub.trans s23 s34)) go2 ((Sub.trans s23 s34) _ mG) (gN.mono (Sub.trans s23 s34)) hgo.1 hgo.2.1 hgo.2.2) ?hh_k9 ?hf_k9 ?B_k9 ?F_k9 ?X_k9 ?N_k9 ?T_k9 ?hk_k9 ?hd_k9 ?hu_k9 ?_)); k_dflt ((case F_k9 => k_asm); (case B_k9 => k_asm); (case X_k9 => k_asm); (case N_k9 => k_asm); (case T_k9 => k_asm); (case hh_k9 => exact rfl); (case hf_k9 => exact rfl); (case hk_k9 => first | exact rfl | assumption); (case hd_k9 => k_extra "mine:dp"); (case hu_k9 => k_extra "mine:un"))); intro  h9 tk9 F9 N9; (try k_sweep); (try dsimp only); (try k_fold))) | fail
  k_with "w:call ref" => first | ((k_here; (with_reducible show wpAny _ _ (call (Value.ref 740) _ _) _ _ _); ((first | with_reducible refine' Kt.use (law_taken_ok_k (led := led5) hIt (Sub.trans sS1 (Sub.trans sL2 (Sub.trans (Sub.trans s23 s34) s45))) hok hlen ((Sub.trans sL2 (Sub.trans (Sub.trans s23 s34) s45)) _ ml1)) ?hh_k9 ?hf_k9 ?B_k9 ?F_k9 ?X_k9 ?N_k9 ?T_k9 ?hk_k9 ?hd_k9 ?hu_k9 ?_ | k_dflt (refine' Kt.use (law_taken_ok_k (led := led5) hIt (Sub.trans sS1 (Sub.trans sL2 (Sub.trans (Sub.trans s23 s34) s45))) hok hlen ((Sub.trans sL2 (Sub.trans (Sub.trans s23 s34) s45)) _ ml1)) ?hh_k9 ?hf_k9 ?B_k9 ?F_k9 ?X_k9 ?N_k9 ?T_k9 ?hk_k9 ?hd_k9 ?hu_k9 ?_)); k_dflt ((case F_k9 => k_asm); (case B_k9 => k_asm); (case X_k9 => k_asm); (case N_k9 => k_asm); (case T_k9 => k_asm); (case hh_k9 => exact rfl); (case hf_k9 => exact rfl); (case hk_k9 => first | exact rfl | assumption); (case hd_k9 => k_extra "mine:dp"); (case hu_k9 => k_extra "mine:un"))); intro  h9 tk9 F9 N9; (try k_sweep); (try dsimp only); (try k_fold))) | fail
  trivial

theorem law_holds0 : PySem.Challenge.rw_sq0057_01.Holds := Mine.hd (by
  k_go0
  all_goals (try k_fold)
  all_goals (rename World => w; have hd := callerA_hd; have hu := callerA_hu; (refine letA (P := fun A' => wpAny _ A' _ _ _ _) ?_; intro A9))
  k_steps
)

end
end
end
end Mine
theorem PySem.Challenge.cw_sq0057_01_holds : PySem.Challenge.rw_sq0057_01.Holds :=
  Mine.law_holds0
