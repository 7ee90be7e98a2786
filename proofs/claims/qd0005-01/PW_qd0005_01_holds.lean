import PyProof.Rows.All
import Wide.All
import OpenK.AllK
import Wide.FinOn
import PySem.Challenge.RW_qd0005_01
open PySem PySem.W PyProof.Rows
set_option Elab.async false
set_option linter.unusedVariables false
set_option linter.unusedSimpArgs false
set_option linter.unusedSectionVars false
set_option maxRecDepth 100000
section
open PySem PySem.W PyProof.Rows
set_option maxRecDepth 100000
namespace Mine
def kStr (x : String) (i : Nat) : Value := .str (Str.ofString x) i
def kTup (vs : List Value) : Obj := { cls := .type "tuple", data := .seq vs.toArray }
def kTwo (a : Int) (i : Nat) (b : Int) (j : Nat) : Obj := kTup [.int a i, .int b j]
def kEnt (P : Params) (x : String) (i : Nat) (v : Value) : DictEntry := { hash := PyData.keyHash P (Str.ofString x), key := kStr x i, val := v }
def kDict (es : List DictEntry) (n : Nat) : Obj := { cls := .type "dict", data := .dict es.toArray n }
def kCode (x : String) (t : Nat) (line args : Int) (r : Nat) (u v : Value) (r' t' : Nat) : Obj := { cls := .type "code", data := .fields #[kStr x t, kStr x (t + 1), kStr "/claim/cut.py" (t + 2), .int line 0, .int args 0, .int 0 0, .int 0 0, .int 3 0, .ref r, .bool true, .int 181 0, .ref (r + 1), .none, u, v, .ref r', .int t' 0, .int line 0, kStr "/claim/cut.py" (t' + 1)] }
def kFn (i c : Nat) (m : Value) : Obj := match PySem.Challenge.pw_qd0005_01.main.body[i]? with
  | some (.FunctionDef n a b _ _ _ s _ _ _) => { cls := .type "function", data := .func { name := n, qualname := n, params := a, body := .stmts b, scope := s, globals := 3, closure := [], defaults := .none, kwdefaults := .none, pyModule := m, code := .ref c } }
  | _ => default
noncomputable def hK : Params → Frag := fun P => [
  (3, kDict [kEnt P "__name__" 165 (kStr "law_qd0005_01" 362), kEnt P "__doc__" 166 (.none), kEnt P "__package__" 167 (.none), kEnt P "__loader__" 168 (.builtin ("__main__.__loader__#opa" ++ "que")), kEnt P "__spec__" 169 (.none), kEnt P "__annotations__" 170 (.ref 6), kEnt P "__builtins__" 171 (.ref 4), kEnt P "__file__" 173 (kStr "/claim/cut.py" 172), kEnt P "__cached__" 174 (.none), kEnt P "LINEAR" 192 (.ref 15), kEnt P "STRENGTHS" 195 (.ref 16), kEnt P "FORMS" 289 (.ref 17), kEnt P "PAIRS" 322 (.ref 19), kEnt P "is_number" 329 (.ref 42), kEnt P "is_row_of_numbers" 335 (.ref 47), kEnt P "is_var" 343 (.ref 54), kEnt P "fits" 349 (.ref 59), kEnt P "machine_fault" 355 (.ref 64), kEnt P "told_fault" 361 (.ref 69), kEnt P "_law_names" 426 (.ref 101), kEnt P "_law_dip" 436 (.ref 108), kEnt P "_law_var" 444 (.ref 115), kEnt P "_law_vars" 450 (.ref 120), kEnt P "_law_numbers" 456 (.ref 125), kEnt P "_law_place" 462 (.ref 130), kEnt P "_law_told" 474 (.ref 137), kEnt P "_law_bends" 480 (.ref 142), kEnt P "law" 486 (.ref 147)] 28),
  (15, kTup [kStr "linear_le" 189, kStr "linear_eq" 190, kStr "linear_ne" 191]),
  (16, kTup [kStr "bounds" 193, kStr "values" 194]),
  (17, kDict [kEnt P "linear_le" 196 (kStr "NXn" 197), kEnt P "linear_eq" 199 (kStr "NXn" 200), kEnt P "linear_ne" 202 (kStr "NXn" 203), kEnt P "times" 205 (kStr "xxx" 206), kEnt P "div" 208 (kStr "xxx" 209), kEnt P "mod" 211 (kStr "xxx" 212), kEnt P "abs" 214 (kStr "xx" 215), kEnt P "max" 217 (kStr "Xx" 218), kEnt P "min" 220 (kStr "Xx" 221), kEnt P "element" 223 (kStr "xXx" 224), kEnt P "element_of" 226 (kStr "xNx" 227), kEnt P "table" 229 (kStr "XR" 230), kEnt P "all_different" 232 (kStr "Xs" 233), kEnt P "count" 235 (kStr "Xnx" 236), kEnt P "nvalue" 238 (kStr "Xx" 239), kEnt P "cardinality" 241 (kStr "XNNN" 242), kEnt P "cumulative" 244 (kStr "XNNn" 245), kEnt P "disjunctive" 247 (kStr "XN" 248), kEnt P "circuit" 249 (kStr "X" 250), kEnt P "inverse" 251 (kStr "XX" 252), kEnt P "regular" 253 (kStr "XnnRnN" 254), kEnt P "lex_le" 255 (kStr "XX" 256), kEnt P "lex_lt" 257 (kStr "XX" 258), kEnt P "increasing" 259 (kStr "X" 260), kEnt P "precede" 261 (kStr "nnX" 262), kEnt P "clause" 263 (kStr "XX" 264), kEnt P "and" 265 (kStr "Xx" 266), kEnt P "or" 267 (kStr "Xx" 268), kEnt P "xor" 269 (kStr "xxx" 270), kEnt P "reif" 271 (kStr "xt" 272), kEnt P "imp" 273 (kStr "xt" 274)] 31),
  (19, kDict [kEnt P "linear_le" 290 (.ref 21), kEnt P "linear_eq" 293 (.ref 23), kEnt P "linear_ne" 296 (.ref 25), kEnt P "cardinality" 299 (.ref 28), kEnt P "cumulative" 304 (.ref 31), kEnt P "disjunctive" 309 (.ref 33), kEnt P "inverse" 312 (.ref 35)] 7),
  (20, kTwo 1 291 2 292),
  (21, kTup [.ref 20]),
  (22, kTwo 1 294 2 295),
  (23, kTup [.ref 22]),
  (24, kTwo 1 297 2 298),
  (25, kTup [.ref 24]),
  (26, kTwo 2 300 3 301),
  (27, kTwo 2 302 4 303),
  (28, kTup [.ref 26, .ref 27]),
  (29, kTwo 1 305 2 306),
  (30, kTwo 1 307 3 308),
  (31, kTup [.ref 29, .ref 30]),
  (32, kTwo 1 310 2 311),
  (33, kTup [.ref 32]),
  (34, kTwo 1 313 2 314),
  (35, kTup [.ref 34]),
  (41, kCode "is_number" 323 6 1 36 (.ref 38) (.ref 39) 40 327),
  (42, kFn 5 41 (kStr "fdsolve.flat" 187)),
  (46, kCode "is_row_of_numbers" 330 8 1 43 .none .none 45 333),
  (47, kFn 6 46 (kStr "fdsolve.flat" 187)),
  (53, kCode "is_var" 336 10 2 48 (.ref 50) (.ref 51) 52 341),
  (54, kFn 7 53 (kStr "fdsolve.flat" 187)),
  (58, kCode "fits" 344 12 3 55 .none .none 57 347),
  (59, kFn 8 58 (kStr "fdsolve.flat" 187)),
  (63, kCode "machine_fault" 350 26 1 60 .none .none 62 353),
  (64, kFn 9 63 (kStr "fdsolve.flat" 187)),
  (68, kCode "told_fault" 356 35 2 65 .none .none 67 359),
  (69, kFn 10 68 (kStr "fdsolve.flat" 187)),
  (70, kTup [kStr "linear_le" 364, kStr "NXn" 365]),
  (71, kTup [kStr "linear_eq" 366, kStr "NXn" 367]),
  (72, kTup [kStr "linear_ne" 368, kStr "NXn" 369]),
  (73, kTup [kStr "times" 370, kStr "xxx" 371]),
  (74, kTup [kStr "div" 372, kStr "xxx" 373]),
  (75, kTup [kStr "mod" 374, kStr "xxx" 375]),
  (76, kTup [kStr "abs" 376, kStr "xx" 377]),
  (77, kTup [kStr "max" 378, kStr "Zx" 379]),
  (78, kTup [kStr "min" 380, kStr "Zx" 381]),
  (79, kTup [kStr "element" 382, kStr "xYx" 383]),
  (80, kTup [kStr "element_of" 384, kStr "xMx" 385]),
  (81, kTup [kStr "table" 386, kStr "YR" 387]),
  (82, kTup [kStr "all_different" 388, kStr "Ys" 389]),
  (83, kTup [kStr "count" 390, kStr "Ynx" 391]),
  (84, kTup [kStr "nvalue" 392, kStr "Yx" 393]),
  (85, kTup [kStr "cardinality" 394, kStr "YNNN" 395]),
  (86, kTup [kStr "cumulative" 396, kStr "XPPp" 397]),
  (87, kTup [kStr "disjunctive" 398, kStr "XP" 399]),
  (88, kTup [kStr "circuit" 400, kStr "Y" 401]),
  (89, kTup [kStr "inverse" 402, kStr "XX" 403]),
  (90, kTup [kStr "regular" 404, kStr "Yabrcf" 405]),
  (91, kTup [kStr "lex_le" 406, kStr "YY" 407]),
  (92, kTup [kStr "lex_lt" 408, kStr "YY" 409]),
  (93, kTup [kStr "increasing" 410, kStr "Y" 411]),
  (94, kTup [kStr "precede" 412, kStr "nnY" 413]),
  (95, kTup [kStr "clause" 414, kStr "YY" 415]),
  (96, kTup [kStr "and" 416, kStr "Yx" 417]),
  (97, kTup [kStr "or" 418, kStr "Yx" 419]),
  (98, kTup [kStr "xor" 420, kStr "xxx" 421]),
  (99, kTup [kStr "reif" 422, kStr "xt" 423]),
  (100, kTup [kStr "imp" 424, kStr "xt" 425]),
  (101, kTup [.ref 70, .ref 71, .ref 72, .ref 73, .ref 74, .ref 75, .ref 76, .ref 77, .ref 78, .ref 79, .ref 80, .ref 81, .ref 82, .ref 83, .ref 84, .ref 85, .ref 86, .ref 87, .ref 88, .ref 89, .ref 90, .ref 91, .ref 92, .ref 93, .ref 94, .ref 95, .ref 96, .ref 97, .ref 98, .ref 99, .ref 100]),
  (107, kCode "_law_dip" 427 58 2 102 (.ref 104) (.ref 105) 106 434),
  (108, kFn 13 107 (kStr "law_qd0005_01" 362)),
  (114, kCode "_law_var" 437 64 1 109 (.ref 111) (.ref 112) 113 442),
  (115, kFn 14 114 (kStr "law_qd0005_01" 362)),
  (119, kCode "_law_vars" 445 68 2 116 .none .none 118 448),
  (120, kFn 15 119 (kStr "law_qd0005_01" 362)),
  (124, kCode "_law_numbers" 451 70 3 121 .none .none 123 454),
  (125, kFn 16 124 (kStr "law_qd0005_01" 362)),
  (129, kCode "_law_place" 457 72 4 126 .none .none 128 460),
  (130, kFn 17 129 (kStr "law_qd0005_01" 362)),
  (136, kCode "_law_told" 463 101 1 131 (.ref 133) (.ref 134) 135 472),
  (137, kFn 18 136 (kStr "law_qd0005_01" 362)),
  (141, kCode "_law_bends" 475 107 4 138 .none .none 140 478),
  (142, kFn 19 141 (kStr "law_qd0005_01" 362)),
  (146, kCode "law" 481 134 1 143 .none .none 145 484),
  (147, kFn 20 146 (kStr "law_qd0005_01" 362))]
noncomputable def hq : Program := view PySem.Challenge.pw_qd0005_01 [0, 1, 2, 5, 6, 7, 8, 9, 10, 11, 12, 13, 14, 15, 16, 17, 18, 19, 20]
def hl : List Str := [Str.ofString "FORMS", Str.ofString "PAIRS"]
def hA : List Addr := [3, 15, 16, 17, 19, 20, 21, 22, 23, 24, 25, 26, 27, 28, 29, 30, 31, 32, 33, 34, 35, 41, 42, 46, 47, 53, 54, 58, 59, 63, 64, 68, 69, 70, 71, 72, 73, 74, 75, 76, 77, 78, 79, 80, 81, 82, 83, 84, 85, 86, 87, 88, 89, 90, 91, 92, 93, 94, 95, 96, 97, 98, 99, 100, 101, 107, 108, 114, 115, 119, 120, 124, 125, 129, 130, 136, 137, 141, 142, 146, 147]
theorem hA_eq (P : Params) : hA = (hK P).map (·.1) := by kernel_rfl
noncomputable abbrev hH : Hook := kHook hK hA hA_eq
noncomputable def hXt (s : Shared) : Bool := xlAt hq [] s && recOk (RowW.records PySem.Challenge.rw_qd0005_01.row.toRowW) s
/-! the top's run, in pieces -/
abbrev zzP : Program := PySem.Challenge.pw_qd0005_01
def zzkFld (vs : List Value) : Obj := { cls := .none, data := .fields vs.toArray }
def zzkPre (i : Nat) : Obj := match zzP.main.body[i]? with
  | some (.FunctionDef n a b _ _ _ s _ _ _) => { cls := .none, data := .func { name := n, qualname := n, params := a, body := .stmts b, scope := s, globals := builtinsNs, closure := [], defaults := .none, kwdefaults := .none } }
  | _ => default
noncomputable def zzkRest (P : Params) : List DictEntry := [kEnt P "__doc__" 166 (.none), kEnt P "__package__" 167 (.none), kEnt P "__loader__" 168 (.builtin ("__main__.__loader__#opa" ++ "que")), kEnt P "__spec__" 169 (.none), kEnt P "__annotations__" 170 (.ref 6), kEnt P "__builtins__" 171 (.ref 4), kEnt P "__file__" 173 (kStr "/claim/cut.py" 172), kEnt P "__cached__" 174 (.none), kEnt P "LINEAR" 192 (.ref 15), kEnt P "STRENGTHS" 195 (.ref 16), kEnt P "FORMS" 289 (.ref 17), kEnt P "PAIRS" 322 (.ref 19), kEnt P "is_number" 329 (.ref 42), kEnt P "is_row_of_numbers" 335 (.ref 47), kEnt P "is_var" 343 (.ref 54), kEnt P "fits" 349 (.ref 59), kEnt P "machine_fault" 355 (.ref 64), kEnt P "told_fault" 361 (.ref 69), kEnt P "_law_names" 426 (.ref 101), kEnt P "_law_dip" 436 (.ref 108), kEnt P "_law_var" 444 (.ref 115), kEnt P "_law_vars" 450 (.ref 120), kEnt P "_law_numbers" 456 (.ref 125), kEnt P "_law_place" 462 (.ref 130), kEnt P "_law_told" 474 (.ref 137), kEnt P "_law_bends" 480 (.ref 142), kEnt P "law" 486 (.ref 147)]
def zzkPl : List Value := [.int 6 0, .int 0 0, .ref 41, .int 8 0, .int 0 0, .ref 46, .int 10 0, .int 0 0, .ref 53, .int 12 0, .int 0 0, .ref 58, .int 26 0, .int 0 0, .ref 63, .int 35 0, .int 0 0, .ref 68, .int 58 0, .int 0 0, .ref 107, .int 64 0, .int 0 0, .ref 114, .int 68 0, .int 0 0, .ref 119, .int 70 0, .int 0 0, .ref 124, .int 72 0, .int 0 0, .ref 129, .int 101 0, .int 0 0, .ref 136, .int 107 0, .int 0 0, .ref 141, .int 134 0, .int 0 0, .ref 146]
def zzkMod : Obj := { cls := .type "code", data := .fields #[kStr "<module>" 182, kStr "<module>" 183, kStr "/claim/cut.py" 184, .int 1 0, .int 0 0, .int 0 0, .int 0 0, .int 0 0, .ref 11, .bool false, .int 181 0, .ref 12, .none, .none, .none, .none, .int 185 0, .int 1 0, kStr "/claim/cut.py" 186] }
def zzkFr : Obj := { cls := .type "frame", data := .plain, slots := #[some (.ref 13), some (.ref 3), some (.ref 3), none, some (kStr "__main__" 164), none, some (.ref 0)] }
noncomputable def zzkBase (P : Params) (m : Value) (n k : Nat) (tl : List Obj) : List Obj :=
  boot_o_0 P :: boot_o_1 P :: boot_o_2 P :: kDict (kEnt P "__name__" 165 m :: (zzkRest P).take n) (n + 1) :: boot_o_4 P :: boot_o_5 P :: boot_o_6 P :: boot_o_7 P :: boot_o_8 P :: boot_o_9 P :: boot_o_10 P :: kTup [] :: zzkFld (zzkPl.take k) :: zzkMod :: zzkFr :: tl
noncomputable def zzkS1 (P : Params) (tl : List Obj) : List Obj :=
  kTup [kStr "linear_le" 189, kStr "linear_eq" 190, kStr "linear_ne" 191] ::
  kTup [kStr "bounds" 193, kStr "values" 194] :: tl
noncomputable def zzkS2 (P : Params) (tl : List Obj) : List Obj :=
  kDict [kEnt P "linear_le" 196 (kStr "NXn" 197), kEnt P "linear_eq" 199 (kStr "NXn" 200), kEnt P "linear_ne" 202 (kStr "NXn" 203), kEnt P "times" 205 (kStr "xxx" 206), kEnt P "div" 208 (kStr "xxx" 209), kEnt P "mod" 211 (kStr "xxx" 212), kEnt P "abs" 214 (kStr "xx" 215), kEnt P "max" 217 (kStr "Xx" 218), kEnt P "min" 220 (kStr "Xx" 221), kEnt P "element" 223 (kStr "xXx" 224), kEnt P "element_of" 226 (kStr "xNx" 227), kEnt P "table" 229 (kStr "XR" 230), kEnt P "all_different" 232 (kStr "Xs" 233), kEnt P "count" 235 (kStr "Xnx" 236), kEnt P "nvalue" 238 (kStr "Xx" 239), kEnt P "cardinality" 241 (kStr "XNNN" 242), kEnt P "cumulative" 244 (kStr "XNNn" 245), kEnt P "disjunctive" 247 (kStr "XN" 248), kEnt P "circuit" 249 (kStr "X" 250), kEnt P "inverse" 251 (kStr "XX" 252), kEnt P "regular" 253 (kStr "XnnRnN" 254), kEnt P "lex_le" 255 (kStr "XX" 256), kEnt P "lex_lt" 257 (kStr "XX" 258), kEnt P "increasing" 259 (kStr "X" 260), kEnt P "precede" 261 (kStr "nnX" 262), kEnt P "clause" 263 (kStr "XX" 264), kEnt P "and" 265 (kStr "Xx" 266), kEnt P "or" 267 (kStr "Xx" 268), kEnt P "xor" 269 (kStr "xxx" 270), kEnt P "reif" 271 (kStr "xt" 272), kEnt P "imp" 273 (kStr "xt" 274)] 31 ::
  kDict [kEnt P "disjunctive" 247 (kStr "XN" 248), kEnt P "circuit" 249 (kStr "X" 250), kEnt P "inverse" 251 (kStr "XX" 252), kEnt P "regular" 253 (kStr "XnnRnN" 254), kEnt P "lex_le" 255 (kStr "XX" 256), kEnt P "lex_lt" 257 (kStr "XX" 258), kEnt P "increasing" 259 (kStr "X" 260), kEnt P "precede" 261 (kStr "nnX" 262), kEnt P "clause" 263 (kStr "XX" 264), kEnt P "and" 265 (kStr "Xx" 266), kEnt P "or" 267 (kStr "Xx" 268), kEnt P "xor" 269 (kStr "xxx" 270), kEnt P "reif" 271 (kStr "xt" 272), kEnt P "imp" 273 (kStr "xt" 274)] 14 :: tl
noncomputable def zzkS3 (P : Params) (tl : List Obj) : List Obj :=
  kDict [kEnt P "linear_le" 290 (.ref 21), kEnt P "linear_eq" 293 (.ref 23), kEnt P "linear_ne" 296 (.ref 25), kEnt P "cardinality" 299 (.ref 28), kEnt P "cumulative" 304 (.ref 31), kEnt P "disjunctive" 309 (.ref 33), kEnt P "inverse" 312 (.ref 35)] 7 ::
  kTwo 1 291 2 292 ::
  kTup [.ref 20] ::
  kTwo 1 294 2 295 ::
  kTup [.ref 22] ::
  kTwo 1 297 2 298 ::
  kTup [.ref 24] ::
  kTwo 2 300 3 301 ::
  kTwo 2 302 4 303 ::
  kTup [.ref 26, .ref 27] ::
  kTwo 1 305 2 306 ::
  kTwo 1 307 3 308 ::
  kTup [.ref 29, .ref 30] ::
  kTwo 1 310 2 311 ::
  kTup [.ref 32] ::
  kTwo 1 313 2 314 ::
  kTup [.ref 34] :: tl
noncomputable def zzkS4 (P : Params) (tl : List Obj) : List Obj :=
  kTup [] ::
  zzkFld [] ::
  kTup [kStr "thing" 326] ::
  kTup [] ::
  zzkPre 5 ::
  kCode "is_number" 323 6 1 36 (.ref 38) (.ref 39) 40 327 ::
  kFn 5 41 (kStr "fdsolve.flat" 187) ::
  kTup [] ::
  zzkFld [] ::
  zzkPre 6 ::
  kCode "is_row_of_numbers" 330 8 1 43 .none .none 45 333 ::
  kFn 6 46 (kStr "fdsolve.flat" 187) ::
  kTup [] ::
  zzkFld [] ::
  kTup [kStr "thing" 339, kStr "many" 340] ::
  kTup [] ::
  zzkPre 7 ::
  kCode "is_var" 336 10 2 48 (.ref 50) (.ref 51) 52 341 ::
  kFn 7 53 (kStr "fdsolve.flat" 187) ::
  kTup [] ::
  zzkFld [] ::
  zzkPre 8 ::
  kCode "fits" 344 12 3 55 .none .none 57 347 ::
  kFn 8 58 (kStr "fdsolve.flat" 187) ::
  kTup [] ::
  zzkFld [] ::
  zzkPre 9 ::
  kCode "machine_fault" 350 26 1 60 .none .none 62 353 ::
  kFn 9 63 (kStr "fdsolve.flat" 187) ::
  kTup [] ::
  zzkFld [] ::
  zzkPre 10 ::
  kCode "told_fault" 356 35 2 65 .none .none 67 359 ::
  kFn 10 68 (kStr "fdsolve.flat" 187) :: tl
noncomputable def zzkS5 (P : Params) (tl : List Obj) : List Obj :=
  kTup [kStr "linear_le" 364, kStr "NXn" 365] ::
  kTup [kStr "linear_eq" 366, kStr "NXn" 367] ::
  kTup [kStr "linear_ne" 368, kStr "NXn" 369] ::
  kTup [kStr "times" 370, kStr "xxx" 371] ::
  kTup [kStr "div" 372, kStr "xxx" 373] ::
  kTup [kStr "mod" 374, kStr "xxx" 375] ::
  kTup [kStr "abs" 376, kStr "xx" 377] ::
  kTup [kStr "max" 378, kStr "Zx" 379] ::
  kTup [kStr "min" 380, kStr "Zx" 381] ::
  kTup [kStr "element" 382, kStr "xYx" 383] ::
  kTup [kStr "element_of" 384, kStr "xMx" 385] ::
  kTup [kStr "table" 386, kStr "YR" 387] ::
  kTup [kStr "all_different" 388, kStr "Ys" 389] ::
  kTup [kStr "count" 390, kStr "Ynx" 391] ::
  kTup [kStr "nvalue" 392, kStr "Yx" 393] ::
  kTup [kStr "cardinality" 394, kStr "YNNN" 395] ::
  kTup [kStr "cumulative" 396, kStr "XPPp" 397] ::
  kTup [kStr "disjunctive" 398, kStr "XP" 399] ::
  kTup [kStr "circuit" 400, kStr "Y" 401] ::
  kTup [kStr "inverse" 402, kStr "XX" 403] ::
  kTup [kStr "regular" 404, kStr "Yabrcf" 405] ::
  kTup [kStr "lex_le" 406, kStr "YY" 407] ::
  kTup [kStr "lex_lt" 408, kStr "YY" 409] ::
  kTup [kStr "increasing" 410, kStr "Y" 411] ::
  kTup [kStr "precede" 412, kStr "nnY" 413] ::
  kTup [kStr "clause" 414, kStr "YY" 415] ::
  kTup [kStr "and" 416, kStr "Yx" 417] ::
  kTup [kStr "or" 418, kStr "Yx" 419] ::
  kTup [kStr "xor" 420, kStr "xxx" 421] ::
  kTup [kStr "reif" 422, kStr "xt" 423] ::
  kTup [kStr "imp" 424, kStr "xt" 425] ::
  kTup [.ref 70, .ref 71, .ref 72, .ref 73, .ref 74, .ref 75, .ref 76, .ref 77, .ref 78, .ref 79, .ref 80, .ref 81, .ref 82, .ref 83, .ref 84, .ref 85, .ref 86, .ref 87, .ref 88, .ref 89, .ref 90, .ref 91, .ref 92, .ref 93, .ref 94, .ref 95, .ref 96, .ref 97, .ref 98, .ref 99, .ref 100] :: tl
noncomputable def zzkS6 (P : Params) (tl : List Obj) : List Obj :=
  kTup [] ::
  zzkFld [] ::
  kTup [kStr "feed" 430, kStr "many" 431, kStr "cells" 432, kStr "place" 433] ::
  kTup [] ::
  zzkPre 13 ::
  kCode "_law_dip" 427 58 2 102 (.ref 104) (.ref 105) 106 434 ::
  kFn 13 107 (kStr "law_qd0005_01" 362) ::
  kTup [] ::
  zzkFld [] ::
  kTup [kStr "feed" 440, kStr "x" 441] ::
  kTup [] ::
  zzkPre 14 ::
  kCode "_law_var" 437 64 1 109 (.ref 111) (.ref 112) 113 442 ::
  kFn 14 114 (kStr "law_qd0005_01" 362) ::
  kTup [] ::
  zzkFld [] ::
  zzkPre 15 ::
  kCode "_law_vars" 445 68 2 116 .none .none 118 448 ::
  kFn 15 119 (kStr "law_qd0005_01" 362) ::
  kTup [] ::
  zzkFld [] ::
  zzkPre 16 ::
  kCode "_law_numbers" 451 70 3 121 .none .none 123 454 ::
  kFn 16 124 (kStr "law_qd0005_01" 362) ::
  kTup [] ::
  zzkFld [] ::
  zzkPre 17 ::
  kCode "_law_place" 457 72 4 126 .none .none 128 460 ::
  kFn 17 129 (kStr "law_qd0005_01" 362) ::
  kTup [] ::
  zzkFld [] ::
  kTup [kStr "feed" 466, kStr "name" 467, kStr "letters" 468, kStr "told" 469, kStr "wide" 470, kStr "letter" 471] ::
  kTup [] ::
  zzkPre 18 ::
  kCode "_law_told" 463 101 1 131 (.ref 133) (.ref 134) 135 472 ::
  kFn 18 136 (kStr "law_qd0005_01" 362) ::
  kTup [] ::
  zzkFld [] ::
  zzkPre 19 ::
  kCode "_law_bends" 475 107 4 138 .none .none 140 478 ::
  kFn 19 141 (kStr "law_qd0005_01" 362) ::
  kTup [] ::
  zzkFld [] ::
  zzkPre 20 ::
  kCode "law" 481 134 1 143 .none .none 145 484 ::
  kFn 20 146 (kStr "law_qd0005_01" 362) :: tl
noncomputable def zzT0 (P : Params) : Heap := ⟨⟨zzkBase P (kStr "__main__" 164) 8 0 []⟩, {}⟩
noncomputable def zzT1 (P : Params) : Heap := ⟨⟨zzkBase P (kStr "fdsolve.flat" 187) 10 0 (zzkS1 P [])⟩, {}⟩
noncomputable def zzT2 (P : Params) : Heap := ⟨⟨zzkBase P (kStr "fdsolve.flat" 187) 11 0 (zzkS1 P (zzkS2 P []))⟩, {}⟩
noncomputable def zzT3 (P : Params) : Heap := ⟨⟨zzkBase P (kStr "fdsolve.flat" 187) 12 0 (zzkS1 P (zzkS2 P (zzkS3 P [])))⟩, {}⟩
noncomputable def zzT4 (P : Params) : Heap := ⟨⟨zzkBase P (kStr "fdsolve.flat" 187) 18 18 (zzkS1 P (zzkS2 P (zzkS3 P (zzkS4 P []))))⟩, {}⟩
noncomputable def zzT5 (P : Params) : Heap := ⟨⟨zzkBase P (kStr "law_qd0005_01" 362) 19 18 (zzkS1 P (zzkS2 P (zzkS3 P (zzkS4 P (zzkS5 P [])))))⟩, {}⟩
noncomputable def zzT6 (P : Params) : Heap := ⟨⟨zzkBase P (kStr "law_qd0005_01" 362) 27 42 (zzkS1 P (zzkS2 P (zzkS3 P (zzkS4 P (zzkS5 P (zzkS6 P []))))))⟩, {}⟩
abbrev zzS (h : Heap) (k : Nat) (os : OsState) : Shared := ⟨h, Array.mk [], {}, k, os⟩
def zzE : Env := { scope := zzP.main.scope, locals := mainNs, globals := mainNs, cells := [], code := .ref 13, frame := some 14 }
noncomputable abbrev zzC : Code := .body (behindTheImports zzP) zzE
def zzL (i n : Nat) : List Stmt := (zzP.main.body.drop i).take n
abbrev zzF : List Frame := [topFrame ⟨0, 0, 0, 0⟩]
abbrev zzRun (w : World) (n : Nat) (h : Params → Heap) (k : Nat) (i m : Nat) (q : Pos) (h' : Params → Heap) (k' : Nat) (q' : Pos) : Prop :=
  (fun os => segRun treeTable zzP w 11 (some (.ref 6)) 1 n (zzS (h w.params) k os) (piecesOf (zzL i m) zzE zzC q zzF)) = fun os => some (.next, zzS (h' w.params) k' os, zzC, q')
theorem zzOpen (w : World) : (fencedOpening treeTable zzP w 2706).map (fun s => (s.heap, s.gens, s.drawn, s.toks)) = some (boot_heap w.params, Array.mk [], boot_drawn, boot_toks) := boot_open (by kernel_rfl) (by kernel_rfl) (fun s => by kernel_rfl) w
theorem zzBody : behindTheImports zzP = zzL 0 3 ++ (zzL 3 1 ++ (zzL 4 1 ++ (zzL 5 6 ++ (zzL 11 2 ++ (zzL 13 8 ++ []))))) := by kernel_rfl
theorem zzPre (w : World) : (fun os => topGo treeTable zzP w 11 (some (.ref 6)) 12 ⟨boot_heap w.params, Array.mk [], boot_drawn, boot_toks, os⟩ (topStub zzP)) = fun os => some (zzS (zzT0 w.params) 187 os, ⟨denote treeTable zzC, zzC, ⟨0, 0, 0, 0⟩, zzF⟩) := by kernel_rfl
theorem zzBlock (w : World) : (fun os => segRun treeTable zzP w 11 (some (.ref 6)) 1 2 (zzS (zzT0 w.params) 187 os) (blockOf (behindTheImports zzP) zzE zzC ⟨0, 0, 0, 0⟩ zzF)) = fun os => some (.next, zzS (zzT0 w.params) 187 os, zzC, ⟨0, 0, 0, 0⟩) := by kernel_rfl
set_option maxHeartbeats 80000000 in
theorem zzG1 (w : World) : zzRun w 60 zzT0 187 0 3 ⟨0, 0, 0, 0⟩ zzT1 196 ⟨3, 0, 3, 9⟩ := by kernel_rfl
set_option maxHeartbeats 80000000 in
theorem zzG2f (w : World) : zzRun (w.withFollow "special-get-raises" false) 640 zzT1 196 3 1 ⟨3, 0, 3, 9⟩ zzT2 290 ⟨4, 0, 4, 5⟩ := by kernel_rfl
set_option maxHeartbeats 80000000 in
theorem zzG2t (w : World) : zzRun (w.withFollow "special-get-raises" true) 640 zzT1 196 3 1 ⟨3, 0, 3, 9⟩ zzT2 290 ⟨4, 0, 4, 5⟩ := by kernel_rfl
theorem zzG2 (w : World) : zzRun w 640 zzT1 196 3 1 ⟨3, 0, 3, 9⟩ zzT2 290 ⟨4, 0, 4, 5⟩ := byRow2 (P := fun w => zzRun w 640 zzT1 196 3 1 ⟨3, 0, 3, 9⟩ zzT2 290 ⟨4, 0, 4, 5⟩) "special-get-raises" zzG2f zzG2t w
set_option maxHeartbeats 80000000 in
theorem zzG3f (w : World) : zzRun (w.withFollow "special-get-raises" false) 200 zzT2 290 4 1 ⟨4, 0, 4, 5⟩ zzT3 323 ⟨5, 0, 5, 5⟩ := by kernel_rfl
set_option maxHeartbeats 80000000 in
theorem zzG3t (w : World) : zzRun (w.withFollow "special-get-raises" true) 200 zzT2 290 4 1 ⟨4, 0, 4, 5⟩ zzT3 323 ⟨5, 0, 5, 5⟩ := by kernel_rfl
theorem zzG3 (w : World) : zzRun w 200 zzT2 290 4 1 ⟨4, 0, 4, 5⟩ zzT3 323 ⟨5, 0, 5, 5⟩ := byRow2 (P := fun w => zzRun w 200 zzT2 290 4 1 ⟨4, 0, 4, 5⟩ zzT3 323 ⟨5, 0, 5, 5⟩) "special-get-raises" zzG3f zzG3t w
set_option maxHeartbeats 80000000 in
theorem zzG4 (w : World) : zzRun w 220 zzT3 323 5 6 ⟨5, 0, 5, 5⟩ zzT4 362 ⟨35, 0, 55, 59⟩ := by kernel_rfl
set_option maxHeartbeats 80000000 in
theorem zzG5 (w : World) : zzRun w 190 zzT4 362 11 2 ⟨35, 0, 55, 59⟩ zzT5 427 ⟨57, 0, 57, 10⟩ := by kernel_rfl
set_option maxHeartbeats 80000000 in
theorem zzG6 (w : World) : zzRun w 300 zzT5 427 13 8 ⟨57, 0, 57, 10⟩ zzT6 487 ⟨134, 0, 149, 15⟩ := by kernel_rfl
theorem zzFin (w : World) : (fun os => topRun treeTable zzP w 11 (some (.ref 6)) 2 (zzS (zzT6 w.params) 487 os) ⟨doneF .next, zzC, ⟨134, 0, 149, 15⟩, zzF⟩) = fun os => some (zzS (zzT6 w.params) 487 os) := by kernel_rfl
theorem zzAll (w : World) (os : OsState) : topRun treeTable zzP w 11 (some (.ref 6)) (12 + (2 + (60 + (640 + (200 + (220 + (190 + (300 + 2)))))))) ⟨boot_heap w.params, Array.mk [], boot_drawn, boot_toks, os⟩ (topStub zzP) = some (zzS (zzT6 w.params) 487 os) :=
  go_top (congrFun (zzPre w) os) (piece_block (congrFun (zzBlock w) os) ((congrArg (fun b => topRun treeTable zzP w 11 (some (.ref 6)) (60 + (640 + (200 + (220 + (190 + (300 + 2)))))) (zzS (zzT0 w.params) 187 os) (restOf b zzE zzC ⟨0, 0, 0, 0⟩ zzF)) zzBody).trans (piece_app (congrFun (zzG1 w) os) (piece_app (congrFun (zzG2 w) os) (piece_app (congrFun (zzG3 w) os) (piece_app (congrFun (zzG4 w) os) (piece_app (congrFun (zzG5 w) os) (piece_app (congrFun (zzG6 w) os) (congrFun (zzFin w) os)))))))))
theorem zzSize (w : World) : ((boot_heap w.params).isNs mainGlobals && (Array.mk [] : Array GenState).size == 0, (boot_heap w.params).objs.size, (boot_heap w.params).nsMap mainGlobals "__annotations__") = (true, 11, some (.ref 6)) := by kernel_rfl
set_option maxHeartbeats 80000000 in
theorem left : LeftO PySem.Challenge.pw_qd0005_01 hq hl hXt (Hook.obs hH) (Hook.val hH) 2706 :=
  LeftO.of_pieces (H₁ := zzT6) (gs₁ := Array.mk []) (d₁ := {}) (k₁ := 487) (M := 12 + (2 + (60 + (640 + (200 + (220 + (190 + (300 + 2)))))))) zzOpen zzSize zzAll (by decide) (fun w => by kernel_rfl)
end Mine
end
section
open PySem PySem.W PyProof.Rows PySem.Calls
namespace Mine

/-- plain data -/
inductive D where
  | none
  | bool (b : Bool)
  | int (i : Int)
  | str (x : Str)
  | tup (ds : List D)
  | lst (ds : List D)
  | ref (a : Addr)
  | typ (n : String)

mutual
inductive Is (W : Addr → Prop) (h : Heap) : Value → D → Prop
  | none : Is W h Value.none D.none
  | bool (b : Bool) : Is W h (Value.bool b) (D.bool b)
  | int (i : Int) (t : Tok) : Is W h (Value.int i t) (D.int i)
  | str (x : Str) (t : Tok) : Is W h (Value.str x t) (D.str x)
  | tup {a : Addr} {vs : List Value} {ds : List D} : IsTup h a vs.toArray → ¬ W a → IsAll W h vs ds → Is W h (Value.ref a) (D.tup ds)
  | lst {a : Addr} {vs : List Value} {ds : List D} : h.IsList a vs.toArray → ¬ W a → IsAll W h vs ds → Is W h (Value.ref a) (D.lst ds)
  | ref (a : Addr) : Is W h (Value.ref a) (D.ref a)
  | typ (n : String) : Is W h (Value.type n) (D.typ n)
inductive IsAll (W : Addr → Prop) (h : Heap) : List Value → List D → Prop
  | nil : IsAll W h [] []
  | cons {v : Value} {vs : List Value} {d : D} {ds : List D} : Is W h v d → IsAll W h vs ds → IsAll W h (v :: vs) (d :: ds)
end

/-- every sequence off W stays -/
def Keep (W : Addr → Prop) (h h' : Heap) : Prop := ∀ a o, h.get? a = some o → (∃ xs n, o.data = .seq xs n) → ¬ W a → h'.get? a = some o

theorem isTup_keep {W : Addr → Prop} {h h' : Heap} {a : Addr} {xs : Array Value} (k : Keep W h h') (t : IsTup h a xs) (n : ¬ W a) : IsTup h' a xs := by
  obtain ⟨o, ho, hc, m, hd⟩ := t
  exact ⟨o, k a o ho ⟨_, _, hd⟩ n, hc, m, hd⟩
theorem isList_keep {W : Addr → Prop} {h h' : Heap} {a : Addr} {xs : Array Value} (k : Keep W h h') (t : h.IsList a xs) (n : ¬ W a) : h'.IsList a xs := by
  obtain ⟨o, ho, hc, m, hd⟩ := t
  exact ⟨o, k a o ho ⟨_, _, hd⟩ n, hc, m, hd⟩
def InvD (W : Addr → Prop) (h : Heap) (v : Value) : D → Prop := fun
  | .none => v = .none
  | .bool b => v = .bool b
  | .int n => ∃ t, v = .int n t
  | .str x => ∃ t, v = .str x t
  | .tup ds => ∃ a vs, v = .ref a ∧ IsTup h a vs.toArray ∧ ¬ W a ∧ IsAll W h vs ds
  | .lst ds => ∃ a vs, v = .ref a ∧ h.IsList a vs.toArray ∧ ¬ W a ∧ IsAll W h vs ds
  | .ref a => v = .ref a
  | .typ n => v = .type n
def InvA (W : Addr → Prop) (h : Heap) (vs : List Value) : List D → Prop := fun
  | [] => vs = []
  | d :: ds => ∃ v r, vs = v :: r ∧ Is W h v d ∧ IsAll W h r ds
section
variable {W W' : Addr → Prop} {h h' : Heap}
theorem Is.inv {v : Value} {d : D} (x : Is W h v d) : InvD W h v d := Is.casesOn (motive_1 := fun v d _ => InvD W h v d) x rfl (fun _ => rfl) (fun _ t => ⟨t, rfl⟩) (fun _ t => ⟨t, rfl⟩) (fun a b c => ⟨_, _, rfl, a, b, c⟩) (fun a b c => ⟨_, _, rfl, a, b, c⟩) (fun _ => rfl) fun _ => rfl
theorem IsAll.inv {vs : List Value} {ds : List D} (x : IsAll W h vs ds) : InvA W h vs ds := IsAll.casesOn (motive_2 := fun vs ds _ => InvA W h vs ds) x rfl fun a b => ⟨_, _, rfl, a, b⟩
@[elab_as_elim] theorem Is.int_e {v : Value} {n : Int} (x : Is W h v (.int n)) {P : Value → Prop} (k : ∀ t, P (.int n t)) : P v := Exists.elim x.inv fun t e => e ▸ k t
@[elab_as_elim] theorem Is.str_e {v : Value} {n : Str} (x : Is W h v (.str n)) {P : Value → Prop} (k : ∀ t, P (.str n t)) : P v := Exists.elim x.inv fun t e => e ▸ k t
@[elab_as_elim] theorem Is.bool_e {v : Value} {b : Bool} (x : Is W h v (.bool b)) {P : Value → Prop} (k : P (.bool b)) : P v := (show v = .bool b from x.inv) ▸ k
@[elab_as_elim] theorem Is.ref_e {v : Value} {a : Addr} (x : Is W h v (.ref a)) {P : Value → Prop} (k : P (.ref a)) : P v := (show v = .ref a from x.inv) ▸ k
@[elab_as_elim] theorem Is.none_e {v : Value} (x : Is W h v .none) {P : Value → Prop} (k : P .none) : P v := (show v = .none from x.inv) ▸ k
@[elab_as_elim] theorem Is.typ_e {v : Value} {n : String} (x : Is W h v (.typ n)) {P : Value → Prop} (k : P (.type n)) : P v := (show v = .type n from x.inv) ▸ k
@[elab_as_elim] theorem Is.tup_e {v : Value} {ds : List D} (x : Is W h v (.tup ds)) {P : Value → Prop} (k : ∀ a vs, IsTup h a vs.toArray → ¬ W a → IsAll W h vs ds → P (.ref a)) : P v := Exists.elim x.inv fun a e => Exists.elim e fun vs e => e.1 ▸ k a vs e.2.1 e.2.2.1 e.2.2.2
@[elab_as_elim] theorem Is.lst_e {v : Value} {ds : List D} (x : Is W h v (.lst ds)) {P : Value → Prop} (k : ∀ a vs, h.IsList a vs.toArray → ¬ W a → IsAll W h vs ds → P (.ref a)) : P v := Exists.elim x.inv fun a e => Exists.elim e fun vs e => e.1 ▸ k a vs e.2.1 e.2.2.1 e.2.2.2
@[elab_as_elim] theorem Is.int_q {v : Value} {d : D} {n : Int} (x : Is W h v d) (e : d = .int n) {P : Value → Prop} (k : ∀ t, P (.int n t)) : P v := Is.int_e (P := P) (e ▸ x) k
@[elab_as_elim] theorem Is.str_q {v : Value} {d : D} {n : Str} (x : Is W h v d) (e : d = .str n) {P : Value → Prop} (k : ∀ t, P (.str n t)) : P v := Is.str_e (P := P) (e ▸ x) k
@[elab_as_elim] theorem Is.bool_q {v : Value} {d : D} {b : Bool} (x : Is W h v d) (e : d = .bool b) {P : Value → Prop} (k : P (.bool b)) : P v := Is.bool_e (P := P) (e ▸ x) k
@[elab_as_elim] theorem Is.ref_q {v : Value} {d : D} {a : Addr} (x : Is W h v d) (e : d = .ref a) {P : Value → Prop} (k : P (.ref a)) : P v := Is.ref_e (P := P) (e ▸ x) k
@[elab_as_elim] theorem Is.tup_q {v : Value} {d : D} {ds : List D} (x : Is W h v d) (e : d = .tup ds) {P : Value → Prop} (k : ∀ a vs, IsTup h a vs.toArray → ¬ W a → IsAll W h vs ds → P (.ref a)) : P v := Is.tup_e (P := P) (e ▸ x) k
@[elab_as_elim] theorem Is.lst_q {v : Value} {d : D} {ds : List D} (x : Is W h v d) (e : d = .lst ds) {P : Value → Prop} (k : ∀ a vs, h.IsList a vs.toArray → ¬ W a → IsAll W h vs ds → P (.ref a)) : P v := Is.lst_e (P := P) (e ▸ x) k
@[elab_as_elim] theorem IsAll.nil_e {vs : List Value} (x : IsAll W h vs []) {P : List Value → Prop} (k : P []) : P vs := (show vs = [] from x.inv) ▸ k
@[elab_as_elim] theorem IsAll.cons_e {vs : List Value} {d : D} {ds : List D} (x : IsAll W h vs (d :: ds)) {P : List Value → Prop} (k : ∀ v r, Is W h v d → IsAll W h r ds → P (v :: r)) : P vs := Exists.elim x.inv fun v e => Exists.elim e fun r e => e.1 ▸ k v r e.2.1 e.2.2
@[elab_as_elim] theorem IsAll.one_e {vs : List Value} {d : D} (x : IsAll W h vs [d]) {P : List Value → Prop} (k : ∀ v, Is W h v d → P [v]) : P vs := IsAll.cons_e (P := P) x fun v r a b => IsAll.nil_e (P := fun r => P (v :: r)) b (k v a)
@[elab_as_elim] theorem IsAll.two_e {vs : List Value} {d e : D} (x : IsAll W h vs [d, e]) {P : List Value → Prop} (k : ∀ v u, Is W h v d → Is W h u e → P [v, u]) : P vs := IsAll.cons_e (P := P) x fun v r a b => IsAll.one_e (P := fun r => P (v :: r)) b fun u c => k v u a c
/-- a change of heap or of the changing addresses -/
theorem Is.map (tup : ∀ a xs, IsTup h a xs → ¬ W a → IsTup h' a xs ∧ ¬ W' a) (lst : ∀ a xs, h.IsList a xs → ¬ W a → h'.IsList a xs ∧ ¬ W' a) {v : Value} {d : D} (x : Is W h v d) : Is W' h' v d :=
  Is.rec (motive_1 := fun v d _ => Is W' h' v d) (motive_2 := fun vs ds _ => IsAll W' h' vs ds) .none .bool .int .str (fun a b _ i => .tup (tup _ _ a b).1 (tup _ _ a b).2 i) (fun a b _ i => .lst (lst _ _ a b).1 (lst _ _ a b).2 i) .ref .typ .nil (fun _ _ i j => .cons i j) x
theorem IsAll.map (tup : ∀ a xs, IsTup h a xs → ¬ W a → IsTup h' a xs ∧ ¬ W' a) (lst : ∀ a xs, h.IsList a xs → ¬ W a → h'.IsList a xs ∧ ¬ W' a) {vs : List Value} {ds : List D} (x : IsAll W h vs ds) : IsAll W' h' vs ds :=
  IsAll.rec (motive_1 := fun v d _ => Is W' h' v d) (motive_2 := fun vs ds _ => IsAll W' h' vs ds) .none .bool .int .str (fun a b _ i => .tup (tup _ _ a b).1 (tup _ _ a b).2 i) (fun a b _ i => .lst (lst _ _ a b).1 (lst _ _ a b).2 i) .ref .typ .nil (fun _ _ i j => .cons i j) x
theorem Is.keep (k : Keep W h h') {v : Value} {d : D} (x : Is W h v d) : Is W h' v d := x.map (fun _ _ t n => ⟨isTup_keep k t n, n⟩) fun _ _ t n => ⟨isList_keep k t n, n⟩
theorem IsAll.keep (k : Keep W h h') {vs : List Value} {ds : List D} (x : IsAll W h vs ds) : IsAll W h' vs ds := x.map (fun _ _ t n => ⟨isTup_keep k t n, n⟩) fun _ _ t n => ⟨isList_keep k t n, n⟩
theorem IsAll.length {vs : List Value} {ds : List D} (x : IsAll W h vs ds) : vs.length = ds.length := by
  induction ds generalizing vs with
  | nil => exact x.nil_e rfl
  | cons d ds ih => exact x.cons_e fun v r _ b => congrArg Nat.succ (ih b)
theorem IsAll.append {vs ws : List Value} {ds es : List D} (x : IsAll W h vs ds) (y : IsAll W h ws es) : IsAll W h (vs ++ ws) (ds ++ es) := by
  induction ds generalizing vs with
  | nil => exact x.nil_e y
  | cons d ds ih => exact x.cons_e fun v r a b => .cons a (ih b)
theorem IsAll.get {vs : List Value} {ds : List D} {i : Nat} {d : D} (x : IsAll W h vs ds) (e : ds[i]? = some d) : ∃ v, vs[i]? = some v ∧ Is W h v d := by
  induction ds generalizing vs i with
  | nil => cases e
  | cons d' ds ih =>
    refine x.cons_e fun v r a b => ?_
    cases i with
    | zero => cases e; exact ⟨v, rfl, a⟩
    | succ i => exact ih (vs := r) (i := i) b e
theorem IsAll.getV {vs : List Value} {ds : List D} {i : Nat} {v : Value} (x : IsAll W h vs ds) (e : vs[i]? = some v) : ∃ d, ds[i]? = some d ∧ Is W h v d := by
  have hi : i < ds.length := by rw [← x.length]; exact (List.getElem?_eq_some_iff.mp e).1
  have hd := List.getElem?_eq_getElem hi
  obtain ⟨u, hu, a⟩ := x.get hd
  rw [e] at hu; cases hu
  exact ⟨_, hd, a⟩
theorem IsAll.take (n : Nat) {vs : List Value} {ds : List D} (x : IsAll W h vs ds) : IsAll W h (vs.take n) (ds.take n) := by
  induction n generalizing vs ds with
  | zero => exact .nil
  | succ n ih =>
    cases ds with
    | nil => exact x.nil_e .nil
    | cons d ds => exact x.cons_e fun v r a b => .cons a (ih b)
theorem IsAll.drop (n : Nat) {vs : List Value} {ds : List D} (x : IsAll W h vs ds) : IsAll W h (vs.drop n) (ds.drop n) := by
  induction n generalizing vs ds with
  | zero => exact x
  | succ n ih =>
    cases ds with
    | nil => exact x.nil_e .nil
    | cons d ds => exact x.cons_e fun v r a b => ih b
end
set_option genSizeOf false
set_option genInjectivity false
structure Cx where
  prog : Program
  w : World
  A : Around
  env : Env
  B : Heap
  W : Addr → Prop
  Mo : Addr → Prop
  S : Type
  In : S → Heap → Prop

/-- the text's own heap, as the head wrote it -/
noncomputable abbrev Cx.K (C : Cx) : Frag := hK C.w.params
/-- what an expression keeps -/
def Cx.Stay (C : Cx) (h h' : Heap) : Prop := ∀ b o, h.get? b = some o → ¬ C.Mo b → h'.get? b = some o
/-- what a statement keeps -/
def Cx.StayO (C : Cx) (h h' : Heap) : Prop := ∀ b o, h.get? b = some o → ¬ C.Mo b → b ≠ C.env.locals → (∀ x, C.env.cells.lookup x ≠ some b) → h'.get? b = some o

structure Base (w : World) (K : Frag) (B : Heap) : Prop where
  K : K.In B
  g : ∃ mg, B.Ns mainGlobals mg
  b : ∃ mb, B.Ns builtinsNs mb ∧ ∀ x : Str, x ≠ "__name__" → mb x = bootBuiltins x
  lim : B.NoLimit

structure Cx.Ok (C : Cx) : Prop where
  base : Base C.w C.K C.B
  hh : C.A.handled = none
  kind : C.env.scope.kind = .function
  eg : C.env.globals = mainGlobals
  eb : C.env.builtins = builtinsNs
  mow : ∀ a, C.Mo a → C.W a
  wb : ∀ a o, C.W a → C.B.get? a = some o → False
  locB : C.B.get? C.env.locals = none
  celB : ∀ n c, C.env.cells.lookup n = some c → C.B.get? c = none
  locM : ¬ C.W C.env.locals
  celM : ∀ n c, C.env.cells.lookup n = some c → ¬ C.W c
  celL : ∀ n c, C.env.cells.lookup n = some c → c ≠ C.env.locals
  apart : ∀ n n' c, C.env.cells.lookup n = some c → C.env.cells.lookup n' = some c → n = n'
  ikeep : ∀ φ h h', C.In φ h → (∀ b o, h.get? b = some o → C.W b → h'.get? b = some o) → C.In φ h'
  ilive : ∀ φ h a, C.In φ h → C.Mo a → ∃ o, h.get? a = some o

theorem Cx.Ok.locMo {C : Cx} (ok : C.Ok) : ¬ C.Mo C.env.locals := fun m => ok.locM (ok.mow _ m)
theorem Cx.Ok.celMo {C : Cx} (ok : C.Ok) (n : Str) (c : Addr) (e : C.env.cells.lookup n = some c) : ¬ C.Mo c := fun m => ok.celM n c e (ok.mow _ m)

structure Cx.Live (C : Cx) (h : Heap) : Prop where
  base : ∀ b o, C.B.get? b = some o → h.get? b = some o
  alive : ∀ a, C.W a → ∃ o, h.get? a = some o

structure St (C : Cx) (ρ : List (Str × D)) (h : Heap) : Prop extends C.Live h where
  loc : ∃ m, h.Ns C.env.locals m ∧ ∀ x d, ρ.lookup x = some d → C.env.kindOf x = some .local → ∃ v, m x = some v ∧ Is C.W h v d
  cel : ∀ x d, ρ.lookup x = some d → (C.env.kindOf x = some .cell ∨ C.env.kindOf x = some .free) → ∃ c v, C.env.cells.lookup x = some c ∧ h.IsCell c (some v) ∧ Is C.W h v d
  cex : ∀ x c, C.env.cells.lookup x = some c → ∃ v, h.IsCell c v

theorem Cx.Stay.refl (C : Cx) (h : Heap) : C.Stay h h := fun _ _ e _ => e
theorem Cx.Stay.trans {C : Cx} {h h' h'' : Heap} (a : C.Stay h h') (b : C.Stay h' h'') : C.Stay h h'' := fun x o e n => b x o (a x o e n) n
theorem Cx.StayO.refl (C : Cx) (h : Heap) : C.StayO h h := fun _ _ e _ _ _ => e
theorem Cx.StayO.trans {C : Cx} {h h' h'' : Heap} (a : C.StayO h h') (b : C.StayO h' h'') : C.StayO h h'' := fun x o e n p q => b x o (a x o e n p q) n p q
theorem Cx.Stay.o {C : Cx} {h h' : Heap} (a : C.Stay h h') : C.StayO h h' := fun x o e n _ _ => a x o e n
theorem Cx.Stay.all {C : Cx} {h h' : Heap} (a : ∀ b o, h.get? b = some o → h'.get? b = some o) : C.Stay h h' := fun b o e _ => a b o e
theorem Cx.Stay.keep {C : Cx} (ok : C.Ok) {h h' : Heap} (a : C.Stay h h') : Keep C.W h h' := fun x o e _ n => a x o e fun m => n (ok.mow _ m)
theorem Keep.all {W : Addr → Prop} {h h' : Heap} (a : ∀ b o, h.get? b = some o → h'.get? b = some o) : Keep W h h' := fun b o e _ _ => a b o e

theorem Cx.Live.stay {C : Cx} (ok : C.Ok) {h h' : Heap} {φ : C.S} (l : C.Live h) (a : C.Stay h h') (i : C.In φ h') : C.Live h' :=
  ⟨fun b o e => a b o (l.base b o e) fun m => ok.wb _ _ (ok.mow _ m) e, fun x hx => by
    by_cases m : C.Mo x
    · exact ok.ilive φ h' x i m
    · obtain ⟨o, ho⟩ := l.alive x hx; exact ⟨o, a _ _ ho m⟩⟩
theorem St.stay {C : Cx} (ok : C.Ok) {ρ : List (Str × D)} {h h' : Heap} {φ : C.S} (s : St C ρ h) (a : C.Stay h h') (i : C.In φ h') : St C ρ h' where
  toLive := s.toLive.stay ok a i
  loc := by
    obtain ⟨m, ⟨o, es, ep, ho, r⟩, hm⟩ := s.loc
    refine ⟨m, ⟨o, es, ep, a _ _ ho ok.locMo, r⟩, fun x d hx hk => ?_⟩
    obtain ⟨v, hv, hi⟩ := hm x d hx hk
    exact ⟨v, hv, hi.keep (a.keep ok)⟩
  cel := fun x d hx hk => by
    obtain ⟨c, v, hc, ⟨o, ho, hd⟩, hi⟩ := s.cel x d hx hk
    exact ⟨c, v, hc, ⟨o, a _ _ ho (ok.celMo _ _ hc), hd⟩, hi.keep (a.keep ok)⟩
  cex := fun x c hc => by
    obtain ⟨v, o, ho, hd⟩ := s.cex x c hc
    exact ⟨v, o, a _ _ ho (ok.celMo _ _ hc), hd⟩
theorem St.less {C : Cx} {ρ ρ' : List (Str × D)} {h : Heap} (s : St C ρ h) (a : ∀ x d, ρ'.lookup x = some d → ρ.lookup x = some d) : St C ρ' h where
  toLive := s.toLive
  loc := by obtain ⟨m, hn, hm⟩ := s.loc; exact ⟨m, hn, fun x d hx hk => hm x d (a x d hx) hk⟩
  cel := fun x d hx hk => s.cel x d (a x d hx) hk
  cex := s.cex

/-- a fresh address is no mutable one -/
theorem Cx.Live.fresh {C : Cx} {h : Heap} (l : C.Live h) {a : Addr} (e : h.get? a = none) : ¬ C.W a := fun m => by
  obtain ⟨o, ho⟩ := l.alive a m
  rw [e] at ho; cases ho
theorem get_size (h : Heap) : h.get? h.objs.size = none := by
  cases e : h.get? h.objs.size with
  | none => rfl
  | some o => exact absurd (Heap.lt_size e) (Nat.lt_irrefl _)

/-- a tree that gives a datum -/
def EvT (C : Cx) (ρ : List (Str × D)) (φ : C.S) (t : Sem Value) (R : D → C.S → Prop) : Prop :=
  ∀ (s : Shared) (Q : Value → Shared → Prop) (E : Value → Shared → Prop), St C ρ s.heap → C.In φ s.heap →
    (∀ d φ' v h' tk, R d φ' → C.Stay s.heap h' → C.In φ' h' → Is C.W h' v d → Q v { s with heap := h', toks := tk }) → wpAny (model C.prog C.w) C.A t Q E s
def EV (C : Cx) (ρ : List (Str × D)) (φ : C.S) (e : Expr) (R : D → C.S → Prop) : Prop := EvT C ρ φ (eval e C.env) R
def EVs (C : Cx) (ρ : List (Str × D)) (φ : C.S) (es : List Expr) (R : List D → C.S → Prop) : Prop :=
  ∀ (s : Shared) (pos : Pos) (Q : List Value → Shared → Prop) (E : Value → Shared → Prop), St C ρ s.heap → C.In φ s.heap →
    (∀ ds φ' vs h' tk, R ds φ' → C.Stay s.heap h' → C.In φ' h' → IsAll C.W h' vs ds → Q vs { s with heap := h', toks := tk }) → wpAny (model C.prog C.w) C.A (spliced (backTo pos (starEach es C.env))) Q E s
/-- a test -/
def TR (C : Cx) (ρ : List (Str × D)) (φ : C.S) (e : Expr) (R : Bool → C.S → Prop) : Prop :=
  ∀ (s : Shared) (Q : Bool → Shared → Prop) (E : Value → Shared → Prop), St C ρ s.heap → C.In φ s.heap →
    (∀ b φ' h' tk, R b φ' → C.Stay s.heap h' → C.In φ' h' → Q b { s with heap := h', toks := tk }) → wpAny (model C.prog C.w) C.A (isTrue e C.env (eval e C.env)) Q E s
/-- an operation on values -/
def OP (C : Cx) (φ : C.S) (t : List Value → Sem Value) (ds : List D) (R : D → C.S → Prop) : Prop :=
  ∀ (s : Shared) (vs : List Value) (Q : Value → Shared → Prop) (E : Value → Shared → Prop), C.Live s.heap → C.In φ s.heap → IsAll C.W s.heap vs ds →
    (∀ d φ' v h' tk, R d φ' → C.Stay s.heap h' → C.In φ' h' → Is C.W h' v d → Q v { s with heap := h', toks := tk }) → wpAny (model C.prog C.w) C.A (t vs) Q E s

inductive Out (S : Type) where
  | next (ρ : List (Str × D)) (φ : S)
  | ret (d : D) (φ : S)
def EXT (C : Cx) (ρ : List (Str × D)) (φ : C.S) (t : Sem Flow) (R : Out C.S → Prop) : Prop :=
  ∀ (s : Shared) (Q : Flow → Shared → Prop) (E : Value → Shared → Prop), St C ρ s.heap → C.In φ s.heap →
    (∀ ρ' φ' h' tk, R (.next ρ' φ') → C.StayO s.heap h' → St C ρ' h' → C.In φ' h' → Q .next { s with heap := h', toks := tk }) →
    (∀ d φ' v h' tk, R (.ret d φ') → C.StayO s.heap h' → C.Live h' → C.In φ' h' → Is C.W h' v d → Q (.ret v) { s with heap := h', toks := tk }) → wpAny (model C.prog C.w) C.A t Q E s
def EX (C : Cx) (ρ : List (Str × D)) (φ : C.S) (ss : List Stmt) (R : Out C.S → Prop) : Prop := EXT C ρ φ (execs ss C.env) R
def EX1 (C : Cx) (ρ : List (Str × D)) (φ : C.S) (st : Stmt) (R : Out C.S → Prop) : Prop := EXT C ρ φ (exec st C.env) R

mutual
/-- data that the text's own heap holds -/
inductive GIs (K : Frag) : Value → D → Prop
  | none : GIs K Value.none D.none
  | bool (b : Bool) : GIs K (Value.bool b) (D.bool b)
  | int (i : Int) (t : Tok) : GIs K (Value.int i t) (D.int i)
  | str (x : Str) (t : Tok) : GIs K (Value.str x t) (D.str x)
  | tup {a : Addr} {vs : List Value} {ds : List D} {n : Nat} {dd : Option Addr} {sl : Array (Option Value)} : K.lookup a = some ⟨.type "tuple", dd, .seq vs.toArray n, sl⟩ → GAll K vs ds → GIs K (.ref a) (.tup ds)
  | ref (a : Addr) : GIs K (Value.ref a) (D.ref a)
inductive GAll (K : Frag) : List Value → List D → Prop
  | nil : GAll K [] []
  | cons {v : Value} {vs : List Value} {d : D} {ds : List D} : GIs K v d → GAll K vs ds → GAll K (v :: vs) (d :: ds)
end
section
variable {C : Cx} {h : Heap}
theorem GIs.tupIs (ok : C.Ok) (l : C.Live h) {a : Addr} {vs : List Value} {ds : List D} {n : Nat} {dd : Option Addr} {sl : Array (Option Value)} (e : C.K.lookup a = some ⟨.type "tuple", dd, .seq vs.toArray n, sl⟩) (r : IsAll C.W h vs ds) : Is C.W h (.ref a) (.tup ds) := .tup ⟨_, l.base _ _ (ok.base.K _ _ e), rfl, _, rfl⟩ (fun m => ok.wb _ _ m (ok.base.K _ _ e)) r
theorem GIs.is (ok : C.Ok) (l : C.Live h) {v : Value} {d : D} (x : GIs C.K v d) : Is C.W h v d :=
  GIs.rec (motive_1 := fun v d _ => Is C.W h v d) (motive_2 := fun vs ds _ => IsAll C.W h vs ds) .none .bool .int .str (fun e _ r => GIs.tupIs ok l e r) .ref .nil (fun _ _ i j => .cons i j) x
end
section
variable {C : Cx} {ρ : List (Str × D)} {φ : C.S}
theorem EV.mono {e : Expr} {R R' : D → C.S → Prop} (h : EV C ρ φ e R) (k : ∀ d φ', R d φ' → R' d φ') : EV C ρ φ e R' :=
  fun s Q E st i q => h s Q E st i fun d φ' v h' tk r => q d φ' v h' tk (k d φ' r)
theorem TR.mono {e : Expr} {R R' : Bool → C.S → Prop} (h : TR C ρ φ e R) (k : ∀ d φ', R d φ' → R' d φ') : TR C ρ φ e R' :=
  fun s Q E st i q => h s Q E st i fun d φ' h' tk r => q d φ' h' tk (k d φ' r)
theorem OP.mono {t : List Value → Sem Value} {ds : List D} {R R' : D → C.S → Prop} (h : OP C φ t ds R) (k : ∀ d φ', R d φ' → R' d φ') : OP C φ t ds R' :=
  fun s vs Q E st i a q => h s vs Q E st i a fun d φ' v h' tk r => q d φ' v h' tk (k d φ' r)
theorem EX.mono {ss : List Stmt} {R R' : Out C.S → Prop} (h : EX C ρ φ ss R) (k : ∀ o, R o → R' o) : EX C ρ φ ss R' :=
  fun s Q E st i q1 q2 => h s Q E st i (fun ρ' φ' h' tk r => q1 ρ' φ' h' tk (k _ r)) fun d φ' v h' tk r => q2 d φ' v h' tk (k _ r)

theorem EV_none {k pos} {R : D → C.S → Prop} (r : R .none φ) : EV C ρ φ (.Constant .none k pos) R :=
  fun s Q E _ i q => wpAny_Constant_none (q .none φ .none s.heap s.toks r (.refl _ _) i .none)
theorem EV_bool {b k pos} {R : D → C.S → Prop} (r : R (.bool b) φ) : EV C ρ φ (.Constant (.bool b) k pos) R :=
  fun s Q E _ i q => wpAny_Constant_bool (q _ φ _ s.heap s.toks r (.refl _ _) i (.bool b))
theorem EV_int {n k pos} {R : D → C.S → Prop} (r : R (.int n) φ) : EV C ρ φ (.Constant (.int n) k pos) R :=
  fun s Q E _ i q => wpAny_Constant_int (q _ φ _ s.heap _ r (.refl _ _) i (.int n _))
theorem EV_str {x k pos} {R : D → C.S → Prop} (r : R (.str x) φ) : EV C ρ φ (.Constant (.str x) k pos) R :=
  fun s Q E _ i q => wpAny_Constant_str (q _ φ _ s.heap _ r (.refl _ _) i (.str x _))

theorem EV_name (ok : C.Ok) {x : Str} {pos : Pos} {d : D} {R : D → C.S → Prop} (hx : ρ.lookup x = some d) (hk : (C.env.kindOf x = some .local ∨ C.env.kindOf x = some .cell ∨ C.env.kindOf x = some .free)) (r : R d φ)
    (hd : (x == ("__debug__" : Str)) = false := by rfl) (hn : (x == ("__classdict__" : Str)) = false := by rfl) : EV C ρ φ (.Name x pos) R := fun s Q E st i q => by
  refine wpAny_Name ?_ hd
  rcases hk with hk | hk | hk
  · obtain ⟨m, hm, hr⟩ := st.loc
    obtain ⟨v, hv, hi⟩ := hr x d hx hk
    exact wpAny_loadName_local ok.kind hk hm hv (q d φ v s.heap s.toks r (.refl _ _) i hi)
  · obtain ⟨c, v, hc, hv, hi⟩ := st.cel x d hx (.inl hk)
    exact wpAny_loadName_cell ok.kind hk hc hv (q d φ v s.heap s.toks r (.refl _ _) i hi)
  · obtain ⟨c, v, hc, hv, hi⟩ := st.cel x d hx (.inr hk)
    exact wpAny_loadName_free ok.kind hk hc hv (q d φ v s.heap s.toks r (.refl _ _) i hi) hn

/-- a name of the module -/
theorem wp_glob (ok : C.Ok) {A : Around} {x : Str} {pos : Pos} {v : Value} {s : Shared} {Q : Value → Shared → Prop} {E : Value → Shared → Prop} (l : C.Live s.heap) (hk : C.env.kindOf x = some .globalImplicit) (e : nsIn C.K mainGlobals x = some (some v)) (q : Q v s)
    (hd : (x == ("__debug__" : Str)) = false) : wpAny (model C.prog C.w) A (eval (.Name x pos) C.env) Q E s := by
  obtain ⟨mg, hg⟩ := ok.base.g
  exact Name_function_global ok.kind hk (loadGlobal_global (mg := mg) (by rw [ok.eg]; exact hg.keeps l.base) (mg_of ok.base.K hg e) q) hd
theorem wp_blt (ok : C.Ok) {A : Around} {x : Str} {pos : Pos} {v : Value} {s : Shared} {Q : Value → Shared → Prop} {E : Value → Shared → Prop} (l : C.Live s.heap) (hk : C.env.kindOf x = some .globalImplicit) (e : nsIn C.K mainGlobals x = some none) (b : bootBuiltins x = some v) (hn : x ≠ "__name__") (q : Q v s)
    (hd : (x == ("__debug__" : Str)) = false) : wpAny (model C.prog C.w) A (eval (.Name x pos) C.env) Q E s := by
  obtain ⟨mg, hg⟩ := ok.base.g
  obtain ⟨mb, hb, hbb⟩ := ok.base.b
  exact Name_function_global ok.kind hk (loadGlobal_builtin (mg := mg) (mb := mb) (by rw [ok.eg]; exact hg.keeps l.base) (mg_none_of ok.base.K hg e) (by rw [ok.eb]; exact hb.keeps l.base) ((hbb x hn).trans b) q) hd

theorem EVs_nil {R : List D → C.S → Prop} (r : R [] φ) : EVs C ρ φ [] R := fun s pos Q E _ i q => wpAny_items_nil (q [] φ [] s.heap s.toks r (.refl _ _) i .nil)
theorem EVs_cons (ok : C.Ok) {e : Expr} {es : List Expr} {R : List D → C.S → Prop} (h : EV C ρ φ e fun d φ₁ => EVs C ρ φ₁ es fun ds φ₂ => R (d :: ds) φ₂)
    (hs : starEach (e :: es) C.env = (false, eval e C.env) :: starEach es C.env := by rfl) : EVs C ρ φ (e :: es) R := fun s pos Q E st i q => by
  refine wpAny_items_cons (h s _ _ st i fun d φ₁ v h₁ tk r₁ a₁ i₁ v₁ => ?_) hs
  refine r₁ _ _ _ _ (st.stay ok a₁ i₁) i₁ fun ds φ₂ vs h₂ tk₂ r₂ a₂ i₂ v₂ => ?_
  exact q _ _ _ _ _ r₂ (a₁.trans a₂) i₂ (.cons (v₁.keep (a₂.keep ok)) v₂)

/-- a new tuple or list -/
theorem OP_tuple (ok : C.Ok) {ds : List D} {R : D → C.S → Prop} (r : R (.tup ds) φ) (hz : ds.length ≤ sizeLine := by size_fits) : OP C φ newTuple ds R := fun s vs Q E l i a q => by
  have hk : ∀ b o, s.heap.get? b = some o → (s.heap.push { cls := .type "tuple", data := .seq vs.toArray }).get? b = some o := fun b o e => Heap.get?_push_of_some _ e
  refine wpAny_newObj_type (q _ φ _ _ s.toks r (.all hk) (ok.ikeep _ _ _ i fun b o e _ => hk b o e) (.tup ⟨_, Heap.get?_push_size _ rfl, rfl, _, rfl⟩ (l.fresh (get_size _)) (a.keep (.all hk)))) ?_
  show vs.toArray.size ≤ sizeLine
  rw [List.size_toArray, a.length]; exact hz
theorem OP_list (ok : C.Ok) {ds : List D} {R : D → C.S → Prop} (r : R (.lst ds) φ) (hz : ds.length ≤ sizeLine := by size_fits) : OP C φ newList ds R := fun s vs Q E l i a q => by
  have hk : ∀ b o, s.heap.get? b = some o → (s.heap.push { cls := .type "list", data := .seq vs.toArray }).get? b = some o := fun b o e => Heap.get?_push_of_some _ e
  refine wpAny_newObj_type (q _ φ _ _ s.toks r (.all hk) (ok.ikeep _ _ _ i fun b o e _ => hk b o e) (.lst ⟨_, Heap.get?_push_size _ rfl, rfl, _, rfl⟩ (l.fresh (get_size _)) (a.keep (.all hk)))) ?_
  show vs.toArray.size ≤ sizeLine
  rw [List.size_toArray, a.length]; exact hz
theorem EV_Tuple (ok : C.Ok) {elts : List Expr} {k : Nat} {pos : Pos} {R : D → C.S → Prop} (h : EVs C ρ φ elts fun ds φ₁ => ds.length ≤ sizeLine ∧ R (.tup ds) φ₁) : EV C ρ φ (.Tuple elts k pos) R := fun s Q E st i q => by
  refine Tuple_ (h s _ _ _ st i fun ds φ₁ vs h₁ tk r₁ a₁ i₁ v₁ => ?_)
  exact OP_tuple ok r₁.2 r₁.1 _ _ _ _ (st.toLive.stay ok a₁ i₁) i₁ v₁ fun d φ' v h' tk' r a i' v' => q _ _ _ _ _ r (a₁.trans a) i' v'
theorem EV_List (ok : C.Ok) {elts : List Expr} {pos : Pos} {R : D → C.S → Prop} (h : EVs C ρ φ elts fun ds φ₁ => ds.length ≤ sizeLine ∧ R (.lst ds) φ₁) : EV C ρ φ (.List elts pos) R := fun s Q E st i q => by
  refine List_ (h s _ _ _ st i fun ds φ₁ vs h₁ tk r₁ a₁ i₁ v₁ => ?_)
  exact OP_list ok r₁.2 r₁.1 _ _ _ _ (st.toLive.stay ok a₁ i₁) i₁ v₁ fun d φ' v h' tk' r a i' v' => q _ _ _ _ _ r (a₁.trans a) i' v'

/-- two values, then an operation -/
theorem EV_BinOp (ok : C.Ok) {a b : Expr} {op : Operator} {pos : Pos} {R : D → C.S → Prop} (h : EV C ρ φ a fun d₁ φ₁ => EV C ρ φ₁ b fun d₂ φ₂ => OP C φ₂ (fun vs => binaryOp op (vs.getD 0 .none) (vs.getD 1 .none)) [d₁, d₂] R) :
    EV C ρ φ (.BinOp a op b pos) R := fun s Q E st i q => by
  refine wpAny_BinOp (h s _ _ st i fun d₁ φ₁ v₁ h₁ tk₁ r₁ a₁ i₁ x₁ => ?_)
  refine r₁ _ _ _ (st.stay ok a₁ i₁) i₁ fun d₂ φ₂ v₂ h₂ tk₂ r₂ a₂ i₂ x₂ => ?_
  exact r₂ _ [v₁, v₂] _ _ ((st.stay ok a₁ i₁).toLive.stay ok a₂ i₂) i₂ (.cons (x₁.keep (a₂.keep ok)) (.cons x₂ .nil)) fun d φ' v h' tk' r a i' v' => q _ _ _ _ _ r ((a₁.trans a₂).trans a) i' v'
theorem EV_Compare (ok : C.Ok) {a b : Expr} {op : CmpOp} {pos : Pos} {R : D → C.S → Prop} (h : EV C ρ φ a fun d₁ φ₁ => EV C ρ φ₁ b fun d₂ φ₂ => OP C φ₂ (fun vs => compareOp op (vs.getD 0 .none) (vs.getD 1 .none)) [d₁, d₂] R)
    (hm : behindInMarks op b = false := by rfl) : EV C ρ φ (.Compare a [op] [b] pos) R := fun s Q E st i q => by
  refine wpAny_Compare1 (h s _ _ st i fun d₁ φ₁ v₁ h₁ tk₁ r₁ a₁ i₁ x₁ => ?_) hm
  refine r₁ _ _ _ (st.stay ok a₁ i₁) i₁ fun d₂ φ₂ v₂ h₂ tk₂ r₂ a₂ i₂ x₂ => ?_
  exact r₂ _ [v₁, v₂] _ _ ((st.stay ok a₁ i₁).toLive.stay ok a₂ i₂) i₂ (.cons (x₁.keep (a₂.keep ok)) (.cons x₂ .nil)) fun d φ' v h' tk' r a i' v' => q _ _ _ _ _ r ((a₁.trans a₂).trans a) i' v'
end
end Mine
end
section
open PySem PySem.W PyProof.Rows PySem.Calls
namespace Mine
section
variable {C : Cx} {ρ : List (Str × D)} {φ : C.S}

theorem EV_gname (ok : C.Ok) {x : Str} {pos : Pos} {v : Value} {d : D} {R : D → C.S → Prop} (e : nsIn C.K mainGlobals x = some (some v)) (g : GIs C.K v d) (hk : C.env.kindOf x = some .globalImplicit) (r : R d φ)
    (hd : (x == ("__debug__" : Str)) = false := by rfl) : EV C ρ φ (.Name x pos) R := fun s Q E st i q =>
  wp_glob ok st.toLive hk e (q d φ v s.heap s.toks r (.refl _ _) i (g.is ok st.toLive)) hd
/-- a built-in class by its name -/
theorem EV_type (ok : C.Ok) {x : Str} {pos : Pos} {T : String} {R : D → C.S → Prop} (e : nsIn C.K mainGlobals x = some none) (b : bootBuiltins x = some (.type T)) (hn : x ≠ "__name__") (hk : C.env.kindOf x = some .globalImplicit) (r : R (.typ T) φ)
    (hd : (x == ("__debug__" : Str)) = false := by rfl) : EV C ρ φ (.Name x pos) R := fun s Q E st i q =>
  wp_blt ok st.toLive hk e b hn (q _ φ _ s.heap s.toks r (.refl _ _) i (.typ T)) hd

theorem EV_call_def (ok : C.Ok) {x : Str} {px pos : Pos} {f : Addr} {oc : Value} {od : Option Addr} {fd : FuncData} {sl : Array (Option Value)} {e : Expr} {es : List Expr} {R : D → C.S → Prop}
    (hx : nsIn C.K mainGlobals x = some (some (.ref f))) (hf : C.K.lookup f = some ⟨oc, od, .func fd, sl⟩) (hk : C.env.kindOf x = some .globalImplicit)
    (h : EVs C ρ φ (e :: es) fun ds φ₁ => OP C φ₁ (fun vs => call (.ref f) vs) ds R)
    (hd : (x == ("__debug__" : Str)) = false := by rfl) (hs : starEach (e :: es) C.env = (false, eval e C.env) :: starEach es C.env := by rfl)
    (hc : ∀ env, eval (.Call (.Name x px) (e :: es) [] pos) env = (do callWith pos (← eval (.Name x px) env) [] (backTo pos (starEach (e :: es) env)) (backToKw pos (keywordEach [] env))) := by intro _; rfl) :
    EV C ρ φ (.Call (.Name x px) (e :: es) [] pos) R := fun s Q E st i q => by
  have ho := ok.base.K _ _ hf
  refine Call_ (wp_glob ok st.toLive hk hx ?_ hd) (hc _)
  refine callWith_def_at (h' := C.B) ho rfl (h s _ _ _ st i fun ds φ₁ vs h₁ tk r a i₁ v => ?_) hs
  have l := st.toLive.stay ok a i₁
  exact ⟨l.base _ _ ho, r _ _ _ _ l i₁ v fun d φ' v' h' tk' r' a' i' v'' => q _ _ _ _ _ r' (a.trans a') i' v''⟩
theorem EV_call_blt (ok : C.Ok) {x : Str} {px pos : Pos} {id : String} {e : Expr} {es : List Expr} {R : D → C.S → Prop}
    (hx : nsIn C.K mainGlobals x = some none) (b : bootBuiltins x = some (.builtin id)) (hn : x ≠ "__name__") (hk : C.env.kindOf x = some .globalImplicit)
    (h : EVs C ρ φ (e :: es) fun ds φ₁ => OP C φ₁ (fun vs => call (.builtin id) vs) ds R)
    (hd : (x == ("__debug__" : Str)) = false := by rfl) (hs : starEach (e :: es) C.env = (false, eval e C.env) :: starEach es C.env := by rfl)
    (ha : ∀ env pos, ((backTo pos (starEach es env)).any fun x => x.1) = false := by intro _ _; rfl)
    (hc : ∀ env, eval (.Call (.Name x px) (e :: es) [] pos) env = (do callWith pos (← eval (.Name x px) env) [] (backTo pos (starEach (e :: es) env)) (backToKw pos (keywordEach [] env))) := by intro _; rfl) :
    EV C ρ φ (.Call (.Name x px) (e :: es) [] pos) R := fun s Q E st i q => by
  refine Call_ (wp_blt ok st.toLive hk hx b hn ?_ hd) (hc _)
  refine PyProof.Rows.callWith_builtin1 (h s _ _ _ st i fun ds φ₁ vs h₁ tk r a i₁ v => ?_) hs (ha _ _)
  exact r _ _ _ _ (st.toLive.stay ok a i₁) i₁ v fun d φ' v' h' tk' r' a' i' v'' => q _ _ _ _ _ r' (a.trans a') i' v''
theorem EV_call_type (ok : C.Ok) {x : Str} {px pos : Pos} {T : String} {e : Expr} {es : List Expr} {R : D → C.S → Prop}
    (hx : nsIn C.K mainGlobals x = some none) (b : bootBuiltins x = some (.type T)) (hn : x ≠ "__name__") (hk : C.env.kindOf x = some .globalImplicit)
    (h : EVs C ρ φ (e :: es) fun ds φ₁ => OP C φ₁ (fun vs => call (.type T) vs) ds R)
    (hd : (x == ("__debug__" : Str)) = false := by rfl) (hs : starEach (e :: es) C.env = (false, eval e C.env) :: starEach es C.env := by rfl)
    (ha : ∀ env pos, ((backTo pos (starEach es env)).any fun x => x.1) = false := by intro _ _; rfl)
    (hc : ∀ env, eval (.Call (.Name x px) (e :: es) [] pos) env = (do callWith pos (← eval (.Name x px) env) [] (backTo pos (starEach (e :: es) env)) (backToKw pos (keywordEach [] env))) := by intro _; rfl) :
    EV C ρ φ (.Call (.Name x px) (e :: es) [] pos) R := fun s Q E st i q => by
  refine Call_ (wp_blt ok st.toLive hk hx b hn ?_ hd) (hc _)
  refine PyProof.Rows.callWith_type1 (h s _ _ _ st i fun ds φ₁ vs h₁ tk r a i₁ v => ?_) hs (ha _ _)
  exact r _ _ _ _ (st.toLive.stay ok a i₁) i₁ v fun d φ' v' h' tk' r' a' i' v'' => q _ _ _ _ _ r' (a.trans a') i' v''

/-! tests -/
theorem TR_plain {e : Expr} {R : Bool → C.S → Prop} (h : EV C ρ φ e fun d φ₁ => ∃ b, d = .bool b ∧ R b φ₁)
    (hp : ∀ env, isTrue e env (eval e env) = (do let v ← eval e env; standAt e.pos; holding [v] (truthy v)) := by intro _; rfl) : TR C ρ φ e R := fun s Q E st i q =>
  isTrue_plain (h s _ _ st i fun d φ₁ v h₁ tk r a₁ i₁ x => Exists.elim r fun b r => Is.bool_q x r.1 (wpAny_truthy_bool (q b φ₁ h₁ tk r.2 a₁ i₁))) (hp _)
theorem TR_compare (ok : C.Ok) {a b : Expr} {op : CmpOp} {pos : Pos} {R : Bool → C.S → Prop} (h : EV C ρ φ a fun d₁ φ₁ => EV C ρ φ₁ b fun d₂ φ₂ => OP C φ₂ (fun vs => compareOp op (vs.getD 0 .none) (vs.getD 1 .none)) [d₁, d₂] fun d φ₃ => ∃ b, d = .bool b ∧ R b φ₃)
    (hm : behindInMarks op b = false := by rfl) : TR C ρ φ (.Compare a [op] [b] pos) R := fun s Q E st i q =>
  wpAny_isTrue_Compare1 (h s _ _ st i fun d₁ φ₁ v₁ h₁ tk₁ r₁ a₁ i₁ x₁ => r₁ _ _ _ (st.stay ok a₁ i₁) i₁ fun d₂ φ₂ v₂ h₂ tk₂ r₂ a₂ i₂ x₂ =>
    r₂ _ [v₁, v₂] _ _ ((st.stay ok a₁ i₁).toLive.stay ok a₂ i₂) i₂ (.cons (x₁.keep (a₂.keep ok)) (.cons x₂ .nil)) fun d φ' v h' tk' r a i' v' => Exists.elim r fun b r => Is.bool_q v' r.1 (wpAny_truthy_bool (q b φ' h' tk' r.2 ((a₁.trans a₂).trans a) i'))) hm
theorem TR_not {x : Expr} {pos : Pos} {R : Bool → C.S → Prop} (h : TR C ρ φ x fun b φ₁ => R (!b) φ₁) : TR C ρ φ (.UnaryOp .Not x pos) R := fun s Q E st i q =>
  wpAny_isTrue_Not (h s _ _ st i fun b φ₁ h₁ tk r a i₁ => q (!b) φ₁ h₁ tk r a i₁)
def ALLT (C : Cx) (ρ : List (Str × D)) (φ : C.S) (op : BoolOp) (es : List Expr) (R : Bool → C.S → Prop) : Prop :=
  ∀ (s : Shared) (Q : Bool → Shared → Prop) (E : Value → Shared → Prop), St C ρ s.heap → C.In φ s.heap →
    (∀ b φ' h' tk, R b φ' → C.Stay s.heap h' → C.In φ' h' → Q b { s with heap := h', toks := tk }) → wpAny (model C.prog C.w) C.A (allTrue op es C.env) Q E s
theorem TR_bool {op : BoolOp} {es : List Expr} {pos : Pos} {R : Bool → C.S → Prop} (h : ALLT C ρ φ op es R) : TR C ρ φ (.BoolOp op es pos) R := fun s Q E st i q => wpAny_isTrue_BoolOp (h s Q E st i q)
theorem ALLT_or (ok : C.Ok) {e : Expr} {es : List Expr} {R : Bool → C.S → Prop} (h : TR C ρ φ e fun b φ₁ => if b = true then R true φ₁ else ALLT C ρ φ₁ .Or es R) : ALLT C ρ φ .Or (e :: es) R := fun s Q E st i q => by
  refine wpAny_allTrue_Or_cons (h s _ _ st i fun b φ₁ h₁ tk r a i₁ => ?_)
  dsimp only at r
  split
  · rename_i hb; rw [if_pos hb] at r; exact q _ _ _ _ r a i₁
  · rename_i hb; rw [if_neg hb] at r; exact r _ _ _ (st.stay ok a i₁) i₁ fun b' φ₂ h₂ tk₂ r₂ a₂ i₂ => q _ _ _ _ r₂ (a.trans a₂) i₂
theorem ALLT_and (ok : C.Ok) {e : Expr} {es : List Expr} {R : Bool → C.S → Prop} (h : TR C ρ φ e fun b φ₁ => if b = true then ALLT C ρ φ₁ .And es R else R false φ₁) : ALLT C ρ φ .And (e :: es) R := fun s Q E st i q => by
  refine wpAny_allTrue_And_cons (h s _ _ st i fun b φ₁ h₁ tk r a i₁ => ?_)
  dsimp only at r
  split
  · rename_i hb; rw [if_pos hb] at r; exact r _ _ _ (st.stay ok a i₁) i₁ fun b' φ₂ h₂ tk₂ r₂ a₂ i₂ => q _ _ _ _ r₂ (a.trans a₂) i₂
  · rename_i hb; rw [if_neg hb] at r; exact q _ _ _ _ r a i₁
theorem ALLT_or_nil {R : Bool → C.S → Prop} (r : R false φ) : ALLT C ρ φ .Or [] R := fun s Q E st i q => wpAny_allTrue_Or_nil (q _ φ s.heap s.toks r (.refl _ _) i)
theorem ALLT_and_nil {R : Bool → C.S → Prop} (r : R true φ) : ALLT C ρ φ .And [] R := fun s Q E st i q => wpAny_allTrue_And_nil (q _ φ s.heap s.toks r (.refl _ _) i)

/-! and, or, not, if as values; all of bools -/
theorem EV_one {op : BoolOp} {e : Expr} {pos : Pos} {R : D → C.S → Prop} (h : EV C ρ φ e R) : EV C ρ φ (.BoolOp op [e] pos) R := fun s Q E st i q => BoolOp_one (h s Q E st i q)
theorem EV_and (ok : C.Ok) {e₁ e₂ : Expr} {es : List Expr} {pos : Pos} {R : D → C.S → Prop} (h : EV C ρ φ e₁ fun d φ₁ => ∃ b, d = .bool b ∧ if b = true then EV C ρ φ₁ (.BoolOp .And (e₂ :: es) pos) R else R (.bool false) φ₁) :
    EV C ρ φ (.BoolOp .And (e₁ :: e₂ :: es) pos) R := fun s Q E st i q => by
  refine BoolOp_and (h s _ _ st i fun d φ₁ v h₁ tk r a i₁ x => Exists.elim r fun b r => Is.bool_q x r.1 (wpAny_truthy_bool ?_))
  have r := r.2
  cases b with
  | true => exact r _ _ _ (st.stay ok a i₁) i₁ fun d φ' v h' tk' r' a' i' v' => q _ _ _ _ _ r' (a.trans a') i' v'
  | false => exact q _ _ _ _ _ r a i₁ (.bool false)
theorem EV_not {x : Expr} {pos : Pos} {R : D → C.S → Prop} (h : EV C ρ φ x fun d φ₁ => ∃ b, d = .bool b ∧ R (.bool !b) φ₁) : EV C ρ φ (.UnaryOp .Not x pos) R := fun s Q E st i q => by
  exact wpAny_UnaryOp (h s _ _ st i fun d φ₁ v h₁ tk r a i₁ x => Exists.elim r fun b r => Is.bool_q x r.1 (not_of (wpAny_truthy_bool (q _ _ _ _ _ r.2 a i₁ (.bool _)))))
theorem EV_neg {x : Expr} {pos : Pos} {R : D → C.S → Prop} (h : EV C ρ φ x fun d φ₁ => ∃ n, d = .int n ∧ R (.int (-n)) φ₁) : EV C ρ φ (.UnaryOp .USub x pos) R := fun s Q E st i q => by
  exact wpAny_UnaryOp (h s _ _ st i fun d φ₁ v h₁ tk r a i₁ x => Exists.elim r fun n r => Is.int_q x r.1 fun t => neg_int (q _ _ _ _ _ r.2 a i₁ (.int _ _)))
theorem EV_if (ok : C.Ok) {t b o : Expr} {pos : Pos} {R : D → C.S → Prop} (h : TR C ρ φ t fun c φ₁ => if c = true then EV C ρ φ₁ b R else EV C ρ φ₁ o R) : EV C ρ φ (.IfExp t b o pos) R := fun s Q E st i q => by
  refine wpAny_IfExp (h s _ _ st i fun c φ₁ h₁ tk r a i₁ => ?_)
  dsimp only at r
  split
  · rename_i hb; rw [if_pos hb] at r; exact r _ _ _ (st.stay ok a i₁) i₁ fun d φ' v h' tk' r' a' i' v' => q _ _ _ _ _ r' (a.trans a') i' v'
  · rename_i hb; rw [if_neg hb] at r; exact r _ _ _ (st.stay ok a i₁) i₁ fun d φ' v h' tk' r' a' i' v' => q _ _ _ _ _ r' (a.trans a') i' v'
/-- a chain of two -/
theorem EV_chain (ok : C.Ok) {a b c : Expr} {o₁ o₂ : CmpOp} {pos : Pos} {R : D → C.S → Prop}
    (h : EV C ρ φ a fun d₁ φ₁ => EV C ρ φ₁ b fun d₂ φ₂ => OP C φ₂ (fun vs => compareOp o₁ (vs.getD 0 .none) (vs.getD 1 .none)) [d₁, d₂] fun d φ₃ => ∃ t, d = .bool t ∧ if t = true then
      EV C ρ φ₃ c fun d₃ φ₄ => OP C φ₄ (fun vs => compareOp o₂ (vs.getD 0 .none) (vs.getD 1 .none)) [d₂, d₃] R else R (.bool false) φ₃)
    (hm : lastMarks [o₁, o₂] [b, c] = false := by rfl) : EV C ρ φ (.Compare a [o₁, o₂] [b, c] pos) R := fun s Q E st i q => by
  refine Compare_chain (h s _ _ st i fun d₁ φ₁ v₁ h₁ tk₁ r₁ a₁ i₁ x₁ => ?_) hm
  have st₁ := st.stay ok a₁ i₁
  refine chain_link (r₁ _ _ _ st₁ i₁ fun d₂ φ₂ v₂ h₂ tk₂ r₂ a₂ i₂ x₂ => ?_)
  have st₂ := st₁.stay ok a₂ i₂
  refine r₂ _ [v₁, v₂] _ _ st₂.toLive i₂ (.cons (x₁.keep (a₂.keep ok)) (.cons x₂ .nil)) fun d φ₃ v h₃ tk₃ r a₃ i₃ x₃ => Exists.elim r fun t r => Is.bool_q x₃ r.1 (wpAny_truthy_bool ?_)
  have r := r.2
  have st₃ := st₂.stay ok a₃ i₃
  cases t with
  | false => exact q _ _ _ _ _ r ((a₁.trans a₂).trans a₃) i₃ (.bool false)
  | true =>
    refine chain_last (r _ _ _ st₃ i₃ fun d₃ φ₄ v₃ h₄ tk₄ r₄ a₄ i₄ x₄ => ?_)
    exact r₄ _ [v₂, v₃] _ _ (st₃.toLive.stay ok a₄ i₄) i₄ (.cons (x₂.keep ((a₃.trans a₄).keep ok)) (.cons x₄ .nil)) fun d φ' v h' tk' r a i' v' => q _ _ _ _ _ r ((((a₁.trans a₂).trans a₃).trans a₄).trans a) i' v'

/-! ints, strs, bools -/
/-- an operation whose answer is a plain value -/
theorem OP_lit {f : List Value → Sem Value} {ds : List D} {z : D} {R : D → C.S → Prop} (zv : Tok → Value) (hz : ∀ h t, Is C.W h (zv t) z) (k : ∀ (vs : List Value) (s : Shared) (Q : Value → Shared → Prop) (E : Value → Shared → Prop), IsAll C.W s.heap vs ds → (∀ t tk, Q (zv t) { s with toks := tk }) → wpAny (model C.prog C.w) C.A (f vs) Q E s) (r : R z φ) : OP C φ f ds R :=
  fun s vs Q E l i x q => k vs s Q E x fun t tk => q z φ _ s.heap tk r (.refl _ _) i (hz _ _)
@[elab_as_elim] theorem ints2 {W : Addr → Prop} {h : Heap} {vs : List Value} {a b : Int} (x : IsAll W h vs [.int a, .int b]) {P : List Value → Prop} (k : ∀ t u, P [.int a t, .int b u]) : P vs := IsAll.two_e x fun v u xv xu => Is.int_e xv fun t => Is.int_e xu fun u => k t u
@[elab_as_elim] theorem strs2 {W : Addr → Prop} {h : Heap} {vs : List Value} {a b : Str} (x : IsAll W h vs [.str a, .str b]) {P : List Value → Prop} (k : ∀ t u, P [.str a t, .str b u]) : P vs := IsAll.two_e x fun v u xv xu => Is.str_e xv fun t => Is.str_e xu fun u => k t u
theorem OP_add {a b : Int} {R : D → C.S → Prop} (r : R (.int (a + b)) φ) : OP C φ (fun vs => binaryOp .Add (vs.getD 0 .none) (vs.getD 1 .none)) [.int a, .int b] R := OP_lit (fun t => .int (a + b) t) (fun _ t => .int _ t) (fun vs s Q E x q => ints2 x fun t u => add_int (q _ _)) r
theorem OP_sub {a b : Int} {R : D → C.S → Prop} (r : R (.int (a - b)) φ) : OP C φ (fun vs => binaryOp .Sub (vs.getD 0 .none) (vs.getD 1 .none)) [.int a, .int b] R := OP_lit (fun t => .int (a - b) t) (fun _ t => .int _ t) (fun vs s Q E x q => ints2 x fun t u => sub_int (q _ _)) r
theorem OP_mul {a b : Int} {R : D → C.S → Prop} (m : IntMulOk a b) (r : R (.int (a * b)) φ) : OP C φ (fun vs => binaryOp .Mult (vs.getD 0 .none) (vs.getD 1 .none)) [.int a, .int b] R := OP_lit (fun t => .int (a * b) t) (fun _ t => .int _ t) (fun vs s Q E x q => ints2 x fun t u => mul_int (q _ _) m) r
theorem OP_mod {a b : Int} {R : D → C.S → Prop} (m : 0 < b) (r : R (.int (a % b)) φ) : OP C φ (fun vs => binaryOp .Mod (vs.getD 0 .none) (vs.getD 1 .none)) [.int a, .int b] R := OP_lit (fun t => .int (a % b) t) (fun _ t => .int _ t) (fun vs s Q E x q => ints2 x fun t u => mod_int' (Int.ne_of_gt m) (by rw [Int.fmod_eq_emod_of_nonneg _ (Int.le_of_lt m)]; exact q _ _)) r
theorem OP_eqi {a b : Int} {R : D → C.S → Prop} (r : R (.bool (a == b)) φ) : OP C φ (fun vs => compareOp .Eq (vs.getD 0 .none) (vs.getD 1 .none)) [.int a, .int b] R := OP_lit (fun _ => .bool (a == b)) (fun _ _ => .bool _) (fun vs s Q E x q => ints2 x fun t u => eq_int (q s.toks _)) r
theorem OP_nei {a b : Int} {R : D → C.S → Prop} (r : R (.bool (a != b)) φ) : OP C φ (fun vs => compareOp .NotEq (vs.getD 0 .none) (vs.getD 1 .none)) [.int a, .int b] R := OP_lit (fun _ => .bool (a != b)) (fun _ _ => .bool _) (fun vs s Q E x q => ints2 x fun t u => ne_int (q s.toks _)) r
theorem OP_lti {a b : Int} {R : D → C.S → Prop} (r : R (.bool (decide (a < b))) φ) : OP C φ (fun vs => compareOp .Lt (vs.getD 0 .none) (vs.getD 1 .none)) [.int a, .int b] R := OP_lit (fun _ => .bool (decide (a < b))) (fun _ _ => .bool _) (fun vs s Q E x q => ints2 x fun t u => lt_int (q s.toks _)) r
theorem OP_gti {a b : Int} {R : D → C.S → Prop} (r : R (.bool (decide (b < a))) φ) : OP C φ (fun vs => compareOp .Gt (vs.getD 0 .none) (vs.getD 1 .none)) [.int a, .int b] R := OP_lit (fun _ => .bool (decide (b < a))) (fun _ _ => .bool _) (fun vs s Q E x q => ints2 x fun t u => gt_int (q s.toks _)) r
theorem OP_lei {a b : Int} {R : D → C.S → Prop} (r : R (.bool (decide (a ≤ b))) φ) : OP C φ (fun vs => compareOp .LtE (vs.getD 0 .none) (vs.getD 1 .none)) [.int a, .int b] R := OP_lit (fun _ => .bool (decide (a ≤ b))) (fun _ _ => .bool _) (fun vs s Q E x q => ints2 x fun t u => le_int (q s.toks _)) r
theorem OP_eqs {a b : Str} {R : D → C.S → Prop} (r : R (.bool (a == b)) φ) : OP C φ (fun vs => compareOp .Eq (vs.getD 0 .none) (vs.getD 1 .none)) [.str a, .str b] R := OP_lit (fun _ => .bool (a == b)) (fun _ _ => .bool _) (fun vs s Q E x q => strs2 x fun t u => eq_str (q s.toks _)) r
theorem OP_nes {a b : Str} {R : D → C.S → Prop} (r : R (.bool (a != b)) φ) : OP C φ (fun vs => compareOp .NotEq (vs.getD 0 .none) (vs.getD 1 .none)) [.str a, .str b] R := OP_lit (fun _ => .bool (a != b)) (fun _ _ => .bool _) (fun vs s Q E x q => strs2 x fun t u => ne_str (q s.toks _)) r
theorem OP_neb {a b : Bool} {R : D → C.S → Prop} (r : R (.bool (a != b)) φ) : OP C φ (fun vs => compareOp .NotEq (vs.getD 0 .none) (vs.getD 1 .none)) [.bool a, .bool b] R := OP_lit (fun _ => .bool (a != b)) (fun _ _ => .bool _) (fun vs s Q E x q => IsAll.two_e x fun v u xv xu => Is.bool_e xv (Is.bool_e xu (ne_bool (q s.toks _)))) r
/-! isinstance -/
def isInt : D → Bool | .int _ => true | .bool _ => true | _ => false
def isBool : D → Bool | .bool _ => true | _ => false
def isTup : D → Bool | .tup _ => true | _ => false
def isStr : D → Bool | .str _ => true | _ => false
def plainD : D → Bool | .ref _ => false | .typ _ => false | _ => true
theorem OP_isi {T : String} {f : D → Bool} {d : D} {R : D → C.S → Prop} (p : plainD d = true)
    (cn : ∀ {s : Shared} {Q : Value → Shared → Prop} {E : Value → Shared → Prop}, (∀ tk, Q (.bool (f .none)) { s with toks := tk }) → wpAny (model C.prog C.w) C.A (call (.builtin "isinstance") [.none, .type T]) Q E s)
    (cb : ∀ {s : Shared} {Q : Value → Shared → Prop} {E : Value → Shared → Prop} b, (∀ tk, Q (.bool (f (.bool b))) { s with toks := tk }) → wpAny (model C.prog C.w) C.A (call (.builtin "isinstance") [.bool b, .type T]) Q E s)
    (ci : ∀ {s : Shared} {Q : Value → Shared → Prop} {E : Value → Shared → Prop} n t, (∀ tk, Q (.bool (f (.int n))) { s with toks := tk }) → wpAny (model C.prog C.w) C.A (call (.builtin "isinstance") [.int n t, .type T]) Q E s)
    (cs : ∀ {s : Shared} {Q : Value → Shared → Prop} {E : Value → Shared → Prop} n t, (∀ tk, Q (.bool (f (.str n))) { s with toks := tk }) → wpAny (model C.prog C.w) C.A (call (.builtin "isinstance") [.str n t, .type T]) Q E s)
    (ct : ∀ {s : Shared} {Q : Value → Shared → Prop} {E : Value → Shared → Prop} a o ds, s.heap.get? a = some o → o.cls = .type "tuple" → (∀ tk, Q (.bool (f (.tup ds))) { s with toks := tk }) → wpAny (model C.prog C.w) C.A (call (.builtin "isinstance") [.ref a, .type T]) Q E s)
    (cl : ∀ {s : Shared} {Q : Value → Shared → Prop} {E : Value → Shared → Prop} a o ds, s.heap.get? a = some o → o.cls = .type "list" → (∀ tk, Q (.bool (f (.lst ds))) { s with toks := tk }) → wpAny (model C.prog C.w) C.A (call (.builtin "isinstance") [.ref a, .type T]) Q E s)
    (r : R (.bool (f d)) φ) : OP C φ (fun vs => call (.builtin "isinstance") vs) [d, .typ T] R := OP_lit (fun _ => .bool (f d)) (fun _ _ => .bool _) (fun vs s Q E x q => IsAll.two_e x fun v u xv xu => Is.typ_e xu (by
  cases d with
  | none => exact Is.none_e xv (cn (q s.toks))
  | bool b => exact Is.bool_e xv (cb b (q s.toks))
  | int n => exact Is.int_e xv fun t => ci n t (q s.toks)
  | str n => exact Is.str_e xv fun t => cs n t (q s.toks)
  | tup ds => exact Is.tup_e xv fun a vs h _ _ => Exists.elim h fun o h => ct a o ds h.1 h.2.1 (q s.toks)
  | lst ds => exact Is.lst_e xv fun a vs h _ _ => Exists.elim h fun o h => cl a o ds h.1 h.2.1 (q s.toks)
  | ref a => cases p
  | typ a => cases p)) r
theorem OP_isint {d : D} {R : D → C.S → Prop} (p : plainD d = true) (r : R (.bool (isInt d)) φ) : OP C φ (fun vs => call (.builtin "isinstance") vs) [d, .typ "int"] R := OP_isi (f := isInt) p (fun q => IsiPair.NoneType_int (q _)) (fun _ q => IsiPair.bool_int (q _)) (fun _ _ q => IsiPair.int_int (q _)) (fun _ _ q => IsiPair.str_int (q _)) (fun _ _ _ h c q => IsiPair.tuple_int h c (q _)) (fun _ _ _ h c q => IsiPair.list_int h c (q _)) r
theorem OP_isbool {d : D} {R : D → C.S → Prop} (p : plainD d = true) (r : R (.bool (isBool d)) φ) : OP C φ (fun vs => call (.builtin "isinstance") vs) [d, .typ "bool"] R := OP_isi (f := isBool) p (fun q => IsiPair.NoneType_bool (q _)) (fun _ q => IsiPair.bool_bool (q _)) (fun _ _ q => IsiPair.int_bool (q _)) (fun _ _ q => IsiPair.str_bool (q _)) (fun _ _ _ h c q => IsiPair.tuple_bool h c (q _)) (fun _ _ _ h c q => IsiPair.list_bool h c (q _)) r
theorem OP_istup {d : D} {R : D → C.S → Prop} (p : plainD d = true) (r : R (.bool (isTup d)) φ) : OP C φ (fun vs => call (.builtin "isinstance") vs) [d, .typ "tuple"] R := OP_isi (f := isTup) p (fun q => IsiPair.NoneType_tuple (q _)) (fun _ q => IsiPair.bool_tuple (q _)) (fun _ _ q => IsiPair.int_tuple (q _)) (fun _ _ q => IsiPair.str_tuple (q _)) (fun _ _ _ h c q => IsiPair.tuple_tuple h c (q _)) (fun _ _ _ h c q => IsiPair.list_tuple h c (q _)) r
theorem OP_isstr {d : D} {R : D → C.S → Prop} (p : plainD d = true) (r : R (.bool (isStr d)) φ) : OP C φ (fun vs => call (.builtin "isinstance") vs) [d, .typ "str"] R := OP_isi (f := isStr) p (fun q => IsiPair.NoneType_str (q _)) (fun _ q => IsiPair.bool_str (q _)) (fun _ _ q => IsiPair.int_str (q _)) (fun _ _ q => IsiPair.str_str (q _)) (fun _ _ _ h c q => IsiPair.tuple_str h c (q _)) (fun _ _ _ h c q => IsiPair.list_str h c (q _)) r
end
end Mine
end
section
open PySem PySem.W PyProof.Rows PySem.Calls
set_option maxRecDepth 100000
namespace Mine
section
variable {C : Cx} {ρ : List (Str × D)} {φ : C.S}

/-! a new sequence -/
theorem gotT (ok : C.Ok) {h h' : Heap} {vs : List Value} {ds : List D} (l : C.Live h) (i : C.In φ h) {a : Addr} {c : Nat} {dd : Option Addr} {sl : Array (Option Value)} (hk : ∀ b o, h.get? b = some o → h'.get? b = some o) (hn : h.get? a = none) (hD : h'.get? a = some ⟨.type "tuple", dd, .seq vs.toArray c, sl⟩) (x : IsAll C.W h vs ds) :
    C.Stay h h' ∧ C.In φ h' ∧ Is C.W h' (.ref a) (.tup ds) := ⟨.all hk, ok.ikeep _ _ _ i fun b o e _ => hk b o e, .tup ⟨_, hD, rfl, _, rfl⟩ (l.fresh hn) (x.keep (.all hk))⟩
theorem gotL (ok : C.Ok) {h h' : Heap} {vs : List Value} {ds : List D} (l : C.Live h) (i : C.In φ h) {a : Addr} {c : Nat} {dd : Option Addr} {sl : Array (Option Value)} (hk : ∀ b o, h.get? b = some o → h'.get? b = some o) (hn : h.get? a = none) (hD : h'.get? a = some ⟨.type "list", dd, .seq vs.toArray c, sl⟩) (x : IsAll C.W h vs ds) :
    C.Stay h h' ∧ C.In φ h' ∧ Is C.W h' (.ref a) (.lst ds) := ⟨.all hk, ok.ikeep _ _ _ i fun b o e _ => hk b o e, .lst ⟨_, hD, rfl, _, rfl⟩ (l.fresh hn) (x.keep (.all hk))⟩
theorem newT (ok : C.Ok) {h : Heap} {vs : List Value} {ds : List D} (l : C.Live h) (i : C.In φ h) (x : IsAll C.W h vs ds) : C.Stay h (h.push { cls := .type "tuple", data := .seq vs.toArray }) ∧ C.In φ (h.push { cls := .type "tuple", data := .seq vs.toArray }) ∧ Is C.W (h.push { cls := .type "tuple", data := .seq vs.toArray }) (.ref h.objs.size) (.tup ds) := gotT ok l i (fun b o e => Heap.get?_push_of_some _ e) (get_size h) (Heap.get?_push_size _ rfl) x
theorem newL (ok : C.Ok) {h : Heap} {vs : List Value} {ds : List D} (l : C.Live h) (i : C.In φ h) (x : IsAll C.W h vs ds) : C.Stay h (h.push { cls := .type "list", data := .seq vs.toArray }) ∧ C.In φ (h.push { cls := .type "list", data := .seq vs.toArray }) ∧ Is C.W (h.push { cls := .type "list", data := .seq vs.toArray }) (.ref h.objs.size) (.lst ds) := gotL ok l i (fun b o e => Heap.get?_push_of_some _ e) (get_size h) (Heap.get?_push_size _ rfl) x
theorem none_of {h h' : Heap} {a : Addr} (hk : ∀ b o, h.get? b = some o → h'.get? b = some o) (hn : h'.get? a = none) : h.get? a = none := by
  cases e : h.get? a with
  | none => rfl
  | some o => rw [hk _ _ e] at hn; cases hn
/-! lengths -/
theorem size_all {W : Addr → Prop} {h : Heap} {vs : List Value} {ds : List D} (x : IsAll W h vs ds) : ((vs.toArray.size : Nat) : Int) = ds.length := by rw [List.size_toArray, x.length]
theorem OP_lenT {ds : List D} {R : D → C.S → Prop} (hz : ds.length < 2 ^ 62) (r : R (.int ds.length) φ) : OP C φ (fun vs => call (.builtin "len") vs) [.tup ds] R := OP_lit (fun t => .int ds.length t) (fun _ t => .int _ t) (fun vs s Q E x q => IsAll.one_e x fun v xv => Is.tup_e xv fun a us ht _ ha =>
  PyProof.Rows.len_tuple ht (by rw [size_all ha]; omega) (by rw [size_all ha]; exact q _ _)) r
theorem OP_lenS {x : Str} {R : D → C.S → Prop} (hz : x.length < 2 ^ 62) (r : R (.int x.length) φ) : OP C φ (fun vs => call (.builtin "len") vs) [.str x] R := OP_lit (fun t => .int x.length t) (fun _ t => .int _ t) (fun vs s Q E y q => IsAll.one_e y fun v xv => Is.str_e xv fun t => SBL.len (by omega) (q _ _)) r

/-! all of bools -/
theorem IsAll.bools {W : Addr → Prop} {h : Heap} {vs : List Value} {bs : List Bool} (x : IsAll W h vs (bs.map D.bool)) : LSm.BoolsAre vs bs := by
  induction bs generalizing vs with
  | nil => exact x.nil_e .nil
  | cons b bs ih => exact x.cons_e fun v r a k => Is.bool_e a (.cons _ (ih k))
theorem OP_all (ok : C.Ok) {bs : List Bool} {R : D → C.S → Prop} (r : R (.bool (bs.all id)) φ) : OP C φ (fun vs => call (.builtin "all") vs) [.lst (bs.map .bool)] R := fun s vs Q E l i x q => IsAll.one_e x fun v xv => Is.lst_e xv fun a us hl _ ha => by
  have hb := ha.bools
  have hlt : a < s.heap.objs.size := by obtain ⟨_, e, _⟩ := hl; exact Heap.lt_size e
  refine call_all_walk (wpAny_pyIter_list hl ?_)
  refine ⟨s.heap.objs.size, [s.heap.objs.size, a], [s.heap.objs.size], us.toArray.size, _, _, fun i => (bs[i]?).getD true, rfl, Walks.list (A := C.A.in1) ok.hh _ a (Nat.ne_of_lt hlt) us.toArray,
    ⟨⟨_, Heap.get?_push_size _ rfl, rfl, rfl⟩, hl.push _⟩, fun i v s' Q' E' hP hQ => ?_, fun h' tk hk => ?_⟩
  · obtain ⟨b, e, rfl⟩ := hb.get i v (by simpa using hP)
    simp only [e, Option.getD_some] at hQ
    exact wpAny_truthy_bool hQ
  · have hk' := LSm.kept_iter (s := s) hk
    have e : ((List.range us.toArray.size).all fun i => (bs[i]?).getD true) = bs.all id := by
      rw [List.size_toArray, hb.length]; exact LSm.range_all bs
    rw [e]
    exact q _ φ _ h' tk r (.all hk') (ok.ikeep _ _ _ i fun b o e _ => hk' b o e) (.bool _)

/-! tuple(list), list(tuple) -/
theorem OP_tupleOf (ok : C.Ok) {ds : List D} {R : D → C.S → Prop} (hz : ds.length ≤ sizeLine) (r : R (.tup ds) φ) : OP C φ (fun vs => call (.type "tuple") vs) [.lst ds] R := fun s vs Q E l i x q => IsAll.one_e x fun v xv => Is.lst_e xv fun a us hl _ ha =>
  call_tuple_list hl (fun h' hk => have g := gotT ok l i (fun b o e => Heap.get?_push_of_some _ (hk b o e)) (none_of hk (get_size h')) (Heap.get?_push_size _ rfl) ha; q _ φ _ _ s.toks r g.1 g.2.1 g.2.2) (by rw [List.size_toArray, ha.length]; exact hz)
theorem OP_listOfT (ok : C.Ok) {ds : List D} {R : D → C.S → Prop} (hz : ds.length ≤ sizeLine) (r : R (.lst ds) φ) : OP C φ (fun vs => call (.type "list") vs) [.tup ds] R := fun s vs Q E l i x q => IsAll.one_e x fun v xv => Is.tup_e xv fun a us hl _ ha => by
  obtain ⟨o, ho, hc, n, hd⟩ := hl
  exact call_list_seq a (.inr rfl) ho hc hd (fun h' c' hk hD => have g := gotL ok l i hk (get_size _) hD ha; q _ φ _ h' s.toks r g.1 g.2.1 g.2.2) (by rw [List.size_toArray, ha.length]; exact hz)

/-! joined -/
theorem OP_addT (ok : C.Ok) {ds es : List D} {R : D → C.S → Prop} (hz : ds.length + es.length ≤ sizeLine) (r : R (.tup (ds ++ es)) φ) : OP C φ (fun vs => binaryOp .Add (vs.getD 0 .none) (vs.getD 1 .none)) [.tup ds, .tup es] R := fun s vs Q E l i x q => IsAll.two_e x fun v u xv xu => Is.tup_e xv fun t us ht nt at' => Is.tup_e xu fun b ws hb nb ab => by
  obtain ⟨⟨_, dt, _, st⟩, ho, rfl, n, rfl⟩ := id ht
  obtain ⟨⟨_, db, _, sb⟩, ho2, rfl, n2, rfl⟩ := id hb
  have T1 : s.TypeIs (.ref t) "tuple" := ⟨_, ho, rfl⟩
  have T2 : s.TypeIs (.ref b) "tuple" := ⟨_, ho2, rfl⟩
  have go := fun {S} => concat_meets (prog := C.prog) (w := C.w) (A := C.A) (E := E) (Q := Q) (S := S) T1 T2 noFill_tuple_add seq_tuple_add PySem.F.slot_tuple_add PySem.F.entry_tuple_add (PySem.F.args_tuple_add_2 _ _)
  cases us with
  | nil =>
    have e0 : ds = [] := List.length_eq_zero_iff.mp at'.length.symm
    subst e0
    exact go (tuple_addW0 t b _ ws.toArray n n2 dt db st sb rfl) ⟨ho, ho2, q _ φ _ s.heap s.toks r (.refl _ _) i (.tup hb nb ab)⟩
  | cons u us =>
    cases ws with
    | nil =>
      have e0 : es = [] := List.length_eq_zero_iff.mp ab.length.symm
      subst e0
      rw [List.append_nil] at r
      exact go (tuple_addW1 t b _ _ n n2 dt db st sb (by simp) rfl) ⟨ho, ho2, q _ φ _ s.heap s.toks r (.refl _ _) i (.tup ht nt at')⟩
    | cons w ws =>
      refine go (tuple_addW2 t b _ _ n n2 dt db st sb (by simp) (by simp) (by rw [List.size_toArray, List.size_toArray, at'.length, ab.length]; exact hz)) ⟨ho, ho2, ?_⟩
      have e : (u :: us).toArray ++ (w :: ws).toArray = ((u :: us) ++ (w :: ws)).toArray := by simp
      rw [e]
      have g := newT ok l i (at'.append ab)
      exact q _ φ _ _ s.toks r g.1 g.2.1 g.2.2
theorem OP_addL (ok : C.Ok) {ds es : List D} {R : D → C.S → Prop} (hz : ds.length + es.length ≤ sizeLine) (r : R (.lst (ds ++ es)) φ) : OP C φ (fun vs => binaryOp .Add (vs.getD 0 .none) (vs.getD 1 .none)) [.lst ds, .lst es] R := fun s vs Q E l i x q => IsAll.two_e x fun v u xv xu => Is.lst_e xv fun t us ht nt at' => Is.lst_e xu fun b ws hb nb ab => by
  obtain ⟨⟨_, dt, _, st⟩, ho, rfl, n, rfl⟩ := id ht
  obtain ⟨⟨_, db, _, sb⟩, ho2, rfl, n2, rfl⟩ := id hb
  refine concat_meets (T := "list") ⟨_, ho, rfl⟩ ⟨_, ho2, rfl⟩ noFill_list_add seq_list_add PySem.F.slot_list_add PySem.F.entry_list_add (PySem.F.args_list_add_2 _ _)
    (list_addW t b us.toArray ws.toArray n n2 dt db st sb (by rw [List.size_toArray, List.size_toArray, at'.length, ab.length]; exact hz)) ⟨ho, ho2, ?_⟩
  have e : us.toArray ++ ws.toArray = (us ++ ws).toArray := by simp
  rw [e]
  have g := newL ok l i (at'.append ab)
  exact q _ φ _ _ s.toks r g.1 g.2.1 g.2.2

/-! slices -/
def loN (lo : Option Int) (n : Nat) : Nat := match lo with | none => 0 | some v => (if v < 0 then max (v + n) 0 else min v n).toNat
def hiN (hi : Option Int) (n : Nat) : Nat := match hi with | none => n | some v => (if v < 0 then max (v + n) 0 else min v n).toNat
def cut {α : Type} (l : List α) (lo hi : Option Int) : List α := (l.drop (loN lo l.length)).take (hiN hi l.length - loN lo l.length)
theorem adj_nat (v : Int) (n : Nat) : (if v < 0 then max (v + n) 0 else min v n) = (((if v < 0 then max (v + n) 0 else min v n).toNat : Nat) : Int) := by split <;> omega
theorem adjust1 (lo hi : Option Int) (n : Nat) : Builtin.Slice.sliceAdjust lo hi 1 n = ((loN lo n : Int), (hiN hi n : Int)) := by
  have e : Builtin.Slice.sliceAdjust lo hi 1 n = ((match lo with | none => (0 : Int) | some v => if v < 0 then max (v + n) 0 else min v n), (match hi with | none => (n : Int) | some v => if v < 0 then max (v + n) 0 else min v n)) := by
    unfold Builtin.Slice.sliceAdjust
    cases lo <;> cases hi <;> rfl
  rw [e]
  refine Prod.ext ?_ ?_
  · cases lo with
    | none => rfl
    | some v => exact adj_nat v n
  · cases hi with
    | none => rfl
    | some v => exact adj_nat v n
theorem places1 (a b : Nat) : Builtin.Slice.slicePlaces (a : Int) (b : Int) 1 = b - a := by
  unfold Builtin.Slice.slicePlaces
  rw [if_pos (by decide)]
  split
  · rw [Int.ediv_one]; omega
  · omega
theorem IsAll.cut {W : Addr → Prop} {h : Heap} {vs : List Value} {ds : List D} (a : IsAll W h vs ds) (lo hi : Option Int) : IsAll W h (cut vs lo hi) (cut ds lo hi) := by
  unfold Mine.cut; rw [a.length]; exact (a.drop _).take _
theorem slicePart_of {A : Around} {E : Value → Shared → Prop} {s : Shared} {prog : Program} {w : World} {v : Value} {o : Option Int} {Q : Option Int → Shared → Prop} (p : IsPart v o) (h : Q o s) : wpAny (model prog w) A (Builtin.Slice.slicePartIndex v) Q E s := by
  cases p with
  | none => exact slicePart_none h
  | int i t => exact slicePart_int h
theorem sliceApplied_of {A : Around} {E : Value → Shared → Prop} {s : Shared} {prog : Program} {w : World} {sl : Addr} {vl vu : Value} {lo hi : Option Int} {n : Nat} {Q : Int × Int × Nat → Shared → Prop} (hs : s.heap.IsSliceOf sl vl vu .none) (pl : IsPart vl lo) (pu : IsPart vu hi)
    (h : Q ((loN lo n : Int), 1, hiN hi n - loN lo n) s) : wpAny (model prog w) A (Builtin.Slice.sliceApplied (.ref sl) (pure (n : Int))) Q E s := by
  obtain ⟨os, hos, hcs, hds⟩ := id hs
  unfold Builtin.Slice.sliceApplied Builtin.Slice.sliceFields
  refine wpAny_bind (wpAny_bind (wpAny_field hos hds (x := vl) rfl (wpAny_bind (wpAny_field hos hds (x := vu) rfl (wpAny_bind (wpAny_field hos hds (x := .none) rfl (wpAny_pure ?_)))))))
  refine wpAny_bind (slicePart_none ?_)
  show wpAny _ _ (if ((1 : Int) == 0) = true then _ else _) _ _ s
  rw [if_neg (by decide)]
  refine wpAny_bind (slicePart_of pl (wpAny_bind (slicePart_of pu (wpAny_bind (wpAny_pure ?_)))))
  show wpAny _ _ (match Builtin.Slice.sliceAdjust lo hi 1 (n : Int) with | (lo, hi) => pure (lo, (1 : Int), Builtin.Slice.slicePlaces lo hi 1)) _ _ s
  rw [adjust1]
  refine wpAny_pure ?_
  rw [places1]
  exact h
theorem pick_cut (xs : Array Value) (lo hi : Option Int) : ((List.range (hiN hi xs.size - loN lo xs.size)).filterMap fun (k : Nat) => xs[((loN lo xs.size : Int) + (k : Int) * 1).toNat]?).toArray = (cut xs.toList lo hi).toArray := by
  have e : (fun (k : Nat) => xs[((loN lo xs.size : Int) + (k : Int) * 1).toNat]?) = (fun x => xs[x]?) ∘ fun x => loN lo xs.size + x := by
    funext k
    show xs[_]? = xs[_]?
    congr 1
    rw [Int.mul_one]; exact Int.toNat_natCast _
  rw [e, ← List.filterMap_map, pick_run]
  unfold cut
  rw [Array.length_toList]
theorem cut_z {α : Type} (l : List α) (lo hi : Option Int) : (cut l lo hi).length ≤ l.length := Nat.le_trans (List.length_take_le' ..) (by rw [List.length_drop]; exact Nat.sub_le ..)
theorem getItem_tupSlice {A : Around} {E : Value → Shared → Prop} {s : Shared} {prog : Program} {w : World} {t sl : Addr} {vs : List Value} {vl vu : Value} {lo hi : Option Int} {Q : Value → Shared → Prop} (ht : IsTup s.heap t vs.toArray) (hs : s.heap.IsSliceOf sl vl vu .none) (pl : IsPart vl lo) (pu : IsPart vu hi)
    (h1 : loN lo vs.length = 0 → hiN hi vs.length = vs.length → Q (.ref t) s)
    (h2 : Q (.ref s.heap.objs.size) { s with heap := s.heap.push { cls := .type "tuple", data := .seq (cut vs lo hi).toArray } })
    (hz : vs.length ≤ sizeLine) : wpAny (model prog w) A (getItem (.ref t) (.ref sl)) Q E s := by
  obtain ⟨os, hos, hcs, hds⟩ := id hs
  have hTs : s.TypeIs (.ref sl) "slice" := ⟨os, hos, hcs⟩
  have hsz : sizeOk (.seq (cut vs lo hi).toArray) := Nat.le_trans (cut_z vs lo hi) hz
  unfold getItem
  refine wpAny_holding ?_
  refine wpAny_bind (wpAny_sequenceKey ht.typeIs (by decide) ?_)
  refine wpAny_bind (wpAny_callSpecial?_slot (name := Str.ofString "__getitem__") ht.typeIs slot_tuple_getitem
    (wpAny_call_entry slot_tuple_getitem ht.typeIs entry_tuple_getitem ?_ (args_tuple_getitem _ _)))
  show wpAny _ _ (Builtin.Tuple.tupleItemsOf (.ref t) >>= _) _ _ s
  refine wpAny_bind (tupleItemsOf_ ht ?_)
  refine wpAny_bind (wpAny_typeOf hTs ?_)
  rw [if_pos (by decide)]
  refine wpAny_bind (sliceApplied_of (n := vs.toArray.size) hs pl pu ?_)
  show wpAny _ _ (if ((loN lo vs.toArray.size : Int) == 0 && (1 : Int) == 1 && (hiN hi vs.toArray.size - loN lo vs.toArray.size) == vs.toArray.size) = true then _ else _) _ _ s
  split
  · rename_i hw
    simp only [Bool.and_eq_true, beq_iff_eq, List.size_toArray] at hw
    have e1 : loN lo vs.length = 0 := Int.ofNat.inj hw.1.1
    have e2 := hw.2
    rw [e1, Nat.sub_zero] at e2
    refine wpAny_bind ?_
    unfold Builtin.Tuple.tupleIsExact
    refine wpAny_bind (wpAny_typeOf ht.typeIs (wpAny_pure ?_))
    rw [if_pos (by decide)]
    exact wpAny_bind (wpAny_rule (wpAny_pure ⟨_, rfl, wpAny_pure (h1 e1 e2)⟩))
  · rw [pick_cut vs.toArray lo hi]
    first
      | exact wpAny_bind (m := Builtin.Tuple.tupleExact _) (wpAny_newObj_type (wpAny_pure ⟨_, rfl, wpAny_pure h2⟩) hsz)
      | exact wpAny_bind (m := Builtin.Tuple.tupleExact _) (wpAny_newObj_type (wpAny_bind (wpAny_pure (wpAny_pure ⟨_, rfl, wpAny_pure h2⟩))) hsz)
      | exact wpAny_bind (wpAny_bind (m := Builtin.Tuple.tupleExact _) (wpAny_newObj_type (wpAny_pure (wpAny_pure ⟨_, rfl, wpAny_pure h2⟩)) hsz))
      | exact wpAny_bind (wpAny_bind (m := Builtin.Tuple.tupleExact _) (wpAny_newObj_type (wpAny_pure ⟨_, rfl, wpAny_pure h2⟩) hsz))

/-- a part of a slice -/
def PartV (C : Cx) (ρ : List (Str × D)) (φ : C.S) (o : Option Expr) (r : Option Int) : Prop := match o with
  | none => r = none
  | some e => EV C ρ φ e fun d φ' => φ' = φ ∧ ∃ n, d = .int n ∧ r = some n
theorem part_wp {s : Shared} {Q : Value → Shared → Prop} {E : Value → Shared → Prop} {o : Option Expr} {r : Option Int} (p : PartV C ρ φ o r) (st : St C ρ s.heap) (i : C.In φ s.heap)
    (q : ∀ v h' tk, IsPart v r → C.Stay s.heap h' → C.In φ h' → Q v { s with heap := h', toks := tk }) : wpAny (model C.prog C.w) C.A (evalPart o C.env) Q E s := by
  cases o with
  | none => cases (show r = none from p); exact wpAny_pure (q _ s.heap s.toks .none (.refl _ _) i)
  | some e => exact p s Q E st i fun d φ' v h' tk rr a i' x => Exists.elim rr.2 fun n e => Is.int_q x e.1 fun t => q _ h' tk (e.2 ▸ .int n t) a (rr.1 ▸ i')
theorem EV_sliceT (ok : C.Ok) {e : Expr} {l u : Option Expr} {p pos : Pos} {lo hi : Option Int} {R : D → C.S → Prop}
    (h : EV C ρ φ e fun d φ₁ => φ₁ = φ ∧ ∃ ds, d = .tup ds ∧ ds.length ≤ sizeLine ∧ PartV C ρ φ l lo ∧ PartV C ρ φ u hi ∧ R (.tup (cut ds lo hi)) φ)
    (hs : ∀ o i, subscripted (.Slice l u none p) false o i = operate [i, o] (getItem o i) := by intro _ _; rfl) : EV C ρ φ (.Subscript e (.Slice l u none p) pos) R := fun s Q E st i q => by
  refine Subscript_ (h s _ _ st i fun d φ₁ v h₁ tk r a₁ i₁ x => ?_)
  obtain ⟨rfl, ds, rfl, hz, pl, pu, r⟩ := r
  have st₁ := st.stay ok a₁ i₁
  refine wpAny_Slice (part_wp pl st₁ i₁ fun vl h₂ tk₂ y₂ a₂ i₂ => part_wp pu (st₁.stay ok a₂ i₂) i₂ fun vu h₃ tk₃ y₃ a₃ i₃ => wpAny_pure ?_)
  have st₃ := (st₁.stay ok a₂ i₂).stay ok a₃ i₃
  refine Is.tup_e (x.keep ((a₂.trans a₃).keep ok)) fun t vs ht nt at' => ?_
  dsimp only
  have hk : ∀ b o, h₃.get? b = some o → (h₃.push { cls := .type "slice", data := .fields #[vl, vu, .none] }).get? b = some o := fun b o e => Heap.get?_push_of_some _ e
  have ht' := isTup_keep (W := C.W) (.all hk) ht nt
  have i₄ := ok.ikeep _ _ _ i₃ fun b o e _ => hk b o e
  have a₄ := ((a₁.trans a₂).trans a₃).trans (.all hk)
  refine tail_any (T := "tuple") ht'.typeIs slot_tuple_getitem.lookup (getItem_tupSlice ht' (Heap.IsSliceOf.new ..) y₂ y₃ (fun e1 e2 => ?_) ?_ (by rw [at'.length]; exact hz)) (hs _ _)
  · rw [at'.length] at e1 e2
    unfold cut at r
    rw [e1, e2, Nat.sub_zero, List.drop_zero, List.take_length] at r
    exact q _ φ₁ _ _ tk₃ r a₄ i₄ (.tup ht' nt (at'.keep (.all hk)))
  · have g := newT ok (st₃.toLive.stay ok (.all hk) i₄) i₄ ((at'.cut lo hi).keep (.all hk))
    exact q _ φ₁ _ _ tk₃ r (a₄.trans g.1) g.2.1 g.2.2

/-- an item of a tuple -/
theorem seq_ix {k : Int} {n : Nat} (h0 : 0 ≤ k) (h : k.toNat < n) : seqIndex? k n = some k.toNat := by
  unfold seqIndex?
  simp only [show ¬ (k < 0) from by omega, if_false]
  rw [if_pos (by simp only [Bool.and_eq_true, decide_eq_true_eq]; omega)]
theorem EV_itemT (ok : C.Ok) {e n : Expr} {pos : Pos} {R : D → C.S → Prop}
    (h : EV C ρ φ e fun d φ₁ => ∃ ds, d = .tup ds ∧ EV C ρ φ₁ n fun d' φ₂ => ∃ k x, d' = .int k ∧ 0 ≤ k ∧ k < 2 ^ 62 ∧ ds[k.toNat]? = some x ∧ R x φ₂)
    (hs : ∀ o i, subscripted n false o i = operate [o, i] (getItem o i) := by intro _ _; rfl) : EV C ρ φ (.Subscript e n pos) R := fun s Q E st i q => by
  refine Subscript_ (h s _ _ st i fun d φ₁ v h₁ tk r a₁ i₁ x => ?_)
  obtain ⟨ds, rfl, r⟩ := r
  refine r _ _ _ (st.stay ok a₁ i₁) i₁ fun d' φ₂ v' h₂ tk₂ r₂ a₂ i₂ x₂ => ?_
  obtain ⟨k, y, rfl, h0, hk, hy, r₂⟩ := r₂
  refine Is.int_e x₂ fun t' => Is.tup_e (x.keep (a₂.keep ok)) fun t vs ht nt at' => ?_
  obtain ⟨v, hv, hi⟩ := at'.get hy
  exact item_tupleT (j := k.toNat) ht (by omega) (by omega) (seq_ix h0 (List.getElem?_eq_some_iff.mp hv).1) hv (q _ _ _ h₂ tk₂ r₂ (a₁.trans a₂) i₂ hi) (hs _ _)
end
end Mine
end
section
open PySem PySem.W PyProof.Rows PySem.Calls
set_option maxRecDepth 100000
namespace Mine
section
variable {C : Cx} {ρ : List (Str × D)} {φ : C.S}

theorem lookup_cons {α : Type} {x y : Str} {d : α} {l : List (Str × α)} : ((x, d) :: l).lookup y = if y = x then some d else l.lookup y := by
  rw [List.lookup_cons]
  by_cases h : y = x
  · simp [h]
  · rw [if_neg h, show (y == x) = false from beq_eq_false_iff_ne.mpr h]

/-- the own frame's objects are no sequences, no mutable ones -/
theorem own_keep {h h' : Heap} {a : Addr} (hs : Heap.SameBut a h h') (hn : ∀ o, h.get? a = some o → ¬ ∃ xs n, o.data = .seq xs n) : ∀ b o, h.get? b = some o → (∃ xs n, o.data = .seq xs n) → h'.get? b = some o := fun b o e q => by
  refine hs.extBut b o (fun eb => ?_) e
  subst eb
  exact hn o e q

theorem store_loc (ok : C.Ok) {x : Str} {v : Value} {d : D} {s : Shared} {Q : Unit → Shared → Prop} {E : Value → Shared → Prop} (st : St C ρ s.heap) (i : C.In φ s.heap) (hk : C.env.kindOf x = some .local) (hv : Is C.W s.heap v d)
    (q : ∀ h' tk, (∀ b o, b ≠ C.env.locals → s.heap.get? b = some o → h'.get? b = some o) → St C ((x, d) :: ρ) h' → C.In φ h' → Q () { s with heap := h', toks := tk }) : wpAny (model C.prog C.w) C.A (storeName C.env x v) Q E s := by
  · obtain ⟨m, hm, hr⟩ := st.loc
    refine wpAny_storeName_local hk hm (fun h' hn hs => ?_) (by rw [ok.kind]; rfl)
    have hns : ∀ o, s.heap.get? C.env.locals = some o → ¬ ∃ xs n, o.data = .seq xs n := fun o e ⟨xs, n, ed⟩ => by
      obtain ⟨o', es, ep, e', hd, _⟩ := hm
      rw [e] at e'; cases e'; rw [hd] at ed; cases ed
    have hsq := own_keep hs hns
    have kp : Keep C.W s.heap h' := fun a o e q _ => hsq a o e q
    have live : C.Live h' := ⟨fun b o e => hs.extBut b o (fun eb => by subst eb; rw [ok.locB] at e; cases e) (st.base b o e), fun a ha => by
      obtain ⟨o, ho⟩ := st.alive a ha
      by_cases ea : a = C.env.locals
      · subst ea
        obtain ⟨o', _, _, e', _⟩ := hn
        exact ⟨o', e'⟩
      · exact ⟨o, hs.extBut a o ea ho⟩⟩
    refine q h' _ (fun b o hl e => hs.extBut b o hl e) ⟨live, ⟨_, hn, fun y e hy hky => ?_⟩, fun y e hy hky => ?_, fun y c hy => ?_⟩ (ok.ikeep _ _ _ i fun b o e hb => ?_)
    · rw [lookup_cons] at hy
      by_cases hyx : y = x
      · rw [if_pos hyx] at hy; cases hy
        exact ⟨v, by simp [hyx], hv.keep kp⟩
      · rw [if_neg hyx] at hy
        obtain ⟨u, hu, hi⟩ := hr y e hy hky
        exact ⟨u, by simpa [hyx] using hu, hi.keep kp⟩
    · rw [lookup_cons] at hy
      by_cases hyx : y = x
      · subst hyx; rw [hk] at hky; rcases hky with h | h <;> cases h
      · rw [if_neg hyx] at hy
        obtain ⟨c, u, hc, ⟨o, ho, hd⟩, hi⟩ := st.cel y e hy hky
        exact ⟨c, u, hc, ⟨o, hs.extBut c o (ok.celL _ _ hc) ho, hd⟩, hi.keep kp⟩
    · obtain ⟨u, o, ho, hd⟩ := st.cex y c hy
      exact ⟨u, o, hs.extBut c o (ok.celL _ _ hy) ho, hd⟩
    · exact hs.extBut b o (fun eb => by subst eb; exact ok.locM hb) e
theorem store_wp (ok : C.Ok) {x : Str} {v : Value} {d : D} {s : Shared} {Q : Unit → Shared → Prop} {E : Value → Shared → Prop} (st : St C ρ s.heap) (i : C.In φ s.heap) (hk : C.env.kindOf x = some .local ∨ (C.env.kindOf x = some .cell ∧ (C.env.cells.lookup x).isSome = true)) (hv : Is C.W s.heap v d)
    (q : ∀ h' tk, C.StayO s.heap h' → St C ((x, d) :: ρ) h' → C.In φ h' → Q () { s with heap := h', toks := tk }) : wpAny (model C.prog C.w) C.A (storeName C.env x v) Q E s := by
  rcases hk with hk | ⟨hk, hc⟩
  · exact store_loc ok st i hk hv fun h' tk k st' i' => q h' tk (fun b o e _ hl _ => k b o hl e) st' i'
  · obtain ⟨c, hc⟩ := Option.isSome_iff_exists.mp hc
    obtain ⟨v₀, hv₀⟩ := st.cex x c hc
    refine wpAny_storeName_cell ok.kind hk hc hv₀ fun h' hc' hs => ?_
    have hns : ∀ o, s.heap.get? c = some o → ¬ ∃ xs n, o.data = .seq xs n := fun o e ⟨xs, n, ed⟩ => by
      obtain ⟨o', e', hd⟩ := hv₀
      rw [e] at e'; cases e'; rw [hd] at ed; cases ed
    have hsq := own_keep hs hns
    have kp : Keep C.W s.heap h' := fun a o e q _ => hsq a o e q
    have live : C.Live h' := ⟨fun b o e => hs.extBut b o (fun eb => by subst eb; rw [ok.celB _ _ hc] at e; cases e) (st.base b o e), fun a ha => by
      obtain ⟨o, ho⟩ := st.alive a ha
      by_cases ea : a = c
      · subst ea
        obtain ⟨o', e', _⟩ := hc'
        exact ⟨o', e'⟩
      · exact ⟨o, hs.extBut a o ea ho⟩⟩
    refine q h' s.toks (fun b o e _ _ hn => hs.extBut b o (fun eb => hn x (eb ▸ hc)) e) ⟨live, ?_, fun y e hy hky => ?_, fun y c' hy => ?_⟩ (ok.ikeep _ _ _ i fun b o e hb => ?_)
    · obtain ⟨m, hm, hr⟩ := st.loc
      refine ⟨m, hm.sameBut hs (Ne.symm (ok.celL _ _ hc)), fun y e hy hky => ?_⟩
      rw [lookup_cons] at hy
      by_cases hyx : y = x
      · subst hyx; rw [hk] at hky; cases hky
      · rw [if_neg hyx] at hy
        obtain ⟨u, hu, hi⟩ := hr y e hy hky
        exact ⟨u, hu, hi.keep kp⟩
    · rw [lookup_cons] at hy
      by_cases hyx : y = x
      · rw [if_pos hyx] at hy; cases hy; subst hyx
        exact ⟨c, v, hc, hc', hv.keep kp⟩
      · rw [if_neg hyx] at hy
        obtain ⟨c', u, hcy, ⟨o, ho, hd⟩, hi⟩ := st.cel y e hy hky
        exact ⟨c', u, hcy, ⟨o, hs.extBut c' o (fun ec => hyx (ok.apart _ _ _ (ec ▸ hcy) hc)) ho, hd⟩, hi.keep kp⟩
    · by_cases ec : c' = c
      · subst ec; exact ⟨_, hc'⟩
      · obtain ⟨u, o, ho, hd⟩ := st.cex y c' hy
        exact ⟨u, o, hs.extBut c' o ec ho, hd⟩
    · exact hs.extBut b o (fun eb => by subst eb; exact ok.celM _ _ hc hb) e

/-! statements -/
def Then (C : Cx) (rest : List Stmt) (R : Out C.S → Prop) : Out C.S → Prop := fun o => match o with
  | .next ρ φ => EX C ρ φ rest R
  | .ret d φ => R (.ret d φ)
theorem EX_nil {R : Out C.S → Prop} (r : R (.next ρ φ)) : EX C ρ φ [] R := fun s Q E st i q1 q2 => wpAny_execs_nil (q1 ρ φ s.heap s.toks r (.refl _ _) st i)
theorem EX_cons {a : Stmt} {rest : List Stmt} {R : Out C.S → Prop} (h : EX1 C ρ φ a (Then C rest R)) : EX C ρ φ (a :: rest) R := fun s Q E st i q1 q2 => by
  refine wpAny_execs_cons (h s _ _ st i (fun ρ' φ' h' tk r a st' i' => ?_) fun d φ' v h' tk r a l i' x => ?_)
  · exact r _ Q E st' i' (fun ρ'' φ'' h'' tk' r' a' st'' i'' => q1 _ _ _ _ r' (a.trans a') st'' i'') fun d φ'' v h'' tk' r' a' l i'' x => q2 _ _ _ _ _ r' (a.trans a') l i'' x
  · exact q2 _ _ _ _ _ r a l i' x
theorem EX_return (ok : C.Ok) {e : Expr} {pos : Pos} {R : Out C.S → Prop} (h : EV C ρ φ e fun d φ' => R (.ret d φ')) : EX1 C ρ φ (.Return (some e) pos) R := fun s Q E st i q1 q2 =>
  wpAny_Return_some (h s _ _ st i fun d φ' v h' tk r a i' x => q2 d φ' v h' tk r a.o (st.toLive.stay ok a i') i' x)
theorem EX_if (ok : C.Ok) {t : Expr} {b o : List Stmt} {pos : Pos} {R : Out C.S → Prop} (h : TR C ρ φ t fun c φ' => if c = true then EX C ρ φ' b R else EX C ρ φ' o R) : EX1 C ρ φ (.If t b o pos) R := fun s Q E st i q1 q2 => by
  refine wpAny_If (h s _ _ st i fun c φ₁ h₁ tk r a i₁ => ?_)
  dsimp only at r
  split
  · rename_i hb; rw [if_pos hb] at r
    exact r _ Q E (st.stay ok a i₁) i₁ (fun ρ'' φ'' h'' tk' r' a' st'' i'' => q1 _ _ _ _ r' (a.o.trans a') st'' i'') fun d φ'' v h'' tk' r' a' l i'' x => q2 _ _ _ _ _ r' (a.o.trans a') l i'' x
  · rename_i hb; rw [if_neg hb] at r
    exact r _ Q E (st.stay ok a i₁) i₁ (fun ρ'' φ'' h'' tk' r' a' st'' i'' => q1 _ _ _ _ r' (a.o.trans a') st'' i'') fun d φ'' v h'' tk' r' a' l i'' x => q2 _ _ _ _ _ r' (a.o.trans a') l i'' x
theorem EX_assign (ok : C.Ok) {x : Str} {px pos : Pos} {e : Expr} {R : Out C.S → Prop} (hk : C.env.kindOf x = some .local ∨ (C.env.kindOf x = some .cell ∧ (C.env.cells.lookup x).isSome = true)) (h : EV C ρ φ e fun d φ' => R (.next ((x, d) :: ρ) φ'))
    (hs : ∀ env, swapsWith e (some (.Name x px)) pos.line env = pure false := by intro _; rfl) : EX1 C ρ φ (.Assign [.Name x px] e pos) R := fun s Q E st i q1 q2 => by
  refine wpAny_Assign_Name (h s _ _ st i fun d φ' v h' tk r a i' y => ?_) (hs _)
  exact store_wp ok (st.stay ok a i') i' hk y fun h'' tk' a' st' i'' => q1 _ _ _ _ r (a.o.trans a') st' i''

/-! several names at once -/
noncomputable def allNames : List Expr → Option (List Str)
  | [] => some []
  | .Name x _ :: r => (allNames r).map (x :: ·)
  | _ :: _ => none
noncomputable def binds : List Str → List D → List (Str × D) → List (Str × D)
  | x :: xs, d :: ds, ρ => binds xs ds ((x, d) :: ρ)
  | _, _, ρ => ρ
def Storable (C : Cx) (x : Str) : Prop := C.env.kindOf x = some .local ∨ (C.env.kindOf x = some .cell ∧ (C.env.cells.lookup x).isSome = true)
theorem assignEach_name (x : Str) (p : Pos) (r : List Expr) (env : Env) : assignEach (.Name x p :: r) env = (false, assign (.Name x p) env) :: assignEach r env := rfl
theorem assign_seq (ok : C.Ok) {E : Value → Shared → Prop} : ∀ {elts : List Expr} {xs : List Str} {ds : List D} {vs : List Value} {ρ : List (Str × D)} {s : Shared} {Q : Unit → Shared → Prop}, allNames elts = some xs → (∀ x ∈ xs, Storable C x) → ds.length = xs.length →
    St C ρ s.heap → C.In φ s.heap → IsAll C.W s.heap vs ds → (∀ h' tk, C.StayO s.heap h' → St C (binds xs ds ρ) h' → C.In φ h' → Q () { s with heap := h', toks := tk }) →
    wpAny (model C.prog C.w) C.A (assignInOrder ((assignEach elts C.env).map (·.2)) vs) Q E s
  | [], xs, ds, vs, ρ, s, Q, he, _, hl, st, i, a, q => by
    cases he
    have := List.length_eq_zero_iff.mp hl
    subst this; cases a
    exact assignInOrder_nil (q s.heap s.toks (.refl _ _) st i)
  | .Name x p :: r, xs, ds, vs, ρ, s, Q, he, hk, hl, st, i, a, q => by
    simp only [allNames, Option.map_eq_some_iff] at he
    obtain ⟨ys, hy, rfl⟩ := he
    cases a with
    | nil => cases hl
    | cons y a =>
      rename_i v vs d ds
      rw [assignEach_name, List.map_cons]
      refine assignInOrder_cons (wpAny_assign_Name (store_wp ok st i (hk x (.head _)) y fun h' tk k st' i' => ?_))
      have kp : Keep C.W s.heap h' := fun b o e sq n => k b o e (fun m => n (ok.mow _ m)) (fun eb => by
        subst eb
        obtain ⟨m, ⟨o', es, ep, e', hd, _⟩, _⟩ := st.loc
        rw [e] at e'; cases e'
        obtain ⟨_, _, sq⟩ := sq
        rw [hd] at sq; cases sq) fun z hz => by
        obtain ⟨u, o', e', hd⟩ := st.cex z b hz
        rw [e] at e'; cases e'
        obtain ⟨_, _, sq⟩ := sq
        rw [hd] at sq; cases sq
      refine assign_seq ok hy (fun z hz => hk z (.tail _ hz)) (by simpa using hl) st' i' (a.keep kp) fun h'' tk' k' st'' i'' => q h'' tk' (k.trans k') st'' i''
  | .BoolOp .. :: _, _, _, _, _, _, _, he, _, _, _, _, _, _ | .NamedExpr .. :: _, _, _, _, _, _, _, he, _, _, _, _, _, _ | .BinOp .. :: _, _, _, _, _, _, _, he, _, _, _, _, _, _ | .UnaryOp .. :: _, _, _, _, _, _, _, he, _, _, _, _, _, _
  | .Lambda .. :: _, _, _, _, _, _, _, he, _, _, _, _, _, _ | .IfExp .. :: _, _, _, _, _, _, _, he, _, _, _, _, _, _ | .Dict .. :: _, _, _, _, _, _, _, he, _, _, _, _, _, _ | .Set .. :: _, _, _, _, _, _, _, he, _, _, _, _, _, _
  | .ListComp .. :: _, _, _, _, _, _, _, he, _, _, _, _, _, _ | .SetComp .. :: _, _, _, _, _, _, _, he, _, _, _, _, _, _ | .DictComp .. :: _, _, _, _, _, _, _, he, _, _, _, _, _, _ | .GeneratorExp .. :: _, _, _, _, _, _, _, he, _, _, _, _, _, _
  | .Await .. :: _, _, _, _, _, _, _, he, _, _, _, _, _, _ | .Yield .. :: _, _, _, _, _, _, _, he, _, _, _, _, _, _ | .YieldFrom .. :: _, _, _, _, _, _, _, he, _, _, _, _, _, _ | .Compare .. :: _, _, _, _, _, _, _, he, _, _, _, _, _, _
  | .Call .. :: _, _, _, _, _, _, _, he, _, _, _, _, _, _ | .FormattedValue .. :: _, _, _, _, _, _, _, he, _, _, _, _, _, _ | .JoinedStr .. :: _, _, _, _, _, _, _, he, _, _, _, _, _, _ | .Constant .. :: _, _, _, _, _, _, _, he, _, _, _, _, _, _
  | .Attribute .. :: _, _, _, _, _, _, _, he, _, _, _, _, _, _ | .Subscript .. :: _, _, _, _, _, _, _, he, _, _, _, _, _, _ | .Starred .. :: _, _, _, _, _, _, _, he, _, _, _, _, _, _ | .List .. :: _, _, _, _, _, _, _, he, _, _, _, _, _, _
  | .Tuple .. :: _, _, _, _, _, _, _, he, _, _, _, _, _, _ | .Slice .. :: _, _, _, _, _, _, _, he, _, _, _, _, _, _ => nomatch he

theorem ext_fresh {h h' : Heap} (e : Heap.ExtBut h.objs.size h h') : ∀ b o, h.get? b = some o → h'.get? b = some o := fun b o x => e b o (fun eb => by rw [eb, get_size] at x; cases x) x
theorem EX_unpack (ok : C.Ok) {elts : List Expr} {k : Nat} {tp pos : Pos} {e : Expr} {xs : List Str} {R : Out C.S → Prop} (hx : allNames elts = some xs) (hk : ∀ x ∈ xs, Storable C x)
    (h : EV C ρ φ e fun d φ' => ∃ ds, d = .tup ds ∧ ds.length = xs.length ∧ R (.next (binds xs ds ρ) φ'))
    (hlen : (assignEach elts C.env).length = xs.length := by rfl) (hst : (assignEach elts C.env).findIdx? (·.1) = none := by rfl)
    (hs : swapsWithSole [.Tuple elts k tp] e pos.line C.env = pure false := by rfl) (hw : swappedStores [.Tuple elts k tp] e C.env = pure none := by rfl) : EX1 C ρ φ (.Assign [.Tuple elts k tp] e pos) R := fun s Q E st i q1 q2 => by
  refine Assign_Tuple (h s _ _ st i fun d φ' v h' tk r a i' y => ?_) hs hw
  obtain ⟨ds, rfl, hl, r⟩ := r
  obtain _ | ⟨⟩ := y
  rename_i t vs ht nt at'
  have st' := st.stay ok a i'
  refine assign_Tuple_tuple ok.hh ht (by rw [hlen, List.size_toArray, at'.length, hl]) hst fun h₂ e₂ => ?_
  have k₂ := ext_fresh e₂
  have i₂ := ok.ikeep _ _ _ i' fun b o e _ => k₂ b o e
  refine assign_seq ok hx hk hl (st'.stay ok (.all k₂) i₂) i₂ (at'.keep (.all k₂)) fun h₃ tk₃ a₃ st₃ i₃ => ?_
  exact q1 _ _ h₃ tk₃ r ((a.o.trans (Cx.Stay.all k₂).o).trans a₃) st₃ i₃
/-- the same, where the stores go from behind -/
theorem swap_seq (ok : C.Ok) {E : Value → Shared → Prop} : ∀ {xs : List Str} {ds : List D} {vs : List Value} {ρ : List (Str × D)} {s : Shared} {Q : Unit → Shared → Prop}, (∀ x ∈ xs, Storable C x) → ds.length = xs.length →
    St C ρ s.heap → C.In φ s.heap → IsAll C.W s.heap vs ds → (∀ h' tk, C.StayO s.heap h' → St C (binds xs ds ρ) h' → C.In φ h' → Q () { s with heap := h', toks := tk }) →
    wpAny (model C.prog C.w) C.A (assignInOrder (xs.map fun n => bindName C.env n) vs) Q E s
  | [], ds, vs, ρ, s, Q, _, hl, st, i, a, q => by
    have := List.length_eq_zero_iff.mp hl
    subst this; cases a
    exact assignInOrder_nil (q s.heap s.toks (.refl _ _) st i)
  | x :: xs, ds, vs, ρ, s, Q, hk, hl, st, i, a, q => by
    cases a with
    | nil => cases hl
    | cons y a =>
      rename_i v vs d ds
      rw [List.map_cons]
      refine assignInOrder_cons (wpAny_bindName (store_wp ok st i (hk x (.head _)) y fun h' tk k st' i' => ?_))
      have kp : Keep C.W s.heap h' := fun b o e sq n => k b o e (fun m => n (ok.mow _ m)) (fun eb => by
        subst eb
        obtain ⟨m, ⟨o', es, ep, e', hd, _⟩, _⟩ := st.loc
        rw [e] at e'; cases e'
        obtain ⟨_, _, sq⟩ := sq
        rw [hd] at sq; cases sq) fun z hz => by
        obtain ⟨u, o', e', hd⟩ := st.cex z b hz
        rw [e] at e'; cases e'
        obtain ⟨_, _, sq⟩ := sq
        rw [hd] at sq; cases sq
      refine swap_seq ok (fun z hz => hk z (.tail _ hz)) (by simpa using hl) st' i' (a.keep kp) fun h'' tk' k' st'' i'' => q h'' tk' (k.trans k') st'' i''
theorem IsAll.rev {W : Addr → Prop} {h : Heap} : ∀ {vs : List Value} {ds : List D}, IsAll W h vs ds → IsAll W h vs.reverse ds.reverse
  | _, _, .nil => .nil
  | _, _, .cons a r => by rw [List.reverse_cons, List.reverse_cons]; exact r.rev.append (.cons a .nil)
theorem EX_swap (ok : C.Ok) {elts : List Expr} {k : Nat} {tp pos : Pos} {e : Expr} {xs : List Str} {R : Out C.S → Prop} (hw : swappedStores [.Tuple elts k tp] e C.env = pure (some xs)) (hk : ∀ x ∈ xs, Storable C x)
    (h : EV C ρ φ e fun d φ' => ∃ ds, d = .tup ds ∧ ds.length = xs.length ∧ R (.next (binds xs.reverse ds.reverse ρ) φ'))
    (hs : swapsWithSole [.Tuple elts k tp] e pos.line C.env = pure false := by rfl) : EX1 C ρ φ (.Assign [.Tuple elts k tp] e pos) R := fun s Q E st i q1 q2 => by
  refine Assign_Tuple_swapped (h s _ _ st i fun d φ' v h' tk r a i' y => ?_) hs hw
  obtain ⟨ds, rfl, hl, r⟩ := r
  obtain _ | ⟨⟩ := y
  rename_i t vs ht nt at'
  have st' := st.stay ok a i'
  have hn : xs.length = vs.toArray.size := by rw [List.size_toArray, at'.length, hl]
  rw [hn]
  refine unpackItems_tuple ok.hh ht fun h₂ e₂ => ?_
  have k₂ := ext_fresh e₂
  have i₂ := ok.ikeep _ _ _ i' fun b o e _ => k₂ b o e
  refine swap_seq ok (fun x hx => hk x (List.mem_reverse.mp hx)) (by simp [hl]) (st'.stay ok (.all k₂) i₂) i₂ ((at'.keep (.all k₂)).rev) fun h₃ tk₃ a₃ st₃ i₃ => ?_
  exact q1 _ _ h₃ tk₃ r ((a.o.trans (Cx.Stay.all k₂).o).trans a₃) st₃ i₃
end
end Mine
end
section
open PySem PySem.W PyProof.Rows PySem.Calls
set_option maxRecDepth 100000
namespace Mine

def Room (C : Cx) (k : Nat) : Prop := C.A.depth + k < recursionLimit ∧ C.A.units + 4 * k < cLine
abbrev Cx.enter (C : Cx) (fd : FuncData) (L f : Addr) : Cx := { C with A := C.A.deeper (callEnvC fd L f), env := callEnvC fd L f }

theorem lookup_append' {α : Type} (x : Str) : ∀ (l r : List (Str × α)), (l ++ r).lookup x = (l.lookup x).or (r.lookup x)
  | [], r => by simp
  | (k, v) :: l, r => by
    rw [List.cons_append, List.lookup_cons, List.lookup_cons]
    cases x == k with
    | true => rfl
    | false => exact lookup_append' x l r
theorem bindL_eq (k : Str → Option NameKind) (x : Str) (hx : k x = some .local) : ∀ (bs : List (Str × Value)) (m : Str → Option Value), bindL k bs m x = (bs.reverse.lookup x).or (m x)
  | [], m => rfl
  | (n, v) :: r, m => by
    unfold bindL
    rw [bindL_eq k x hx r, List.reverse_cons, lookup_append', List.lookup_cons]
    by_cases hn : x = n
    · subst hn; simp [hx]
    · have : (x == n) = false := beq_eq_false_iff_ne.mpr hn
      rw [this]
      split <;> simp [hn]
theorem bindC_eq (k : Str → Option NameKind) (x : Str) (hx : k x ≠ some .local) : ∀ (bs : List (Str × Value)) (m : Str → Option Value), bindC k bs m x = (bs.reverse.lookup x).or (m x)
  | [], m => rfl
  | (n, v) :: r, m => by
    unfold bindC
    rw [bindC_eq k x hx r, List.reverse_cons, lookup_append', List.lookup_cons]
    by_cases hn : x = n
    · subst hn; simp [hx]
    · have : (x == n) = false := beq_eq_false_iff_ne.mpr hn
      rw [this]
      split <;> simp [hn]
theorem zip_lookup {W : Addr → Prop} {h : Heap} {x : Str} {d : D} : ∀ {ns : List Str} {vs : List Value} {ds : List D}, IsAll W h vs ds → (ns.zip ds).reverse.lookup x = some d → ∃ v, (ns.zip vs).reverse.lookup x = some v ∧ Is W h v d
  | [], _, _, _, e => by simp at e
  | n :: ns, _, _, .nil, e => by simp at e
  | n :: ns, v :: vs, d' :: ds, .cons a r, e => by
    rw [List.zip_cons_cons, List.reverse_cons, lookup_append'] at e ⊢
    cases q : (ns.zip ds).reverse.lookup x with
    | some e' =>
      rw [q] at e; cases e
      obtain ⟨v', hv, hi⟩ := zip_lookup r q
      exact ⟨v', by rw [hv]; rfl, hi⟩
    | none =>
      rw [q] at e
      have q' : (ns.zip vs).reverse.lookup x = none := by
        cases q2 : (ns.zip vs).reverse.lookup x with
        | none => rfl
        | some u =>
          exfalso
          have : ∀ {ns : List Str} {vs : List Value} {ds : List D}, IsAll W h vs ds → (ns.zip ds).reverse.lookup x = none → (ns.zip vs).reverse.lookup x = none := by
            intro ns
            induction ns with
            | nil => intros; simp
            | cons n ns ih =>
              intro vs ds a e
              cases a with
              | nil => simp
              | cons a r =>
                rw [List.zip_cons_cons, List.reverse_cons, lookup_append'] at e ⊢
                rw [Option.or_eq_none_iff] at e ⊢
                refine ⟨ih r e.1, ?_⟩
                have := e.2
                rw [List.lookup_cons] at this ⊢
                cases hb : x == n with
                | true => rw [hb] at this; cases this
                | false => rfl
          rw [this r q] at q2; cases q2
      rw [q']
      rw [Option.none_or] at e ⊢
      rw [List.lookup_cons] at e ⊢
      cases hb : x == n with
      | true => rw [hb] at e; cases e; exact ⟨v, rfl, a⟩
      | false => rw [hb] at e; cases e

section
variable {C : Cx} {φ : C.S}
theorem ge_none {h : Heap} {a : Addr} (ha : h.objs.size ≤ a) : h.get? a = none := by
  cases e : h.get? a with
  | none => rfl
  | some o => exact absurd (Heap.lt_size e) (Nat.not_lt.mpr ha)
theorem enter_ok (ok : C.Ok) {h : Heap} (l : C.Live h) {fd : FuncData} {f : Addr} (hk : fd.scope.kind = .function) (hg : fd.globals = mainGlobals) (hb : fd.builtins = builtinsNs)
    (ap : (cellsFrom (h.objs.size + 1) fd.scope.names []).Pairwise fun x y => x.2 ≠ y.2) (ab : ∀ n c, (n, c) ∈ cellsFrom (h.objs.size + 1) fd.scope.names [] → h.objs.size < c) : (C.enter fd h.objs.size f).Ok :=
  have fresh : ∀ a, h.objs.size ≤ a → C.B.get? a = none := fun a ha => by
    cases e : C.B.get? a with
    | none => rfl
    | some o => have := l.base _ _ e; rw [ge_none ha] at this; cases this
  have freshM : ∀ a, h.objs.size ≤ a → ¬ C.W a := fun a ha m => l.fresh (ge_none ha) m
  { base := ok.base, hh := ok.hh, kind := hk, eg := hg, eb := hb, mow := ok.mow, wb := ok.wb, ikeep := ok.ikeep, ilive := ok.ilive
    locB := fresh _ (Nat.le_refl _)
    celB := fun n c hc => fresh _ (Nat.le_of_lt (ab _ _ (mem_of_lookup hc)))
    locM := freshM _ (Nat.le_refl _)
    celM := fun n c hc => freshM _ (Nat.le_of_lt (ab _ _ (mem_of_lookup hc)))
    celL := fun n c hc e => Nat.lt_irrefl _ (show h.objs.size < h.objs.size from (show c = h.objs.size from e) ▸ ab _ _ (mem_of_lookup hc))
    apart := fun n n' c h1 h2 => name_of_addr ap (mem_of_lookup h1) (mem_of_lookup h2) }

theorem OP_def (ok : C.Ok) {f : Addr} {oc : Value} {od : Option Addr} {fd : FuncData} {sl : Array (Option Value)} {body : List Stmt} {names : List Str} {ds : List D} {R : D → C.S → Prop}
    (hf : C.K.lookup f = some ⟨oc, od, .func fd, sl⟩) (hcd : codeIn C.K fd.code fd.qualname = true) (hbody : fd.body = .stmts body) (hclo : fd.closure = [])
    (hbind : ∀ vals : List Value, vals.length = names.length → bindArgs fd ⟨vals, []⟩ = pure (names.zip vals)) (hlen : ds.length = names.length)
    (hkind : ∀ n, ∀ x ∈ names, fd.scope.names.lookup x = some .local ∨ (fd.scope.names.lookup x = some .cell ∧ ((cellsFrom n fd.scope.names []).lookup x).isSome = true))
    (room : C.A.depth < recursionLimit)
    (hg : fd.globals = mainGlobals) (hb : fd.builtins = builtinsNs) (hk : fd.scope.kind = .function) (hco : fd.scope.isCoroutine = false) (hgen : fd.scope.isGenerator = false)
    (h : ∀ L, (C.enter fd L f).Ok → EX (C.enter fd L f) (names.zip ds).reverse φ body (fun o => match o with | .next _ φ' => R .none φ' | .ret d φ' => R d φ')) :
    OP C φ (fun vs => call (.ref f) vs) ds R := fun s vs Q E l i a q => by
  have hvl : vs.length = names.length := by rw [a.length, hlen]
  refine wpAny_call (codeAny_call_cells room (l.base _ _ (ok.base.K _ _ hf)) rfl (ok.base.lim.keeps l.base) ((codeRec_of ok.base.K hcd).keeps l.base) hbody (hbind vs hvl) hclo (fun x hx => ?_) (fun s₁ x => ?_) hco hgen hk)
  · exact hkind _ x.1 (List.of_mem_zip hx).1
  · obtain ⟨h₁, tk, rfl, hkeep⟩ := x.done
    have xa := x.apart
    have xb := x.above
    have xc := x.cell
    have ok' := enter_ok (fd := fd) (f := f) ok l hk hg hb xa xb
    have kp : C.Stay s.heap h₁ := .all hkeep
    have i₁ : C.In φ h₁ := ok.ikeep _ _ _ i fun b o e _ => hkeep b o e
    have st : St (C.enter fd s.heap.objs.size f) (names.zip ds).reverse h₁ := {
      toLive := ⟨fun b o e => hkeep b o (l.base b o e), fun b hb => by obtain ⟨o, ho⟩ := l.alive b hb; exact ⟨o, hkeep _ _ ho⟩⟩
      loc := ⟨_, x.toInCall.ns, fun y d hy hky => by
        obtain ⟨v, hv, hi⟩ := zip_lookup a hy
        exact ⟨v, by rw [bindL_eq _ _ hky, hv]; rfl, hi.keep (.all hkeep)⟩⟩
      cel := fun y d hy hky => by
        obtain ⟨v, hv, hi⟩ := zip_lookup a hy
        have hm : y ∈ names := by
          have := mem_of_lookup hv
          rw [List.mem_reverse] at this
          exact (List.of_mem_zip this).1
        have hnl : (C.enter fd s.heap.objs.size f).env.kindOf y ≠ some .local := by rcases hky with h | h <;> rw [h] <;> decide
        rcases hkind (s.heap.objs.size + 1) y hm with h1 | ⟨h1, h2⟩
        · exact absurd h1 hnl
        · obtain ⟨c, hc⟩ := Option.isSome_iff_exists.mp h2
          refine ⟨c, v, hc, ?_, hi.keep (.all hkeep)⟩
          have := xc y c hc
          rw [bindC_eq _ _ hnl, hv] at this
          exact this
      cex := fun y c hc => ⟨_, xc y c hc⟩ }
    refine wpAny_mono (h _ ok' { s with heap := h₁, toks := tk } (fun f s' => match f with | .ret v => Q v s' | _ => Q .none s') (fun _ _ => False) st i₁ (fun ρ' φ' h' tk' r a' st' i' => ?_) fun d φ' v h' tk' r a' l' i' y => ?_) (fun fl s' hq => ?_) fun _ _ e => e.elim
    · exact q .none φ' .none h' tk' r (fun b o e n => a' b o (hkeep b o e) n (fun eb => by have eb : b = s.heap.objs.size := eb; rw [eb, get_size] at e; cases e) fun z hz => by
        have := xb _ _ (mem_of_lookup hz)
        rw [ge_none (Nat.le_of_lt this)] at e; cases e) i' .none
    · exact q d φ' v h' tk' r (fun b o e n => a' b o (hkeep b o e) n (fun eb => by have eb : b = s.heap.objs.size := eb; rw [eb, get_size] at e; cases e) fun z hz => by
        have := xb _ _ (mem_of_lookup hz)
        rw [ge_none (Nat.le_of_lt this)] at e; cases e) i' y
    · cases fl <;> exact hq
end
end Mine
end
section
open PySem PySem.W PyProof.Rows PySem.Calls
set_option maxRecDepth 100000
namespace Mine

/-- what an iterator's object is -/
def IterObj (h : Heap) (I : Addr) : Prop := ∃ o n vs, h.get? I = some o ∧ o.cls = .type n ∧ (n = "list_iterator" ∨ n = "tuple_iterator" ∨ n = "str_iterator" ∨ n = "str_ascii_iterator" ∨ n = "range_iterator") ∧ o.data = .fields vs
/-- an iterator that is to give these data -/
def WalkOf (C : Cx) (h : Heap) (ds : List D) (I : Addr) : Prop := ∃ fp P St, Walks C.prog C.w C.A I fp [I] ds.length P St ∧ St 0 h ∧ (∀ i h, St i h → IterObj h I) ∧
  (∀ b ∈ fp, b ≠ I → ∃ o, h.get? b = some o ∧ (∃ xs n, o.data = .seq xs n) ∧ ¬ C.W b) ∧ I ∈ fp ∧
  (∀ i v, P i v → i < ds.length → ∃ d, ds[i]? = some d ∧ ∀ h', Keep C.W h h' → Is C.W h' v d)
def SRC (C : Cx) (ρ : List (Str × D)) (φ : C.S) (iter : Expr) (R : List D → C.S → Prop) : Prop :=
  ∀ (s : Shared) (Q : Value → Shared → Prop) (E : Value → Shared → Prop), St C ρ s.heap → C.In φ s.heap →
    (∀ ds φ' I h' tk, R ds φ' → C.Stay s.heap h' → C.In φ' h' → s.heap.get? I = none → WalkOf C h' ds I → Q (.ref I) { s with heap := h', toks := tk }) →
    wpAny (model C.prog C.w) C.A (eval iter C.env) (fun x s₁ => wpAny (model C.prog C.w) C.A (pyIter x) Q E s₁) E s

section
variable {C : Cx} {ρ : List (Str × D)} {φ : C.S}
theorem none_before {C : Cx} {h h' : Heap} {φ : C.S} (ok : C.Ok) (l : C.Live h) (a : C.Stay h h') {I : Addr} (e : h'.get? I = none) (i : C.In φ h') : h.get? I = none := by
  cases q : h.get? I with
  | none => rfl
  | some o =>
    by_cases m : C.Mo I
    · obtain ⟨o', ho⟩ := ok.ilive φ h' I i m
      rw [e] at ho; cases ho
    · rw [a I o q m] at e; cases e
theorem walkOf_new {C : Cx} {h : Heap} {ds : List D} {o : Obj} {fp : List Addr} {P : Nat → Value → Prop} {Sx : Nat → Heap → Prop} (hs : ∀ i h', Sx i h' → IterObj h' h.objs.size)
    (W : Walks C.prog C.w C.A h.objs.size fp [h.objs.size] ds.length P Sx) (s0 : Sx 0 (h.push o)) (hfp : ∀ b ∈ fp, b ≠ h.objs.size → ∃ o, h.get? b = some o ∧ (∃ xs n, o.data = .seq xs n) ∧ ¬ C.W b) (hI : h.objs.size ∈ fp)
    (hP : ∀ i v, P i v → i < ds.length → ∃ d, ds[i]? = some d ∧ Is C.W h v d) : WalkOf C (h.push o) ds h.objs.size := by
  have hk : ∀ b x, h.get? b = some x → (h.push o).get? b = some x := fun b x e => Heap.get?_push_of_some _ e
  refine ⟨fp, P, Sx, W, s0, hs, fun b hb hn => ?_, hI, fun j v hp hj => ?_⟩
  · obtain ⟨x, hx, r⟩ := hfp b hb hn
    exact ⟨x, hk _ _ hx, r⟩
  · obtain ⟨d, hd, hi⟩ := hP j v hp hj
    exact ⟨d, hd, fun h'' k => hi.keep fun b x e sq n => k b x (hk b x e) sq n⟩
theorem iterObj_tup {h : Heap} {I t : Addr} {i : Nat} (x : h.IsTupleIter I t i) : IterObj h I := let ⟨o, ho, hc, hd⟩ := x; ⟨o, _, _, ho, hc, by decide, hd⟩
theorem iterObj_lst {h : Heap} {I t : Addr} {i : Nat} (x : h.IsListIter I t i) : IterObj h I := let ⟨o, ho, hc, hd⟩ := x; ⟨o, _, _, ho, hc, by decide, hd⟩
theorem iterObj_str {h : Heap} {I : Addr} {x : Str} {t : Tok} {i : Nat} (y : h.IsStrIter I "str_ascii_iterator" x t i) : IterObj h I := let ⟨o, ho, hc, hd⟩ := y; ⟨o, _, _, ho, hc, by decide, hd⟩
theorem iterObj_strw {h : Heap} {I : Addr} {x : Str} {t : Tok} {i : Nat} (y : h.IsStrIter I "str_iterator" x t i) : IterObj h I := let ⟨o, ho, hc, hd⟩ := y; ⟨o, _, _, ho, hc, by decide, hd⟩
theorem iterObj_rng {h : Heap} {I : Addr} {a b c : Int} (y : IsRangeIter h I a b c) : IterObj h I := ⟨_, _, _, y, rfl, by decide, rfl⟩
theorem SRC_tup (ok : C.Ok) {e : Expr} {R : List D → C.S → Prop} (h : EV C ρ φ e fun d φ' => ∃ ds, d = .tup ds ∧ R ds φ') : SRC C ρ φ e R := fun s Q E st i q => by
  refine h s _ _ st i fun d φ' v h' tk r a i' x => ?_
  obtain ⟨ds, rfl, r⟩ := r
  obtain _ | ⟨⟩ := x
  rename_i t vs ht nt at'
  have l := st.toLive.stay ok a i'
  refine iter_tuple ht ?_
  have hk : ∀ b o, h'.get? b = some o → (h'.push { cls := .type "tuple_iterator", data := .fields #[.ref t, .int 0 0] }).get? b = some o := fun b o e => Heap.get?_push_of_some _ e
  have hlt : t < h'.objs.size := by obtain ⟨_, e, _⟩ := ht; exact Heap.lt_size e
  have W := Walks.tuple (prog := C.prog) (w := C.w) (A := C.A) ok.hh h'.objs.size t (Nat.ne_of_lt hlt) vs.toArray
  have hsz : vs.toArray.size = ds.length := List.size_toArray.trans at'.length
  rw [hsz] at W
  refine q ds φ' _ _ tk r (a.trans (.all hk)) (ok.ikeep _ _ _ i' fun b o e _ => hk b o e) (none_before ok st.toLive a (get_size _) i') (walkOf_new (fun _ _ e => iterObj_tup e.1) W ⟨⟨_, Heap.get?_push_size _ rfl, rfl, rfl⟩, isTup_keep (W := fun _ => False) (.all hk) ht id⟩ (fun b hb hn => ?_) (by simp) fun j v hp hj => ?_)
  · simp only [List.mem_cons, List.not_mem_nil, or_false] at hb
    rcases hb with hb | hb
    · exact absurd hb hn
    · subst hb
      obtain ⟨o, ho, _, n, hd⟩ := ht
      exact ⟨o, ho, ⟨_, _, hd⟩, nt⟩
  · exact at'.getV (by simpa using hp)
theorem SRC_lst (ok : C.Ok) {e : Expr} {R : List D → C.S → Prop} (h : EV C ρ φ e fun d φ' => ∃ ds, d = .lst ds ∧ R ds φ') : SRC C ρ φ e R := fun s Q E st i q => by
  refine h s _ _ st i fun d φ' v h' tk r a i' x => ?_
  obtain ⟨ds, rfl, r⟩ := r
  obtain _ | ⟨⟩ := x
  rename_i t vs ht nt at'
  have l := st.toLive.stay ok a i'
  refine wpAny_pyIter_list ht ?_
  have hlt : t < h'.objs.size := by obtain ⟨_, e, _⟩ := ht; exact Heap.lt_size e
  have W := Walks.list (prog := C.prog) (w := C.w) (A := C.A) ok.hh h'.objs.size t (Nat.ne_of_lt hlt) vs.toArray
  have hsz : vs.toArray.size = ds.length := List.size_toArray.trans at'.length
  rw [hsz] at W
  refine q ds φ' _ _ tk r (a.trans (.all fun b o e => Heap.get?_push_of_some _ e)) (ok.ikeep _ _ _ i' fun b o e _ => Heap.get?_push_of_some _ e) (none_before ok st.toLive a (get_size _) i') (walkOf_new (fun _ _ e => iterObj_lst e.1) W ⟨⟨_, Heap.get?_push_size _ rfl, rfl, rfl⟩, isList_keep (W := fun _ => False) (.all fun b o e => Heap.get?_push_of_some _ e) ht id⟩ (fun b hb hn => ?_) (by simp) fun j v hp hj => ?_)
  · simp only [List.mem_cons, List.not_mem_nil, or_false] at hb
    rcases hb with hb | hb
    · exact absurd hb hn
    · subst hb
      obtain ⟨o, ho, _, n, hd⟩ := ht
      exact ⟨o, ho, ⟨_, _, hd⟩, nt⟩
  · exact at'.getV (by simpa using hp)
def signs (x : Str) : List D := x.cps.toList.map fun c => D.str ⟨#[c]⟩
theorem signs_length (x : Str) : (signs x).length = x.cps.size := by simp [signs]
theorem signs_at {W : Addr → Prop} {h : Heap} {x : Str} {i : Nat} {v : Value} (p : SignAt x i v) : ∃ d, (signs x)[i]? = some d ∧ Is W h v d := by
  obtain ⟨c, u, hc, rfl⟩ := p
  exact ⟨.str ⟨#[c]⟩, by simp [signs, hc], .str _ _⟩
theorem SRC_str (ok : C.Ok) {e : Expr} {R : List D → C.S → Prop} (h : EV C ρ φ e fun d φ' => ∃ x, d = .str x ∧ R (signs x) φ') : SRC C ρ φ e R := fun s Q E st i q => by
  refine h s _ _ st i fun d φ' v h' tk r a i' x => ?_
  obtain ⟨x, rfl, r⟩ := r
  obtain _ | ⟨⟩ := x
  rename_i t
  have l := st.toLive.stay ok a i'
  cases hx : x.cps.all (· < 128) with
  | true =>
    have W := Walks.strAscii (prog := C.prog) (w := C.w) (A := C.A) ok.hh h'.objs.size x t
    rw [← signs_length] at W
    exact wpAny_pyIter_ascii hx (q (signs x) φ' _ _ tk r (a.trans (.all fun b o e => Heap.get?_push_of_some _ e)) (ok.ikeep _ _ _ i' fun b o e _ => Heap.get?_push_of_some _ e) (none_before ok st.toLive a (get_size _) i')
      (walkOf_new (fun _ _ e => iterObj_str e) W ⟨_, Heap.get?_push_size _ rfl, rfl, rfl⟩ (fun b hb hn => absurd (List.mem_singleton.mp hb) hn) (by simp) fun j v hp hj => signs_at hp))
  | false =>
    have W := Walks.strWide (prog := C.prog) (w := C.w) (A := C.A) ok.hh h'.objs.size x t
    rw [← signs_length] at W
    exact wpAny_pyIter_wide hx (q (signs x) φ' _ _ tk r (a.trans (.all fun b o e => Heap.get?_push_of_some _ e)) (ok.ikeep _ _ _ i' fun b o e _ => Heap.get?_push_of_some _ e) (none_before ok st.toLive a (get_size _) i')
      (walkOf_new (fun _ _ e => iterObj_strw e) W ⟨_, Heap.get?_push_size _ rfl, rfl, rfl⟩ (fun b hb hn => absurd (List.mem_singleton.mp hb) hn) (by simp) fun j v hp hj => signs_at hp))
def upto (n : Int) : List D := (List.range n.toNat).map fun k => D.int (k : Nat)
theorem SRC_range (ok : C.Ok) {px pos : Pos} {e : Expr} {R : List D → C.S → Prop} (hk : C.env.kindOf (Str.ofString "range") = some .globalImplicit) (hx : nsIn C.K mainGlobals (Str.ofString "range") = some none) (b : bootBuiltins (Str.ofString "range") = some (.type "range"))
    (h : EV C ρ φ e fun d φ' => ∃ n : Int, d = .int n ∧ n < 2 ^ 60 ∧ -(2 ^ 60) < n ∧ R (upto n) φ')
    (hs : starEach [e] C.env = [(false, eval e C.env)] := by rfl)
    (hc : ∀ env, eval (.Call (.Name (Str.ofString "range") px) [e] [] pos) env = (do callWith pos (← eval (.Name (Str.ofString "range") px) env) [] (backTo pos (starEach [e] env)) (backToKw pos (keywordEach [] env))) := by intro _; rfl) :
    SRC C ρ φ (.Call (.Name (Str.ofString "range") px) [e] [] pos) R := fun s Q E st i q => by
  refine Call_ (wp_blt ok st.toLive hk hx b (by decide) ?_ rfl) (hc _)
  refine PyProof.Rows.callWith_type1 (wpAny_items_cons (h s _ _ st i fun d φ' v h' tk r a i' x => wpAny_items_nil ?_) hs) hs rfl
  obtain ⟨n, rfl, hn1, hn2, r⟩ := r
  obtain _ | ⟨⟩ := x
  have l := st.toLive.stay ok a i'
  refine call_range_1 ?_
  refine wpAny_pyIter_range (IsRange.new ..) (small_one (by omega) (by omega) (by omega) (by omega)) ?_
  generalize ho : ({ cls := .type "range", data := .fields #[.int 0 tk, .int n _, .int 1 (tk + 1)] } : Obj) = o1
  have hk1 : ∀ b o, h'.get? b = some o → (h'.push o1).get? b = some o := fun b o e => Heap.get?_push_of_some _ e
  have l1 : C.Live (h'.push o1) := l.stay ok (.all hk1) (ok.ikeep _ _ _ i' fun b o e _ => hk1 b o e)
  have i1 := ok.ikeep _ _ _ i' fun b o e _ => hk1 b o e
  have hsz : Builtin.Range.rangeSize 0 n 1 = ((n.toNat : Nat) : Int) := by rw [rangeSize_one]; split <;> omega
  have hl : (upto n).length = n.toNat := by simp [upto]
  have W := Walks.range (prog := C.prog) (w := C.w) (A := C.A) ok.hh (h'.push o1).objs.size 0 1 n.toNat
  rw [← hl] at W
  refine q (upto n) φ' _ _ _ r ((a.trans (.all hk1)).trans (.all fun b o e => Heap.get?_push_of_some _ e)) (ok.ikeep _ _ _ i1 fun b o e _ => Heap.get?_push_of_some _ e) (none_before ok st.toLive (a.trans (.all hk1)) (get_size _) i1)
    (walkOf_new (fun _ _ e => iterObj_rng e) W ?_ (fun b hb hn => absurd (List.mem_singleton.mp hb) hn) (by simp) fun j v hp hj => ?_)
  · have e := Heap.get?_push_size (h'.push o1) (o := { cls := .type "range_iterator", data := .fields #[rawInt 0, rawInt (Builtin.Range.rangeSize 0 n 1), rawInt 1] }) rfl
    rw [hsz] at e ⊢
    simpa [IsRangeIter, hl] using e
  · obtain ⟨t, rfl⟩ := hp
    refine ⟨.int (j : Nat), ?_, ?_⟩
    · simp only [upto, List.getElem?_map]
      rw [List.getElem?_range (by rw [hl] at hj; exact hj)]
      rfl
    · have : (0 : Int) + (j : Int) * 1 = (j : Nat) := by omega
      rw [this]; exact .int _ _

/-! a loop's turns -/
theorem StayO.keepW {C : Cx} {ρ : List (Str × D)} {h h' : Heap} (ok : C.Ok) (hst : St C ρ h) (k : C.StayO h h') : Keep C.W h h' := fun b o e sq n => k b o e (fun m => n (ok.mow _ m)) (fun eb => by
    subst eb
    obtain ⟨m, ⟨o', es, ep, e', hd, _⟩, _⟩ := hst.loc
    rw [e] at e'; cases e'
    obtain ⟨_, _, sq⟩ := sq
    rw [hd] at sq; cases sq) fun z hz => by
    obtain ⟨u, o', e', hd⟩ := hst.cex z b hz
    rw [e] at e'; cases e'
    obtain ⟨_, _, sq⟩ := sq
    rw [hd] at sq; cases sq
/-- only the iterator's object has turned -/
structure Off (C : Cx) (h : Heap) (I : Addr) : Prop where
  w : ¬ C.W I
  l : I ≠ C.env.locals
  c : ∀ x, C.env.cells.lookup x ≠ some I
  b : C.B.get? I = none
theorem off_of {C : Cx} (ok : C.Ok) {ρ : List (Str × D)} {h : Heap} (st : St C ρ h) {I : Addr} (e : h.get? I = none) : Off C h I where
  w := st.toLive.fresh e
  l := fun eb => by
    obtain ⟨m, ⟨o', es, ep, e', _⟩, _⟩ := st.loc
    rw [← eb, e] at e'; cases e'
  c := fun x hx => by
    obtain ⟨u, o', e', _⟩ := st.cex x I hx
    rw [e] at e'; cases e'
  b := by
    cases q : C.B.get? I with
    | none => rfl
    | some o => rw [st.base _ _ q] at e; cases e
theorem IterObj.noseq {h : Heap} {I : Addr} (x : IterObj h I) : ∀ o, h.get? I = some o → ¬ ∃ xs n, o.data = .seq xs n := fun o e ⟨xs, n, ed⟩ => by
  obtain ⟨o', n', vs, e', _, _, hd⟩ := x
  rw [e] at e'; cases e'; rw [hd] at ed; cases ed
theorem St.iter {C : Cx} (ok : C.Ok) {ρ : List (Str × D)} {h h' : Heap} {φ : C.S} (st : St C ρ h) (i : C.In φ h) {I : Addr} (off : Off C h I)
    (hsq : ∀ o, h.get? I = some o → ¬ ∃ xs n, o.data = .seq xs n) (k : ∀ b o, b ∉ [I] → h.get? b = some o → h'.get? b = some o) : St C ρ h' ∧ C.In φ h' ∧ Keep C.W h h' := by
  have kk : ∀ b o, b ≠ I → h.get? b = some o → h'.get? b = some o := fun b o hb e => k b o (by simpa using hb) e
  have kp : Keep C.W h h' := fun b o e sq n => kk b o (fun eb => by subst eb; exact hsq o e sq) e
  refine ⟨⟨⟨fun b o e => kk b o (fun eb => by rw [eb, off.b] at e; cases e) (st.base b o e), fun a ha => ?_⟩, ?_, fun x d hx hk => ?_, fun x c hc => ?_⟩, ?_, kp⟩
  · obtain ⟨o, ho⟩ := st.alive a ha
    exact ⟨o, kk a o (fun eb => off.w (eb ▸ ha)) ho⟩
  · obtain ⟨m, ⟨o, es, ep, e, r⟩, hm⟩ := st.loc
    refine ⟨m, ⟨o, es, ep, kk _ o (Ne.symm off.l) e, r⟩, fun x d hx hk => ?_⟩
    obtain ⟨v, hv, hi⟩ := hm x d hx hk
    exact ⟨v, hv, hi.keep kp⟩
  · obtain ⟨c, v, hc, ⟨o, e, hd⟩, hi⟩ := st.cel x d hx hk
    exact ⟨c, v, hc, ⟨o, kk c o (fun eb => off.c x (eb ▸ hc)) e, hd⟩, hi.keep kp⟩
  · obtain ⟨v, o, e, hd⟩ := st.cex x c hc
    exact ⟨v, o, kk c o (fun eb => off.c x (eb ▸ hc)) e, hd⟩
  · exact ok.ikeep _ _ _ i fun b o e hb => kk b o (fun eb => by
      subst eb
      exact off.w hb) e
/-- the iterator's own facts outlast a statement -/
theorem walk_frame {C : Cx} {ρ : List (Str × D)} {h₀ h h' : Heap} {I : Addr} {fp : List Addr} {n : Nat} {P : Nat → Value → Prop} {Sx : Nat → Heap → Prop} {i : Nat} (W : Walks C.prog C.w C.A I fp [I] n P Sx) (ok : C.Ok) (st : St C ρ h) (off : Off C h₀ I) (kp : C.StayO h h')
    (hfp : ∀ b ∈ fp, b ≠ I → ∃ o, h.get? b = some o ∧ (∃ xs n, o.data = .seq xs n) ∧ ¬ C.W b) (s : Sx i h) : Sx i h' := W.frame _ _ _ s fun b hb o e => by
  by_cases hbI : b = I
  · subst hbI; exact kp b o e (fun m => off.w (ok.mow _ m)) off.l off.c
  · obtain ⟨o', ho', sq, hw⟩ := hfp b hb hbI
    rw [e] at ho'; cases ho'
    exact StayO.keepW ok st kp b o e sq hw
/-- a turn: the next item is bound -/
def Turns (C : Cx) (target : Expr) (tgt : D → List (Str × D) → Option (List (Str × D))) (hb h₀ : Heap) (ds : List D) (I : Addr) : Prop :=
  ∃ (Sx : Nat → Heap → Prop) (wr : List Addr), (∀ b ∈ wr, hb.get? b = none) ∧ Sx 0 h₀ ∧ (∀ k h h' ρ, St C ρ h → C.StayO h h' → Sx k h → Sx k h') ∧
  (∀ k s ρ φ d (Q : Unit → Shared → Prop) E, ds[k]? = some d → St C ρ s.heap → C.In φ s.heap → Sx k s.heap →
    (∀ ρ' h' tk, tgt d ρ = some ρ' → (∀ b o, s.heap.get? b = some o → ¬ C.Mo b → b ≠ C.env.locals → (∀ x, C.env.cells.lookup x ≠ some b) → b ∉ wr → h'.get? b = some o) → St C ρ' h' → C.In φ h' → Sx (k + 1) h' → Q () { s with heap := h', toks := tk }) →
    wpAny (model C.prog C.w) C.A (pyNext (.ref I)) (fun r s₁ => match r with
      | none => False
      | some v => wpAny (model C.prog C.w) C.A (letOwnedTupleGo target (.ref I) v) (fun _ s₂ => wpAny (model C.prog C.w) C.A (assign target C.env v) Q E s₂) E s₁) E s) ∧
  (∀ s ρ φ (Q : Option Value → Shared → Prop) E, St C ρ s.heap → C.In φ s.heap → Sx ds.length s.heap →
    (∀ h' tk, (∀ b o, s.heap.get? b = some o → b ∉ wr → h'.get? b = some o) → St C ρ h' → C.In φ h' → Q none { s with heap := h', toks := tk }) → wpAny (model C.prog C.w) C.A (pyNext (.ref I)) Q E s)
theorem turns_name (ok : C.Ok) {h₀ h : Heap} {ds : List D} {I : Addr} {x : Str} {px : Pos} (st₀ : St C ρ h₀) (e₀ : h₀.get? I = none) (hk : Storable C x) (w : WalkOf C h ds I) :
    Turns C (.Name x px) (fun d ρ => some ((x, d) :: ρ)) h₀ h ds I := by
  obtain ⟨fp, P, Sx, W, s0, hS, hfp, hI, hP⟩ := w
  have off : Off C h I := let o := off_of ok st₀ e₀; ⟨o.w, o.l, o.c, o.b⟩
  refine ⟨fun k h' => Sx k h' ∧ (∀ b ∈ fp, b ≠ I → ∃ o, h'.get? b = some o ∧ (∃ xs n, o.data = .seq xs n) ∧ ¬ C.W b) ∧ (∀ i v, P i v → i < ds.length → ∃ d, ds[i]? = some d ∧ Is C.W h' v d), [I], fun b hb => List.mem_singleton.mp hb ▸ e₀,
    ⟨s0, hfp, fun i v p l => let ⟨d, hd, hi⟩ := hP i v p l; ⟨d, hd, hi h (.all fun _ _ e => e)⟩⟩, fun k h h' ρ st kp ⟨s, f, p⟩ => ?_, fun k s ρ φ d Q E hd st i ⟨sx, f, p⟩ q => ?_, fun s ρ φ Q E st i ⟨sx, f, p⟩ q => ?_⟩
  · have kw := StayO.keepW ok st kp
    exact ⟨walk_frame W ok st off kp f s, fun b hb hn => by
      obtain ⟨o, ho, sq, hw⟩ := f b hb hn
      exact ⟨o, kw b o ho sq hw, sq, hw⟩, fun j v hv hl => by
      obtain ⟨d, hd, hi⟩ := p j v hv hl
      exact ⟨d, hd, hi.keep kw⟩⟩
  · have hlt : k < ds.length := (List.getElem?_eq_some_iff.mp hd).1
    refine W.item k s _ E hlt sx fun v h₁ tk pv s₁ k₁ => ?_
    obtain ⟨st₁, i₁, kw₁⟩ := st.iter ok i ⟨off.w, off.l, off.c, off.b⟩ (hS _ _ sx).noseq k₁
    obtain ⟨d', hd', hi⟩ := p k v pv hlt
    rw [hd] at hd'; cases hd'
    have f₁ : ∀ b ∈ fp, b ≠ I → ∃ o, h₁.get? b = some o ∧ (∃ xs n, o.data = .seq xs n) ∧ ¬ C.W b := fun b hb hn => by
      obtain ⟨o, ho, sq, hw⟩ := f b hb hn
      exact ⟨o, kw₁ b o ho sq hw, sq, hw⟩
    refine wpAny_of_eq (a := ()) rfl (wpAny_assign_Name (store_wp ok st₁ i₁ hk (hi.keep kw₁) fun h₂ tk₂ k₂ st₂ i₂ => ?_))
    have kw₂ := StayO.keepW ok st₁ k₂
    refine q _ h₂ tk₂ rfl (fun b o e m l c w => k₂ b o (k₁ b o w e) m l c) st₂ i₂ ⟨walk_frame W ok st₁ off k₂ f₁ s₁, fun b hb hn => ?_, fun j u hu hl => ?_⟩
    · obtain ⟨o, ho, sq, hw⟩ := f₁ b hb hn
      exact ⟨o, kw₂ b o ho sq hw, sq, hw⟩
    · obtain ⟨d', hd', hi'⟩ := p j u hu hl
      exact ⟨d', hd', (hi'.keep kw₁).keep kw₂⟩
  · refine W.done s Q E sx fun h₁ tk k₁ => ?_
    obtain ⟨st₁, i₁, kw₁⟩ := st.iter ok i ⟨off.w, off.l, off.c, off.b⟩ (hS _ _ sx).noseq k₁
    exact q h₁ tk (fun b o e n => k₁ b o n e) st₁ i₁

/-- the target is a tuple of names, the items are tuples -/
noncomputable def tgtT (xs : List Str) (d : D) (ρ : List (Str × D)) : Option (List (Str × D)) := match d with
  | .tup ds => if ds.length = xs.length then some (binds xs ds ρ) else none
  | _ => none
theorem letOwned_none {h : Heap} {I : Addr} {elts : List Expr} {k : Nat} {p : Pos} {v : Value} {s : Shared} {Q : Unit → Shared → Prop} {E : Value → Shared → Prop} {A : Around} {prog : Program} {w : World} (e : s.heap = h) (x : IterObj h I) (q : Q () s) : wpAny (model prog w) A (letOwnedTupleGo (.Tuple elts k p) (.ref I) v) Q E s := by
  subst e
  obtain ⟨o, n, vs, ho, hc, hn, hd⟩ := x
  unfold letOwnedTupleGo
  cases v with
  | ref a =>
    refine wpAny_bind (wpAny_load ho ?_)
    rw [hc, hd]
    have hcon : ["enumerate", "zip", "dict_itemiterator", "dict_reverseitemiterator", "odict_iterator", "itertools.zip_longest", "itertools.pairwise"].contains n = false := by
      rcases hn with rfl | rfl | rfl | rfl | rfl <;> decide
    show wpAny _ A (if (_ && _) = true then _ else _) Q E s
    rw [hcon, Bool.false_and, if_neg (by decide)]
    exact wpAny_pure q
  | _ => exact wpAny_pure q
theorem turns_tuple (ok : C.Ok) {h₀ h : Heap} {ds : List D} {I : Addr} {elts : List Expr} {kk : Nat} {pp : Pos} {xs : List Str} (hx : allNames elts = some xs) (st₀ : St C ρ h₀) (e₀ : h₀.get? I = none) (hk : ∀ x ∈ xs, Storable C x)
    (hds : ∀ d ∈ ds, ∃ es, d = .tup es ∧ es.length = xs.length) (w : WalkOf C h ds I)
    (hlen : (assignEach elts C.env).length = xs.length) (hst : (assignEach elts C.env).findIdx? (·.1) = none) :
    Turns C (.Tuple elts kk pp) (tgtT xs) h₀ h ds I := by
  obtain ⟨fp, P, Sx, W, s0, hS, hfp, hI, hP⟩ := w
  have off : Off C h I := let o := off_of ok st₀ e₀; ⟨o.w, o.l, o.c, o.b⟩
  refine ⟨fun k h' => Sx k h' ∧ (∀ b ∈ fp, b ≠ I → ∃ o, h'.get? b = some o ∧ (∃ xs n, o.data = .seq xs n) ∧ ¬ C.W b) ∧ (∀ i v, P i v → i < ds.length → ∃ d, ds[i]? = some d ∧ Is C.W h' v d), [I], fun b hb => List.mem_singleton.mp hb ▸ e₀,
    ⟨s0, hfp, fun i v p l => let ⟨d, hd, hi⟩ := hP i v p l; ⟨d, hd, hi h (.all fun _ _ e => e)⟩⟩, fun k h h' ρ st kp ⟨s, f, p⟩ => ?_, fun k s ρ φ d Q E hd st i ⟨sx, f, p⟩ q => ?_, fun s ρ φ Q E st i ⟨sx, f, p⟩ q => ?_⟩
  · have kw := StayO.keepW ok st kp
    exact ⟨walk_frame W ok st off kp f s, fun b hb hn => by
      obtain ⟨o, ho, sq, hw⟩ := f b hb hn
      exact ⟨o, kw b o ho sq hw, sq, hw⟩, fun j v hv hl => by
      obtain ⟨d, hd, hi⟩ := p j v hv hl
      exact ⟨d, hd, hi.keep kw⟩⟩
  · have hlt : k < ds.length := (List.getElem?_eq_some_iff.mp hd).1
    refine W.item k s _ E hlt sx fun v h₁ tk pv s₁ k₁ => ?_
    obtain ⟨st₁, i₁, kw₁⟩ := st.iter ok i ⟨off.w, off.l, off.c, off.b⟩ (hS _ _ sx).noseq k₁
    obtain ⟨d', hd', hi⟩ := p k v pv hlt
    rw [hd] at hd'; cases hd'
    have f₁ : ∀ b ∈ fp, b ≠ I → ∃ o, h₁.get? b = some o ∧ (∃ xs n, o.data = .seq xs n) ∧ ¬ C.W b := fun b hb hn => by
      obtain ⟨o, ho, sq, hw⟩ := f b hb hn
      exact ⟨o, kw₁ b o ho sq hw, sq, hw⟩
    refine letOwned_none (h := h₁) rfl (hS _ _ s₁) ?_
    obtain ⟨es, rfl, hes⟩ := hds d (List.mem_of_getElem? hd)
    have hi₁ := hi.keep kw₁
    obtain _ | ⟨⟩ := hi₁
    rename_i t vs ht nt at'
    refine assign_Tuple_tuple ok.hh ht (by rw [hlen, List.size_toArray, at'.length, hes]) hst fun h₂ e₂ => ?_
    have k₂ := ext_fresh e₂
    have i₂ := ok.ikeep _ _ _ i₁ fun b o e _ => k₂ b o e
    have st₂ := st₁.stay ok (.all k₂) i₂
    refine assign_seq ok hx hk hes st₂ i₂ (at'.keep (.all k₂)) fun h₃ tk₃ k₃ st₃ i₃ => ?_
    have k23 : C.StayO h₁ h₃ := (Cx.Stay.all k₂).o.trans k₃
    have kw₃ := StayO.keepW ok st₁ k23
    refine q _ h₃ tk₃ (by simp only [tgtT]; rw [if_pos hes]) (fun b o e m l c w => k23 b o (k₁ b o w e) m l c) st₃ i₃ ⟨walk_frame W ok st₁ off k23 f₁ s₁, fun b hb hn => ?_, fun j u hu hl => ?_⟩
    · obtain ⟨o, ho, sq, hw⟩ := f₁ b hb hn
      exact ⟨o, kw₃ b o ho sq hw, sq, hw⟩
    · obtain ⟨d', hd', hi'⟩ := p j u hu hl
      exact ⟨d', hd', (hi'.keep kw₁).keep kw₃⟩
  · refine W.done s Q E sx fun h₁ tk k₁ => ?_
    obtain ⟨st₁, i₁, kw₁⟩ := st.iter ok i ⟨off.w, off.l, off.c, off.b⟩ (hS _ _ sx).noseq k₁
    exact q h₁ tk (fun b o e n => k₁ b o n e) st₁ i₁

/-- a source and its turns -/
def SRCT (C : Cx) (ρ : List (Str × D)) (φ : C.S) (target iter : Expr) (R : List D → (D → List (Str × D) → Option (List (Str × D))) → C.S → Prop) : Prop :=
  ∀ (s : Shared) (Q : Value → Shared → Prop) (E : Value → Shared → Prop), St C ρ s.heap → C.In φ s.heap →
    (∀ ds tgt φ' I h' tk, R ds tgt φ' → C.Stay s.heap h' → C.In φ' h' → Turns C target tgt s.heap h' ds I → Q (.ref I) { s with heap := h', toks := tk }) →
    wpAny (model C.prog C.w) C.A (eval iter C.env) (fun x s₁ => wpAny (model C.prog C.w) C.A (pyIter x) Q E s₁) E s
theorem SRCT_name (ok : C.Ok) {x : Str} {px : Pos} {iter : Expr} {R : List D → (D → List (Str × D) → Option (List (Str × D))) → C.S → Prop} (hk : Storable C x) (h : SRC C ρ φ iter fun ds φ' => R ds (fun d ρ => some ((x, d) :: ρ)) φ') : SRCT C ρ φ (.Name x px) iter R := fun s Q E st i q =>
  h s Q E st i fun ds φ' I h' tk r a i' e w => q ds _ φ' I h' tk r a i' (turns_name ok st e hk w)
theorem SRCT_tuple (ok : C.Ok) {elts : List Expr} {k : Nat} {pp : Pos} {iter : Expr} {xs : List Str} {R : List D → (D → List (Str × D) → Option (List (Str × D))) → C.S → Prop} (hx : allNames elts = some xs) (hk : ∀ x ∈ xs, Storable C x)
    (h : SRC C ρ φ iter fun ds φ' => (∀ d ∈ ds, ∃ es, d = .tup es ∧ es.length = xs.length) ∧ R ds (tgtT xs) φ')
    (hlen : (assignEach elts C.env).length = xs.length := by rfl) (hst : (assignEach elts C.env).findIdx? (·.1) = none := by rfl) : SRCT C ρ φ (.Tuple elts k pp) iter R := fun s Q E st i q =>
  h s Q E st i fun ds φ' I h' tk r a i' e w => q ds _ φ' I h' tk r.2 a i' (turns_tuple ok hx st e hk r.1 w hlen hst)

theorem EX_for (ok : C.Ok) {target iter : Expr} {body : List Stmt} {pos : Pos} {R : Out C.S → Prop}
    (h : SRCT C ρ φ target iter fun ds tgt φ₁ => ∃ Inv : Nat → List (Str × D) → C.S → Prop, Inv 0 ρ φ₁ ∧
      (∀ k d ρ' φ', ds[k]? = some d → Inv k ρ' φ' → ∀ ρ'', tgt d ρ' = some ρ'' → EX C ρ'' φ' body (fun o => match o with | .next ρ₃ φ₃ => Inv (k + 1) ρ₃ φ₃ | .ret d φ₃ => R (.ret d φ₃))) ∧
      (∀ ρ' φ', Inv ds.length ρ' φ' → R (.next ρ' φ')))
    (hs : ∀ env x, foldedSetIterable iter env x = pure x := by intro _ _; rfl) : EX1 C ρ φ (.For target iter body [] pos) R := fun s Q E st i q1 q2 => by
  refine wpAny_For (h s _ _ st i fun ds tgt φ₁ I h₁ tk ⟨Inv, inv0, step, fin⟩ a i₁ ⟨Sx, wr, hwr, s0, frame, item, done⟩ => ?_) (hs _)
  have up : ∀ {b : Addr} {o : Obj}, s.heap.get? b = some o → b ∉ wr := fun {b o} e hb => by rw [hwr b hb] at e; cases e
  refine codeAny_forLoop_any
    (fun n s' => ∃ h' tk k ρ' φ', s' = { s with heap := h', toks := tk } ∧ k ≤ ds.length ∧ n = ds.length + 1 - k ∧ St C ρ' h' ∧ C.In φ' h' ∧ Sx k h' ∧ C.StayO s.heap h' ∧ Inv k ρ' φ') ?_ (ds.length + 1)
    ⟨h₁, tk, 0, ρ, φ₁, rfl, Nat.zero_le _, rfl, st.stay ok a i₁, i₁, s0, a.o, inv0⟩
  rintro n s' ⟨H, tk', k, ρ', φ', rfl, hk, rfl, st', i', sx, so, inv⟩
  by_cases hlt : k < ds.length
  · have hd : ds[k]? = some ds[k] := List.getElem?_eq_getElem hlt
    let Inn : Nat → Shared → Prop := fun n s' => ∃ h' tk k ρ' φ', s' = { s with heap := h', toks := tk } ∧ k ≤ ds.length ∧ n = ds.length + 1 - k ∧ St C ρ' h' ∧ C.In φ' h' ∧ Sx k h' ∧ C.StayO s.heap h' ∧ Inv k ρ' φ'
    let Eb : Value → Shared → Prop := notedBy (model C.prog C.w) C.A C.env fun e s' => cameBackBy (model C.prog C.w) C.A C.env E e s'
    let Qb : Unit → Shared → Prop := fun _ s₂ => wpAny (model C.prog C.w) C.A (execs body C.env) (fun f s₃ => match f with
      | .next => ∃ m, m < ds.length + 1 - k ∧ Inn m s₃
      | .cont => ∃ m, m < ds.length + 1 - k ∧ Inn m s₃
      | .brk => Q .next s₃
      | .ret v => Q (.ret v) s₃) Eb s₂
    have key := item k { s with heap := H, toks := tk' } ρ' φ' ds[k] Qb Eb hd st' i' sx fun ρ₂ h₂ tk₂ htg k₂ st₂ i₂ sx₂ => ?_
    · refine wpAny_mono key (fun r s₁ hr => ?_) fun _ _ e => e
      cases r with
      | none => exact hr.elim
      | some v => exact hr
    · have k02 : C.StayO s.heap h₂ := fun b o e m l c => k₂ b o (so b o e m l c) m l c (up e)
      refine step k ds[k] ρ' φ' hd inv ρ₂ htg _ _ _ st₂ i₂ (fun ρ₃ φ₃ h₃ tk₃ r₃ k₃ st₃ i₃ => ?_) fun d φ₃ v h₃ tk₃ r₃ k₃ l₃ i₃ x₃ => ?_
      · exact ⟨ds.length + 1 - (k + 1), by omega, h₃, tk₃, k + 1, ρ₃, φ₃, rfl, hlt, rfl, st₃, i₃, frame _ _ _ _ st₂ k₃ sx₂, k02.trans k₃, r₃⟩
      · exact q2 d φ₃ v h₃ tk₃ r₃ (k02.trans k₃) l₃ i₃ x₃
  · have hk' : k = ds.length := by omega
    subst hk'
    refine done _ ρ' φ' _ _ st' i' sx fun h₂ tk₂ k₂ st₂ i₂ => wpAny_execs_nil ?_
    exact q1 ρ' φ' h₂ tk₂ (fin ρ' φ' inv) (fun b o e m l c => k₂ b o (so b o e m l c) (up e)) st₂ i₂
end
end Mine
end
section
open PySem PySem.W PyProof.Rows PySem.Calls
set_option maxRecDepth 100000
namespace Mine

mutual
theorem Is.widen {W W' : Addr → Prop} {h : Heap} (k : ∀ a, W' a → W a ∨ h.get? a = none) : ∀ {v : Value} {d : D}, Is W h v d → Is W' h v d
  | _, _, .none => .none
  | _, _, .bool b => .bool b
  | _, _, .int i t => .int i t
  | _, _, .str x t => .str x t
  | _, _, .tup t n r => .tup t (fun m => (k _ m).elim n fun e => by obtain ⟨o, ho, _⟩ := t; rw [e] at ho; cases ho) (IsAll.widen k r)
  | _, _, .lst t n r => .lst t (fun m => (k _ m).elim n fun e => by obtain ⟨o, ho, _⟩ := t; rw [e] at ho; cases ho) (IsAll.widen k r)
  | _, _, .ref a => .ref a
  | _, _, .typ n => .typ n
theorem IsAll.widen {W W' : Addr → Prop} {h : Heap} (k : ∀ a, W' a → W a ∨ h.get? a = none) : ∀ {vs : List Value} {ds : List D}, IsAll W h vs ds → IsAll W' h vs ds
  | _, _, .nil => .nil
  | _, _, .cons a r => .cons (Is.widen k a) (IsAll.widen k r)
end

noncomputable def clFrom (cells : List (Str × Addr)) : List (Str × NameKind) → List (Str × Addr) → List (Str × Addr)
  | [], acc => acc
  | (n, k) :: r, acc => if k == .free then clFrom cells r ((n, (cells.lookup n).getD 0) :: acc) else clFrom cells r acc
theorem closure_eq {env : Env} {scope : Scope} (h : scope.names.all (fun p => p.2 != .free || (env.cells.lookup p.1).isSome) = true) : closureFor scope env = pure (clFrom env.cells scope.names []) := by
  have key : ∀ (names : List (Str × NameKind)) (acc : List (Str × Addr)), names.all (fun p => p.2 != .free || (env.cells.lookup p.1).isSome) = true →
      (forIn names acc fun (p : Str × NameKind) (cs : List (Str × Addr)) => (match p with | (name, kind) => if kind == .free then do let a ← cellOf env name; pure (ForInStep.yield ((name, a) :: cs)) else pure (ForInStep.yield cs) : Sem (ForInStep (List (Str × Addr))))) = pure (clFrom env.cells names acc) := by
    intro names
    induction names with
    | nil => intro acc _; rfl
    | cons p r ih =>
      intro acc h
      obtain ⟨n, k⟩ := p
      simp only [List.all_cons, Bool.and_eq_true] at h
      rw [List.forIn_cons]
      unfold clFrom
      cases hk : k == NameKind.free with
      | false =>
        simp only [hk, Bool.false_eq_true, if_false]
        exact ih acc h.2
      | true =>
        have h1 := h.1
        have : (k != NameKind.free) = false := by simp [bne, hk]
        rw [this, Bool.false_or] at h1
        obtain ⟨c, hc⟩ := Option.isSome_iff_exists.mp h1
        simp only [hk, if_true, hc, Option.getD_some]
        have hcell : cellOf env n = pure c := by unfold cellOf; rw [hc]
        rw [hcell]
        exact ih _ h.2
  unfold closureFor
  show (forIn scope.names [] _ >>= _ : Sem (List (Str × Addr))) = _
  rw [show (forIn scope.names ([] : List (Str × Addr)) _ : Sem (List (Str × Addr))) = _ from key scope.names [] h]
  rfl
theorem clFrom_sub {cells : List (Str × Addr)} : ∀ {names : List (Str × NameKind)} {acc : List (Str × Addr)} {y : Str} {c : Addr}, names.all (fun p => p.2 != .free || (cells.lookup p.1).isSome) = true →
    (∀ y c, acc.lookup y = some c → cells.lookup y = some c) → (clFrom cells names acc).lookup y = some c → cells.lookup y = some c
  | [], _, _, _, _, ha, e => ha _ _ e
  | (n, k) :: r, acc, y, c, h, ha, e => by
    simp only [List.all_cons, Bool.and_eq_true] at h
    unfold clFrom at e
    cases hk : k == NameKind.free with
    | false => rw [hk] at e; exact clFrom_sub h.2 ha e
    | true =>
      rw [hk, if_pos rfl] at e
      refine clFrom_sub h.2 (fun y c hy => ?_) e
      rw [List.lookup_cons] at hy
      cases hb : y == n with
      | false => rw [hb] at hy; exact ha _ _ hy
      | true =>
        rw [hb] at hy
        have h1 := h.1
        have : (k != NameKind.free) = false := by simp [bne, hk]
        rw [this, Bool.false_or] at h1
        obtain ⟨c', hc⟩ := Option.isSome_iff_exists.mp h1
        rw [hc] at hy
        rw [beq_iff_eq.mp hb, hc]; simpa using hy
theorem clFrom_has {cells : List (Str × Addr)} : ∀ {names : List (Str × NameKind)} {acc : List (Str × Addr)} {y : Str}, (names.any (fun p => p.1 == y && p.2 == .free) = true ∨ (acc.lookup y).isSome = true) → ((clFrom cells names acc).lookup y).isSome = true
  | [], _, _, h => h.elim (fun e => by cases e) id
  | (n, k) :: r, acc, y, h => by
    unfold clFrom
    cases hk : k == NameKind.free with
    | false =>
      refine clFrom_has (h.imp (fun e => ?_) id)
      simp only [List.any_cons, hk, Bool.and_false, Bool.false_or] at e
      exact e
    | true =>
      rw [if_pos rfl]
      refine clFrom_has ?_
      by_cases hy : (y == n) = true
      · exact .inr (by rw [List.lookup_cons, hy]; rfl)
      · refine h.imp (fun e => ?_) fun e => ?_
        · simp only [List.any_cons, Bool.or_eq_true] at e
          rcases e with e | e
          · exfalso
            have := (Bool.and_eq_true_iff.mp e).1
            exact hy (by rw [beq_iff_eq.mp this]; exact beq_self_eq_true _)
          · exact e
        · rw [List.lookup_cons, show (y == n) = false from Bool.eq_false_iff.mpr hy]; exact e

noncomputable abbrev Cx.comp (C : Cx) (scope : Scope) (c d : Addr) : Cx := { C with env := compEnvC scope (clFrom C.env.cells scope.names []) c C.env, W := fun a => C.W a ∨ a = d }

section
variable {C : Cx} {ρ : List (Str × D)} {φ : C.S}
theorem comp_ok (ok : C.Ok) {scope : Scope} {c d : Addr} (hk : scope.kind = .function) (hfr : scope.names.all (fun p => p.2 != .free || (C.env.cells.lookup p.1).isSome) = true)
    (hc : C.B.get? c = none) (hd : C.B.get? d = none) (hcM : ¬ C.W c) (hcd : c ≠ d) (hcc : ∀ n, C.env.cells.lookup n ≠ some c) (hcd' : ∀ n, C.env.cells.lookup n ≠ some d) : (C.comp scope c d).Ok :=
  have sub : ∀ {n : Str} {a : Addr}, (clFrom C.env.cells scope.names []).lookup n = some a → C.env.cells.lookup n = some a := fun e => clFrom_sub hfr (fun _ _ h => by cases h) e
  { base := ok.base, hh := ok.hh, kind := by show (relabel scope C.env).kind = _; simp [relabel, hk], eg := ok.eg, eb := ok.eb, mow := fun a m => .inl (ok.mow a m)
    wb := fun a o m e => m.elim (fun m => ok.wb a o m e) fun m => by subst m; rw [hd] at e; cases e
    locB := hc, celB := fun n a h => ok.celB n a (sub h), locM := fun m => m.elim hcM hcd, celM := fun n a h m => m.elim (ok.celM n a (sub h)) fun e => hcd' n (by rw [← e]; exact sub h), celL := fun n a h e => hcc n (by rw [show c = a from (show a = c from e).symm]; exact sub h)
    apart := fun n n' a h h' => ok.apart n n' a (sub h) (sub h'), ikeep := fun φ h h' i k => ok.ikeep φ h h' i fun b o e m => k b o e (.inl m), ilive := ok.ilive }

theorem relabel_kind {scope : Scope} {env : Env} {y : Str} {k : NameKind} (h : (relabel scope env).names.lookup y = some k) : (scope.names.lookup y = some k ∧ k ≠ .free) ∨ (scope.names.lookup y = some .free ∧ (k = .cell ∨ k = .free) ) := by
  have key : ∀ names : List (Str × NameKind), (names.map fun (n, k) => if (k == NameKind.free && env.scope.kind == .function && env.kindOf n == some .cell) then (n, NameKind.cell) else (n, k)).lookup y = some k →
      (names.lookup y = some k ∧ k ≠ .free) ∨ (names.lookup y = some .free ∧ (k = .cell ∨ k = .free)) := by
    intro names
    induction names with
    | nil => intro e; simp at e
    | cons p r ih =>
      obtain ⟨n, k'⟩ := p
      intro e
      by_cases hc : (k' == NameKind.free && env.scope.kind == .function && env.kindOf n == some .cell) = true
      · rw [List.map_cons] at e
        dsimp only at e
        rw [if_pos hc, List.lookup_cons] at e
        rw [List.lookup_cons]
        cases hb : y == n with
        | true =>
          rw [hb] at e; cases e
          have : k' = .free := by simp only [Bool.and_eq_true, beq_iff_eq] at hc; exact hc.1.1
          subst this
          exact .inr ⟨rfl, .inl rfl⟩
        | false => rw [hb] at e; exact ih e
      · rw [List.map_cons] at e
        dsimp only at e
        rw [if_neg hc, List.lookup_cons] at e
        rw [List.lookup_cons]
        cases hb : y == n with
        | true =>
          rw [hb] at e; cases e
          by_cases hf : k = .free
          · subst hf; exact .inr ⟨rfl, .inr rfl⟩
          · exact .inl ⟨rfl, hf⟩
        | false => rw [hb] at e; exact ih e
  exact key _ h

theorem St.acc {C : Cx} (ok : C.Ok) {ρ : List (Str × D)} {h h' : Heap} {φ : C.S} (st : St C ρ h) (i : C.In φ h) {d : Addr} (hw : C.W d) (hm : ¬ C.Mo d) (hl : d ≠ C.env.locals) (hc : ∀ x, C.env.cells.lookup x ≠ some d) (hb : C.B.get? d = none)
    (hi : ∀ h h' φ, C.In φ h → (∀ b o, b ≠ d → h.get? b = some o → h'.get? b = some o) → C.In φ h')
    (k : Heap.SameBut d h h') (e : ∃ o, h'.get? d = some o) : St C ρ h' ∧ C.In φ h' ∧ Keep C.W h h' := by
  have kk : ∀ b o, b ≠ d → h.get? b = some o → h'.get? b = some o := fun b o hb e => k.extBut b o hb e
  have kp : Keep C.W h h' := fun b o e sq n => kk b o (fun eb => n (eb ▸ hw)) e
  refine ⟨⟨⟨fun b o e => kk b o (fun eb => by rw [eb, hb] at e; cases e) (st.base b o e), fun a ha => ?_⟩, ?_, fun x d' hx hk => ?_, fun x c hc' => ?_⟩, hi _ _ _ i kk, kp⟩
  · by_cases ea : a = d
    · subst ea; exact e
    · obtain ⟨o, ho⟩ := st.alive a ha
      exact ⟨o, kk a o ea ho⟩
  · obtain ⟨m, ⟨o, es, ep, e, r⟩, hm⟩ := st.loc
    refine ⟨m, ⟨o, es, ep, kk _ o (Ne.symm hl) e, r⟩, fun x d hx hk => ?_⟩
    obtain ⟨v, hv, hi⟩ := hm x d hx hk
    exact ⟨v, hv, hi.keep kp⟩
  · obtain ⟨c, v, hc', ⟨o, e, hd⟩, hi⟩ := st.cel x d' hx hk
    exact ⟨c, v, hc', ⟨o, kk c o (fun eb => hc x (eb ▸ hc')) e, hd⟩, hi.keep kp⟩
  · obtain ⟨v, o, e, hd⟩ := st.cex x c hc'
    exact ⟨v, o, kk c o (fun eb => hc x (eb ▸ hc')) e, hd⟩
end
end Mine
end
section
open PySem PySem.W PyProof.Rows PySem.Calls
set_option maxRecDepth 100000
namespace Mine
mutual
theorem Is.narrow {W W' : Addr → Prop} {h : Heap} (k : ∀ a, W' a → W a) : ∀ {v : Value} {d : D}, Is W h v d → Is W' h v d
  | _, _, .none => .none
  | _, _, .bool b => .bool b
  | _, _, .int i t => .int i t
  | _, _, .str x t => .str x t
  | _, _, .tup t n r => .tup t (fun m => n (k _ m)) (IsAll.narrow k r)
  | _, _, .lst t n r => .lst t (fun m => n (k _ m)) (IsAll.narrow k r)
  | _, _, .ref a => .ref a
  | _, _, .typ n => .typ n
theorem IsAll.narrow {W W' : Addr → Prop} {h : Heap} (k : ∀ a, W' a → W a) : ∀ {vs : List Value} {ds : List D}, IsAll W h vs ds → IsAll W' h vs ds
  | _, _, .nil => .nil
  | _, _, .cons a r => .cons (Is.narrow k a) (IsAll.narrow k r)
end
section
variable {C : Cx} {ρ : List (Str × D)} {φ : C.S}

/-- the comprehension's block: what is asked of its scope -/
structure CompScope (C : Cx) (scope : Scope) (x : Str) (ρ : List (Str × D)) : Prop where
  cell : ∀ y ∈ scope.names, y.2 ≠ .cell
  kind : scope.kind = .function
  names : ∀ y ∈ scope.names, y.2 = .local → scope.names.lookup y.1 = some .local
  x : scope.names.lookup x = some .local
  free : scope.names.all (fun p => p.2 != .free || (C.env.cells.lookup p.1).isSome) = true
  freeK : ∀ y, scope.names.lookup y = some .free → C.env.kindOf y = some .cell ∨ C.env.kindOf y = some .free
  off : ∀ y d, ρ.lookup y = some d → scope.names.lookup y ≠ some .local

theorem comp_st (ok : C.Ok) {scope : Scope} {x : Str} {h h' : Heap} (sc : CompScope C scope x ρ) (st : St C ρ h) {c d : Addr} (hkeep : ∀ b o, h.get? b = some o → h'.get? b = some o) (hn : h'.Ns c fun _ => none) (hd : ∃ o, h'.get? d = some o) (hdn : h.get? d = none) :
    St (C.comp scope c d) ρ h' := by
  have wid : ∀ {v : Value} {e : D}, Is C.W h v e → Is (C.comp scope c d).W h' v e := fun i => (i.widen (W' := (C.comp scope c d).W) fun a m => m.imp id fun e => e ▸ hdn).keep (.all hkeep)
  refine ⟨⟨fun b o e => hkeep b o (st.base b o e), fun a m => ?_⟩, ⟨_, hn, fun y e hy hk => ?_⟩, fun y e hy hk => ?_, fun y c' hc' => ?_⟩
  · rcases m with m | m
    · obtain ⟨o, ho⟩ := st.alive a m; exact ⟨o, hkeep _ _ ho⟩
    · subst m; exact hd
  · exfalso
    rcases relabel_kind (show (relabel scope C.env).names.lookup y = some .local from hk) with ⟨h1, _⟩ | ⟨_, h1 | h1⟩
    · exact sc.off y e hy h1
    · cases h1
    · cases h1
  · have hf : scope.names.lookup y = some .free := by
      rcases hk with hk | hk
      · rcases relabel_kind (show (relabel scope C.env).names.lookup y = some .cell from hk) with ⟨h1, _⟩ | ⟨h1, _⟩
        · exact absurd rfl (sc.cell _ (mem_of_lookup h1))
        · exact h1
      · rcases relabel_kind (show (relabel scope C.env).names.lookup y = some .free from hk) with ⟨h1, _⟩ | ⟨h1, _⟩
        · exact h1
        · exact h1
    obtain ⟨c', v, hc', ⟨o, ho, hdd⟩, hi⟩ := st.cel y e hy (sc.freeK y hf)
    have has : ((clFrom C.env.cells scope.names []).lookup y).isSome = true := clFrom_has (.inl (List.any_eq_true.mpr ⟨(y, .free), mem_of_lookup hf, by simp⟩))
    obtain ⟨c2, hc2⟩ := Option.isSome_iff_exists.mp has
    have := clFrom_sub sc.free (fun _ _ h => by cases h) hc2
    rw [hc'] at this; cases this
    exact ⟨c', v, hc2, ⟨o, hkeep _ _ ho, hdd⟩, wid hi⟩
  · obtain ⟨v, o, ho, hdd⟩ := st.cex y c' (clFrom_sub sc.free (fun _ _ h => by cases h) hc')
    exact ⟨v, o, hkeep _ _ ho, hdd⟩

set_option maxHeartbeats 1000000 in
theorem EV_comp (ok : C.Ok) {elt iter : Expr} {x : Str} {px pos : Pos} {scope : Scope} {R : D → C.S → Prop} (sc : CompScope C scope x ρ)
    (h : SRC C ρ φ iter fun ds φ₁ => ds.length ≤ sizeLine ∧ ∃ Inv : Nat → List D → C.S → Prop, Inv 0 [] φ₁ ∧
      (∀ k d outs φ' c a, ds[k]? = some d → Inv k outs φ' → outs.length = k → (C.comp scope c a).Ok → EV (C.comp scope c a) ((x, d) :: ρ) φ' elt (fun y φ₂ => Inv (k + 1) (outs ++ [y]) φ₂)) ∧
      (∀ outs φ', Inv ds.length outs φ' → outs.length = ds.length → R (.lst outs) φ'))
    (hs : ∀ x, foldedSetIterable iter C.env x = pure x := by intro _; rfl) : EV C ρ φ (.ListComp elt [⟨.Name x px, iter, [], 0⟩] scope pos) R := fun s Q E st i q => by
  rw [eval_ListComp]
  refine wpAny_comprehension_free (use := none) rfl hs (closure_eq sc.free) sc.kind sc.names (h s _ _ st i fun ds φ₁ I h₁ tk ⟨hsz, Inv, inv0, step, fin⟩ a₁ i₁ eI w => ?_)
  obtain ⟨fp, P, Sx, W, s0, hS, hfp, hI, hP⟩ := w
  have st₁ := st.stay ok a₁ i₁
  have off := off_of ok st eI
  refine wpAny_newObj_type (wpAny_newFunctionEnv sc.cell (by intro y hy; simp at hy) (fun h₂ hns hsb => ?_) sc.kind)
  dsimp only at hns hsb ⊢
  generalize hH : h₁.push { cls := .type "list", dict := none, data := .seq ([] : List Value).toArray } = H at hns hsb ⊢
  have hHs : H.objs.size = h₁.objs.size + 1 := by rw [← hH, Heap.size_push]
  have nD : h₁.get? h₁.objs.size = none := get_size _
  have nC : h₁.get? H.objs.size = none := ge_none (by omega)
  have hDC : h₁.objs.size ≠ H.objs.size := by omega
  have keep12 : ∀ b o, h₁.get? b = some o → h₂.get? b = some o := fun b o e => hsb.extBut b o (fun eb => by rw [eb, nC] at e; cases e) (Heap.get?_push_of_some _ (by rw [← hH]; exact Heap.get?_push_of_some _ e))
  have hacc : h₂.IsList h₁.objs.size ([] : List Value).toArray := ⟨_, hsb.extBut _ _ hDC (Heap.get?_push_of_some _ (by rw [← hH]; exact Heap.get?_push_size _ rfl)), rfl, _, rfl⟩
  have IH : ∃ o, h₁.get? I = some o := by obtain ⟨o, _, _, ho, _⟩ := hS 0 _ s0; exact ⟨o, ho⟩
  have hID : I ≠ h₁.objs.size := fun e => by obtain ⟨o, ho⟩ := IH; rw [e, nD] at ho; cases ho
  have hIC : I ≠ H.objs.size := fun e => by obtain ⟨o, ho⟩ := IH; rw [e, nC] at ho; cases ho
  have bnone : ∀ {a : Addr}, h₁.get? a = none → C.B.get? a = none := fun {a} e => by
    cases q : C.B.get? a with
    | none => rfl
    | some o => rw [st₁.base _ _ q] at e; cases e
  have cnone : ∀ {a : Addr}, h₁.get? a = none → ∀ n, C.env.cells.lookup n ≠ some a := fun {a} e n hn => by
    obtain ⟨v, o, ho, _⟩ := st₁.cex n a hn
    rw [e] at ho; cases ho
  have wnD : ¬ C.W h₁.objs.size := st₁.toLive.fresh nD
  have wnC : ¬ C.W H.objs.size := st₁.toLive.fresh nC
  have ok' : (C.comp scope H.objs.size h₁.objs.size).Ok := comp_ok ok sc.kind sc.free (bnone nC) (bnone nD) wnC (Ne.symm hDC) (cnone nC) (cnone nD)
  have clsub : ∀ {n : Str} {a : Addr}, (C.comp scope H.objs.size h₁.objs.size).env.cells.lookup n = some a → C.env.cells.lookup n = some a := fun e => clFrom_sub sc.free (fun _ _ h => by cases h) e
  have st₂ : St (C.comp scope H.objs.size h₁.objs.size) ρ h₂ := comp_st ok sc st₁ keep12 hns (by obtain ⟨o, ho, _⟩ := hacc; exact ⟨o, ho⟩) nD
  have i₂ : C.In φ₁ h₂ := ok.ikeep _ _ _ i₁ fun b o e _ => keep12 b o e
  have offI : ∀ hh, Off (C.comp scope H.objs.size h₁.objs.size) hh I := fun _ => ⟨fun m => m.elim off.w hID, hIC, fun n hn => off.c n (clsub hn), off.b⟩
  have s02 : Sx 0 h₂ := W.frame _ _ _ s0 fun b _ o e => keep12 b o e
  have fp₂ : ∀ b ∈ fp, b ≠ I → ∃ o, h₂.get? b = some o ∧ (∃ xs n, o.data = .seq xs n) ∧ ¬ (C.comp scope H.objs.size h₁.objs.size).W b := fun b hb hn => by
    obtain ⟨o, ho, sq, hw⟩ := hfp b hb hn
    exact ⟨o, keep12 _ _ ho, sq, fun m => m.elim hw fun e => by rw [e, nD] at ho; cases ho⟩
  have hP₂ : ∀ j v, P j v → j < ds.length → ∃ d, ds[j]? = some d ∧ Is (C.comp scope H.objs.size h₁.objs.size).W h₂ v d := fun j v hv hl => by
    obtain ⟨d, hd, hi⟩ := hP j v hv hl
    exact ⟨d, hd, ((hi h₁ (.all fun _ _ e => e)).widen (W' := (C.comp scope H.objs.size h₁.objs.size).W) fun a m => m.imp id fun e => e ▸ nD).keep (.all keep12)⟩
  have hin : ∀ h h' φ, C.In φ h → (∀ b o, b ≠ h₁.objs.size → h.get? b = some o → h'.get? b = some o) → C.In φ h' := fun h h' φ i k => ok.ikeep φ h h' i fun b o e m => k b o (fun eb => wnD (eb ▸ m)) e
  have hkx : (C.comp scope H.objs.size h₁.objs.size).env.kindOf x = some .local := lookup_relabel_local sc.x
  have hxρ : ∀ d', ∀ y e, ρ.lookup y = some e → ((x, d') :: ρ).lookup y = some e := fun d' y e hy => by
    rw [lookup_cons, if_neg (fun eq => sc.off y e hy (by rw [eq]; exact sc.x))]; exact hy
  have loop : ∀ sL : Shared, sL = { s with heap := h₂, toks := tk + ([] : List (Str × Value)).length } →
      codeAny (model C.prog C.w) C.A (.compLoop (.ListComp elt [⟨.Name x px, iter, [], 0⟩] scope pos) 0 (.ref I) (.ref h₁.objs.size) (compEnvC scope (clFrom C.env.cells scope.names []) H.objs.size C.env))
        (compPost (model C.prog C.w) C.A E none Q (.ref h₁.objs.size) H.objs.size) sL := by
    rintro sL rfl
    refine codeAny_compLoop_list
      (fun n s' => ∃ h' tk' k outs ys φ', s' = { s with heap := h', toks := tk' } ∧ k ≤ ds.length ∧ n = ds.length + 1 - k ∧ St (C.comp scope H.objs.size h₁.objs.size) ρ h' ∧ C.In φ' h' ∧ Sx k h' ∧
        (∀ b ∈ fp, b ≠ I → ∃ o, h'.get? b = some o ∧ (∃ xs n, o.data = .seq xs n) ∧ ¬ (C.comp scope H.objs.size h₁.objs.size).W b) ∧ (∀ j v, P j v → j < ds.length → ∃ d, ds[j]? = some d ∧ Is (C.comp scope H.objs.size h₁.objs.size).W h' v d) ∧
        h'.IsList h₁.objs.size ys.toArray ∧ IsAll (C.comp scope H.objs.size h₁.objs.size).W h' ys outs ∧ outs.length = k ∧ Inv k outs φ' ∧ (∀ b o, s.heap.get? b = some o → ¬ C.Mo b → h'.get? b = some o)) ?_ (ds.length + 1)
      ⟨h₂, _, 0, [], [], φ₁, rfl, Nat.zero_le _, rfl, st₂, i₂, s02, fp₂, hP₂, hacc, .nil, rfl, inv0, fun b o e m => keep12 b o (a₁ b o e m)⟩
    rintro n s' ⟨h₃, tk₃, k, outs, ys, φ', rfl, hk, rfl, st₃, i₃, sx, f₃, p₃, l₃, o₃, ho, inv, stay⟩
    have sold : ∀ {b : Addr} {o : Obj}, s.heap.get? b = some o → ¬ C.Mo b → b ≠ I ∧ b ≠ H.objs.size ∧ b ≠ h₁.objs.size := fun {b o} e m => ⟨fun eb => by (rw [eb, eI] at e; cases e), fun eb => by (have := a₁ b o e m; rw [eb, nC] at this; cases this), fun eb => by (have := a₁ b o e m; rw [eb, nD] at this; cases this)⟩
    by_cases hlt : k < ds.length
    · have hd : ds[k]? = some ds[k] := List.getElem?_eq_getElem hlt
      refine W.item k _ _ _ hlt sx fun v h₄ tk₄ pv s₄ k₄ => ?_
      obtain ⟨st₄, i₄, kw₄⟩ := St.iter (C := C.comp scope H.objs.size h₁.objs.size) ok' st₃ i₃ (offI _) (hS _ _ sx).noseq k₄
      obtain ⟨d', hd', hi⟩ := p₃ k v pv hlt
      rw [hd] at hd'; cases hd'
      refine wpAny_assign_Name (store_loc (C := C.comp scope H.objs.size h₁.objs.size) ok' st₄ i₄ hkx (hi.keep kw₄) fun h₅ tk₅ k₅ st₅ i₅ => ?_)
      have kw₅ : Keep (C.comp scope H.objs.size h₁.objs.size).W h₄ h₅ := StayO.keepW (C := C.comp scope H.objs.size h₁.objs.size) ok' st₄ fun b o e _ hl _ => k₅ b o hl e
      refine step k ds[k] outs φ' H.objs.size h₁.objs.size hd inv ho ok' _ _ _ st₅ i₅ fun y φ₂ yv h₆ tk₆ r₆ a₆ i₆ x₆ => ?_
      have st₆ := St.stay (C := C.comp scope H.objs.size h₁.objs.size) ok' st₅ a₆ i₆
      have kw₆ : Keep (C.comp scope H.objs.size h₁.objs.size).W h₅ h₆ := Cx.Stay.keep (C := C.comp scope H.objs.size h₁.objs.size) ok' a₆
      have l₆ : h₆.IsList h₁.objs.size ys.toArray := by
        obtain ⟨o, e, r⟩ := l₃
        exact ⟨o, a₆ _ _ (k₅ _ o hDC (k₄ _ o (by simpa using Ne.symm hID) e)) fun m => wnD (ok.mow _ m), r⟩
      have hys : ys.length ≤ sizeLine := by rw [o₃.length, ho]; omega
      refine wpAny_list_append (hsz := by rw [List.size_toArray]; exact hys) l₆ fun h₇ l₇ k₇ => ?_
      obtain ⟨st₇, i₇, kw₇⟩ := St.acc (C := C.comp scope H.objs.size h₁.objs.size) ok' st₆ i₆ (d := h₁.objs.size) (.inr rfl) (fun m => wnD (ok.mow _ m)) hDC (fun n hn => cnone nD n (clsub hn)) (bnone nD) hin k₇ (by obtain ⟨o, e, _⟩ := l₇; exact ⟨o, e⟩)
      have kall : Keep (C.comp scope H.objs.size h₁.objs.size).W h₃ h₇ := fun b o e sq n => kw₇ b o (kw₆ b o (kw₅ b o (kw₄ b o e sq n) sq n) sq n) sq n
      have kfp : ∀ b ∈ fp, ∀ o, h₄.get? b = some o → h₇.get? b = some o := fun b hb o e => by
        by_cases hbI : b = I
        · subst hbI
          exact k₇.extBut b o hID (a₆ b o (k₅ b o hIC e) fun m => off.w (ok.mow _ m))
        · obtain ⟨o', e', sq, hw⟩ := f₃ b hb hbI
          have e4 := k₄ b o' (by simpa using hbI) e'
          rw [e] at e4; cases e4
          exact kw₇ b o (kw₆ b o (kw₅ b o e sq hw) sq hw) sq hw
      refine ⟨ds.length + 1 - (k + 1), by omega, h₇, tk₆, k + 1, outs ++ [y], ys ++ [yv], φ₂, rfl, hlt, rfl, st₇.less (hxρ _), i₇, W.frame _ _ _ s₄ kfp, fun b hb hn => ?_, fun j u hu hl => ?_, ?_, ?_, ?_, r₆, fun b o e m => ?_⟩
      · obtain ⟨o, e, sq, hw⟩ := f₃ b hb hn
        exact ⟨o, kall b o e sq hw, sq, hw⟩
      · obtain ⟨d', hd', hi'⟩ := p₃ j u hu hl
        exact ⟨d', hd', hi'.keep kall⟩
      · simpa using l₇
      · exact (o₃.keep kall).append (.cons (x₆.keep kw₇) .nil)
      · rw [List.length_append, ho]; rfl
      · obtain ⟨n1, n2, n3⟩ := sold e m
        exact k₇.extBut b o n3 (a₆ b o (k₅ b o n2 (k₄ b o (by simpa using n1) (stay b o e m))) m)
    · have hk' : k = ds.length := by omega
      subst hk'
      refine W.done _ _ _ sx fun h₄ tk₄ k₄ => ?_
      obtain ⟨st₄, i₄, kw₄⟩ := St.iter (C := C.comp scope H.objs.size h₁.objs.size) ok' st₃ i₃ (offI _) (hS _ _ sx).noseq k₄
      obtain ⟨mm, hmm, _⟩ := st₄.loc
      refine ⟨mm, hmm, fun h₅ k₅ => ?_⟩
      have kw₅ : Keep (C.comp scope H.objs.size h₁.objs.size).W h₄ h₅ := StayO.keepW (C := C.comp scope H.objs.size h₁.objs.size) ok' st₄ fun b o e _ hl _ => k₅.extBut b o hl e
      have l₅ : h₅.IsList h₁.objs.size ys.toArray := by
        obtain ⟨o, e, r⟩ := l₃
        exact ⟨o, k₅.extBut _ o hDC (k₄ _ o (by simpa using Ne.symm hID) e), r⟩
      refine q (.lst outs) φ' _ h₅ tk₄ (fin outs φ' inv ho) (fun b o e m => ?_) (ok.ikeep _ _ _ i₄ fun b o e m => k₅.extBut b o (fun eb => wnC (eb ▸ m)) e) (.lst l₅ wnD (((o₃.keep kw₄).keep kw₅).narrow fun a m => .inl m))
      obtain ⟨n1, n2, n3⟩ := sold e m
      exact k₅.extBut b o n2 (k₄ b o (by simpa using n1) (stay b o e m))
  exact codeAny_compStart_list (loop _ rfl) (W.self 0 _ _ _ s02 (loop _ rfl))
end
end Mine
end
section
open PySem PySem.W PyProof.Rows PySem.Calls
set_option maxRecDepth 100000
namespace Mine
section
variable {C : Cx} {ρ : List (Str × D)} {φ : C.S}

theorem OP_max {a b : Int} {R : D → C.S → Prop} (ok : C.Ok) (r : R (.int (max a b)) φ) : OP C φ (fun vs => call (.builtin "max") vs) [.int a, .int b] R := fun s vs Q E l i x q => ints2 x fun t u => by
  refine max_two_ints ok.hh fun h' tk hk => ?_
  have i' : C.In φ h' := ok.ikeep _ _ _ i fun b o e _ => hk b o e
  split
  · rename_i hb
    rw [show max a b = b from Int.max_eq_right (by omega)] at r
    exact q _ φ _ h' tk r (.all hk) i' (.int _ _)
  · rename_i hb
    rw [show max a b = a from Int.max_eq_left (by omega)] at r
    exact q _ φ _ h' tk r (.all hk) i' (.int _ _)

/-! the least of a tuple of ints -/
theorem IsAll.ints {W : Addr → Prop} {h : Heap} {vs : List Value} {ns : List Int} (x : IsAll W h vs (ns.map D.int)) (i : Nat) (v : Value) (e : vs[i]? = some v) : ∃ t, v = Value.int (ns.getD i 0) t := by
  obtain ⟨d, hd, k⟩ := x.getV e
  rw [List.getElem?_map] at hd
  obtain ⟨n, hn, rfl⟩ := Option.map_eq_some_iff.mp hd
  rw [List.getD_eq_getElem?_getD, hn]
  exact k.inv
theorem OP_minT {ns : List Int} {R : D → C.S → Prop} (ok : C.Ok) (hn : 0 < ns.length) (r : ∀ m, m ∈ ns → (∀ a ∈ ns, m ≤ a) → R (.int m) φ) : OP C φ (fun vs => call (.builtin "min") vs) [.tup (ns.map .int)] R := fun s vs Q E l i x q => IsAll.one_e x fun v xv => Is.tup_e xv fun t us ht nt at' => by
  have hlen : us.length = ns.length := by rw [at'.length, List.length_map]
  have hlt : t < s.heap.objs.size := by obtain ⟨_, e, _⟩ := ht; exact Heap.lt_size e
  refine call_min_walk (iter_tuple ht ?_)
  have hs0 : us.toArray.size = ns.length := List.size_toArray.trans hlen
  have W := Walks.tuple (prog := C.prog) (w := C.w) (A := C.A.in1) ok.hh s.heap.objs.size t (Nat.ne_of_lt hlt) us.toArray
  rw [hs0] at W
  refine ⟨s.heap.objs.size, [s.heap.objs.size, t], [s.heap.objs.size], ns.length, _, _, _, rfl, W, ⟨⟨_, Heap.get?_push_size _ rfl, rfl, rfl⟩, isTup_keep (W := fun _ => False) (.all fun b o e => Heap.get?_push_of_some _ e) ht id⟩, fun b hb => ?_, hn, CmpOf.ints_lt (fun i => ns.getD i 0) (fun j v hv => at'.ints j v (by simpa using hv)), fun v h' tk hv hk => ?_⟩
  · show b < (s.heap.push _).objs.size
    rw [Heap.size_push]
    simp only [List.mem_cons, List.not_mem_nil, or_false] at hb
    rcases hb with rfl | rfl
    · exact Nat.lt_succ_self _
    · exact Nat.lt_succ_of_lt hlt
  · have hk' := LSm.kept_iter (s := s) hk
    have key : ∃ m t', v = .int m t' ∧ m ∈ ns ∧ ∀ a ∈ ns, m ≤ a := by
      obtain ⟨h1, h2⟩ := argBest_lt (fun i => ns.getD i 0) (ns.length - 1)
      have hv2 : us.toArray[argBest (fun i j => decide (ns.getD i 0 < ns.getD j 0)) (ns.length - 1)]? = some v := hv
      generalize argBest (fun i j => decide (ns.getD i 0 < ns.getD j 0)) (ns.length - 1) = best at h1 h2 hv2
      obtain ⟨t', rfl⟩ := at'.ints best v (by simpa using hv2)
      have hb : best < ns.length := by omega
      refine ⟨_, t', rfl, ?_, fun a ha => ?_⟩
      · rw [List.getD_eq_getElem?_getD, List.getElem?_eq_getElem hb]
        exact List.getElem_mem hb
      · obtain ⟨j, hj, rfl⟩ := List.getElem_of_mem ha
        have := h2 j (by omega)
        rw [List.getD_eq_getElem?_getD (l := ns) (i := j), List.getElem?_eq_getElem hj] at this
        exact this
    obtain ⟨m, t', rfl, hm, hall⟩ := key
    exact q _ φ _ h' tk (r m hm hall) (.all hk') (ok.ikeep _ _ _ i fun b o e _ => hk' b o e) (.int _ _)

/-! in a tuple of texts -/
theorem IsAll.strs {W : Addr → Prop} {h : Heap} {vs : List Value} {xs : List Str} (x : IsAll W h vs (xs.map D.str)) : StrsAre vs xs := by
  induction xs generalizing vs with
  | nil => exact x.nil_e .nil
  | cons b bs ih => exact x.cons_e fun v r a k => Is.str_e a fun t => .cons b t (ih k)
theorem OP_inT {xs : List Str} {x : Str} {R : D → C.S → Prop} (r : R (.bool (xs.any (· == x))) φ) : OP C φ (fun vs => compareOp .In (vs.getD 0 .none) (vs.getD 1 .none)) [.str x, .tup (xs.map .str)] R := OP_lit (fun _ => .bool (xs.any (· == x))) (fun _ _ => .bool _) (fun vs s Q E y q => IsAll.two_e y fun v u xv xu => Is.str_e xv fun t => Is.tup_e xu fun a us ht nt at' =>
  in_tuple_strs ht (show StrsAre us xs from at'.strs) (q s.toks _)) r

/-! is a tuple other than the empty one -/
theorem OP_neT0 {ds : List D} {R : D → C.S → Prop} (hu : C.A.units < cLine) (r : R (.bool (!ds.isEmpty)) φ) : OP C φ (fun vs => compareOp .NotEq (vs.getD 0 .none) (vs.getD 1 .none)) [.tup ds, .tup []] R := OP_lit (fun _ => .bool (!ds.isEmpty)) (fun _ _ => .bool _) (fun vs s Q E y q => IsAll.two_e y fun v u xv xu => Is.tup_e xv fun t us ht nt at' => Is.tup_e xu fun b ws hb nb ab => by
  have e0 : ws = [] := List.length_eq_zero_iff.mp ab.length
  subst e0
  have e : (!((List.range (min us.toArray.size (#[] : Array Value).size)).all (fun _ => true) && us.toArray.size == (#[] : Array Value).size)) = !ds.isEmpty := by
    have := at'.length
    cases ds with
    | nil => rw [List.length_eq_zero_iff.mp this]; rfl
    | cons d ds =>
      cases us with
      | nil => cases this
      | cons u us => rfl
  have key := SeqAt.RcNeAt.tuples (A := C.A) (s := s) (items := us.toArray) (items2 := #[]) (e := fun _ => true) ht hb hu (fun j h1 h2 => absurd h2 (Nat.not_lt_zero _))
  show wpAny _ _ (richCompare .NotEq _ _) _ _ _
  refine key C.prog C.w E Q ?_
  rw [e]
  exact q s.toks _) r
end
end Mine
end
section
open PySem PySem.W PyProof.Rows PySem.Calls
set_option maxRecDepth 100000
namespace Mine

/-- a dict of the text's own, by texts -/
inductive Ents (P : Params) (K : Frag) : List DictEntry → List (Str × D) → Prop
  | nil : Ents P K [] []
  | cons {x : Str} {t : Tok} {v : Value} {d : D} {es : List DictEntry} {tab : List (Str × D)} : GIs K v d → Ents P K es tab → Ents P K (⟨PyData.keyHash P x, .str x t, v⟩ :: es) ((x, d) :: tab)
theorem Ents.keys {P : Params} {K : Frag} {es : List DictEntry} {tab : List (Str × D)} (h : Ents P K es tab) : KeysLit P es := by
  induction h with
  | nil => trivial
  | cons _ _ ih => exact ⟨⟨_, _, rfl, rfl⟩, ih⟩
theorem isStrOf_eq {x y : Str} {t : Tok} : Value.isStrOf x (.str y t) = (x == y) := by
  show (y == x) = (x == y)
  by_cases h : x = y
  · subst h; rfl
  · rw [beq_eq_false_iff_ne.mpr h, beq_eq_false_iff_ne.mpr (Ne.symm h)]
/-- what is found is what stands there -/
theorem Ents.find {P : Params} {K : Frag} (x : Str) {es : List DictEntry} {tab : List (Str × D)} (h : Ents P K es tab) : (tab.lookup x = none ∧ findBy Value.isStrOf es.toArray x = none) ∨ (∃ d v, tab.lookup x = some d ∧ findBy Value.isStrOf es.toArray x = some v ∧ GIs K v d) := by
  induction h with
  | nil => exact .inl ⟨rfl, rfl⟩
  | @cons y t v d es tab g _ ih =>
    unfold findBy at ih ⊢
    rw [List.find?_toArray] at ih ⊢
    rw [List.find?_cons, List.lookup_cons]
    dsimp only
    rw [isStrOf_eq]
    cases x == y with
    | true => exact .inr ⟨d, v, rfl, rfl, g⟩
    | false => exact ih

section
variable {C : Cx} {ρ : List (Str × D)} {φ : C.S}
theorem ents_map (ok : C.Ok) {a : Addr} {es : List DictEntry} {n : Nat} {tab : List (Str × D)} {h : Heap} (l : C.Live h) (hl : C.K.lookup a = some ⟨.type "dict", none, .dict es.toArray n, #[]⟩) (he : Ents C.w.params C.K es tab) :
    h.MapOf (strKind C.prog C.w) a (fun k => findBy Value.isStrOf es.toArray k) :=
  mapOf_K (ok.base.K.keeps l.base) hl (by simpa using he.keys)
theorem OP_notinG (ok : C.Ok) {a : Addr} {es : List DictEntry} {n : Nat} {tab : List (Str × D)} {x : Str} {R : D → C.S → Prop} (hl : C.K.lookup a = some ⟨.type "dict", none, .dict es.toArray n, #[]⟩) (he : Ents C.w.params C.K es tab) (hs : (a == sysModules) = false)
    (r : R (.bool (!(tab.lookup x).isSome)) φ) : OP C φ (fun vs => compareOp .NotIn (vs.getD 0 .none) (vs.getD 1 .none)) [.str x, .ref a] R := fun s vs Q E l i y q => IsAll.two_e y fun v u xv xu => Is.str_e xv fun t => Is.ref_e xu (wpAny_notIn_of (strKind_is C.prog C.w x _) hs (ents_map ok l hl he) (by
  have e : (findBy Value.isStrOf es.toArray x).isSome = (tab.lookup x).isSome := (he.find x).elim (fun h => by rw [h.1, h.2]; rfl) fun ⟨d, v, h1, h2, _⟩ => by rw [h1, h2]; rfl
  rw [e]
  exact q _ φ _ s.heap _ r (.refl _ _) i (.bool _)))
/-- an item of such a dict -/
theorem EV_itemG (ok : C.Ok) {e n : Expr} {pos : Pos} {a : Addr} {es : List DictEntry} {m : Nat} {tab : List (Str × D)} {R : D → C.S → Prop} (hl : C.K.lookup a = some ⟨.type "dict", none, .dict es.toArray m, #[]⟩) (he : Ents C.w.params C.K es tab)
    (h : EV C ρ φ e fun d φ₁ => d = .ref a ∧ EV C ρ φ₁ n fun d' φ₂ => ∃ x y, d' = .str x ∧ tab.lookup x = some y ∧ R y φ₂)
    (hs : ∀ o i, subscripted n false o i = operate [o, i] (getItem o i) := by intro _ _; rfl) : EV C ρ φ (.Subscript e n pos) R := fun s Q E st i q =>
  Subscript_ (h s _ _ st i fun d φ₁ v h₁ tk r a₁ i₁ x => Is.ref_q x r.1 (r.2 _ _ _ (st.stay ok a₁ i₁) i₁ fun d' φ₂ v' h₂ tk₂ r₂ a₂ i₂ x₂ => by
  obtain ⟨x, y, ex, hx, r₂⟩ := r₂
  have l₂ := (st.stay ok a₁ i₁).toLive.stay ok a₂ i₂
  have hm := ents_map (h := h₂) ok l₂ hl he
  refine Is.str_q x₂ ex fun t => ?_
  rcases he.find x with ⟨h1, h2⟩ | ⟨d, v, h1, h2, g⟩
  · rw [h1] at hx; cases hx
  · rw [h1] at hx; cases hx
    exact tail_any (s := { s with heap := h₂, toks := tk₂ }) (T := "dict") hm.typeIs slot_dict_getitem.lookup (wpAny_getItem_of (strKind_is C.prog C.w x _) hm h2 (q _ φ₂ v h₂ _ r₂ (a₁.trans a₂) i₂ (g.is ok l₂))) (hs _ _)))

/-- T.get(x, dflt) of such a dict -/
theorem EV_getG (ok : C.Ok) {e k dflt : Expr} {pos apos : Pos} {a : Addr} {es : List DictEntry} {m : Nat} {tab : List (Str × D)} {R : D → C.S → Prop} (hl : C.K.lookup a = some ⟨.type "dict", none, .dict es.toArray m, #[]⟩) (he : Ents C.w.params C.K es tab) (hsm : (a == sysModules) = false)
    (h : EV C ρ φ e fun d φ₁ => d = .ref a ∧ EV C ρ φ₁ k fun d' φ₂ => ∃ x, d' = .str x ∧ EV C ρ φ₂ dflt fun d'' φ₃ => R ((tab.lookup x).getD d'') φ₃)
    {pl : Sem Bool}
    (hc : eval ((e.Attribute (Str.ofString "get") apos).Call [k, dflt] [] pos) C.env = (do
          let ov ← eval e C.env
          standAt apos.atName
          let __x ← holding [ov] (getMethod ov (Str.ofString "get") pl)
          match __x with
            | (f, first) => callWith pos f first (backTo pos (starEach [k, dflt] C.env)) []) := by rfl)
    (hs : starEach [k, dflt] C.env = [(false, eval k C.env), (false, eval dflt C.env)] := by rfl) (hs' : starEach [dflt] C.env = [(false, eval dflt C.env)] := by rfl) (ha : ∀ pos, ((backTo pos (starEach [dflt] C.env)).any fun x => x.1) = false := by intro _; rfl) :
    EV C ρ φ (.Call (.Attribute e (Str.ofString "get") apos) [k, dflt] [] pos) R := fun s Q E st i q => by
  refine MethodCall_ (h s _ _ st i fun d φ₁ v h₁ tk r a₁ i₁ x => Is.ref_q x r.1 ?_) hc
  have st₁ := st.stay ok a₁ i₁
  have hm₁ := ents_map (h := h₁) ok st₁.toLive hl he
  refine getMethod_builtin (s := { s with heap := h₁, toks := tk }) (T := "dict") hm₁.typeIs PySem.F.plainAttrs_dict PySem.F.slot_dict_get PySem.F.type_dict_get hm₁.noDict ?_
  refine callWith_method1 (wpAny_items_cons (r.2 _ _ _ st₁ i₁ fun d' φ₂ v' h₂ tk₂ r₂ a₂ i₂ x₂ => ?_) (by rw [hs, hs'])) (by rw [hs, hs']) (ha _)
  obtain ⟨x, ex, r₂⟩ := r₂
  have st₂ := st₁.stay ok a₂ i₂
  refine wpAny_items_cons (r₂ _ _ _ st₂ i₂ fun d'' φ₃ v'' h₃ tk₃ r₃ a₃ i₃ x₃ => wpAny_items_nil (Is.str_q x₂ ex fun t => ?_)) hs'
  have st₃ := st₂.stay ok a₃ i₃
  have hm₃ := ents_map (h := h₃) ok st₃.toLive hl he
  refine call_meetsIn PySem.F.slot_dict_get (s := { s with heap := h₃, toks := tk₃ }) hm₃.typeIs PySem.F.entry_dict_get (PySem.F.args_dict_get_3 _ _ _) (meets_dict_get_default (strKind C.prog C.w) a (strKind_is C.prog C.w x t) hsm v'') ⟨_, hm₃, ?_⟩
  have kk := (a₁.trans a₂).trans a₃
  rcases he.find x with ⟨h1, h2⟩ | ⟨d, v, h1, h2, g⟩
  · rw [h2]; rw [h1] at r₃; exact q _ φ₃ _ h₃ _ r₃ kk i₃ x₃
  · rw [h2]; rw [h1] at r₃; exact q _ φ₃ v h₃ _ r₃ kk i₃ (g.is ok st₃.toLive)

/-! a formatted text: never empty where it begins with a written part or a name that is none -/
def JP (C : Cx) (ρ : List (Str × D)) (φ : C.S) (out : Str) (es : List Expr) (R : Str → C.S → Prop) : Prop :=
  ∀ (s : Shared) (Q : Value → Shared → Prop) (E : Value → Shared → Prop), St C ρ s.heap → C.In φ s.heap →
    (∀ x t φ' h' tk, R x φ' → C.Stay s.heap h' → C.In φ' h' → Q (.str x t) { s with heap := h', toks := tk }) → wpAny (model C.prog C.w) C.A (joinParts out (evalEach es C.env)) Q E s
theorem EV_joined {e₁ e₂ : Expr} {es : List Expr} {pos : Pos} {R : D → C.S → Prop} (h : JP C ρ φ Str.empty (e₁ :: e₂ :: es) fun x φ' => R (.str x) φ') : EV C ρ φ (.JoinedStr (e₁ :: e₂ :: es) pos) R := fun s Q E st i q =>
  JoinedStr_many (h s Q E st i fun x t φ' h' tk r a i' => q _ φ' _ h' tk r a i' (.str x t))
theorem JP_nil {out : Str} {R : Str → C.S → Prop} (hz : out.length ≤ sizeLine) (r : R out φ) : JP C ρ φ out [] R := fun s Q E st i q => joinParts_nil (q out _ φ s.heap _ r (.refl _ _) i) hz
theorem JP_str (ok : C.Ok) {out x : Str} {k : Nat} {pos : Pos} {es : List Expr} {R : Str → C.S → Prop} (hz : (out ++ x).length ≤ sizeLine) (h : JP C ρ φ (out ++ x) es R) : JP C ρ φ out (.Constant (.str x) k pos :: es) R := fun s Q E st i q =>
  joinParts_cons (wpAny_Constant_str ⟨hz, h { s with toks := s.toks + 1 } Q E st i q⟩)
theorem JP_val (ok : C.Ok) {out : Str} {e : Expr} {pos : Pos} {es : List Expr} {R : Str → C.S → Prop} (hz : out.length ≤ 2000)
    (h : EV C ρ φ e fun d φ₁ => (∃ x, d = .str x ∧ x.length ≤ 200 ∧ JP C ρ φ₁ (out ++ x) es R) ∨ (∃ n : Int, d = .int n ∧ n.natAbs < 10 ^ 6 ∧ ∀ x : Str, x.length ≤ 20 → JP C ρ φ₁ (out ++ x) es R)) : JP C ρ φ out (.FormattedValue e (-1) none pos :: es) R := fun s Q E st i q => by
  refine joinParts_cons (FormattedValue_plain (h s _ _ st i fun d φ₁ v h₁ tk r a₁ i₁ x => ?_))
  have st₁ := st.stay ok a₁ i₁
  have hsl : sizeLine = 16777216 := sizeLine_eq
  rcases r with ⟨y, rfl, hy, r⟩ | ⟨n, rfl, hn, r⟩
  · cases x
    refine formatField_str (fun t' tk' => ⟨?_, ?_⟩) (by omega)
    · rw [Str.length_append]; omega
    · exact r _ Q E st₁ i₁ fun x t φ' h' tk r a i' => q x t φ' h' tk r (a₁.trans a) i'
  · cases x
    have hlen : (Str.ofString (toString n)).length ≤ 20 := by
      have := int_text_length_le10 (a := n) (k := 6) (by decide) hn
      rw [PySem.ofString_length]
      omega
    refine wpAny_formatField_int ?_ ⟨?_, ?_⟩
    · have : n.natAbs < 2 ^ 20 := by omega
      by_cases h0 : n.natAbs = 0
      · rw [h0]; decide
      · have := (Nat.log2_lt h0).mpr this
        omega
    · rw [Str.length_append]; omega
    · exact r _ hlen _ Q E st₁ i₁ fun x t φ' h' tk r a i' => q x t φ' h' tk r (a₁.trans a) i'
end
end Mine
end
section
open PySem PySem.W PyProof.Rows PySem.Calls
set_option maxRecDepth 100000
namespace Mine
section
variable {C : Cx} {ρ : List (Str × D)} {φ : C.S}
theorem St.iterL {C : Cx} (ok : C.Ok) {ρ : List (Str × D)} {h h' : Heap} {φ : C.S} (st : St C ρ h) (i : C.In φ h) {wr : List Addr} (off : ∀ I ∈ wr, Off C h I)
    (hsq : ∀ I ∈ wr, ∀ o, h.get? I = some o → ¬ ∃ xs n, o.data = .seq xs n) (k : ∀ b o, b ∉ wr → h.get? b = some o → h'.get? b = some o) : St C ρ h' ∧ C.In φ h' ∧ Keep C.W h h' := by
  have kp : Keep C.W h h' := fun b o e sq n => k b o (fun eb => hsq b eb o e sq) e
  refine ⟨⟨⟨fun b o e => k b o (fun eb => by rw [(off b eb).b] at e; cases e) (st.base b o e), fun a ha => ?_⟩, ?_, fun x d hx hk => ?_, fun x c hc => ?_⟩, ?_, kp⟩
  · obtain ⟨o, ho⟩ := st.alive a ha
    exact ⟨o, k a o (fun eb => (off a eb).w ha) ho⟩
  · obtain ⟨m, ⟨o, es, ep, e, r⟩, hm⟩ := st.loc
    refine ⟨m, ⟨o, es, ep, k _ o (fun eb => (off _ eb).l rfl) e, r⟩, fun x d hx hk => ?_⟩
    obtain ⟨v, hv, hi⟩ := hm x d hx hk
    exact ⟨v, hv, hi.keep kp⟩
  · obtain ⟨c, v, hc, ⟨o, e, hd⟩, hi⟩ := st.cel x d hx hk
    exact ⟨c, v, hc, ⟨o, k c o (fun eb => (off c eb).c x hc) e, hd⟩, hi.keep kp⟩
  · obtain ⟨v, o, e, hd⟩ := st.cex x c hc
    exact ⟨v, o, k c o (fun eb => (off c eb).c x hc) e, hd⟩
  · exact ok.ikeep _ _ _ i fun b o e hb => k b o (fun eb => (off b eb).w hb) e

def numbered (x : Str) : List D := (List.range x.cps.size).map fun i => D.tup [.int (i : Nat), .str ⟨#[x.cps.getD i 0]⟩]
theorem numbered_len (x : Str) : (numbered x).length = x.cps.size := by simp [numbered]
theorem turns_enum (ok : C.Ok) {h₀ h : Heap} {e it : Addr} {Kd : String} {x : Str} {t : Tok} {elts : List Expr} {kk : Nat} {pp : Pos} {xs : List Str} (hx : allNames elts = some xs) (h2 : xs.length = 2) (st₀ : St C ρ h₀) (ee : h₀.get? e = none) (ei : h₀.get? it = none) (hei : e ≠ it) (hk : ∀ x ∈ xs, Storable C x)
    (Dr : Draws C.prog C.w C.A.in1 it [it] x.cps.size (fun i v => ∃ c u, x.cps[i]? = some c ∧ v = .str ⟨#[c]⟩ u) (fun i h => h.IsStrIter it Kd x t i))
    (he : IsEnum h e it 0 .none) (hi : h.IsStrIter it Kd x t 0)
    (hlen : (assignEach elts C.env).length = xs.length) (hst : (assignEach elts C.env).findIdx? (·.1) = none) :
    Turns C (.Tuple elts kk pp) (tgtT xs) h₀ h (numbered x) e := by
  have W := WalksT.enumerateD Dr e hei (by simpa using hei) (by simp)
  have offe : ∀ hh, Off C hh e := fun hh => let o := off_of ok st₀ ee; ⟨o.w, o.l, o.c, o.b⟩
  have offi : ∀ hh, Off C hh it := fun hh => let o := off_of ok st₀ ei; ⟨o.w, o.l, o.c, o.b⟩
  have off : ∀ hh, ∀ I ∈ [e, it], Off C hh I := fun hh I hI => by
    simp only [List.mem_cons, List.not_mem_nil, or_false] at hI
    rcases hI with rfl | rfl
    · exact offe hh
    · exact offi hh
  have sqs : ∀ {hh : Heap} {i : Nat}, (∃ old, IsEnum hh e it i old) → hh.IsStrIter it Kd x t i → ∀ I ∈ [e, it], ∀ o, hh.get? I = some o → ¬ ∃ xs n, o.data = .seq xs n := fun {hh i} a b I hI o ho ⟨ys, n, hd⟩ => by
    simp only [List.mem_cons, List.not_mem_nil, or_false] at hI
    rcases hI with rfl | rfl
    · obtain ⟨old, a⟩ := a
      have := a.symm.trans ho; cases this; cases hd
    · obtain ⟨o', ho', _, hd'⟩ := b
      rw [ho] at ho'; cases ho'; rw [hd] at hd'; cases hd'
  refine ⟨fun k h' => (∃ old, IsEnum h' e it k old) ∧ h'.IsStrIter it Kd x t k, [e, it], fun b hb => ?_, ⟨⟨_, he⟩, hi⟩, fun k h h' ρ st kp s => ?_, fun k s ρ φ d Q E hd st i sx q => ?_, fun s ρ φ Q E st i sx q => ?_⟩
  · simp only [List.mem_cons, List.not_mem_nil, or_false] at hb
    rcases hb with rfl | rfl
    · exact ee
    · exact ei
  · exact W.frame k h h' s fun b hb o eo => by
      have := off h b hb
      exact kp b o eo (fun m => this.w (ok.mow _ m)) this.l this.c
  · have hlt : k < x.cps.size := by have := (List.getElem?_eq_some_iff.mp hd).1; rwa [numbered_len] at this
    refine W.item k s _ E hlt sx fun T vals h₁ tk pv hT ht mid k₁ => ?_
    obtain ⟨st₁, i₁, kw₁⟩ := st.iterL ok i (off _) (sqs sx.1 sx.2) k₁
    have Tnew : s.heap.get? T = none := ge_none hT
    obtain ⟨⟨old, me⟩, mi, hTe, hTi⟩ := id mid
    refine W.go elts kk pp k T _ _ _ mid fun h₂ s₂ k₂ => ?_
    have sq₁ : ∀ I ∈ [e, it], ∀ o, h₁.get? I = some o → ¬ ∃ xs n, o.data = .seq xs n := fun I hI o ho ⟨ys, n, hd⟩ => by
      simp only [List.mem_cons, List.not_mem_nil, or_false] at hI
      rcases hI with rfl | rfl
      · have := me.symm.trans ho; cases this; cases hd
      · obtain ⟨o', ho', _, hd'⟩ := mi
        rw [ho] at ho'; cases ho'; rw [hd] at hd'; cases hd'
    obtain ⟨st₂, i₂, kw₂⟩ := st₁.iterL ok i₁ (off _) sq₁ k₂
    have ht₂ : IsTup h₂ T vals := by
      obtain ⟨o, ho, r⟩ := ht
      exact ⟨o, k₂ T o (W.apart _ _ _ mid) ho, r⟩
    obtain ⟨tt, v, ⟨c, u, hc, rfl⟩, rfl⟩ := pv
    have hd' : d = .tup [.int (k : Nat), .str ⟨#[c]⟩] := by
      unfold numbered at hd
      rw [List.getElem?_map, List.getElem?_range hlt] at hd
      have : x.cps.getD k 0 = c := by simp [Array.getD_eq_getD_getElem?, hc]
      simp only [Option.map_some, Option.some.injEq] at hd
      rw [← hd, this]
    subst hd'
    refine assign_Tuple_tuple ok.hh ht₂ (by rw [hlen, h2]; rfl) hst fun h₃ e₃ => ?_
    have k₃ := ext_fresh e₃
    have i₃ := ok.ikeep _ _ _ i₂ fun b o eo _ => k₃ b o eo
    have st₃ := st₂.stay ok (.all k₃) i₃
    refine assign_seq ok hx hk (ds := [.int (k : Nat), .str ⟨#[c]⟩]) h2.symm st₃ i₃ (.cons (.int _ _) (.cons (.str _ _) .nil)) fun h₄ tk₄ k₄ st₄ i₄ => ?_
    have k24 : C.StayO h₂ h₄ := (Cx.Stay.all k₃).o.trans k₄
    refine q _ h₄ tk₄ (if_pos h2.symm) (fun b o eo m l c w => k24 b o (k₂ b o w (k₁ b o w eo)) m l c) st₄ i₄ ?_
    exact W.frame (k + 1) h₂ h₄ s₂ fun b hb o eo => by
      have := off h₂ b hb
      exact k24 b o eo (fun m => this.w (ok.mow _ m)) this.l this.c
  · rw [numbered_len] at sx
    refine W.done s Q E sx fun h₁ tk k₁ => ?_
    obtain ⟨st₁, i₁, kw₁⟩ := st.iterL ok i (off _) (sqs sx.1 sx.2) k₁
    exact q h₁ tk (fun b o eo n => k₁ b o n eo) st₁ i₁

theorem SRCT_enum (ok : C.Ok) {elts : List Expr} {k : Nat} {pp px pos : Pos} {e : Expr} {xs : List Str} {R : List D → (D → List (Str × D) → Option (List (Str × D))) → C.S → Prop} (hx : allNames elts = some xs) (h2 : xs.length = 2) (hk : ∀ x ∈ xs, Storable C x)
    (hkn : C.env.kindOf (Str.ofString "enumerate") = some .globalImplicit) (hxn : nsIn C.K mainGlobals (Str.ofString "enumerate") = some none) (b : bootBuiltins (Str.ofString "enumerate") = some (.type "enumerate"))
    (h : EV C ρ φ e fun d φ' => ∃ x, d = .str x ∧ R (numbered x) (tgtT xs) φ')
    (hlen : (assignEach elts C.env).length = xs.length := by rfl) (hst : (assignEach elts C.env).findIdx? (·.1) = none := by rfl)
    (hs : starEach [e] C.env = [(false, eval e C.env)] := by rfl)
    (hc : ∀ env, eval (.Call (.Name (Str.ofString "enumerate") px) [e] [] pos) env = (do callWith pos (← eval (.Name (Str.ofString "enumerate") px) env) [] (backTo pos (starEach [e] env)) (backToKw pos (keywordEach [] env))) := by intro _; rfl) :
    SRCT C ρ φ (.Tuple elts k pp) (.Call (.Name (Str.ofString "enumerate") px) [e] [] pos) R := fun s Q E st i q => by
  refine Call_ (wp_blt ok st.toLive hkn hxn b (by decide) ?_ rfl) (hc _)
  refine PyProof.Rows.callWith_type1 (wpAny_items_cons (h s _ _ st i fun d φ' v h' tk r a i' xv => wpAny_items_nil ?_) hs) hs rfl
  obtain ⟨x, rfl, r⟩ := r
  cases xv
  rename_i t
  have st' := st.stay ok a i'
  refine call_enumerate_str fun h₁ he hi hz hk₁ => ?_
  refine wpAny_pyIter_enum he ?_
  have i₁ := ok.ikeep _ _ _ i' fun b o eo _ => hk₁ b o eo
  have ne : s.heap.get? (h'.objs.size + 1) = none := none_before ok st.toLive a (ge_none (Nat.le_succ _)) i'
  have ni : s.heap.get? h'.objs.size = none := none_before ok st.toLive a (get_size _) i'
  refine q _ _ φ' _ h₁ tk r (a.trans (.all hk₁)) i₁ ?_
  cases ha : x.cps.all (· < 128) with
  | true =>
    have hi' : h₁.IsStrIter h'.objs.size "str_ascii_iterator" x t 0 := by simpa [strIterType, ha] using hi
    exact turns_enum ok hx h2 st ne ni (Nat.succ_ne_self _) hk (Draws.strAscii (A := C.A.in1) ok.hh h'.objs.size x t) he hi' hlen hst
  | false =>
    have hi' : h₁.IsStrIter h'.objs.size "str_iterator" x t 0 := by simpa [strIterType, ha] using hi
    exact turns_enum ok hx h2 st ne ni (Nat.succ_ne_self _) hk (Draws.strWide (A := C.A.in1) ok.hh h'.objs.size x t) he hi' hlen hst
end
end Mine
end
section
open PySem PySem.W PyProof.Rows PySem.Calls
set_option maxRecDepth 100000
namespace Mine
/-- the list that a comprehension builds -/
structure AS (C : Cx) (d : Addr) (h0 : Heap) (ρ : List (Str × D)) (φ : C.S) (outs : List D) (h : Heap) : Prop where
  st : St C ρ h
  i : C.In φ h
  acc : ∃ ys, h.IsList d ys.toArray ∧ IsAll C.W h ys outs
  stay : ∀ b o, h0.get? b = some o → ¬ C.Mo b → b ≠ C.env.locals → b ≠ d → h.get? b = some o
structure AccOk (C : Cx) (d : Addr) : Prop where
  w : C.W d
  m : ¬ C.Mo d
  l : d ≠ C.env.locals
  c : ∀ x, C.env.cells.lookup x ≠ some d
  b : C.B.get? d = none
  hin : ∀ h h' φ, C.In φ h → (∀ b o, b ≠ d → h.get? b = some o → h'.get? b = some o) → C.In φ h'
def LoopRule (C : Cx) (it : Value) (target : Expr) (body : (Shared → Prop) → Shared → Prop) (code : Code) (R : Result → Shared → Prop) (N : Value → Shared → Prop) : Prop :=
  ∀ (J : Nat → Shared → Prop), (∀ n s, J n s → wpAny (model C.prog C.w) C.A (pyNext it) (fun r s₁ => match r with
      | none => R (.ok .next) s₁
      | some v => wpAny (model C.prog C.w) C.A (assign target C.env v) (fun _ s₂ => body (fun s₃ => ∃ m, m < n ∧ J m s₃) s₂) N s₁) N s) →
    ∀ n s, J n s → codeAny (model C.prog C.w) C.A code R s
section
variable {C : Cx} {ρ : List (Str × D)} {φ : C.S}
theorem accLoop (ok : C.Ok) {d I : Addr} (ad : AccOk C d) {ds outs : List D} {x : Str} {px : Pos} {body : (Shared → Prop) → Shared → Prop} {code : Code} {R : Result → Shared → Prop} {N : Value → Shared → Prop} (hx : C.env.kindOf x = some .local)
    (lr : LoopRule C (.ref I) (.Name x px) body code R N) {s : Shared} {h0 : Heap} (wk : WalkOf C s.heap ds I) (e0 : h0.get? I = none) (off : Off C s.heap I) (Inv : Nat → List D → C.S → Prop)
    (a : AS C d h0 ρ φ outs s.heap) (inv0 : Inv 0 outs φ) (hρ : ∀ y e, ρ.lookup y = some e → y ≠ x)
    (step : ∀ k e outs φ (s : Shared) h1 (Q : Shared → Prop), ds[k]? = some e → Inv k outs φ → AS C d h1 ((x, e) :: ρ) φ outs s.heap →
      (∀ outs' φ' h' tk, Inv (k + 1) outs' φ' → AS C d h1 ρ φ' outs' h' → Q { s with heap := h', toks := tk }) → body Q s)
    (done : ∀ outs φ h' tk, Inv ds.length outs φ → AS C d h0 ρ φ outs h' → R (.ok .next) { s with heap := h', toks := tk }) : codeAny (model C.prog C.w) C.A code R s := by
  obtain ⟨fp, P, Sx, W, s0, hS, hfp, hI, hP⟩ := wk
  have hxρ : ∀ d', ∀ y e, ρ.lookup y = some e → ((x, d') :: ρ).lookup y = some e := fun d' y e hy => by
    rw [lookup_cons, if_neg (fun eq => hρ y e hy eq)]; exact hy
  have offI : ∀ hh, Off C hh I := fun _ => ⟨off.w, off.l, off.c, off.b⟩
  refine lr (fun n s' => ∃ h' tk' k outs φ', s' = { s with heap := h', toks := tk' } ∧ k ≤ ds.length ∧ n = ds.length + 1 - k ∧ AS C d h0 ρ φ' outs h' ∧ Sx k h' ∧
      (∀ b ∈ fp, b ≠ I → ∃ o, h'.get? b = some o ∧ (∃ xs n, o.data = .seq xs n) ∧ ¬ C.W b) ∧ (∀ j v, P j v → j < ds.length → ∃ d, ds[j]? = some d ∧ Is C.W h' v d) ∧ Inv k outs φ') ?_ (ds.length + 1) s
    ⟨s.heap, s.toks, 0, outs, φ, rfl, Nat.zero_le _, rfl, a, s0, hfp, fun j v p l => let ⟨d, hd, hi⟩ := hP j v p l; ⟨d, hd, hi _ (.all fun _ _ e => e)⟩, inv0⟩
  rintro n s' ⟨h₃, tk₃, k, outs, φ', rfl, hk, rfl, a₃, sx, f₃, p₃, inv⟩
  have iNoI : ∀ {b : Addr} {o : Obj}, h0.get? b = some o → b ≠ I := fun {b o} e eb => by rw [eb, e0] at e; cases e
  by_cases hlt : k < ds.length
  · have hd : ds[k]? = some ds[k] := List.getElem?_eq_getElem hlt
    refine W.item k _ _ _ hlt sx fun v h₄ tk₄ pv s₄ k₄ => ?_
    obtain ⟨st₄, i₄, kw₄⟩ := St.iter ok a₃.st a₃.i (offI _) (hS _ _ sx).noseq k₄
    obtain ⟨d', hd', hi⟩ := p₃ k v pv hlt
    rw [hd] at hd'; cases hd'
    refine wpAny_assign_Name (store_loc ok st₄ i₄ hx (hi.keep kw₄) fun h₅ tk₅ k₅ st₅ i₅ => ?_)
    have kw₅ : Keep C.W h₄ h₅ := StayO.keepW ok st₄ fun b o e _ hl _ => k₅ b o hl e
    have a₅ : AS C d h₅ ((x, ds[k]) :: ρ) φ' outs h₅ := ⟨st₅, i₅, by
      obtain ⟨ys, ⟨o, e, r⟩, ya⟩ := a₃.acc
      exact ⟨ys, ⟨o, k₅ _ o ad.l (k₄ _ o (by simpa using (show d ≠ I from fun e => off.w (e ▸ ad.w))) e), r⟩, (ya.keep kw₄).keep kw₅⟩, fun b o e _ _ _ => e⟩
    refine step k ds[k] outs φ' _ h₅ _ hd inv a₅ fun outs' φ₂ h₇ tk₇ inv' a₇ => ?_
    have kall : ∀ b o, h₃.get? b = some o → (∃ xs n, o.data = .seq xs n) → ¬ C.W b → h₇.get? b = some o := fun b o e sq nw => by
      have e5 := kw₅ b o (kw₄ b o e sq nw) sq nw
      exact a₇.stay b o e5 (fun m => nw (ok.mow _ m)) (fun eb => by
        obtain ⟨m, ⟨o', es, ep, e', hd', _⟩, _⟩ := st₅.loc
        rw [← eb, e5] at e'; cases e'; obtain ⟨xs, n, sq⟩ := sq; rw [hd'] at sq; cases sq) fun eb => nw (eb ▸ ad.w)
    have kfp : ∀ b ∈ fp, ∀ o, h₄.get? b = some o → h₇.get? b = some o := fun b hb o e => by
      by_cases hbI : b = I
      · subst hbI
        exact a₇.stay _ o (k₅ _ o off.l e) (fun m => off.w (ok.mow _ m)) off.l fun eb => off.w (eb ▸ ad.w)
      · obtain ⟨o', e', sq, hw⟩ := f₃ b hb hbI
        have e4 := k₄ b o' (by simpa using hbI) e'
        rw [e] at e4; cases e4
        exact kall b o e' sq hw
    refine ⟨ds.length + 1 - (k + 1), by omega, h₇, tk₇, k + 1, outs', φ₂, rfl, hlt, rfl, ⟨a₇.st, a₇.i, a₇.acc, fun b o e m l n => ?_⟩, W.frame _ _ _ s₄ kfp, fun b hb hn => ?_, fun j u hu hl => ?_, inv'⟩
    · exact a₇.stay b o (k₅ b o l (k₄ b o (by simpa using iNoI e) (a₃.stay b o e m l n))) m l n
    · obtain ⟨o, e, sq, hw⟩ := f₃ b hb hn
      exact ⟨o, kall b o e sq hw, sq, hw⟩
    · obtain ⟨d', hd', hi'⟩ := p₃ j u hu hl
      exact ⟨d', hd', hi'.keep kall⟩
  · have hk' : k = ds.length := by omega
    subst hk'
    refine W.done _ _ _ sx fun h₄ tk₄ k₄ => ?_
    obtain ⟨st₄, i₄, kw₄⟩ := St.iter ok a₃.st a₃.i (offI _) (hS _ _ sx).noseq k₄
    refine done outs φ' h₄ tk₄ inv ⟨st₄, i₄, ?_, fun b o e m l n => k₄ b o (by simpa using iNoI e) (a₃.stay b o e m l n)⟩
    obtain ⟨ys, ⟨o, e, r⟩, ya⟩ := a₃.acc
    exact ⟨ys, ⟨o, k₄ _ o (by simpa using (show d ≠ I from fun e => off.w (e ▸ ad.w))) e, r⟩, ya.keep kw₄⟩

/-- one item and its append -/
def emitB (C : Cx) (elt : Expr) (acc : Value) (N : Value → Shared → Prop) (Q : Shared → Prop) (s : Shared) : Prop :=
  wpAny (model C.prog C.w) C.A (eval elt C.env) (fun x s₁ => wpAny (model C.prog C.w) C.A (call (.builtin "list.append") [acc, x]) (fun _ s₂ => Q s₂) N s₁) N s
theorem emit_wp (ok : C.Ok) {d : Addr} (ad : AccOk C d) {elt : Expr} {s : Shared} {h1 : Heap} {outs : List D} {ρ' : List (Str × D)} {N : Value → Shared → Prop} {Q : Shared → Prop} (a : AS C d h1 ρ φ outs s.heap) (hsz : outs.length ≤ sizeLine)
    (less : ∀ x e, ρ'.lookup x = some e → ρ.lookup x = some e)
    (h : EV C ρ φ elt fun y φ' => ∀ h' tk, AS C d h1 ρ' φ' (outs ++ [y]) h' → Q { s with heap := h', toks := tk }) : emitB C elt (.ref d) N Q s := by
  refine h _ _ _ a.st a.i fun y φ₂ yv h₆ tk₆ r₆ a₆ i₆ x₆ => ?_
  have st₆ := a.st.stay ok a₆ i₆
  have kw₆ : Keep C.W s.heap h₆ := Cx.Stay.keep ok a₆
  obtain ⟨ys, ⟨o, e, r⟩, ya⟩ := a.acc
  have l₆ : h₆.IsList d ys.toArray := ⟨o, a₆ _ _ e ad.m, r⟩
  have hys : ys.length ≤ sizeLine := by rw [ya.length]; exact hsz
  refine wpAny_list_append (hsz := by rw [List.size_toArray]; exact hys) l₆ fun h₇ l₇ k₇ => ?_
  obtain ⟨st₇, i₇, kw₇⟩ := St.acc ok st₆ i₆ ad.w ad.m ad.l ad.c ad.b ad.hin k₇ (by obtain ⟨o, e, _⟩ := l₇; exact ⟨o, e⟩)
  refine r₆ h₇ tk₆ ⟨st₇.less less, i₇, ⟨ys ++ [yv], by simpa using l₇, ((ya.keep kw₆).keep kw₇).append (.cons (x₆.keep kw₇) .nil)⟩, fun b o e m l n => k₇.extBut b o n (a₆ b o (a.stay b o e m l n) m)⟩

def innerB (C : Cx) (elt t1 i1 t2 i2 : Expr) (scope : Scope) (pos : Pos) (acc : Value) (N : Value → Shared → Prop) (Q : Shared → Prop) (s : Shared) : Prop :=
  wpAny (model C.prog C.w) C.A (eval i2 C.env) (fun x s₁ => wpAny (model C.prog C.w) C.A (foldedSetIterable i2 C.env x) (fun x s₂ => wpAny (model C.prog C.w) C.A (pyIter x) (fun it s₃ =>
    wpAny (model C.prog C.w) C.A (runOwn (.compStart (.ListComp elt [⟨t1, i1, [], 0⟩, ⟨t2, i2, [], 0⟩] scope pos) 1 it acc C.env) C.env) (fun _ s₄ => Q s₄) N s₃) N s₂) N s₁) N s
theorem turn2_0 (elt t1 i1 t2 i2 : Expr) (scope : Scope) (pos : Pos) (it acc : Value) (env : Env) :
    compTurn (.ListComp elt [⟨t1, i1, [], 0⟩, ⟨t2, i2, [], 0⟩] scope pos) 0 it acc env = (standAt i1.pos >>= fun _ => pyNext it >>= fun r => match r with
      | none => pure (.done .next)
      | some v => letOwnedTupleGo t1 it v >>= fun _ => assign t1 env v >>= fun _ => eval i2 env >>= fun x => standAt i2.pos >>= fun _ => foldedSetIterable i2 env x >>= fun x => holding [x] (pyIter x) >>= fun it2 =>
          runOwn (.compStart (.ListComp elt [⟨t1, i1, [], 0⟩, ⟨t2, i2, [], 0⟩] scope pos) 1 it2 acc env) env >>= fun _ =>
          again (.compLoop (.ListComp elt [⟨t1, i1, [], 0⟩, ⟨t2, i2, [], 0⟩] scope pos) 0 it acc env)) := by rfl
theorem turn2_1 (elt t1 i1 t2 i2 : Expr) (scope : Scope) (pos : Pos) (it acc : Value) (env : Env) :
    compTurn (.ListComp elt [⟨t1, i1, [], 0⟩, ⟨t2, i2, [], 0⟩] scope pos) 1 it acc env = (standAt i2.pos >>= fun _ => pyNext it >>= fun r => match r with
      | none => pure (.done .next)
      | some v => letOwnedTupleGo t2 it v >>= fun _ => assign t2 env v >>= fun _ => (eval elt env >>= fun x => call (.builtin "list.append") [acc, x] >>= fun _ => pure ()) >>= fun _ =>
          again (.compLoop (.ListComp elt [⟨t1, i1, [], 0⟩, ⟨t2, i2, [], 0⟩] scope pos) 1 it acc env)) := by rfl
theorem lr2_0 {elt i1 t2 i2 : Expr} {x : Str} {px : Pos} {scope : Scope} {pos : Pos} {it acc : Value} {R : Result → Shared → Prop} :
    LoopRule C it (.Name x px) (innerB C elt (.Name x px) i1 t2 i2 scope pos acc (notedBy (model C.prog C.w) C.A C.env fun e s' => R (.error e) s')) (.compLoop (.ListComp elt [⟨.Name x px, i1, [], 0⟩, ⟨t2, i2, [], 0⟩] scope pos) 0 it acc C.env) R
      (notedBy (model C.prog C.w) C.A C.env fun e s' => R (.error e) s') := fun J turn n s hJ => by
  refine codeAny_loop rfl J (fun n s hI => ?_) n hJ
  show wpAny _ C.A ((compTurn (.ListComp elt [⟨.Name x px, i1, [], 0⟩, ⟨t2, i2, [], 0⟩] scope pos) 0 it acc C.env).onRaise (fun x => do noteFrame x C.env; theTreesLotGoes x)) _ _ s
  refine wpAny_noted ?_
  rw [turn2_0]
  refine wpAny_bind (wpAny_standAt (wpAny_bind (wpAny_mono (turn n s hI) (fun r s₁ h₁ => ?_) fun _ _ h' => h')))
  cases r with
  | none => exact wpAny_pure h₁
  | some v =>
    refine wpAny_bind (wpAny_of_eq (show letOwnedTupleGo (.Name x px) it v = pure () from rfl) ?_)
    refine wpAny_bind (wpAny_mono h₁ (fun _ s₂ h₂ => ?_) fun _ _ h' => h')
    refine wpAny_bind (wpAny_mono h₂ (fun _ s₃ h₃ => ?_) fun _ _ h' => h')
    refine wpAny_bind (wpAny_standAt ?_)
    refine wpAny_bind (wpAny_mono h₃ (fun _ s₄ h₄ => ?_) fun _ _ h' => h')
    refine wpAny_bind (wpAny_holding (wpAny_mono h₄ (fun _ s₅ h₅ => ?_) fun _ _ h' => h'))
    exact wpAny_bind (wpAny_mono h₅ (fun x s₃ h₃ => wpAny_pure ⟨rfl, h₃⟩) fun _ _ h' => h')
theorem lr2_1 {elt t1 i1 i2 : Expr} {x : Str} {px : Pos} {scope : Scope} {pos : Pos} {it acc : Value} {R : Result → Shared → Prop} :
    LoopRule C it (.Name x px) (emitB C elt acc (notedBy (model C.prog C.w) C.A C.env fun e s' => R (.error e) s')) (.compLoop (.ListComp elt [⟨t1, i1, [], 0⟩, ⟨.Name x px, i2, [], 0⟩] scope pos) 1 it acc C.env) R
      (notedBy (model C.prog C.w) C.A C.env fun e s' => R (.error e) s') := fun J turn n s hJ => by
  refine codeAny_loop rfl J (fun n s hI => ?_) n hJ
  show wpAny _ C.A ((compTurn (.ListComp elt [⟨t1, i1, [], 0⟩, ⟨.Name x px, i2, [], 0⟩] scope pos) 1 it acc C.env).onRaise (fun x => do noteFrame x C.env; theTreesLotGoes x)) _ _ s
  refine wpAny_noted ?_
  rw [turn2_1]
  refine wpAny_bind (wpAny_standAt (wpAny_bind (wpAny_mono (turn n s hI) (fun r s₁ h₁ => ?_) fun _ _ h' => h')))
  cases r with
  | none => exact wpAny_pure h₁
  | some v =>
    refine wpAny_bind (wpAny_of_eq (show letOwnedTupleGo (.Name x px) it v = pure () from rfl) ?_)
    refine wpAny_bind (wpAny_mono h₁ (fun _ s₂ h₂ => ?_) fun _ _ h' => h')
    exact wpAny_bind (wpAny_bind (wpAny_mono h₂ (fun x s₃ h₃ => wpAny_bind (wpAny_mono h₃ (fun _ s₄ h₄ => wpAny_pure (wpAny_pure ⟨rfl, h₄⟩)) fun _ _ h' => h')) fun _ _ h' => h'))
theorem start2_1 {elt t1 i1 t2 i2 : Expr} {scope : Scope} {pos : Pos} {it acc : Value} {env : Env} {R : Result → Shared → Prop} {s : Shared} {A : Around} {prog : Program} {w : World}
    (h0 : codeAny (model prog w) A (.compLoop (.ListComp elt [⟨t1, i1, [], 0⟩, ⟨t2, i2, [], 0⟩] scope pos) 1 it acc env) R s)
    (h : wpAny (model prog w) A (pyIter it) (fun it' s' => codeAny (model prog w) A (.compLoop (.ListComp elt [⟨t1, i1, [], 0⟩, ⟨t2, i2, [], 0⟩] scope pos) 1 it' acc env) R s')
      (notedBy (model prog w) A env fun x s' => R (.error x) s') s) :
    codeAny (model prog w) A (.compStart (.ListComp elt [⟨t1, i1, [], 0⟩, ⟨t2, i2, [], 0⟩] scope pos) 1 it acc env) R s := by
  refine codeAny_of_tree ?_
  show wpAny _ _ ((compStart (.ListComp elt [⟨t1, i1, [], 0⟩, ⟨t2, i2, [], 0⟩] scope pos) 1 it acc env).onRaise (fun x => do noteFrame x env; standAt theWindowsPlace)) _ _ s
  refine wpAny_notedAt ?_
  unfold compStart
  show wpAny _ _ (ask >>= _) _ _ s
  refine wpAny_bind (wpAny_askSetting (wpAny_ite ?_))
  split
  · first
      | exact wpAny_bind (wpAny_pure (wpAny_pure (And.intro rfl h0)))
      | exact wpAny_pure (And.intro rfl h0)
  · refine wpAny_bind (wpAny_rule ?_); show wpAny _ _ (standAt i2.pos >>= _) _ _ s; exact wpAny_bind (wpAny_standAt (wpAny_bind (wpAny_mono h (fun it' s' h' => wpAny_pure (And.intro rfl h')) fun _ _ x => x)))
end
end Mine
end
section
open PySem PySem.W PyProof.Rows PySem.Calls
set_option maxRecDepth 100000
namespace Mine
section
variable {C : Cx} {ρ : List (Str × D)} {φ : C.S}
set_option maxHeartbeats 1000000 in
theorem EV_comp2 (ok : C.Ok) {elt iter i2 : Expr} {x y : Str} {px py pos : Pos} {scope : Scope} {R : D → C.S → Prop} (sc : CompScope C scope x ρ)
    (hy : scope.names.lookup y = some .local) (hxy : x ≠ y)
    (h : SRC C ρ φ iter fun ds φ₁ => ∃ Inv : Nat → List D → C.S → Prop, Inv 0 [] φ₁ ∧
      (∀ k d outs φ' c a, ds[k]? = some d → Inv k outs φ' → (C.comp scope c a).Ok → SRC (C.comp scope c a) ((x, d) :: ρ) φ' i2 fun es φ₂ => ∃ Jnv : Nat → List D → C.S → Prop, Jnv 0 outs φ₂ ∧
        (∀ j e outs' φ₃, es[j]? = some e → Jnv j outs' φ₃ → outs'.length ≤ sizeLine ∧ EV (C.comp scope c a) ((y, e) :: (x, d) :: ρ) φ₃ elt fun v φ₄ => Jnv (j + 1) (outs' ++ [v]) φ₄) ∧ (∀ outs' φ₃, Jnv es.length outs' φ₃ → Inv (k + 1) outs' φ₃)) ∧
      (∀ outs φ', Inv ds.length outs φ' → R (.lst outs) φ'))
    (hs : ∀ x, foldedSetIterable iter C.env x = pure x := by intro _; rfl) (hs2 : ∀ env x, foldedSetIterable i2 env x = pure x := by intro _ _; rfl) : EV C ρ φ (.ListComp elt [⟨.Name x px, iter, [], 0⟩, ⟨.Name y py, i2, [], 0⟩] scope pos) R := fun s Q E st i q => by
  rw [eval_ListComp]
  refine wpAny_comprehension_free (use := none) rfl hs (closure_eq sc.free) sc.kind sc.names (h s _ _ st i fun ds φ₁ I h₁ tk ⟨Inv, inv0, step, fin⟩ a₁ i₁ eI w => ?_)
  have w' := w
  obtain ⟨fp, P, Sx, W, s0, hS, hfp, hI, hP⟩ := w'
  have st₁ := st.stay ok a₁ i₁
  have off := off_of ok st eI
  refine wpAny_newObj_type (wpAny_newFunctionEnv sc.cell (by intro y hy; simp at hy) (fun h₂ hns hsb => ?_) sc.kind)
  dsimp only at hns hsb ⊢
  generalize hH : h₁.push { cls := .type "list", dict := none, data := .seq ([] : List Value).toArray } = H at hns hsb ⊢
  have hHs : H.objs.size = h₁.objs.size + 1 := by rw [← hH, Heap.size_push]
  have nD : h₁.get? h₁.objs.size = none := get_size _
  have nC : h₁.get? H.objs.size = none := ge_none (by omega)
  have hDC : h₁.objs.size ≠ H.objs.size := by omega
  have keep12 : ∀ b o, h₁.get? b = some o → h₂.get? b = some o := fun b o e => hsb.extBut b o (fun eb => by rw [eb, nC] at e; cases e) (Heap.get?_push_of_some _ (by rw [← hH]; exact Heap.get?_push_of_some _ e))
  have hacc : h₂.IsList h₁.objs.size ([] : List Value).toArray := ⟨_, hsb.extBut _ _ hDC (Heap.get?_push_of_some _ (by rw [← hH]; exact Heap.get?_push_size _ rfl)), rfl, _, rfl⟩
  have IH : ∃ o, h₁.get? I = some o := by obtain ⟨o, _, _, ho, _⟩ := hS 0 _ s0; exact ⟨o, ho⟩
  have hID : I ≠ h₁.objs.size := fun e => by obtain ⟨o, ho⟩ := IH; rw [e, nD] at ho; cases ho
  have hIC : I ≠ H.objs.size := fun e => by obtain ⟨o, ho⟩ := IH; rw [e, nC] at ho; cases ho
  have bnone : ∀ {a : Addr}, h₁.get? a = none → C.B.get? a = none := fun {a} e => by
    cases q : C.B.get? a with
    | none => rfl
    | some o => rw [st₁.base _ _ q] at e; cases e
  have cnone : ∀ {a : Addr}, h₁.get? a = none → ∀ n, C.env.cells.lookup n ≠ some a := fun {a} e n hn => by
    obtain ⟨v, o, ho, _⟩ := st₁.cex n a hn
    rw [e] at ho; cases ho
  have wnD : ¬ C.W h₁.objs.size := st₁.toLive.fresh nD
  have wnC : ¬ C.W H.objs.size := st₁.toLive.fresh nC
  have ok' : (C.comp scope H.objs.size h₁.objs.size).Ok := comp_ok ok sc.kind sc.free (bnone nC) (bnone nD) wnC (Ne.symm hDC) (cnone nC) (cnone nD)
  have clsub : ∀ {n : Str} {a : Addr}, (C.comp scope H.objs.size h₁.objs.size).env.cells.lookup n = some a → C.env.cells.lookup n = some a := fun e => clFrom_sub sc.free (fun _ _ h => by cases h) e
  have st₂ : St (C.comp scope H.objs.size h₁.objs.size) ρ h₂ := comp_st ok sc st₁ keep12 hns (by obtain ⟨o, ho, _⟩ := hacc; exact ⟨o, ho⟩) nD
  have i₂ : C.In φ₁ h₂ := ok.ikeep _ _ _ i₁ fun b o e _ => keep12 b o e
  have offI : ∀ hh, Off (C.comp scope H.objs.size h₁.objs.size) hh I := fun _ => ⟨fun m => m.elim off.w hID, hIC, fun n hn => off.c n (clsub hn), off.b⟩
  have s02 : Sx 0 h₂ := W.frame _ _ _ s0 fun b _ o e => keep12 b o e
  have hin : ∀ h h' φ, C.In φ h → (∀ b o, b ≠ h₁.objs.size → h.get? b = some o → h'.get? b = some o) → C.In φ h' := fun h h' φ i k => ok.ikeep φ h h' i fun b o e m => k b o (fun eb => wnD (eb ▸ m)) e
  have hkx : (C.comp scope H.objs.size h₁.objs.size).env.kindOf x = some .local := lookup_relabel_local sc.x
  have hky : (C.comp scope H.objs.size h₁.objs.size).env.kindOf y = some .local := lookup_relabel_local hy
  have ad : AccOk (C.comp scope H.objs.size h₁.objs.size) h₁.objs.size := ⟨.inr rfl, fun m => wnD (ok.mow _ m), hDC, fun n hn => cnone nD n (clsub hn), bnone nD, hin⟩
  have w₂ : WalkOf (C.comp scope H.objs.size h₁.objs.size) h₂ ds I := ⟨fp, P, Sx, W, s02, hS, fun b hb hn => by
    obtain ⟨o, ho, sq, hw⟩ := hfp b hb hn
    exact ⟨o, keep12 _ _ ho, sq, fun m => m.elim hw fun e => by rw [e, nD] at ho; cases ho⟩, hI, fun j v hv hl => by
    obtain ⟨d, hd, hi⟩ := hP j v hv hl
    exact ⟨d, hd, fun h' kp => ((hi h₁ (.all fun _ _ e => e)).widen (W' := (C.comp scope H.objs.size h₁.objs.size).W) fun a m => m.imp id fun e => e ▸ nD).keep (.all fun b o e => by
      by_cases hsq : True
      · exact keep12 b o e
      · exact absurd trivial hsq) |>.keep kp⟩⟩
  have as₂ : AS (C.comp scope H.objs.size h₁.objs.size) h₁.objs.size s.heap ρ φ₁ [] h₂ := ⟨st₂, i₂, ⟨[], hacc, .nil⟩, fun b o e m _ _ => keep12 b o (a₁ b o e m)⟩
  have loop : ∀ sL : Shared, sL = { s with heap := h₂, toks := tk + ([] : List (Str × Value)).length } →
      codeAny (model C.prog C.w) C.A (.compLoop (.ListComp elt [⟨.Name x px, iter, [], 0⟩, ⟨.Name y py, i2, [], 0⟩] scope pos) 0 (.ref I) (.ref h₁.objs.size) (compEnvC scope (clFrom C.env.cells scope.names []) H.objs.size C.env))
        (compPost (model C.prog C.w) C.A E none Q (.ref h₁.objs.size) H.objs.size) sL := by
    rintro sL rfl
    refine accLoop (C := C.comp scope H.objs.size h₁.objs.size) ok' ad hkx lr2_0 (s := { s with heap := h₂, toks := tk + ([] : List (Str × Value)).length }) (h0 := s.heap) w₂ eI (offI _) Inv as₂ inv0 (fun z e hz eq => sc.off z e hz (by rw [eq]; exact sc.x)) (fun k e outs φ' s' h1 Q' hd inv a' q' => ?_) fun outs φ' h' tk' inv a' => ?_
    · refine wpAny_mono (step k e outs φ' _ _ hd inv ok' s' (fun v s₄ => wpAny (model C.prog C.w) C.A (runOwn (.compStart (.ListComp elt [⟨.Name x px, iter, [], 0⟩, ⟨.Name y py, i2, [], 0⟩] scope pos) 1 v (.ref h₁.objs.size) (C.comp scope H.objs.size h₁.objs.size).env) (C.comp scope H.objs.size h₁.objs.size).env) (fun _ s₄ => Q' s₄) (notedBy (model C.prog C.w) C.A (C.comp scope H.objs.size h₁.objs.size).env fun e s' => compPost (model C.prog C.w) C.A E none Q (Value.ref h₁.objs.size) H.objs.size (Except.error e) s') s₄) _ a'.st a'.i fun es φ₂ I₂ h₂' tk₂ ⟨Jnv, j0, jstep, jfin⟩ a₂ i₂ eI₂ wk₂ => ?_) (fun v s₁ h => wpAny_of_eq (hs2 _ v) h) fun _ _ h => h
      have off₂ := off_of (C := C.comp scope H.objs.size h₁.objs.size) ok' a'.st eI₂
      have st₂' := St.stay (C := C.comp scope H.objs.size h₁.objs.size) ok' a'.st a₂ i₂
      have as' : AS (C.comp scope H.objs.size h₁.objs.size) h₁.objs.size s'.heap ((x, e) :: ρ) φ₂ outs h₂' := ⟨st₂', i₂, by
        obtain ⟨ys, ⟨o, e, r⟩, ya⟩ := a'.acc
        exact ⟨ys, ⟨o, a₂ _ _ e ad.m, r⟩, ya.keep (Cx.Stay.keep (C := C.comp scope H.objs.size h₁.objs.size) ok' a₂)⟩, fun b o e m _ _ => a₂ b o e m⟩
      have lp : codeAny (model C.prog C.w) C.A (.compLoop (.ListComp elt [⟨.Name x px, iter, [], 0⟩, ⟨.Name y py, i2, [], 0⟩] scope pos) 1 (.ref I₂) (.ref h₁.objs.size) (C.comp scope H.objs.size h₁.objs.size).env)
          (fun r s₅ => match r with | .ok f => Q' s₅ | .error e => cameBackBy (model C.prog C.w) C.A (C.comp scope H.objs.size h₁.objs.size).env (notedBy (model C.prog C.w) C.A (C.comp scope H.objs.size h₁.objs.size).env fun e s' =>
            compPost (model C.prog C.w) C.A E none Q (Value.ref h₁.objs.size) H.objs.size (Except.error e) s') e s₅) { s' with heap := h₂', toks := tk₂ } := by
        refine accLoop (C := C.comp scope H.objs.size h₁.objs.size) ok' ad hky lr2_1 (s := { s' with heap := h₂', toks := tk₂ }) (h0 := s'.heap) wk₂ eI₂ ⟨off₂.w, off₂.l, off₂.c, off₂.b⟩ Jnv as' j0 (fun z e hz => ?_) (fun j e' outs' φ₃ s₆ h6 Q6 he jn a₆ q₆ => ?_) fun outs' φ₃ h' tk' jn a₇ => ?_
        · rw [lookup_cons] at hz
          by_cases hzx : z = x
          · subst hzx; exact hxy
          · rw [if_neg hzx] at hz
            exact fun eq => sc.off z e hz (by rw [eq]; exact hy)
        · obtain ⟨hsz, ev⟩ := jstep j e' outs' φ₃ he jn
          refine emit_wp (C := C.comp scope H.objs.size h₁.objs.size) ok' ad a₆ hsz (fun z e hz => ?_) (EV.mono ev fun v φ₄ jn' h' tk' a₈ => q₆ _ _ _ _ jn' a₈)
          rw [lookup_cons]
          have hz' := hz
          rw [lookup_cons] at hz'
          by_cases hzy : z = y
          · exfalso
            subst hzy
            by_cases hzx : z = x
            · exact hxy hzx.symm
            · rw [if_neg hzx] at hz'
              exact sc.off z e hz' hy
          · rw [if_neg hzy]; exact hz
        · refine q' outs' φ₃ h' tk' (jfin _ _ jn) ⟨a₇.st.less fun z e hz => ?_, a₇.i, a₇.acc, fun b o e m l n => a₇.stay b o (a'.stay b o e m l n) m l n⟩
          rw [lookup_cons, if_neg (fun eq => sc.off z e hz (by rw [eq]; exact sc.x))]; exact hz
      refine wpAny_runOwn (start2_1 lp ?_)
      obtain ⟨fp', P', Sx', W', s0', _⟩ := wk₂
      exact W'.self 0 _ _ _ s0' lp
    · obtain ⟨mm, hmm, _⟩ := a'.st.loc
      obtain ⟨ys, l₄, o₄⟩ := a'.acc
      refine ⟨mm, hmm, fun h₅ k₅ => ?_⟩
      have kw₅ : Keep (C.comp scope H.objs.size h₁.objs.size).W h' h₅ := StayO.keepW (C := C.comp scope H.objs.size h₁.objs.size) ok' a'.st fun b o e _ hl _ => k₅.extBut b o hl e
      have l₅ : h₅.IsList h₁.objs.size ys.toArray := by
        obtain ⟨o, e, r⟩ := l₄
        exact ⟨o, k₅.extBut _ o hDC e, r⟩
      have sold : ∀ {b : Addr} {o : Obj}, s.heap.get? b = some o → ¬ C.Mo b → b ≠ I ∧ b ≠ H.objs.size ∧ b ≠ h₁.objs.size := fun {b o} e m => ⟨fun eb => by (rw [eb, eI] at e; cases e), fun eb => by (have := a₁ b o e m; rw [eb, nC] at this; cases this), fun eb => by (have := a₁ b o e m; rw [eb, nD] at this; cases this)⟩
      refine q (.lst outs) φ' _ h₅ tk' (fin outs φ' inv) (fun b o e m => ?_) (ok.ikeep _ _ _ a'.i fun b o e m => k₅.extBut b o (fun eb => wnC (eb ▸ m)) e) (.lst l₅ wnD ((o₄.keep kw₅).narrow fun a m => .inl m))
      obtain ⟨n1, n2, n3⟩ := sold e m
      exact k₅.extBut b o n2 (a'.stay b o e m n2 n3)
  exact codeAny_compStart_list (loop _ rfl) (W.self 0 _ _ _ s02 (loop _ rfl))
end
end Mine
end
section
open PySem PySem.W PyProof.Rows PySem.Calls
set_option maxRecDepth 100000
namespace Mine
theorem b_isinstance : bootBuiltins (Str.ofString "isinstance") = some (.builtin "isinstance") := by boot_by_name
theorem b_len : bootBuiltins (Str.ofString "len") = some (.builtin "len") := by boot_by_name
theorem b_all : bootBuiltins (Str.ofString "all") = some (.builtin "all") := by boot_by_name
theorem b_min : bootBuiltins (Str.ofString "min") = some (.builtin "min") := by boot_by_name
theorem b_max : bootBuiltins (Str.ofString "max") = some (.builtin "max") := by boot_by_name
theorem b_int : bootBuiltins (Str.ofString "int") = some (.type "int") := by boot_by_name
theorem b_bool : bootBuiltins (Str.ofString "bool") = some (.type "bool") := by boot_by_name
theorem b_tuple : bootBuiltins (Str.ofString "tuple") = some (.type "tuple") := by boot_by_name
theorem b_str : bootBuiltins (Str.ofString "str") = some (.type "str") := by boot_by_name
theorem b_list : bootBuiltins (Str.ofString "list") = some (.type "list") := by boot_by_name
theorem b_range : bootBuiltins (Str.ofString "range") = some (.type "range") := by boot_by_name
theorem b_enumerate : bootBuiltins (Str.ofString "enumerate") = some (.type "enumerate") := by boot_by_name
section
variable {C : Cx}
theorem n_isinstance : nsIn C.K mainGlobals (Str.ofString "isinstance") = some none := by rfl
theorem n_len : nsIn C.K mainGlobals (Str.ofString "len") = some none := by rfl
theorem n_all : nsIn C.K mainGlobals (Str.ofString "all") = some none := by rfl
theorem n_min : nsIn C.K mainGlobals (Str.ofString "min") = some none := by rfl
theorem n_max : nsIn C.K mainGlobals (Str.ofString "max") = some none := by rfl
theorem n_int : nsIn C.K mainGlobals (Str.ofString "int") = some none := by rfl
theorem n_bool : nsIn C.K mainGlobals (Str.ofString "bool") = some none := by rfl
theorem n_tuple : nsIn C.K mainGlobals (Str.ofString "tuple") = some none := by rfl
theorem n_str : nsIn C.K mainGlobals (Str.ofString "str") = some none := by rfl
theorem n_list : nsIn C.K mainGlobals (Str.ofString "list") = some none := by rfl
theorem n_range : nsIn C.K mainGlobals (Str.ofString "range") = some none := by rfl
theorem n_enumerate : nsIn C.K mainGlobals (Str.ofString "enumerate") = some none := by rfl
theorem g_LINEAR : nsIn C.K mainGlobals (Str.ofString "LINEAR") = some (some (.ref 15)) := by rfl
theorem g_STRENGTHS : nsIn C.K mainGlobals (Str.ofString "STRENGTHS") = some (some (.ref 16)) := by rfl
theorem g_FORMS : nsIn C.K mainGlobals (Str.ofString "FORMS") = some (some (.ref 17)) := by rfl
theorem g_PAIRS : nsIn C.K mainGlobals (Str.ofString "PAIRS") = some (some (.ref 19)) := by rfl
theorem g_is_number : nsIn C.K mainGlobals (Str.ofString "is_number") = some (some (.ref 42)) := by rfl
theorem g_is_row : nsIn C.K mainGlobals (Str.ofString "is_row_of_numbers") = some (some (.ref 47)) := by rfl
theorem g_is_var : nsIn C.K mainGlobals (Str.ofString "is_var") = some (some (.ref 54)) := by rfl
theorem g_fits : nsIn C.K mainGlobals (Str.ofString "fits") = some (some (.ref 59)) := by rfl
theorem g_machine : nsIn C.K mainGlobals (Str.ofString "machine_fault") = some (some (.ref 64)) := by rfl
theorem g_told_fault : nsIn C.K mainGlobals (Str.ofString "told_fault") = some (some (.ref 69)) := by rfl
theorem g_names : nsIn C.K mainGlobals (Str.ofString "_law_names") = some (some (.ref 101)) := by rfl
theorem g_dip : nsIn C.K mainGlobals (Str.ofString "_law_dip") = some (some (.ref 108)) := by rfl
theorem g_var : nsIn C.K mainGlobals (Str.ofString "_law_var") = some (some (.ref 115)) := by rfl
theorem g_vars : nsIn C.K mainGlobals (Str.ofString "_law_vars") = some (some (.ref 120)) := by rfl
theorem g_numbers : nsIn C.K mainGlobals (Str.ofString "_law_numbers") = some (some (.ref 125)) := by rfl
theorem g_place : nsIn C.K mainGlobals (Str.ofString "_law_place") = some (some (.ref 130)) := by rfl
theorem g_told : nsIn C.K mainGlobals (Str.ofString "_law_told") = some (some (.ref 137)) := by rfl
theorem g_bends : nsIn C.K mainGlobals (Str.ofString "_law_bends") = some (some (.ref 142)) := by rfl
end
end Mine
end
section
open PySem PySem.W PyProof.Rows PySem.Calls
set_option maxRecDepth 100000
namespace Mine
section
variable {C : Cx} {ρ : List (Str × D)} {φ : C.S}
theorem lookup_mem {α : Type} {y : Str} {l : List (Str × α)} {k : α} (h : l.lookup y = some k) : (y, k) ∈ l := mem_of_lookup h
theorem compScope {scope : Scope} {x : Str} (h1 : scope.names.all (fun p => p.2 != .cell) = true) (hk : scope.kind = .function)
    (h2 : scope.names.all (fun p => p.2 != .local || scope.names.lookup p.1 == some .local) = true) (hx : scope.names.lookup x = some .local)
    (hf : scope.names.all (fun p => p.2 != .free || (C.env.cells.lookup p.1).isSome) = true)
    (hk2 : scope.names.all (fun p => p.2 != .free || (C.env.kindOf p.1 == some .cell || C.env.kindOf p.1 == some .free)) = true)
    (ho : scope.names.all (fun p => p.2 != .local || (ρ.lookup p.1).isNone) = true) : CompScope C scope x ρ where
  cell := fun y hy => by simpa using List.all_eq_true.mp h1 y hy
  kind := hk
  names := fun y hy e => by simpa [e] using List.all_eq_true.mp h2 y hy
  x := hx
  free := hf
  freeK := fun y hy => by simpa using List.all_eq_true.mp hk2 _ (lookup_mem hy)
  off := fun y d hy hl => by
    have := List.all_eq_true.mp ho _ (lookup_mem hl)
    simp [hy] at this
theorem EV_map (ok : C.Ok) {elt iter : Expr} {x : Str} {px pos : Pos} {scope : Scope} {R : D → C.S → Prop} (sc : CompScope C scope x ρ)
    (h : SRC C ρ φ iter fun ds φ₁ => ds.length ≤ sizeLine ∧ ∃ f : D → D, (∀ d ∈ ds, ∀ c a (R' : D → C.S → Prop), (C.comp scope c a).Ok → R' (f d) φ₁ → EV (C.comp scope c a) ((x, d) :: ρ) φ₁ elt R') ∧ R (.lst (ds.map f)) φ₁)
    (hs : ∀ x, foldedSetIterable iter C.env x = pure x := by intro _; rfl) : EV C ρ φ (.ListComp elt [⟨.Name x px, iter, [], 0⟩] scope pos) R :=
  EV_comp ok sc (fun s Q E st i q => h s Q E st i fun ds φ' I h' tk ⟨hsz, f, hf, r⟩ a i' e w => q ds φ' I h' tk ⟨hsz, fun k outs φ₂ => φ₂ = φ' ∧ outs = (ds.take k).map f, ⟨rfl, rfl⟩, fun k d outs φ₂ c a hd ⟨e1, e2⟩ hl ok' => by
      subst e1; subst e2
      refine hf d (List.mem_of_getElem? hd) c a _ ok' ⟨rfl, ?_⟩
      rw [List.take_add_one, hd]; simp, fun outs φ₂ ⟨e1, e2⟩ hl => by
      subst e1; subst e2
      rw [List.take_length]; exact r⟩ a i' e w) hs
theorem EV_mapB (ok : C.Ok) {elt iter : Expr} {x : Str} {px pos : Pos} {scope : Scope} {R : D → C.S → Prop} (sc : CompScope C scope x ρ)
    (h : SRC C ρ φ iter fun ds φ₁ => ds.length ≤ sizeLine ∧ ∃ f : D → Bool, (∀ d ∈ ds, ∀ c a (R' : D → C.S → Prop), (C.comp scope c a).Ok → R' (.bool (f d)) φ₁ → EV (C.comp scope c a) ((x, d) :: ρ) φ₁ elt R') ∧ R (.lst ((ds.map f).map .bool)) φ₁)
    (hs : ∀ x, foldedSetIterable iter C.env x = pure x := by intro _; rfl) : EV C ρ φ (.ListComp elt [⟨.Name x px, iter, [], 0⟩] scope pos) R :=
  EV_map ok sc (fun s Q E st i q => h s Q E st i fun ds φ' I h' tk ⟨hsz, f, hf, r⟩ a i' e w => q ds φ' I h' tk ⟨hsz, fun d => .bool (f d), hf, by rw [List.map_map] at r; exact r⟩ a i' e w) hs
end
noncomputable def Fine : Nat → D → Prop
  | 0, d => plainD d = true
  | n + 1, d => plainD d = true ∧ match d with
    | .tup ds => ds.length ≤ 1000 ∧ ∀ x ∈ ds, Fine n x
    | .lst ds => ds.length ≤ 1000 ∧ ∀ x ∈ ds, Fine n x
    | _ => True
theorem Fine.plain : ∀ {n : Nat} {d : D}, Fine n d → plainD d = true
  | 0, _, h => h
  | _ + 1, _, h => h.1
theorem Fine.tup {n : Nat} {ds : List D} (h : Fine (n + 1) (.tup ds)) : ds.length ≤ 1000 ∧ ∀ x ∈ ds, Fine n x := h.2
theorem Fine.down : ∀ {n : Nat} {d : D}, Fine (n + 1) d → Fine n d
  | 0, _, h => h.1
  | n + 1, .tup ds, h => ⟨h.1, h.2.1, fun x hx => Fine.down (h.2.2 x hx)⟩
  | n + 1, .lst ds, h => ⟨h.1, h.2.1, fun x hx => Fine.down (h.2.2 x hx)⟩
  | n + 1, .none, h => ⟨h.1, trivial⟩
  | n + 1, .bool _, h => ⟨h.1, trivial⟩
  | n + 1, .int _, h => ⟨h.1, trivial⟩
  | n + 1, .str _, h => ⟨h.1, trivial⟩
  | n + 1, .ref _, h => ⟨h.1, trivial⟩
  | n + 1, .typ _, h => ⟨h.1, trivial⟩
theorem lines {n : Nat} (h : n ≤ 1000) : n ≤ sizeLine := Nat.le_trans h (by decide)
def Pure (C : Cx) (f : Addr) (ds : List D) (r : D) : Prop := ∀ (φ : C.S) (R : D → C.S → Prop), R r φ → OP C φ (fun vs => call (.ref f) vs) ds R
theorem room_enter {C : Cx} {fd : FuncData} {L f : Addr} {k : Nat} (h : Room C (k + 1)) : Room (C.enter fd L f) k := by
  obtain ⟨h1, h2⟩ := h
  constructor
  · show C.A.depth + 1 + k < _
    omega
  · show C.A.units + _ + 4 * k < _
    omega
theorem Room.down {C : Cx} {j k : Nat} (h : Room C k) (hj : j ≤ k) : Room C j := ⟨by have := h.1; omega, by have := h.2; omega⟩
theorem room_comp {C : Cx} {scope : Scope} {c d : Addr} {k : Nat} (h : Room C k) : Room (C.comp scope c d) k := h
theorem bind1 {P : List Value → Prop} {vals : List Value} {x : Str} (hv : vals.length = [x].length) (h : ∀ a, P [a]) : P vals := by
  obtain _ | ⟨a, _ | ⟨b, c⟩⟩ := vals
  · cases hv
  · exact h a
  · cases hv
theorem bind2 {P : List Value → Prop} {vals : List Value} {x y : Str} (hv : vals.length = [x, y].length) (h : ∀ a b, P [a, b]) : P vals := by
  obtain _ | ⟨a, _ | ⟨b, _ | ⟨c, d⟩⟩⟩ := vals
  · cases hv
  · cases hv
  · exact h a b
  · cases hv
theorem bind3 {P : List Value → Prop} {vals : List Value} {x y z : Str} (hv : vals.length = [x, y, z].length) (h : ∀ a b c, P [a, b, c]) : P vals := by
  obtain _ | ⟨a, _ | ⟨b, _ | ⟨c, _ | ⟨d, e⟩⟩⟩⟩ := vals
  · cases hv
  · cases hv
  · cases hv
  · exact h a b c
  · cases hv
theorem bind4 {P : List Value → Prop} {vals : List Value} {x y z w : Str} (hv : vals.length = [x, y, z, w].length) (h : ∀ a b c d, P [a, b, c, d]) : P vals := by
  obtain _ | ⟨a, _ | ⟨b, _ | ⟨c, _ | ⟨d, _ | ⟨e, f⟩⟩⟩⟩⟩ := vals
  · cases hv
  · cases hv
  · cases hv
  · cases hv
  · exact h a b c d
  · cases hv
theorem locals_ok {names : List (Str × NameKind)} {xs : List Str} (h : ∀ x ∈ xs, names.lookup x = some .local ∨ (names.lookup x = some .cell ∧ ∀ n : Nat, ((cellsFrom n names []).lookup x).isSome = true)) :
    ∀ n : Nat, ∀ y ∈ xs, names.lookup y = some .local ∨ (names.lookup y = some .cell ∧ ((cellsFrom n names []).lookup y).isSome = true) := fun n y hy =>
  (h y hy).imp id fun h => ⟨h.1, h.2 n⟩
theorem locals_all {names : List (Str × NameKind)} {xs : List Str} (h : xs.all (fun x => names.lookup x == some .local) = true) :
    ∀ n : Nat, ∀ y ∈ xs, names.lookup y = some .local ∨ (names.lookup y = some .cell ∧ ((cellsFrom n names []).lookup y).isSome = true) := fun n y hy =>
  .inl (by simpa using List.all_eq_true.mp h y hy)
end Mine
end
section
open PySem PySem.W PyProof.Rows PySem.Calls
set_option maxRecDepth 100000
namespace Mine
theorem lo_nat (k n : Nat) : loN (some (k : Int)) n = min k n := by
  show (if (k : Int) < 0 then max ((k : Int) + n) 0 else min (k : Int) n : Int).toNat = _
  rw [if_neg (by omega)]; omega
theorem cut_from {α : Type} (l : List α) (k : Nat) (v : Int) (hv : v = k) : cut l (some v) none = l.drop k := by
  subst hv
  unfold cut
  rw [lo_nat]
  show (l.drop _).take (l.length - _) = _
  rw [List.take_of_length_le (Nat.le_of_eq (List.length_drop ..))]
  by_cases h : k ≤ l.length
  · rw [Nat.min_eq_left h]
  · rw [List.drop_of_length_le (by omega), List.drop_of_length_le (by omega)]
theorem cut_to {α : Type} (l : List α) (k : Nat) (v : Int) (hv : v = k) : cut l none (some v) = l.take k := by
  subst hv
  show (l.drop 0).take (loN (some (k : Int)) l.length - 0) = _
  rw [lo_nat, Nat.sub_zero, List.drop_zero]
  by_cases h : k ≤ l.length
  · rw [Nat.min_eq_left h]
  · rw [List.take_of_length_le (by omega), List.take_of_length_le (by omega)]
theorem cut_last {α : Type} (l : List α) : cut l none (some (-1)) = l.dropLast := by
  show (l.drop 0).take ((max ((-1 : Int) + l.length) 0).toNat - 0) = _
  rw [List.drop_zero, List.dropLast_eq_take]
  congr 1
  omega
end Mine
end
section
open PySem PySem.W PyProof.Rows PySem.Calls
set_option maxRecDepth 100000
namespace Mine
theorem line_eq : sizeLine = 16777216 := sizeLine_eq
end Mine
end
section
open PySem PySem.W PyProof.Rows PySem.Calls
set_option maxRecDepth 100000
namespace Mine
theorem nums_at : ∀ {vs : List Value} {ns : List Int}, IntsAre vs ns → ∀ k, k < ns.length → ∃ m t, vs[k]? = some (.int m t)
  | _, _, .nil, k, h => by cases h
  | _, _, .cons n t r, 0, h => ⟨n, t, rfl⟩
  | _, _, .cons n t r, k + 1, h => by
    obtain ⟨m, t', e⟩ := nums_at r k (by simpa using h)
    exact ⟨m, t', by simpa using e⟩
structure Feed where
  place : Int
  many : Int
  most : Int
def feedIn (prog : Program) (w : World) (F cl : Addr) (vs : List Value) (φ : Feed) (h : Heap) : Prop :=
  (∃ t1 t2 t3, h.DictOf (strKind prog w) F [(Str.ofString "cells", .ref cl), (Str.ofString "place", .int φ.place t1), (Str.ofString "many", .int φ.many t2), (Str.ofString "most", .int φ.most t3)]) ∧ h.IsList cl vs.toArray
structure FeedCx (C : Cx) where
  F : Addr
  cl : Addr
  vs : List Value
  ns : List Int
  get : C.S → Feed
  set : C.S → Feed → C.S
  gs : ∀ φ f, get (set φ f) = f
  ss : ∀ φ f g, set (set φ f) g = set φ g
  sg : ∀ φ, set φ (get φ) = φ
  In : ∀ φ h, C.In φ h → feedIn C.prog C.w F cl vs (get φ) h
  upd : ∀ φ f h h', C.In φ h → feedIn C.prog C.w F cl vs f h' → (∀ b o, b ≠ F → h.get? b = some o → h'.get? b = some o) → C.In (set φ f) h'
  mo : C.Mo F
  ne : cl ≠ F
  nums : IntsAre vs ns
  short : ns.length ≤ 60
  nm : (F == sysModules) = false
def FeedCx.enter {C : Cx} (fc : FeedCx C) (fd : FuncData) (L f : Addr) : FeedCx (C.enter fd L f) := { fc with }
def FeedCx.comp {C : Cx} (fc : FeedCx C) (scope : Scope) (c d : Addr) : FeedCx (C.comp scope c d) := { fc with }
def feedAt (cl : Addr) (f : Feed) (x : Str) : Option D :=
  if x == Str.ofString "cells" then some (.ref cl) else if x == Str.ofString "place" then some (.int f.place) else if x == Str.ofString "many" then some (.int f.many) else if x == Str.ofString "most" then some (.int f.most) else none
def feedSet (f : Feed) (x : Str) (n : Int) : Option Feed :=
  if x == Str.ofString "place" then some { f with place := n } else if x == Str.ofString "many" then some { f with many := n } else if x == Str.ofString "most" then some { f with most := n } else none
section
variable {C : Cx} {ρ : List (Str × D)} {φ : C.S}
theorem EV_feed (ok : C.Ok) (fc : FeedCx C) {e : Expr} {x : Str} {k : Nat} {p pos : Pos} {R : D → C.S → Prop}
    (h : EV C ρ φ e fun d φ₁ => d = .ref fc.F ∧ ∃ y, feedAt fc.cl (fc.get φ₁) x = some y ∧ R y φ₁)
    (hs : ∀ o i, subscripted (.Constant (.str x) k p) false o i = operate [o, i] (getItem o i) := by intro _ _; rfl) : EV C ρ φ (.Subscript e (.Constant (.str x) k p) pos) R := fun s Q E st i q => by
  refine Subscript_ (h s _ _ st i fun d φ₁ v h₁ tk r a₁ i₁ xv => ?_)
  obtain ⟨rfl, y, hy, r⟩ := r
  cases xv
  refine wpAny_Constant_str ?_
  obtain ⟨⟨t1, t2, t3, hd⟩, hl⟩ := fc.In _ _ i₁
  have hm := hd.mapOf
  unfold feedAt at hy
  obtain ⟨v, hv, g⟩ : ∃ v, valueAt [(Str.ofString "cells", Value.ref fc.cl), (Str.ofString "place", .int (fc.get φ₁).place t1), (Str.ofString "many", .int (fc.get φ₁).many t2), (Str.ofString "most", .int (fc.get φ₁).most t3)] x = some v ∧ Is C.W h₁ v y := by
    split at hy
    · rename_i hx; rw [beq_iff_eq] at hx; subst hx; cases hy; exact ⟨_, rfl, .ref _⟩
    split at hy
    · rename_i hx; rw [beq_iff_eq] at hx; subst hx; cases hy; exact ⟨_, rfl, .int _ _⟩
    split at hy
    · rename_i hx; rw [beq_iff_eq] at hx; subst hx; cases hy; exact ⟨_, rfl, .int _ _⟩
    split at hy
    · rename_i hx; rw [beq_iff_eq] at hx; subst hx; cases hy; exact ⟨_, rfl, .int _ _⟩
    · cases hy
  refine tail_any (s := { s with heap := h₁, toks := tk + 1 }) (T := "dict") hm.typeIs slot_dict_getitem.lookup (wpAny_getItem_of (strKind_is C.prog C.w x _) hm hv ?_) (hs _ _)
  exact q _ φ₁ v h₁ _ r a₁ i₁ g
theorem feed_store (ok : C.Ok) (fc : FeedCx C) {x : Str} {t tk : Tok} {n : Int} {f' : Feed} {s : Shared} {Q : Unit → Shared → Prop} {E : Value → Shared → Prop} {A : Around} (st : St C ρ s.heap) (i : C.In φ s.heap) (hf : feedSet (fc.get φ) x n = some f')
    (q : ∀ h' tk, C.Stay s.heap h' → St C ρ h' → C.In (fc.set φ f') h' → Q () { s with heap := h', toks := tk }) : wpAny (model C.prog C.w) A (setItem (.ref fc.F) (.str x t) (.int n tk)) Q E s := by
  obtain ⟨⟨t1, t2, t3, hd⟩, hl⟩ := fc.In _ _ i
  refine wpAny_setItem_pairs (knd := strKind C.prog C.w) (strKind_is C.prog C.w x _) hd (fun h' hd' hb => ?_)
  have stay : ∀ b o, b ≠ fc.F → s.heap.get? b = some o → h'.get? b = some o := fun b o e h => hb.extBut b o e h
  have hl' : h'.IsList fc.cl fc.vs.toArray := by obtain ⟨o, e, r⟩ := hl; exact ⟨o, stay _ _ fc.ne e, r⟩
  have key : feedIn C.prog C.w fc.F fc.cl fc.vs f' h' → Q () { s with heap := h', toks := s.toks + 1 } := fun fi =>
    have i' := fc.upd _ f' _ h' i fi stay
    have sy : C.Stay s.heap h' := fun b o e m => stay b o (fun eb => m (eb ▸ fc.mo)) e
    q h' _ sy (st.stay ok sy i') i'
  unfold feedSet at hf
  split at hf
  · rename_i hx; rw [beq_iff_eq] at hx; subst hx; cases hf; exact key ⟨⟨_, _, _, hd'⟩, hl'⟩
  split at hf
  · rename_i hx; rw [beq_iff_eq] at hx; subst hx; cases hf; exact key ⟨⟨_, _, _, hd'⟩, hl'⟩
  split at hf
  · rename_i hx; rw [beq_iff_eq] at hx; subst hx; cases hf; exact key ⟨⟨_, _, _, hd'⟩, hl'⟩
  · cases hf
/-- feed['..'] = value -/
theorem EX_feed (ok : C.Ok) (fc : FeedCx C) {o e : Expr} {x : Str} {k : Nat} {p ps pos : Pos} {R : Out C.S → Prop}
    (h : EV C ρ φ e fun d φ₁ => ∃ n, d = .int n ∧ EV C ρ φ₁ o fun d' φ₂ => d' = .ref fc.F ∧ ∃ f', feedSet (fc.get φ₂) x n = some f' ∧ R (.next ρ (fc.set φ₂ f')))
    (hs : swapsWith e (some (o.Subscript (.Constant (.str x) k p) ps)) pos.line C.env = pure false := by rfl) : EX1 C ρ φ (.Assign [.Subscript o (.Constant (.str x) k p) ps] e pos) R := fun s Q E st i q1 q2 => by
  refine wpAny_Assign_Subscript (h s _ _ st i fun d φ₁ v h₁ tk r a₁ i₁ xv => ?_) hs
  obtain ⟨n, rfl, r⟩ := r
  cases xv
  have st₁ := st.stay ok a₁ i₁
  refine r _ _ _ st₁ i₁ fun d' φ₂ v' h₂ tk₂ r₂ a₂ i₂ x₂ => ?_
  obtain ⟨rfl, f', hf, r₂⟩ := r₂
  cases x₂
  have st₂ := st₁.stay ok a₂ i₂
  refine wpAny_Constant_str (feed_store (s := { s with heap := h₂, toks := tk₂ + 1 }) ok fc st₂ i₂ hf fun h₃ tk₃ a₃ st₃ i₃ => ?_)
  exact q1 ρ _ h₃ tk₃ r₂ ((a₁.trans a₂).trans a₃).o st₃ i₃
theorem assign_sub {o : Expr} {x : Str} {k : Nat} {p ps : Pos} {v : Value} {s : Shared} {Q : Unit → Shared → Prop} {E : Value → Shared → Prop} {A : Around} {prog : Program} {w : World} {env : Env}
    (h : wpAny (model prog w) A (eval o env) (fun ov s₁ => wpAny (model prog w) A (setItem ov (.str x s₁.toks) v) Q E { s₁ with toks := s₁.toks + 1 }) E s) : wpAny (model prog w) A (assign (.Subscript o (.Constant (.str x) k p) ps) env v) Q E s := by
  rw [assign_Subscript]
  refine wpAny_bind (wpAny_holding (wpAny_mono h (fun ov s₁ h₁ => wpAny_bind (wpAny_holding (wpAny_Constant_str (wpAny_bind (wpAny_standAt (wpAny_bind (wpAny_holding (wpAny_mono h₁ (fun u s₂ h₂ => ?_) fun _ _ e => e)))))))) fun _ _ e => e))
  exact wpAny_release h₂
/-- feed['a'], feed['b'] = (.., ..) -/
theorem EX_feed2 (ok : C.Ok) (fc : FeedCx C) {o o' e : Expr} {x x' : Str} {k k' kk : Nat} {p ps p' ps' tp pos : Pos} {R : Out C.S → Prop}
    (h : EV C ρ φ e fun d φ₁ => ∃ n n', d = .tup [.int n, .int n'] ∧ EV C ρ φ₁ o fun d' φ₂ => d' = .ref fc.F ∧ ∃ f', feedSet (fc.get φ₂) x n = some f' ∧ EV C ρ (fc.set φ₂ f') o' fun d' φ₃ => d' = .ref fc.F ∧ ∃ f', feedSet (fc.get φ₃) x' n' = some f' ∧ R (.next ρ (fc.set φ₃ f')))
    (hs : swapsWithSole [.Tuple [o.Subscript (.Constant (.str x) k p) ps, o'.Subscript (.Constant (.str x') k' p') ps'] kk tp] e pos.line C.env = pure false := by rfl)
    (hw : swappedStores [.Tuple [o.Subscript (.Constant (.str x) k p) ps, o'.Subscript (.Constant (.str x') k' p') ps'] kk tp] e C.env = pure none := by rfl) :
    EX1 C ρ φ (.Assign [.Tuple [o.Subscript (.Constant (.str x) k p) ps, o'.Subscript (.Constant (.str x') k' p') ps'] kk tp] e pos) R := fun s Q E st i q1 q2 => by
  refine Assign_Tuple (h s _ _ st i fun d φ₁ v h₁ tk r a₁ i₁ xv => ?_) hs hw
  obtain ⟨n, n', rfl, r⟩ := r
  obtain _ | ⟨⟩ := xv
  rename_i T vs ht nt at'
  obtain _ | ⟨⟨⟩, _ | ⟨⟨⟩, ⟨⟩⟩⟩ := at'
  have st₁ := st.stay ok a₁ i₁
  refine assign_Tuple_tuple ok.hh ht rfl rfl fun h₂ e₂ => ?_
  have k₂ := ext_fresh e₂
  have i₂ := ok.ikeep _ _ _ i₁ fun b o e _ => k₂ b o e
  have st₂ := st₁.stay ok (.all k₂) i₂
  refine assignInOrder_cons (assign_sub (r _ _ _ st₂ i₂ fun d' φ₃ v' h₃ tk₃ r₃ a₃ i₃ x₃ => ?_))
  obtain ⟨rfl, f', hf, r₃⟩ := r₃
  cases x₃
  have st₃ := st₂.stay ok a₃ i₃
  refine feed_store (s := { s with heap := h₃, toks := tk₃ + 1 }) ok fc st₃ i₃ hf fun h₄ tk₄ a₄ st₄ i₄ => ?_
  refine assignInOrder_cons (assign_sub (r₃ _ _ _ st₄ i₄ fun d' φ₅ v' h₅ tk₅ r₅ a₅ i₅ x₅ => ?_))
  obtain ⟨rfl, f'', hf', r₅⟩ := r₅
  cases x₅
  have st₅ := st₄.stay ok a₅ i₅
  refine feed_store (s := { s with heap := h₅, toks := tk₅ + 1 }) ok fc st₅ i₅ hf' fun h₆ tk₆ a₆ st₆ i₆ => assignInOrder_nil ?_
  exact q1 ρ _ h₆ tk₆ r₅ (((((a₁.trans (.all k₂)).trans a₃).trans a₄).trans a₅).trans a₆).o st₆ i₆
theorem OP_lenC (ok : C.Ok) (fc : FeedCx C) {R : D → C.S → Prop} (r : R (.int fc.ns.length) φ) : OP C φ (fun vs => call (.builtin "len") vs) [.ref fc.cl] R := fun s vs Q E l i x q => by
  obtain _ | ⟨⟨⟩, ⟨⟩⟩ := x
  obtain ⟨_, hl⟩ := fc.In _ _ i
  have hz : fc.vs.length = fc.ns.length := fc.nums.length
  have hs := fc.short
  have e : ((fc.ns.length : Nat) : Int) = fc.vs.toArray.size := by rw [List.size_toArray, hz]
  exact PyProof.Rows.len_list hl (by rw [← e]; omega) (q _ _ _ s.heap _ r (.refl _ _) i (by rw [e]; exact .int _ _))
theorem EV_itemC (ok : C.Ok) (fc : FeedCx C) {e n : Expr} {pos : Pos} {R : D → C.S → Prop}
    (h : EV C ρ φ e fun d φ₁ => d = .ref fc.cl ∧ EV C ρ φ₁ n fun d' φ₂ => ∃ k, d' = .int k ∧ 0 ≤ k ∧ k < fc.ns.length ∧ ∀ x : Int, R (.int x) φ₂)
    (hs : ∀ o i, subscripted n false o i = operate [o, i] (getItem o i) := by intro _ _; rfl) : EV C ρ φ (.Subscript e n pos) R := fun s Q E st i q => by
  refine Subscript_ (h s _ _ st i fun d φ₁ v h₁ tk r a₁ i₁ x => ?_)
  obtain ⟨rfl, r⟩ := r
  cases x
  refine r _ _ _ (st.stay ok a₁ i₁) i₁ fun d' φ₂ v' h₂ tk₂ r₂ a₂ i₂ x₂ => ?_
  obtain ⟨k, rfl, h0, hk, r₂⟩ := r₂
  cases x₂
  obtain ⟨_, hl⟩ := fc.In _ _ i₂
  have hz : fc.vs.length = fc.ns.length := fc.nums.length
  have hs' := fc.short
  obtain ⟨m, t, hv⟩ := nums_at fc.nums k.toNat (by omega)
  exact tail_any hl.typeIs slot_list_getitem.lookup (wpAny_getItem_list hl h0 (by omega) (by simpa using hv) (q _ φ₂ _ h₂ tk₂ (r₂ m) (a₁.trans a₂) i₂ (.int m t))) (hs _ _)
end
end Mine
end
section
open PySem PySem.W PyProof.Rows PySem.Calls
set_option maxRecDepth 100000
namespace Mine
theorem m_tuple_mul (l : Addr) (items : Array Value) (n : Nat) (d : Option Addr) (sl : Array (Option Value)) (x : Int) (u : Tok) (h0 : items.isEmpty = false) (h1 : x ≠ 1) (hp : 0 < x) (hz : items.size * x.toNat ≤ 1000) :
    Meets (Builtin.«tuple.__mul__» ⟨[.ref l, .int x u], []⟩) (fun _ R s => s.heap.get? l = some { cls := .type "tuple", dict := d, data := .seq items n, slots := sl } ∧ R (.ok (.ret (Value.ref s.heap.objs.size))) { s with heap := s.heap.push { cls := Value.type "tuple", data := Data.seq (List.foldl (fun x1 x2 => x1 ++ x2) #[] (List.replicate x.toNat items)) }, toks := s.toks }) :=
  .of_wp fun prog w A R s h => by
    obtain ⟨hp, g, d, tk, os⟩ := s; obtain ⟨hl, h⟩ := h
    have hx : x ≤ 1000 := by
      have : 0 < items.size := by
        rcases Nat.eq_zero_or_pos items.size with e | e
        · rw [Array.isEmpty, e] at h0; cases h0
        · exact e
      have : x.toNat ≤ items.size * x.toNat := Nat.le_mul_of_pos_left _ this
      omega
    have c1 : (decide (x < -2 ^ 63) || decide (x ≥ 2 ^ 63)) = false := by
      rw [decide_eq_false (by omega), decide_eq_false (by omega)]; rfl
    have c2 : (items.isEmpty || x == 1) = false := by rw [h0, beq_eq_false_iff_ne.mpr h1]; rfl
    have c3 : (decide (x ≤ 0) || items.isEmpty) = false := by rw [h0, decide_eq_false (by omega)]; rfl
    have c5 : ((items.size : Int) * x) = ((items.size * x.toNat : Nat) : Int) := by rw [Int.natCast_mul, Int.toNat_of_nonneg (by omega)]
    have c4 : ¬ ((items.size : Int) * x > (2 ^ 63 - 1) / 8) := by rw [c5]; omega
    have c6 : Builtin.Tuple.tupleTooMany ((items.size : Int) * x) = false := by
      rw [c5]; unfold Builtin.Tuple.tupleTooMany; rw [show sizeLine = 16777216 from sizeLine_eq]; exact decide_eq_false (by omega)
    have c7 : (List.foldl (fun x1 x2 => x1 ++ x2) (#[] : Array Value) (List.replicate x.toNat items)).size ≤ sizeLine := by
      rw [AutoSeq1.size_joined, show sizeLine = 16777216 from sizeLine_eq, Nat.mul_comm]; simp; omega
    wp_walk
    rw [if_neg (by rw [c1]; exact Bool.false_ne_true)]
    wp_walk
    rw [if_neg c4]
    wp_walk
    rw [if_neg (by rw [c6]; exact Bool.false_ne_true)]
    wp_walk
    exact ⟨_, rfl, h⟩
theorem m_tuple_mul1 (l : Addr) (items : Array Value) (n : Nat) (d : Option Addr) (sl : Array (Option Value)) (u : Tok) :
    Meets (Builtin.«tuple.__mul__» ⟨[.ref l, .int 1 u], []⟩) (fun _ R s => s.heap.get? l = some { cls := .type "tuple", dict := d, data := .seq items n, slots := sl } ∧ R (.ok (.ret (Value.ref l))) s) :=
  .of_wp fun prog w A R s h => by
    obtain ⟨hp, g, d, tk, os⟩ := s; obtain ⟨hl, h⟩ := h
    have c2 : (items.isEmpty || (1 : Int) == 1) = true := by simp
    wp_walk
    exact ⟨_, rfl, h⟩
theorem m_tuple_mul0 (l : Addr) (items : Array Value) (n : Nat) (d : Option Addr) (sl : Array (Option Value)) (x : Int) (u : Tok) (h0 : items.isEmpty = false) (hp : x ≤ 0) (hz : -1000 ≤ x) :
    Meets (Builtin.«tuple.__mul__» ⟨[.ref l, .int x u], []⟩) (fun _ R s => s.heap.get? l = some { cls := .type "tuple", dict := d, data := .seq items n, slots := sl } ∧ R (.ok (.ret (Value.ref s.heap.objs.size))) { s with heap := s.heap.push { cls := Value.type "tuple", data := Data.seq #[] }, toks := s.toks }) :=
  .of_wp fun prog w A R s h => by
    obtain ⟨hp, g, d, tk, os⟩ := s; obtain ⟨hl, h⟩ := h
    have c1 : (decide (x < -2 ^ 63) || decide (x ≥ 2 ^ 63)) = false := by
      rw [decide_eq_false (by omega), decide_eq_false (by omega)]; rfl
    have c2 : (items.isEmpty || x == 1) = false := by rw [h0, beq_eq_false_iff_ne.mpr (by omega)]; rfl
    have c3 : (decide (x ≤ 0) || items.isEmpty) = true := by rw [decide_eq_true (by omega)]; rfl
    wp_walk
    rw [if_neg (by rw [c1]; exact Bool.false_ne_true)]
    wp_walk
    rw [if_neg (by rw [c2]; exact Bool.false_ne_true)]
    wp_walk
    exact ⟨_, rfl, h⟩
theorem m_int_rmul_tuple (a : Int) (t : Tok) (l : Addr) (items : Array Value) (n : Nat) (d : Option Addr) (sl : Array (Option Value)) :
    Meets (Builtin.«int.__rmul__» ⟨[.int a t, .ref l], []⟩) (fun _ R s => s.heap.get? l = some { cls := .type "tuple", dict := d, data := .seq items n, slots := sl } ∧ R (.ok (.ret Value.notImplemented)) s) :=
  .of_wp fun prog w A R s h => by obtain ⟨hp, g, d, tk, os⟩ := s; obtain ⟨hl, h⟩ := h; wp_walk; exact ⟨_, rfl, h⟩
theorem noFill_tuple_mul : fillsNumberSlot (.type "tuple") "mul" = pure false :=
  PySem.fillsNumberSlot_seq (id := "tuple.__mul__") (r := some (.builtin "tuple.__rmul__")) F.slot_tuple_mul.lookup (by decide +kernel) F.slot_tuple_rmul.lookup (by decide +kernel)
theorem repeat_tuple : seqRepeat? (.type "tuple") = pure (some (.builtin "tuple.__mul__")) := by
  unfold seqRepeat?
  rw [PySem.seqSlot_of (T := "tuple") (name := "__mul__") (id := "tuple.__mul__") F.slot_tuple_mul.lookup (by decide +kernel), PySem.seqSlot_of (T := "tuple") (name := "__rmul__") (id := "tuple.__rmul__") F.slot_tuple_rmul.lookup (by decide +kernel)]
  rfl
theorem foldl_one (v : Value) : ∀ (k : Nat) (acc : Array Value), List.foldl (fun x1 x2 => x1 ++ x2) acc (List.replicate k #[v]) = acc ++ (List.replicate k v).toArray
  | 0, acc => by simp
  | k + 1, acc => by
    rw [List.replicate_succ, List.foldl_cons, foldl_one v k, List.replicate_succ, Array.append_assoc]
    congr 1
    apply Array.toList_inj.mp
    simp
theorem IsAll.replicate {W : Addr → Prop} {h : Heap} {v : Value} {d : D} (x : Is W h v d) : ∀ k : Nat, IsAll W h (List.replicate k v) (List.replicate k d)
  | 0 => .nil
  | k + 1 => .cons x (IsAll.replicate x k)
section
variable {C : Cx} {ρ : List (Str × D)} {φ : C.S}
theorem OP_repL (ok : C.Ok) {d : D} {n : Int} {R : D → C.S → Prop} (h0 : 0 ≤ n) (h1 : n ≤ 100) (r : R (.lst (List.replicate n.toNat d)) φ) : OP C φ (fun vs => binaryOp .Mult (vs.getD 0 .none) (vs.getD 1 .none)) [.lst [d], .int n] R := fun s vs Q E l i x q => by
  obtain _ | ⟨x1, _ | ⟨⟨⟩, ⟨⟩⟩⟩ := x
  rename_i u
  obtain _ | ⟨⟩ := x1
  rename_i a vs ht nt at'
  obtain _ | ⟨xv, ⟨⟩⟩ := at'
  rename_i v
  obtain ⟨⟨cls, dd, data, sl⟩, ho, hcl, k, hd⟩ := id ht
  simp only at hcl hd
  subst hcl hd
  have hk : ∀ b o, s.heap.get? b = some o → (s.heap.push { cls := Value.type "list", data := Data.seq (List.replicate n.toNat v).toArray }).get? b = some o := fun b o e => Heap.get?_push_of_some _ e
  refine wpAny_binaryOp_repeat_ref (T := "list") (U := "int") (by decide) ⟨_, ho, rfl⟩ (fun s' => typeIs_int s' n u) noFill_list_mul F.fills_int_mul F.slot_int_rmul repeat_list F.slot_int_index.lookup
    (call_meets F.slot_int_rmul (typeIs_int s n u) F.entry_int_rmul (F.args_int_rmul_2 _ _) (lm_int_rmul_list_any n u a [v].toArray k dd sl)
      ⟨ho, rfl, ⟨_, ho, rfl⟩, call_meets F.slot_list_mul ⟨_, ho, rfl⟩ F.entry_list_mul (F.args_list_mul_2 _ _)
        (lm_list_mul_any a [v].toArray k dd sl n u (by simp [Builtin.List.listFitsIndex]; omega) (by simp; omega) (by simp [Builtin.List.listTooLong, sizeLine]; omega))
        ⟨ho, ?_⟩⟩)
  rw [show List.foldl (fun x1 x2 => x1 ++ x2) #[] (List.replicate (if ([v].toArray).isEmpty = true then 0 else n.toNat) [v].toArray) = (List.replicate n.toNat v).toArray from by
    have := foldl_one v n.toNat #[]
    simpa using this]
  exact q _ φ _ _ s.toks r (.all hk) (ok.ikeep _ _ _ i fun b o e _ => hk b o e) (.lst ⟨_, Heap.get?_push_size _ rfl, rfl, _, rfl⟩ (l.fresh (get_size _)) (IsAll.replicate (xv.keep (.all hk)) _))
theorem OP_repT (ok : C.Ok) {d : D} {n : Int} {R : D → C.S → Prop} (h0 : 0 ≤ n) (h1 : n ≤ 100) (r : R (.tup (List.replicate n.toNat d)) φ) : OP C φ (fun vs => binaryOp .Mult (vs.getD 0 .none) (vs.getD 1 .none)) [.tup [d], .int n] R := fun s vs Q E l i x q => by
  obtain _ | ⟨x1, _ | ⟨⟨⟩, ⟨⟩⟩⟩ := x
  rename_i u
  obtain _ | ⟨⟩ := x1
  rename_i a vs ht nt at'
  obtain _ | ⟨xv, ⟨⟩⟩ := at'
  rename_i v
  obtain ⟨⟨cls, dd, data, sl⟩, ho, hcl, k, hd⟩ := id ht
  simp only at hcl hd
  subst hcl hd
  refine wpAny_binaryOp_repeat_ref (T := "tuple") (U := "int") (by decide) ⟨_, ho, rfl⟩ (fun s' => typeIs_int s' n u) noFill_tuple_mul F.fills_int_mul F.slot_int_rmul repeat_tuple F.slot_int_index.lookup
    (call_meets F.slot_int_rmul (typeIs_int s n u) F.entry_int_rmul (F.args_int_rmul_2 _ _) (m_int_rmul_tuple n u a [v].toArray k dd sl) ⟨ho, rfl, ⟨_, ho, rfl⟩, ?_⟩)
  by_cases hn1 : n = 1
  · subst hn1
    refine call_meets F.slot_tuple_mul ⟨_, ho, rfl⟩ F.entry_tuple_mul (F.args_tuple_mul_2 _ _) (m_tuple_mul1 a [v].toArray k dd sl u) ⟨ho, ?_⟩
    exact q _ φ _ s.heap s.toks r (.refl _ _) i (.tup ht nt (.cons xv .nil))
  by_cases hn0 : n = 0
  · subst hn0
    have hk : ∀ b o, s.heap.get? b = some o → (s.heap.push { cls := Value.type "tuple", data := Data.seq (#[] : Array Value) }).get? b = some o := fun b o e => Heap.get?_push_of_some _ e
    refine call_meets F.slot_tuple_mul ⟨_, ho, rfl⟩ F.entry_tuple_mul (F.args_tuple_mul_2 _ _) (m_tuple_mul0 a [v].toArray k dd sl 0 u (by simp) (by omega) (by omega)) ⟨ho, ?_⟩
    exact q _ φ _ _ s.toks r (.all hk) (ok.ikeep _ _ _ i fun b o e _ => hk b o e) (.tup (vs := []) ⟨_, Heap.get?_push_size _ rfl, rfl, _, rfl⟩ (l.fresh (get_size _)) .nil)
  · have hk : ∀ b o, s.heap.get? b = some o → (s.heap.push { cls := Value.type "tuple", data := Data.seq (List.replicate n.toNat v).toArray }).get? b = some o := fun b o e => Heap.get?_push_of_some _ e
    refine call_meets F.slot_tuple_mul ⟨_, ho, rfl⟩ F.entry_tuple_mul (F.args_tuple_mul_2 _ _) (m_tuple_mul a [v].toArray k dd sl n u (by simp) hn1 (by omega) (by simp; omega)) ⟨ho, ?_⟩
    rw [show List.foldl (fun x1 x2 => x1 ++ x2) #[] (List.replicate n.toNat [v].toArray) = (List.replicate n.toNat v).toArray from by
      have := foldl_one v n.toNat #[]
      simpa using this]
    exact q _ φ _ _ s.toks r (.all hk) (ok.ikeep _ _ _ i fun b o e _ => hk b o e) (.tup ⟨_, Heap.get?_push_size _ rfl, rfl, _, rfl⟩ (l.fresh (get_size _)) (IsAll.replicate (xv.keep (.all hk)) _))
/-- a sign of a text -/
theorem EV_itemS (ok : C.Ok) {e n : Expr} {pos : Pos} {R : D → C.S → Prop}
    (h : EV C ρ φ e fun d φ₁ => ∃ x, d = .str x ∧ EV C ρ φ₁ n fun d' φ₂ => ∃ k c, d' = .int k ∧ 0 ≤ k ∧ k < 2 ^ 62 ∧ x.cps[k.toNat]? = some c ∧ R (.str ⟨#[c]⟩) φ₂)
    (hs : ∀ o i, subscripted n false o i = operate [o, i] (getItem o i) := by intro _ _; rfl) : EV C ρ φ (.Subscript e n pos) R := fun s Q E st i q => by
  refine Subscript_ (h s _ _ st i fun d φ₁ v h₁ tk r a₁ i₁ x => ?_)
  obtain ⟨y, rfl, r⟩ := r
  cases x
  refine r _ _ _ (st.stay ok a₁ i₁) i₁ fun d' φ₂ v' h₂ tk₂ r₂ a₂ i₂ x₂ => ?_
  obtain ⟨k, c, rfl, h0, hk, hc, r₂⟩ := r₂
  cases x₂
  have hlt : k.toNat < y.cps.size := (Array.getElem?_eq_some_iff.mp hc).1
  refine tail_any (T := "str") (typeIs_str _ _ _) F.slot_str_getitem.lookup (P.getItem_str (c := c) (by rw [decide_eq_false (by omega), decide_eq_false (by omega)]; rfl) ?_ (q _ φ₂ _ h₂ _ r₂ (a₁.trans a₂) i₂ (.str _ _))) (hs _ _)
  unfold seqIndex?
  have hlt' : k.toNat < y.length := hlt
  simp only [show ¬ (k < 0) from by omega, if_false]
  rw [if_pos (by simp only [Bool.and_eq_true, decide_eq_true_eq]; omega)]
  exact hc
end
theorem m_extend (l : Addr) (items : Array Value) (n : Nat) (b : Addr) (items2 : Array Value) (n2 : Nat) (d1 d2 : Option Addr) (sl1 sl2 : Array (Option Value)) (hc0 : ¬(!items.isEmpty && Builtin.List.listTooLong (items.size + items2.size)) = true) (hc1 : items.size ≤ sizeLine) (hs2 : items.size + items2.size ≤ sizeLine + 1) :
    Meets (Builtin.«list.extend» ⟨[.ref l, .ref b], []⟩) (fun _ R s => s.heap.get? l = some { cls := .type "list", dict := d1, data := .seq items n, slots := sl1 } ∧ s.heap.get? b = some { cls := .type "list", dict := d2, data := .seq items2 n2, slots := sl2 } ∧ R (.ok (.ret Value.none)) { s with heap := s.heap.update l (Obj.mapSeq fun x => x ++ items2), toks := s.toks }) :=
  .of_wp fun prog w A R s h => by
    obtain ⟨hp, g, d, tk, os⟩ := s; obtain ⟨hl, hb, h⟩ := h; have f1 := AutoSeq1.idx_int; have f2 := AutoSeq1.sub_tuple_tuple; have f3 := AutoSeq1.sub_list_list; have f4 := AutoSeq1.sub_tuple_list; have f5 := AutoSeq1.sub_list_tuple;
    have hz' : (items ++ items2).size ≤ sizeLine + 1 := by rw [Array.size_append]; exact hs2
    wp_walk using (wpAny_updateSeq hl rfl (hz := hc1) (_hz' := hz')), AutoSeq1.wpAny_loadPart' hl, AutoSeq1.wpAny_loadPart' hb; exact ⟨_, rfl, h⟩
end Mine
end
section
open PySem PySem.W PyProof.Rows PySem.Calls
set_option maxRecDepth 100000
namespace Mine
section
variable {C : Cx} {ρ : List (Str × D)} {φ : C.S}
/-- a part of a list, from the left -/
theorem EV_uptoL (ok : C.Ok) {e u : Expr} {b : Nat} {p pos : Pos} {R : D → C.S → Prop}
    (h : EV C ρ φ e fun d φ₁ => φ₁ = φ ∧ ∃ ds, d = .lst ds ∧ ds.length ≤ sizeLine ∧ PartV C ρ φ (some u) (some (b : Int)) ∧ R (.lst (ds.take b)) φ)
    (hs : ∀ o i, subscripted (.Slice none (some u) none p) false o i = operate [i, o] (getItem o i) := by intro _ _; rfl)
    (hg : ∀ o r, letTemporaryGo e o r = pure () := by intro _ _; rfl) : EV C ρ φ (.Subscript e (.Slice none (some u) none p) pos) R := fun s Q E st i q => by
  refine Subscript_ (h s _ _ st i fun d φ₁ v h₁ tk r a₁ i₁ x => ?_)
  obtain ⟨rfl, ds, rfl, hz, pu, r⟩ := r
  have st₁ := st.stay ok a₁ i₁
  refine wpAny_Slice (part_wp (o := none) (r := none) rfl st₁ i₁ fun vl h₂ tk₂ y₂ a₂ i₂ => part_wp pu (st₁.stay ok a₂ i₂) i₂ fun vu h₃ tk₃ y₃ a₃ i₃ => wpAny_pure ?_)
  have x₃ := x.keep ((a₂.trans a₃).keep ok)
  have st₃ := (st₁.stay ok a₂ i₂).stay ok a₃ i₃
  obtain _ | ⟨⟩ := x₃
  rename_i t vs ht nt at'
  dsimp only
  have hk : ∀ b o, h₃.get? b = some o → (h₃.push { cls := .type "slice", data := .fields #[vl, vu, .none] }).get? b = some o := fun b o e => Heap.get?_push_of_some _ e
  have ht' := isList_keep (W := C.W) (.all hk) ht nt
  have i₄ := ok.ikeep _ _ _ i₃ fun b o e _ => hk b o e
  have l₄ := st₃.toLive.stay ok (.all hk) i₄
  have hk2 : ∀ b' o, (h₃.push { cls := .type "slice", data := .fields #[vl, vu, .none] }).get? b' = some o → ((h₃.push { cls := .type "slice", data := .fields #[vl, vu, .none] }).push { cls := .type "list", data := .seq (vs.take b).toArray }).get? b' = some o := fun b o e => Heap.get?_push_of_some _ e
  refine subscriptTail_ops (T := "list") ht'.typeIs slot_list_getitem.lookup (wpAny_getItem_list_slice ht' (Heap.IsSliceOf.new ..) y₂ y₃ .none (by simp) ?_ (by rw [List.size_toArray, at'.length]; exact hz)) (hs _ _) (hg _)
  rw [slicePick_upto']
  exact q _ φ₁ _ _ tk₃ r ((((a₁.trans a₂).trans a₃).trans (.all hk)).trans (.all hk2)) (ok.ikeep _ _ _ i₄ fun b o e _ => hk2 b o e)
      (.lst ⟨_, Heap.get?_push_size _ rfl, rfl, _, rfl⟩ (l₄.fresh (get_size _)) (((at'.take b).keep (.all hk)).keep (.all hk2)))

/-- list(e): a new list -/
def NEWL (C : Cx) (ρ : List (Str × D)) (φ : C.S) (e : Expr) (R : List D → C.S → Prop) : Prop :=
  ∀ (s : Shared) (Q : Value → Shared → Prop) (E : Value → Shared → Prop), St C ρ s.heap → C.In φ s.heap →
    (∀ ds φ' cl vs h' tk, R ds φ' → C.Stay s.heap h' → C.In φ' h' → s.heap.get? cl = none → h'.IsList cl vs.toArray → IsAll C.W h' vs ds → Q (.ref cl) { s with heap := h', toks := tk }) → wpAny (model C.prog C.w) C.A (eval e C.env) Q E s
theorem NEWL_list (ok : C.Ok) {px pos : Pos} {e : Expr} {R : List D → C.S → Prop} (hkn : C.env.kindOf (Str.ofString "list") = some .globalImplicit)
    (h : EV C ρ φ e fun d φ' => ∃ ds, d = .lst ds ∧ ds.length ≤ sizeLine ∧ R ds φ')
    (hs : starEach [e] C.env = [(false, eval e C.env)] := by rfl)
    (hc : ∀ env, eval (.Call (.Name (Str.ofString "list") px) [e] [] pos) env = (do callWith pos (← eval (.Name (Str.ofString "list") px) env) [] (backTo pos (starEach [e] env)) (backToKw pos (keywordEach [] env))) := by intro _; rfl) :
    NEWL C ρ φ (.Call (.Name (Str.ofString "list") px) [e] [] pos) R := fun s Q E st i q => by
  refine Call_ (wp_blt ok st.toLive hkn n_list b_list (by decide) ?_ rfl) (hc _)
  refine PyProof.Rows.callWith_type1 (wpAny_items_cons (h s _ _ st i fun d φ' v h' tk r a i' xv => wpAny_items_nil ?_) hs) hs rfl
  obtain ⟨ds, rfl, hz, r⟩ := r
  obtain _ | ⟨⟩ := xv
  rename_i a vs hl nl ha
  have st' := st.stay ok ‹_› i'
  obtain ⟨o, ho, hcl, n, hd⟩ := hl
  refine call_list_seq (s := { s with heap := h', toks := tk }) a (.inl rfl) ho hcl hd (fun h₂ c' hk hD => ?_) (by rw [List.size_toArray, ha.length]; exact hz)
  refine q ds φ' _ vs h₂ tk r (Cx.Stay.trans ‹_› (.all hk)) (ok.ikeep _ _ _ i' fun b o e _ => hk b o e) (none_before ok st.toLive ‹_› (get_size _) i') ⟨_, hD, rfl, _, rfl⟩ (ha.keep (.all hk))

/-- the context once the feed is made -/
abbrev Cx.fed (C : Cx) (F cl : Addr) (vs : List Value) : Cx := { C with W := fun a => a = F ∨ a = cl, Mo := fun a => a = F, S := Feed, In := feedIn C.prog C.w F cl vs }
theorem feedIn_keep {prog : Program} {w : World} {F cl : Addr} {vs : List Value} {φ : Feed} {h h' : Heap} (i : feedIn prog w F cl vs φ h) (k : ∀ b o, h.get? b = some o → (b = F ∨ b = cl) → h'.get? b = some o) : feedIn prog w F cl vs φ h' := by
  obtain ⟨⟨t1, t2, t3, o, es, ep, ho, r⟩, ⟨o2, ho2, r2⟩⟩ := i
  exact ⟨⟨t1, t2, t3, o, es, ep, k _ _ ho (.inl rfl), r⟩, ⟨o2, k _ _ ho2 (.inr rfl), r2⟩⟩
theorem fed_ok (ok : C.Ok) {F cl : Addr} {vs : List Value} (bF : C.B.get? F = none) (bc : C.B.get? cl = none) (lF : F ≠ C.env.locals) (lc : cl ≠ C.env.locals) (cF : ∀ n, C.env.cells.lookup n ≠ some F) (cc : ∀ n, C.env.cells.lookup n ≠ some cl) : (C.fed F cl vs).Ok :=
  { base := ok.base, hh := ok.hh, kind := ok.kind, eg := ok.eg, eb := ok.eb, mow := fun a m => .inl m
    wb := fun a o m e => m.elim (fun m => by subst m; rw [bF] at e; cases e) fun m => by subst m; rw [bc] at e; cases e
    locB := ok.locB, celB := ok.celB, locM := fun m => m.elim (fun e => lF e.symm) fun e => lc e.symm
    celM := fun n c h m => m.elim (fun e => cF n (e ▸ h)) fun e => cc n (e ▸ h)
    celL := ok.celL, apart := ok.apart
    ikeep := fun φ h h' i k => feedIn_keep i k
    ilive := fun φ h a i m => by obtain ⟨⟨t1, t2, t3, o, es, ep, ho, r⟩, _⟩ := i; exact ⟨o, m ▸ ho⟩ }
def fedCx (C : Cx) {F cl : Addr} {vs : List Value} {ns : List Int} (hn : IntsAre vs ns) (hz : ns.length ≤ 60) (hm : (F == sysModules) = false) (ne : cl ≠ F) : FeedCx (C.fed F cl vs) where
  F := F
  cl := cl
  vs := vs
  ns := ns
  get := id
  set := fun _ f => f
  gs := fun _ _ => rfl
  ss := fun _ _ _ => rfl
  sg := fun _ => rfl
  In := fun _ _ i => i
  upd := fun _ _ _ _ _ i _ => i
  mo := rfl
  ne := ne
  nums := hn
  short := hz
  nm := hm
theorem intsAre_all {W : Addr → Prop} {h : Heap} : ∀ {vs : List Value} {ns : List Int}, IsAll W h vs (ns.map D.int) → IntsAre vs ns
  | _, [], .nil => .nil
  | _, n :: ns, .cons (.int _ t) r => .cons n t (intsAre_all r)
theorem run_newfeed (ok : C.Ok) (hW : ∀ a, ¬ C.W a) {x : Str} {px pos dp p1 p2 p3 p4 : Pos} {k1 k2 k3 k4 : Nat} {e1 e2 e3 e4 : Expr} {rest : List Stmt} (hk : Storable C x)
    (hL : NEWL C ρ φ e1 fun ds φ₁ => ∃ ns : List Int, ds = ns.map .int ∧ ns.length ≤ 60 ∧ EV C ρ φ₁ e2 fun d φ₂ => d = .int 0 ∧ EV C ρ φ₂ e3 fun d φ₃ => d = .int 0 ∧ EV C ρ φ₃ e4 fun d φ₄ => d = .int (-1))
    {s : Shared} {Q : Flow → Shared → Prop} {E : Value → Shared → Prop} (st : St C ρ s.heap) (i : C.In φ s.heap) (big : sysModules < s.heap.objs.size)
    (k : ∀ F cl vs ns h' tk, IntsAre vs ns → ns.length ≤ 60 → (F == sysModules) = false → cl ≠ F → (C.fed F cl vs).Ok → St (C.fed F cl vs) [(x, .ref F)] h' → feedIn C.prog C.w F cl vs ⟨0, 0, -1⟩ h' → wpAny (model C.prog C.w) C.A (execs rest C.env) Q E { s with heap := h', toks := tk })
    (hs : swapsWith (.Dict [some (.Constant (.str (Str.ofString "cells")) k1 p1), some (.Constant (.str (Str.ofString "place")) k2 p2), some (.Constant (.str (Str.ofString "many")) k3 p3), some (.Constant (.str (Str.ofString "most")) k4 p4)] [e1, e2, e3, e4] dp) (some (.Name x px)) pos.line C.env = pure false := by rfl) :
    wpAny (model C.prog C.w) C.A (execs (.Assign [.Name x px] (.Dict [some (.Constant (.str (Str.ofString "cells")) k1 p1), some (.Constant (.str (Str.ofString "place")) k2 p2), some (.Constant (.str (Str.ofString "many")) k3 p3), some (.Constant (.str (Str.ofString "most")) k4 p4)] [e1, e2, e3, e4] dp) pos :: rest) C.env) Q E s := by
  have hMo : ∀ a, ¬ C.Mo a := fun a m => hW a (ok.mow a m)
  refine wpAny_execs_cons (wpAny_Assign_Name (wpAny_Dict_walk (knd := strKind C.prog C.w) rfl rfl (by simp) (by simp) ?_) hs)
  have hp : ∀ b o, s.heap.get? b = some o → (s.heap.push { cls := .type "dict", data := .dict #[] }).get? b = some o := fun b o e => Heap.get?_push_of_some _ e
  have i0 := ok.ikeep _ _ _ i fun b o e _ => hp b o e
  have st0 := st.stay ok (.all hp) i0
  have dF : (s.heap.push { cls := .type "dict", data := .dict #[] }).DictOf (strKind C.prog C.w) s.heap.objs.size [] := ⟨_, _, _, Heap.get?_push_size _ rfl, ⟨rfl, rfl, rfl⟩, rfl, fun e he => by simp at he, .nil, .nil⟩
  refine pairTrees_cons_walk (wpAny_Constant_str (hL { s with heap := s.heap.push { cls := .type "dict", data := .dict #[] }, toks := s.toks + 1 } _ _ st0 i0 fun ds φ₁ cl vs h₁ tk₁ r₁ a₁ i₁ ec lcl acl => ?_))
  obtain ⟨ns, rfl, hz, r₁⟩ := r₁
  have st₁ := st0.stay ok a₁ i₁
  refine pairTrees_cons_walk (wpAny_Constant_str (r₁ { s with heap := h₁, toks := tk₁ + 1 } _ _ st₁ i₁ fun d φ₂ v₂ h₂ tk₂ r₂ a₂ i₂ x₂ => ?_))
  obtain ⟨rfl, r₂⟩ := r₂
  cases x₂
  have st₂ := st₁.stay ok a₂ i₂
  refine pairTrees_cons_walk (wpAny_Constant_str (r₂ { s with heap := h₂, toks := tk₂ + 1 } _ _ st₂ i₂ fun d φ₃ v₃ h₃ tk₃ r₃ a₃ i₃ x₃ => ?_))
  obtain ⟨rfl, r₃⟩ := r₃
  cases x₃
  have st₃ := st₂.stay ok a₃ i₃
  refine pairTrees_cons_walk (wpAny_Constant_str (r₃ { s with heap := h₃, toks := tk₃ + 1 } _ _ st₃ i₃ fun d φ₄ v₄ h₄ tk₄ r₄ a₄ i₄ x₄ => ?_))
  subst r₄
  cases x₄
  have st₄ := st₃.stay ok a₄ i₄
  refine pairTrees_nil_walk ?_
  have kall : ∀ b o, (s.heap.push { cls := .type "dict", data := .dict #[] }).get? b = some o → h₄.get? b = some o := fun b o e => a₄ b o (a₃ b o (a₂ b o (a₁ b o e (hMo b)) (hMo b)) (hMo b)) (hMo b)
  have kcl : ∀ b o, h₁.get? b = some o → h₄.get? b = some o := fun b o e => a₄ b o (a₃ b o (a₂ b o e (hMo b)) (hMo b)) (hMo b)
  refine ⟨[(Str.ofString "cells", .ref cl), (Str.ofString "place", .int 0 _), (Str.ofString "many", .int 0 _), (Str.ofString "most", .int (-1) _)], ⟨strKind_is _ _ _ _, rfl, strKind_is _ _ _ _, rfl, strKind_is _ _ _ _, rfl, strKind_is _ _ _ _, rfl, trivial⟩, dF.keep kall, fun h₅ d₅ k₅ => ?_⟩
  have ncl : cl ≠ s.heap.objs.size := fun e => by rw [e, Heap.get?_push_size _ rfl] at ec; cases ec
  have stay5 : ∀ b o, b ≠ s.heap.objs.size → h₄.get? b = some o → h₅.get? b = some o := fun b o hb e => k₅.extBut b o hb e
  have fi : feedIn C.prog C.w s.heap.objs.size cl vs ⟨0, 0, -1⟩ h₅ := ⟨⟨_, _, _, d₅⟩, by
    obtain ⟨o, e, r⟩ := lcl
    exact ⟨o, stay5 _ _ ncl (kcl _ _ e), r⟩⟩
  have up0 : ∀ {a : Addr}, (s.heap.push { cls := .type "dict", data := .dict #[] }).get? a = none → s.heap.get? a = none := fun {a} e => by
    cases q : s.heap.get? a with
    | none => rfl
    | some o => rw [hp _ _ q] at e; cases e
  have n1 := get_size s.heap
  have n2 := up0 ec
  have oF := off_of ok st n1
  have oc := off_of ok st n2
  have ok' : (C.fed s.heap.objs.size cl vs).Ok := fed_ok ok oF.b oc.b oF.l oc.l oF.c oc.c
  have st5 : St (C.fed s.heap.objs.size cl vs) [] h₅ := {
    toLive := ⟨fun b o e => stay5 b o (fun eb => by rw [eb, show C.B.get? _ = none from oF.b] at e; cases e) (st₄.base b o e), fun a m => by
      rcases m with rfl | rfl
      · obtain ⟨⟨t1, t2, t3, o, es, ep, ho, r⟩, _⟩ := fi; exact ⟨o, ho⟩
      · obtain ⟨_, o, ho, _⟩ := fi; exact ⟨o, ho⟩⟩
    loc := by
      obtain ⟨m, ⟨o, es, ep, e, r⟩, _⟩ := st₄.loc
      exact ⟨m, ⟨o, es, ep, stay5 _ _ (Ne.symm oF.l) e, r⟩, fun x d h => by cases h⟩
    cel := fun x d h => by cases h
    cex := fun y c hc => by
      obtain ⟨v, o, e, hd⟩ := st₄.cex y c hc
      exact ⟨v, o, stay5 _ _ (fun eb => oF.c y (eb ▸ hc)) e, hd⟩ }
  refine store_wp (C := C.fed s.heap.objs.size cl vs) (s := { s with heap := h₅, toks := _ }) ok' st5 fi hk (.ref _) fun h₆ tk₆ k₆ st₆ i₆ => ?_
  exact k _ cl vs ns h₆ tk₆ (intsAre_all acl) hz (beq_eq_false_iff_ne.mpr (Nat.ne_of_gt big)) ncl ok' st₆ i₆
end
end Mine
end
section
open PySem PySem.W PyProof.Rows PySem.Calls
set_option maxRecDepth 100000
namespace Mine
def XL (h : Heap) (d : Addr) (ys : Array Value) : Prop := ∃ o, h.get? d = some o ∧ o.cls = .type "list" ∧ o.dict = none ∧ ∃ n, o.data = .seq ys n
theorem XL.list {h : Heap} {d : Addr} {ys : Array Value} (x : XL h d ys) : h.IsList d ys := let ⟨o, e, c, _, n, hd⟩ := x; ⟨o, e, c, n, hd⟩
/-- a list that a loop of statements makes longer -/
structure GS (C : Cx) (d : Addr) (h0 : Heap) (ρ : List (Str × D)) (φ : C.S) (outs : List D) (h : Heap) : Prop where
  st : St C ρ h
  i : C.In φ h
  acc : ∃ ys, XL h d ys.toArray ∧ IsAll C.W h ys outs
  stay : ∀ b o, h0.get? b = some o → ¬ C.Mo b → b ≠ C.env.locals → (∀ z, C.env.cells.lookup z ≠ some b) → b ≠ d → h.get? b = some o
section
variable {C : Cx} {ρ : List (Str × D)} {φ : C.S}
theorem growLoop (ok : C.Ok) {d I : Addr} (ad : AccOk C d) {ds outs : List D} {x : Str} {px : Pos} {body : (Shared → Prop) → Shared → Prop} {code : Code} {R : Result → Shared → Prop} {N : Value → Shared → Prop} (hx : Storable C x)
    (lr : LoopRule C (.ref I) (.Name x px) body code R N) {s : Shared} {h0 : Heap} (wk : WalkOf C s.heap ds I) (e0 : h0.get? I = none) (off : Off C s.heap I) (Inv : Nat → List D → C.S → Prop)
    (a : GS C d h0 ρ φ outs s.heap) (inv0 : Inv 0 outs φ) (hρ : ∀ y e, ρ.lookup y = some e → y ≠ x)
    (step : ∀ k e outs φ (s : Shared) h1 (Q : Shared → Prop), ds[k]? = some e → Inv k outs φ → GS C d h1 ((x, e) :: ρ) φ outs s.heap →
      (∀ outs' φ' h' tk, Inv (k + 1) outs' φ' → GS C d h1 ρ φ' outs' h' → Q { s with heap := h', toks := tk }) → body Q s)
    (done : ∀ outs φ h' tk, Inv ds.length outs φ → GS C d h0 ρ φ outs h' → R (.ok .next) { s with heap := h', toks := tk }) : codeAny (model C.prog C.w) C.A code R s := by
  obtain ⟨fp, P, Sx, W, s0, hS, hfp, hI, hP⟩ := wk
  have hxρ : ∀ d', ∀ y e, ρ.lookup y = some e → ((x, d') :: ρ).lookup y = some e := fun d' y e hy => by
    rw [lookup_cons, if_neg (fun eq => hρ y e hy eq)]; exact hy
  have offI : ∀ hh, Off C hh I := fun _ => ⟨off.w, off.l, off.c, off.b⟩
  refine lr (fun n s' => ∃ h' tk' k outs φ', s' = { s with heap := h', toks := tk' } ∧ k ≤ ds.length ∧ n = ds.length + 1 - k ∧ GS C d h0 ρ φ' outs h' ∧ Sx k h' ∧
      (∀ b ∈ fp, b ≠ I → ∃ o, h'.get? b = some o ∧ (∃ xs n, o.data = .seq xs n) ∧ ¬ C.W b) ∧ (∀ j v, P j v → j < ds.length → ∃ d, ds[j]? = some d ∧ Is C.W h' v d) ∧ Inv k outs φ') ?_ (ds.length + 1) s
    ⟨s.heap, s.toks, 0, outs, φ, rfl, Nat.zero_le _, rfl, a, s0, hfp, fun j v p l => let ⟨d, hd, hi⟩ := hP j v p l; ⟨d, hd, hi _ (.all fun _ _ e => e)⟩, inv0⟩
  rintro n s' ⟨h₃, tk₃, k, outs, φ', rfl, hk, rfl, a₃, sx, f₃, p₃, inv⟩
  have iNoI : ∀ {b : Addr} {o : Obj}, h0.get? b = some o → b ≠ I := fun {b o} e eb => by rw [eb, e0] at e; cases e
  by_cases hlt : k < ds.length
  · have hd : ds[k]? = some ds[k] := List.getElem?_eq_getElem hlt
    refine W.item k _ _ _ hlt sx fun v h₄ tk₄ pv s₄ k₄ => ?_
    obtain ⟨st₄, i₄, kw₄⟩ := St.iter ok a₃.st a₃.i (offI _) (hS _ _ sx).noseq k₄
    obtain ⟨d', hd', hi⟩ := p₃ k v pv hlt
    rw [hd] at hd'; cases hd'
    refine wpAny_assign_Name (store_wp ok st₄ i₄ hx (hi.keep kw₄) fun h₅ tk₅ k₅ st₅ i₅ => ?_)
    have kw₅ : Keep C.W h₄ h₅ := StayO.keepW ok st₄ k₅
    have a₅ : GS C d h₅ ((x, ds[k]) :: ρ) φ' outs h₅ := ⟨st₅, i₅, by
      obtain ⟨ys, ⟨o, e, r⟩, ya⟩ := a₃.acc
      exact ⟨ys, ⟨o, k₅ _ o (k₄ _ o (by simpa using (show d ≠ I from fun e => off.w (e ▸ ad.w))) e) ad.m ad.l ad.c, r⟩, (ya.keep kw₄).keep kw₅⟩, fun b o e _ _ _ _ => e⟩
    refine step k ds[k] outs φ' _ h₅ _ hd inv a₅ fun outs' φ₂ h₇ tk₇ inv' a₇ => ?_
    have kall : ∀ b o, h₃.get? b = some o → (∃ xs n, o.data = .seq xs n) → ¬ C.W b → h₇.get? b = some o := fun b o e sq nw => by
      have e5 := kw₅ b o (kw₄ b o e sq nw) sq nw
      exact a₇.stay b o e5 (fun m => nw (ok.mow _ m)) (fun eb => by
        obtain ⟨m, ⟨o', es, ep, e', hd', _⟩, _⟩ := st₅.loc
        rw [← eb, e5] at e'; cases e'; obtain ⟨xs, n, sq⟩ := sq; rw [hd'] at sq; cases sq) (fun z hz => by
        obtain ⟨u, o', e', hd'⟩ := st₅.cex z b hz
        rw [e5] at e'; cases e'; obtain ⟨xs, n, sq⟩ := sq; rw [hd'] at sq; cases sq) fun eb => nw (eb ▸ ad.w)
    have kfp : ∀ b ∈ fp, ∀ o, h₄.get? b = some o → h₇.get? b = some o := fun b hb o e => by
      by_cases hbI : b = I
      · subst hbI
        exact a₇.stay _ o (k₅ _ o e (fun m => off.w (ok.mow _ m)) off.l off.c) (fun m => off.w (ok.mow _ m)) off.l off.c fun eb => off.w (eb ▸ ad.w)
      · obtain ⟨o', e', sq, hw⟩ := f₃ b hb hbI
        have e4 := k₄ b o' (by simpa using hbI) e'
        rw [e] at e4; cases e4
        exact kall b o e' sq hw
    refine ⟨ds.length + 1 - (k + 1), by omega, h₇, tk₇, k + 1, outs', φ₂, rfl, hlt, rfl, ⟨a₇.st, a₇.i, a₇.acc, fun b o e m l c n => ?_⟩, W.frame _ _ _ s₄ kfp, fun b hb hn => ?_, fun j u hu hl => ?_, inv'⟩
    · exact a₇.stay b o (k₅ b o (k₄ b o (by simpa using iNoI e) (a₃.stay b o e m l c n)) m l c) m l c n
    · obtain ⟨o, e, sq, hw⟩ := f₃ b hb hn
      exact ⟨o, kall b o e sq hw, sq, hw⟩
    · obtain ⟨d', hd', hi'⟩ := p₃ j u hu hl
      exact ⟨d', hd', hi'.keep kall⟩
  · have hk' : k = ds.length := by omega
    subst hk'
    refine W.done _ _ _ sx fun h₄ tk₄ k₄ => ?_
    obtain ⟨st₄, i₄, kw₄⟩ := St.iter ok a₃.st a₃.i (offI _) (hS _ _ sx).noseq k₄
    refine done outs φ' h₄ tk₄ inv ⟨st₄, i₄, ?_, fun b o e m l c n => k₄ b o (by simpa using iNoI e) (a₃.stay b o e m l c n)⟩
    obtain ⟨ys, ⟨o, e, r⟩, ya⟩ := a₃.acc
    exact ⟨ys, ⟨o, k₄ _ o (by simpa using (show d ≠ I from fun e => off.w (e ▸ ad.w))) e, r⟩, ya.keep kw₄⟩


def bodyB (C : Cx) (body : List Stmt) (N : Value → Shared → Prop) (Q : Shared → Prop) (s : Shared) : Prop :=
  wpAny (model C.prog C.w) C.A (execs body C.env) (fun f s₃ => match f with | .next => Q s₃ | _ => False) N s
theorem lr_for {x : Str} {px : Pos} {it : Value} {body : List Stmt} {R : Result → Shared → Prop} :
    LoopRule C it (.Name x px) (bodyB C body (notedBy (model C.prog C.w) C.A C.env fun e s' => R (.error e) s')) (.forLoop (.Name x px) it body [] C.env) R
      (notedBy (model C.prog C.w) C.A C.env fun e s' => R (.error e) s') := fun J turn n s hJ => by
  refine codeAny_forLoop_any J (fun n s hI => wpAny_mono (turn n s hI) (fun r s₁ h₁ => ?_) fun _ _ e => e) n hJ
  cases r with
  | none => exact wpAny_execs_nil h₁
  | some v =>
    refine wpAny_of_eq (show letOwnedTupleGo (.Name x px) it v = pure () from rfl) ?_
    refine wpAny_mono h₁ (fun _ s₂ h₂ => wpAny_mono h₂ (fun f s₃ h₃ => ?_) fun _ _ e => e) fun _ _ e => e
    cases f <;> first | exact h₃ | exact h₃.elim
/-- d.extend(arg), as a statement -/
theorem extend_wp (ok : C.Ok) {d : Addr} (ad : AccOk C d) {x : Str} {px ap cp ep : Pos} {arg : Expr} {s : Shared} {h1 : Heap} {outs : List D} {ρ' : List (Str × D)} {N : Value → Shared → Prop} {Q : Shared → Prop} (a : GS C d h1 ρ φ outs s.heap)
    (hx : ρ.lookup x = some (.ref d)) (hk : (C.env.kindOf x = some .local ∨ C.env.kindOf x = some .cell ∨ C.env.kindOf x = some .free)) (hd1 : (x == ("__debug__" : Str)) = false) (hd2 : (x == ("__classdict__" : Str)) = false)
    (less : ∀ x e, ρ'.lookup x = some e → ρ.lookup x = some e)
    (h : EV C ρ φ arg fun y φ' => ∃ es, y = .lst es ∧ outs.length + es.length ≤ 1000000 ∧ ∀ h' tk, GS C d h1 ρ' φ' (outs ++ es) h' → Q { s with heap := h', toks := tk })
    {pl : Sem Bool}
    (hc : eval (((Expr.Name x px).Attribute (Str.ofString "extend") ap).Call [arg] [] cp) C.env = (do
          let ov ← eval (.Name x px) C.env
          standAt ap.atName
          let __x ← holding [ov] (getMethod ov (Str.ofString "extend") pl)
          match __x with
            | (f, first) => callWith cp f first (backTo cp (starEach [arg] C.env)) []))
    (hs : starEach [arg] C.env = [(false, eval arg C.env)]) (ha : ∀ pos, ((backTo pos (starEach ([] : List Expr) C.env)).any fun x => x.1) = false)
    (hi : interactive C.env = false) (hsw : swapsWith (((Expr.Name x px).Attribute (Str.ofString "extend") ap).Call [arg] [] cp) none ep.line C.env = pure false) :
    bodyB C [.Expr (.Call (.Attribute (.Name x px) (Str.ofString "extend") ap) [arg] [] cp) ep] N Q s := by
  refine wpAny_execs_cons (wpAny_Expr (MethodCall_ (EV_name ok (R := fun d' φ' => d' = .ref d ∧ φ' = φ) hx hk ⟨rfl, rfl⟩ hd1 hd2 s _ _ a.st a.i fun d' φ' v h₂ tk₂ r₂ a₂ i₂ x₂ => ?_) hc) hi hsw)
  obtain ⟨rfl, rfl⟩ := r₂
  cases x₂
  have kw₂ : Keep C.W s.heap h₂ := Cx.Stay.keep ok a₂
  have st₂ := a.st.stay ok a₂ i₂
  obtain ⟨ys, ⟨⟨cls, dd, data, sl⟩, e, hcl, hdd, n, hd⟩, ya⟩ := a.acc
  simp only at hcl hd hdd
  subst hcl hd hdd
  have e₂ := a₂ _ _ e ad.m
  have l₂ : h₂.IsList d ys.toArray := ⟨_, e₂, rfl, n, rfl⟩
  refine getMethod_builtin (s := { s with heap := h₂, toks := tk₂ }) (T := "list") l₂.typeIs PySem.F.plainAttrs_list PySem.F.slot_list_extend PySem.F.type_list_extend (fun a' ea => ?_) ?_
  · cases ea; exact ⟨_, e₂, rfl⟩
  refine callWith_method1 (wpAny_items_cons (h { s with heap := h₂, toks := tk₂ } _ _ st₂ i₂ fun y φ₃ v₃ h₃ tk₃ r₃ a₃ i₃ x₃ => wpAny_items_nil ?_) hs) hs (ha _)
  obtain ⟨es, rfl, hz, r₃⟩ := r₃
  obtain _ | ⟨⟩ := x₃
  rename_i b us hl nl ua
  have e₃ := a₃ _ _ e₂ ad.m
  have kw₃ : Keep C.W h₂ h₃ := Cx.Stay.keep ok a₃
  have st₃ := st₂.stay ok a₃ i₃
  have yz := ya.length
  have uz := ua.length
  have hsl := line_eq
  obtain ⟨⟨cls2, dd2, data2, sl2⟩, e4, hcl2, n2, hd2⟩ := hl
  simp only at hcl2 hd2
  subst hcl2 hd2
  refine call_meets (s := { s with heap := h₃, toks := tk₃ }) PySem.F.slot_list_extend ⟨_, e₃, rfl⟩ PySem.F.entry_list_extend (PySem.F.args_list_extend_2 _ _) (m_extend d ys.toArray n b us.toArray n2 none dd2 sl sl2 (by simp [Builtin.List.listTooLong]; omega) (by simp; omega) (by simp; omega)) ⟨e₃, e4, ?_⟩
  have hf : (Obj.mapSeq (fun x => x ++ us.toArray) { cls := Value.type "list", dict := none, data := Data.seq ys.toArray n, slots := sl : Obj }).isFreed = false := rfl
  obtain ⟨n', hd'⟩ := Obj.data_mapSeq (o := { cls := Value.type "list", dict := none, data := Data.seq ys.toArray n, slots := sl }) rfl (fun x => x ++ us.toArray)
  have k₅ : Heap.SameBut d h₃ (h₃.update d (Obj.mapSeq fun x => x ++ us.toArray)) := Heap.SameBut.update ..
  have e₅ := Heap.get?_update_self (Obj.mapSeq fun x => x ++ us.toArray) e₃ hf
  obtain ⟨st₅, i₅, kw₅⟩ := St.acc ok st₃ i₃ ad.w ad.m ad.l ad.c ad.b ad.hin k₅ ⟨_, e₅⟩
  refine wpAny_execs_nil (r₃ _ tk₃ ⟨st₅.less less, i₅, ⟨ys ++ us, ⟨_, e₅, rfl, rfl, n', by rw [hd', List.append_toArray]⟩, (((ya.keep kw₂).keep kw₃).keep kw₅).append (ua.keep kw₅)⟩, fun b o e m l c nn => k₅.extBut b o nn (a₃ b o (a₂ b o (a.stay b o e m l c nn) m) m)⟩)
end
end Mine
end
section
open PySem PySem.W PyProof.Rows PySem.Calls
set_option maxRecDepth 100000
namespace Mine
abbrev Cx.acc (C : Cx) (bl : Addr) : Cx := { C with W := fun a => C.W a ∨ a = bl }
section
variable {C : Cx} {ρ : List (Str × D)} {φ : C.S}
theorem acc_ok (ok : C.Ok) {bl : Addr} (hb : C.B.get? bl = none) (hl : bl ≠ C.env.locals) (hc : ∀ n, C.env.cells.lookup n ≠ some bl) : (C.acc bl).Ok :=
  { base := ok.base, hh := ok.hh, kind := ok.kind, eg := ok.eg, eb := ok.eb, mow := fun a m => .inl (ok.mow a m)
    wb := fun a o m e => m.elim (fun m => ok.wb a o m e) fun m => by subst m; rw [hb] at e; cases e
    locB := ok.locB, celB := ok.celB, locM := fun m => m.elim ok.locM fun e => hl e.symm
    celM := fun n c h m => m.elim (ok.celM n c h) fun e => hc n (e ▸ h)
    celL := ok.celL, apart := ok.apart
    ikeep := fun φ h h' i k => ok.ikeep φ h h' i fun b o e m => k b o e (.inl m), ilive := ok.ilive }
def FeedCx.acc {C : Cx} (fc : FeedCx C) (bl : Addr) : FeedCx (C.acc bl) := { fc with }
theorem room_acc {C : Cx} {bl : Addr} {k : Nat} (h : Room C k) : Room (C.acc bl) k := h

set_option maxHeartbeats 1000000 in
theorem EX_grow (ok : C.Ok) {x k : Str} {elts : List Expr} {iter arg : Expr} {px px' lp pos pk ap cp ep fp : Pos} {rest : List Stmt} {R : Out C.S → Prop}
    (hx : Storable C x) (hk : Storable C k) (hxk : k ≠ x) (hρx : ρ.lookup x = none) (hρk : ρ.lookup k = none)
    (hn : (C.env.kindOf x = some .local ∨ C.env.kindOf x = some .cell ∨ C.env.kindOf x = some .free))
    (h : EVs C ρ φ elts fun ds φ₁ => ds.length ≤ 1000000 ∧ ∀ bl, (C.acc bl).Ok → SRC (C.acc bl) ((x, .ref bl) :: ρ) φ₁ iter fun ks φ₂ => ∃ Inv : Nat → List D → C.S → Prop, Inv 0 ds φ₂ ∧
      (∀ j kd outs φ', ks[j]? = some kd → Inv j outs φ' → EV (C.acc bl) ((k, kd) :: (x, .ref bl) :: ρ) φ' arg fun d φ'' => ∃ es, d = .lst es ∧ outs.length + es.length ≤ 1000000 ∧ Inv (j + 1) (outs ++ es) φ'') ∧
      (∀ outs φ', Inv ks.length outs φ' → EX C ((x, .lst outs) :: ρ) φ' rest R))
    {pl : Env → Sem Bool}
    (hc : ∀ env, eval (((Expr.Name x px').Attribute (Str.ofString "extend") ap).Call [arg] [] cp) env = (do
          let ov ← eval (.Name x px') env
          standAt ap.atName
          let __x ← holding [ov] (getMethod ov (Str.ofString "extend") (pl env))
          match __x with
            | (f, first) => callWith cp f first (backTo cp (starEach [arg] env)) []) := by intro _; rfl)
    (hd1 : (x == ("__debug__" : Str)) = false := by rfl) (hd2 : (x == ("__classdict__" : Str)) = false := by rfl)
    (hs : starEach [arg] C.env = [(false, eval arg C.env)] := by rfl) (ha : ∀ pos, ((backTo pos (starEach ([] : List Expr) C.env)).any fun x => x.1) = false := by intro _; rfl)
    (hi : interactive C.env = false := by rfl) (hsw : swapsWith (((Expr.Name x px').Attribute (Str.ofString "extend") ap).Call [arg] [] cp) none ep.line C.env = pure false := by rfl)
    (hs1 : ∀ env, swapsWith (.List elts lp) (some (.Name x px)) pos.line env = pure false := by intro _; rfl) (hs2 : ∀ env x, foldedSetIterable iter env x = pure x := by intro _ _; rfl) :
    EX C ρ φ (.Assign [.Name x px] (.List elts lp) pos :: .For (.Name k pk) iter [.Expr (.Call (.Attribute (.Name x px') (Str.ofString "extend") ap) [arg] [] cp) ep] [] fp :: rest) R := fun s Q E st i q1 q2 => by
  have hsl := line_eq
  refine wpAny_execs_cons (wpAny_Assign_Name (List_ (h s _ _ _ st i fun ds φ₁ vs h₁ tk ⟨hz, r⟩ a₁ i₁ v₁ => wpAny_newObj_type ?_ (by show vs.toArray.size ≤ sizeLine; rw [List.size_toArray, v₁.length]; omega))) (hs1 _))
  dsimp only
  have hp : ∀ b o, h₁.get? b = some o → (h₁.push { cls := .type "list", data := .seq vs.toArray }).get? b = some o := fun b o e => Heap.get?_push_of_some _ e
  generalize hbl : h₁.objs.size = bl
  have n1 : h₁.get? bl = none := hbl ▸ get_size h₁
  have x2 : XL (h₁.push { cls := .type "list", data := .seq vs.toArray }) bl vs.toArray := ⟨_, hbl ▸ Heap.get?_push_size _ rfl, rfl, rfl, _, rfl⟩
  generalize (h₁.push { cls := .type "list", data := .seq vs.toArray } : Heap) = h₂ at hp x2
  have st₁ := st.stay ok a₁ i₁
  have off := off_of ok st₁ n1
  have n0 : s.heap.get? bl = none := none_before ok st.toLive a₁ n1 i₁
  have ok' : (C.acc bl).Ok := acc_ok ok off.b off.l off.c
  have ad : AccOk (C.acc bl) bl := ⟨.inr rfl, fun m => off.w (ok.mow _ m), off.l, off.c, off.b, fun h h' φ i k => ok.ikeep φ h h' i fun b o e m => k b o (fun eb => off.w (eb ▸ m)) e⟩
  have wid : ∀ {v : Value} {e : D}, Is C.W h₁ v e → Is (C.acc bl).W h₂ v e := fun i => (i.widen (W' := (C.acc bl).W) fun a m => m.imp id fun e => e ▸ n1).keep (.all hp)
  have widA : ∀ {v : List Value} {e : List D}, IsAll C.W h₁ v e → IsAll (C.acc bl).W h₂ v e := fun i => (i.widen (W' := (C.acc bl).W) fun a m => m.imp id fun e => e ▸ n1).keep (.all hp)
  have i₂ : C.In φ₁ h₂ := ok.ikeep _ _ _ i₁ fun b o e _ => hp b o e
  have st₂ : St (C.acc bl) ρ h₂ := {
    toLive := ⟨fun b o e => hp b o (st₁.base b o e), fun a m => by
      rcases m with m | rfl
      · obtain ⟨o, ho⟩ := st₁.alive a m; exact ⟨o, hp _ _ ho⟩
      · obtain ⟨o, ho, _⟩ := x2; exact ⟨o, ho⟩⟩
    loc := by
      obtain ⟨m, ⟨o, es, ep, e, r⟩, hm⟩ := st₁.loc
      exact ⟨m, ⟨o, es, ep, hp _ _ e, r⟩, fun y d hy hk => let ⟨v, hv, hi⟩ := hm y d hy hk; ⟨v, hv, wid hi⟩⟩
    cel := fun y d hy hk => let ⟨c, v, hc, ⟨o, ho, hd⟩, hi⟩ := st₁.cel y d hy hk; ⟨c, v, hc, ⟨o, hp _ _ ho, hd⟩, wid hi⟩
    cex := fun y c hc => let ⟨v, o, ho, hd⟩ := st₁.cex y c hc; ⟨v, o, hp _ _ ho, hd⟩ }
  refine store_wp (C := C.acc bl) (s := { s with heap := h₂, toks := tk }) ok' st₂ i₂ hx (.ref bl) fun h₃ tk₃ k₃ st₃ i₃ => ?_
  have kw₃ : Keep (C.acc bl).W h₂ h₃ := StayO.keepW (C := C.acc bl) ok' st₂ k₃
  have x3 : XL h₃ bl vs.toArray := by
    obtain ⟨o, e, r⟩ := x2
    exact ⟨o, k₃ _ _ e ad.m ad.l ad.c, r⟩
  refine wpAny_execs_cons (wpAny_For (r bl ok' { s with heap := h₃, toks := tk₃ } _ _ st₃ i₃ fun ks φ₂ I h₄ tk₄ ⟨Inv, inv0, step, fin⟩ a₄ i₄ eI w₄ => ?_) (hs2 _))
  have offI := off_of (C := C.acc bl) ok' st₃ eI
  have st₄ := St.stay (C := C.acc bl) ok' st₃ a₄ i₄
  have kw₄ : Keep (C.acc bl).W h₃ h₄ := Cx.Stay.keep (C := C.acc bl) ok' a₄
  have g₄ : GS (C.acc bl) bl h₃ ((x, .ref bl) :: ρ) φ₂ ds h₄ := ⟨st₄, i₄, ⟨vs, by
    obtain ⟨o, e, r⟩ := x3
    exact ⟨o, a₄ _ _ e ad.m, r⟩, ((widA v₁).keep kw₃).keep kw₄⟩, fun b o e m _ _ _ => a₄ b o e m⟩
  refine growLoop (C := C.acc bl) (s := { s with heap := h₄, toks := tk₄ }) (h0 := h₃) ok' ad hk lr_for w₄ eI ⟨offI.w, offI.l, offI.c, offI.b⟩ Inv g₄ inv0 (fun y e hy eq => ?_) (fun j kd outs φ' s' h1 Q' hd inv g q' => ?_) fun outs φ' h' tk' inv g => ?_
  · subst eq
    rw [lookup_cons, if_neg hxk, hρk] at hy; cases hy
  · refine extend_wp (C := C.acc bl) ok' ad g (by rw [lookup_cons, if_neg (Ne.symm hxk), lookup_cons, if_pos rfl]) hn hd1 hd2 (fun y e hy => ?_) ((step j kd outs φ' hd inv).mono fun d φ'' ⟨es, e1, e2, e3⟩ => ⟨es, e1, e2, fun h' tk' g' => q' _ _ h' tk' e3 g'⟩) (hc _) hs ha hi hsw
    rw [lookup_cons, if_neg]
    · exact hy
    · intro eq; subst eq
      rw [lookup_cons, if_neg hxk, hρk] at hy; cases hy
  · obtain ⟨ys, x5, ya⟩ := g.acc
    have nar : ∀ {v : Value} {e : D}, Is (C.acc bl).W h' v e → Is C.W h' v e := fun i => i.narrow fun a m => .inl m
    have yl : Is C.W h' (.ref bl) (.lst outs) := .lst x5.list off.w (ya.narrow fun a m => .inl m)
    have conv : ∀ {y : Str} {d : D} {P : Value → Prop}, ((x, D.lst outs) :: ρ).lookup y = some d → (∀ d', ((x, D.ref bl) :: ρ).lookup y = some d' → ∃ v, P v ∧ Is (C.acc bl).W h' v d') → ∃ v, P v ∧ Is C.W h' v d := fun {y d P} hy hv => by
      rw [lookup_cons] at hy
      by_cases e : y = x
      · rw [if_pos e] at hy
        obtain ⟨v, hp, hi⟩ := hv (.ref bl) (by rw [lookup_cons, if_pos e])
        cases hy; cases hi
        exact ⟨_, hp, yl⟩
      · rw [if_neg e] at hy
        obtain ⟨v, hp, hi⟩ := hv d (by rw [lookup_cons, if_neg e]; exact hy)
        exact ⟨v, hp, nar hi⟩
    have st' : St C ((x, .lst outs) :: ρ) h' := {
      toLive := ⟨g.st.base, fun a m => g.st.alive a (.inl m)⟩
      loc := by
        obtain ⟨m, hm, hr⟩ := g.st.loc
        exact ⟨m, hm, fun y d hy hk => conv (P := fun v => m y = some v) hy fun d' hd' => hr y d' hd' hk⟩
      cel := fun y d hy hk => by
        obtain ⟨v, ⟨c, h1, h2⟩, h3⟩ := conv (P := fun v => ∃ c, C.env.cells.lookup y = some c ∧ h'.IsCell c (some v)) hy fun d' hd' => by
          obtain ⟨c, v, h1, h2, h3⟩ := g.st.cel y d' hd' hk
          exact ⟨v, ⟨c, h1, h2⟩, h3⟩
        exact ⟨c, v, h1, h2, h3⟩
      cex := g.st.cex }
    have nbl : ∀ {b : Addr} {o : Obj}, s.heap.get? b = some o → b ≠ bl := fun {b o} e eb => by rw [eb, n0] at e; cases e
    have so : C.StayO s.heap h' := fun b o e m l c => g.stay b o (k₃ b o (hp b o (a₁ b o e m)) m l c) m l c (nbl e)
    exact fin outs φ' inv { s with heap := h', toks := tk' } Q E st' g.i (fun ρ' φ'' h'' tk'' r'' k'' st'' i'' => q1 ρ' φ'' h'' tk'' r'' (so.trans k'') st'' i'') fun d φ'' v h'' tk'' r'' k'' l'' i'' xx => q2 d φ'' v h'' tk'' r'' (so.trans k'') l'' i'' xx
end
end Mine
end
section
open PySem PySem.W PyProof.Rows PySem.Calls
set_option maxRecDepth 100000
namespace Mine
/-- evaluation that changes nothing: the datum alone -/
def EVP (C : Cx) (ρ : List (Str × D)) (φ : C.S) (e : Expr) (d : D) : Prop := ∀ R : D → C.S → Prop, R d φ → EV C ρ φ e R
def EVsP (C : Cx) (ρ : List (Str × D)) (φ : C.S) (es : List Expr) (ds : List D) : Prop := ∀ R : List D → C.S → Prop, R ds φ → EVs C ρ φ es R
def TRP (C : Cx) (ρ : List (Str × D)) (φ : C.S) (e : Expr) (b : Bool) : Prop := ∀ R : Bool → C.S → Prop, R b φ → TR C ρ φ e R
def ATP (C : Cx) (ρ : List (Str × D)) (φ : C.S) (op : BoolOp) (es : List Expr) (b : Bool) : Prop := ∀ R : Bool → C.S → Prop, R b φ → ALLT C ρ φ op es R
def EXR (C : Cx) (ρ : List (Str × D)) (φ : C.S) (ss : List Stmt) (d : D) : Prop := ∀ R : Out C.S → Prop, R (.ret d φ) → EX C ρ φ ss R
def OPP (C : Cx) (φ : C.S) (t : List Value → Sem Value) (ds : List D) (d : D) : Prop := ∀ R : D → C.S → Prop, R d φ → OP C φ t ds R
def plainE : Expr → Bool | .Starred .. => false | _ => true
theorem star1 {e : Expr} {es : List Expr} {env : Env} (h : plainE e = true) : starEach (e :: es) env = (false, eval e env) :: starEach es env := by
  cases e <;> first | rfl | cases h
section
variable {C : Cx} {ρ : List (Str × D)} {φ : C.S}
theorem EVP.ev {e : Expr} {d : D} (h : EVP C ρ φ e d) {R : D → C.S → Prop} (r : R d φ) : EV C ρ φ e R := h R r
theorem TRP.tr {e : Expr} {b : Bool} (h : TRP C ρ φ e b) {R : Bool → C.S → Prop} (r : R b φ) : TR C ρ φ e R := h R r
theorem EVP_none {k : Nat} {pos : Pos} : EVP C ρ φ (.Constant .none k pos) .none := fun R r => EV_none r
theorem EVP_bool {b : Bool} {k : Nat} {pos : Pos} : EVP C ρ φ (.Constant (.bool b) k pos) (.bool b) := fun R r => EV_bool r
theorem EVP_int {n : Int} {k : Nat} {pos : Pos} : EVP C ρ φ (.Constant (.int n) k pos) (.int n) := fun R r => EV_int r
theorem EVP_str {x : Str} {k : Nat} {pos : Pos} : EVP C ρ φ (.Constant (.str x) k pos) (.str x) := fun R r => EV_str r
def seenK (C : Cx) (x : Str) : Bool := (match C.env.kindOf x with | some .local => true | some .cell => true | some .free => true | _ => false) && (!(x == ("__debug__" : Str)) && !(x == ("__classdict__" : Str)))
theorem EVP_name (ok : C.Ok) {x : Str} {pos : Pos} {d : D} (hx : ρ.lookup x = some d) (hk : seenK C x = true) : EVP C ρ φ (.Name x pos) d := fun R r => by
  unfold seenK at hk
  rw [Bool.and_eq_true, Bool.and_eq_true, Bool.not_eq_true', Bool.not_eq_true'] at hk
  refine EV_name ok hx ?_ r hk.2.1 hk.2.2
  have := hk.1
  split at this <;> first | exact .inl ‹_› | exact .inr (.inl ‹_›) | exact .inr (.inr ‹_›) | cases this
theorem EVP_gname (ok : C.Ok) {x : Str} {pos : Pos} {v : Value} {d : D} (e : nsIn C.K mainGlobals x = some (some v)) (g : GIs C.K v d) (hk : C.env.kindOf x = some .globalImplicit) (hd : (x == ("__debug__" : Str)) = false) : EVP C ρ φ (.Name x pos) d := fun R r => EV_gname ok e g hk r hd
theorem EVP_type (ok : C.Ok) {x : Str} {pos : Pos} {T : String} (e : nsIn C.K mainGlobals x = some none) (b : bootBuiltins x = some (.type T)) (hn : x ≠ "__name__") (hk : C.env.kindOf x = some .globalImplicit) (hd : (x == ("__debug__" : Str)) = false) : EVP C ρ φ (.Name x pos) (.typ T) := fun R r => EV_type ok e b hn hk r hd
theorem EVsP_nil : EVsP C ρ φ [] [] := fun R r => EVs_nil r
theorem EVsP_cons (ok : C.Ok) {e : Expr} {es : List Expr} {d : D} {ds : List D} (hs : plainE e = true) (h : EVP C ρ φ e d) (k : EVsP C ρ φ es ds) : EVsP C ρ φ (e :: es) (d :: ds) := fun R r => EVs_cons ok (h _ (k _ r)) (star1 hs)
theorem EVP_Tuple (ok : C.Ok) {es : List Expr} {ds : List D} {k : Nat} {pos : Pos} (h : EVsP C ρ φ es ds) (hz : ds.length ≤ sizeLine) : EVP C ρ φ (.Tuple es k pos) (.tup ds) := fun R r => EV_Tuple ok (h _ ⟨hz, r⟩)
theorem EVP_List (ok : C.Ok) {es : List Expr} {ds : List D} {pos : Pos} (h : EVsP C ρ φ es ds) (hz : ds.length ≤ sizeLine) : EVP C ρ φ (.List es pos) (.lst ds) := fun R r => EV_List ok (h _ ⟨hz, r⟩)
theorem EVP_bin (ok : C.Ok) {a b : Expr} {op : Operator} {pos : Pos} {x y z : D} (h : EVP C ρ φ a x) (k : EVP C ρ φ b y) (o : OPP C φ (fun vs => binaryOp op (vs.getD 0 .none) (vs.getD 1 .none)) [x, y] z) : EVP C ρ φ (.BinOp a op b pos) z := fun R r => EV_BinOp ok (h _ (k _ (o _ r)))
theorem EVP_add (ok : C.Ok) {a b : Expr} {pos : Pos} {x y : Int} (h : EVP C ρ φ a (.int x)) (k : EVP C ρ φ b (.int y)) : EVP C ρ φ (.BinOp a .Add b pos) (.int (x + y)) := EVP_bin ok h k fun R r => OP_add r
theorem EVP_sub (ok : C.Ok) {a b : Expr} {pos : Pos} {x y : Int} (h : EVP C ρ φ a (.int x)) (k : EVP C ρ φ b (.int y)) : EVP C ρ φ (.BinOp a .Sub b pos) (.int (x - y)) := EVP_bin ok h k fun R r => OP_sub r
theorem EVP_addT (ok : C.Ok) {a b : Expr} {pos : Pos} {x y : List D} (h : EVP C ρ φ a (.tup x)) (k : EVP C ρ φ b (.tup y)) (hz : x.length + y.length ≤ sizeLine) : EVP C ρ φ (.BinOp a .Add b pos) (.tup (x ++ y)) := EVP_bin ok h k fun R r => OP_addT ok hz r
theorem EVP_addL (ok : C.Ok) {a b : Expr} {pos : Pos} {x y : List D} (h : EVP C ρ φ a (.lst x)) (k : EVP C ρ φ b (.lst y)) (hz : x.length + y.length ≤ sizeLine) : EVP C ρ φ (.BinOp a .Add b pos) (.lst (x ++ y)) := EVP_bin ok h k fun R r => OP_addL ok hz r
theorem EVP_neg {a : Expr} {pos : Pos} {x : Int} (h : EVP C ρ φ a (.int x)) : EVP C ρ φ (.UnaryOp .USub a pos) (.int (-x)) := fun R r => EV_neg (h _ ⟨_, rfl, r⟩)
theorem EVP_itemT (ok : C.Ok) {e n : Expr} {pos : Pos} {ds : List D} {k : Int} {x : D} (h : EVP C ρ φ e (.tup ds)) (g : EVP C ρ φ n (.int k)) (h0 : 0 ≤ k) (h1 : k < 2 ^ 62) (hx : ds[k.toNat]? = some x)
    (hs : ∀ o i, subscripted n false o i = operate [o, i] (getItem o i)) : EVP C ρ φ (.Subscript e n pos) x := fun R r => EV_itemT ok (h _ ⟨_, rfl, g _ ⟨_, _, rfl, h0, h1, hx, r⟩⟩) hs
/-- a place that is written out -/
theorem EVP_at (ok : C.Ok) {e : Expr} {k : Nat} {kk : Nat} {p pos : Pos} {ds : List D} {x : D} (h : EVP C ρ φ e (.tup ds)) (h1 : decide (k < 1000) = true) (hx : ds[k]? = some x) : EVP C ρ φ (.Subscript e (.Constant (.int k) kk p) pos) x :=
  EVP_itemT ok h EVP_int (Int.natCast_nonneg k) (by have := of_decide_eq_true h1; omega) (by rw [Int.toNat_natCast]; exact hx) (fun _ _ => rfl)
theorem EVP_sliceT (ok : C.Ok) {e : Expr} {l u : Option Expr} {p pos : Pos} {lo hi : Option Int} {ds : List D} (h : EVP C ρ φ e (.tup ds)) (hz : ds.length ≤ sizeLine) (hl : PartV C ρ φ l lo) (hu : PartV C ρ φ u hi)
    (hs : ∀ o i, subscripted (.Slice l u none p) false o i = operate [i, o] (getItem o i)) : EVP C ρ φ (.Subscript e (.Slice l u none p) pos) (.tup (cut ds lo hi)) := fun R r => EV_sliceT ok (h _ ⟨rfl, _, rfl, hz, hl, hu, r⟩) hs
theorem EVP.part {e : Expr} {n : Int} (h : EVP C ρ φ e (.int n)) : PartV C ρ φ (some e) (some n) := h _ ⟨rfl, _, rfl, rfl⟩
theorem EVP_from (ok : C.Ok) {e u : Expr} {p pos : Pos} {ds : List D} {k : Nat} (h : EVP C ρ φ e (.tup ds)) (hz : ds.length ≤ sizeLine) (hu : EVP C ρ φ u (.int k)) : EVP C ρ φ (.Subscript e (.Slice (some u) none none p) pos) (.tup (ds.drop k)) :=
  cut_from ds k k rfl ▸ EVP_sliceT ok h hz hu.part rfl (fun _ _ => rfl)
theorem EVP_upto (ok : C.Ok) {e u : Expr} {p pos : Pos} {ds : List D} {k : Nat} (h : EVP C ρ φ e (.tup ds)) (hz : ds.length ≤ sizeLine) (hu : EVP C ρ φ u (.int k)) : EVP C ρ φ (.Subscript e (.Slice none (some u) none p) pos) (.tup (ds.take k)) :=
  cut_to ds k k rfl ▸ EVP_sliceT ok h hz rfl hu.part (fun _ _ => rfl)
theorem EVP_last (ok : C.Ok) {e u : Expr} {p pos : Pos} {ds : List D} (h : EVP C ρ φ e (.tup ds)) (hz : ds.length ≤ sizeLine) (hu : EVP C ρ φ u (.int (-1))) : EVP C ρ φ (.Subscript e (.Slice none (some u) none p) pos) (.tup ds.dropLast) :=
  cut_last ds ▸ EVP_sliceT ok h hz rfl hu.part (fun _ _ => rfl)
theorem EVP_blt (ok : C.Ok) {x : Str} {px pos : Pos} {id : String} {e : Expr} {es : List Expr} {ds : List D} {d : D} (hx : nsIn C.K mainGlobals x = some none) (b : bootBuiltins x = some (.builtin id)) (hn : x ≠ "__name__") (hk : C.env.kindOf x = some .globalImplicit)
    (h : EVsP C ρ φ (e :: es) ds) (o : OPP C φ (fun vs => call (.builtin id) vs) ds d)
    (hd : (x == ("__debug__" : Str)) = false) (hs : plainE e = true) (ha : ∀ env pos, ((backTo pos (starEach es env)).any fun x => x.1) = false)
    (hc : ∀ env, eval (.Call (.Name x px) (e :: es) [] pos) env = (do callWith pos (← eval (.Name x px) env) [] (backTo pos (starEach (e :: es) env)) (backToKw pos (keywordEach [] env)))) :
    EVP C ρ φ (.Call (.Name x px) (e :: es) [] pos) d := fun R r => EV_call_blt ok hx b hn hk (h _ (o _ r)) hd (star1 hs) ha hc
theorem EVP_cls (ok : C.Ok) {x : Str} {px pos : Pos} {T : String} {e : Expr} {es : List Expr} {ds : List D} {d : D} (hx : nsIn C.K mainGlobals x = some none) (b : bootBuiltins x = some (.type T)) (hn : x ≠ "__name__") (hk : C.env.kindOf x = some .globalImplicit)
    (h : EVsP C ρ φ (e :: es) ds) (o : OPP C φ (fun vs => call (.type T) vs) ds d)
    (hd : (x == ("__debug__" : Str)) = false) (hs : plainE e = true) (ha : ∀ env pos, ((backTo pos (starEach es env)).any fun x => x.1) = false)
    (hc : ∀ env, eval (.Call (.Name x px) (e :: es) [] pos) env = (do callWith pos (← eval (.Name x px) env) [] (backTo pos (starEach (e :: es) env)) (backToKw pos (keywordEach [] env)))) :
    EVP C ρ φ (.Call (.Name x px) (e :: es) [] pos) d := fun R r => EV_call_type ok hx b hn hk (h _ (o _ r)) hd (star1 hs) ha hc
theorem nm_debug (s : String) (h : (Str.ofString s == ("__debug__" : Str)) = false) : (Str.ofString s == ("__debug__" : Str)) = false := h
theorem EVP_lenT (ok : C.Ok) {px pos : Pos} {e : Expr} {ds : List D} (hk : C.env.kindOf (Str.ofString "len") = some .globalImplicit) (hs : plainE e = true) (h : EVP C ρ φ e (.tup ds)) (hz : ds.length < 2 ^ 62)
    (hc : ∀ env, eval (.Call (.Name (Str.ofString "len") px) [e] [] pos) env = (do callWith pos (← eval (.Name (Str.ofString "len") px) env) [] (backTo pos (starEach [e] env)) (backToKw pos (keywordEach [] env)))) : EVP C ρ φ (.Call (.Name (Str.ofString "len") px) [e] [] pos) (.int ds.length) :=
  EVP_blt ok n_len b_len (by decide) hk (EVsP_cons ok hs h EVsP_nil) (fun R r => OP_lenT hz r) rfl hs (fun _ _ => rfl) hc
theorem EVP_lenS (ok : C.Ok) {px pos : Pos} {e : Expr} {x : Str} (hk : C.env.kindOf (Str.ofString "len") = some .globalImplicit) (hs : plainE e = true) (h : EVP C ρ φ e (.str x)) (hz : x.length < 2 ^ 62)
    (hc : ∀ env, eval (.Call (.Name (Str.ofString "len") px) [e] [] pos) env = (do callWith pos (← eval (.Name (Str.ofString "len") px) env) [] (backTo pos (starEach [e] env)) (backToKw pos (keywordEach [] env)))) : EVP C ρ φ (.Call (.Name (Str.ofString "len") px) [e] [] pos) (.int x.length) :=
  EVP_blt ok n_len b_len (by decide) hk (EVsP_cons ok hs h EVsP_nil) (fun R r => OP_lenS hz r) rfl hs (fun _ _ => rfl) hc
theorem EVP_listT (ok : C.Ok) {px pos : Pos} {e : Expr} {ds : List D} (hk : C.env.kindOf (Str.ofString "list") = some .globalImplicit) (hs : plainE e = true) (h : EVP C ρ φ e (.tup ds)) (hz : ds.length ≤ sizeLine)
    (hc : ∀ env, eval (.Call (.Name (Str.ofString "list") px) [e] [] pos) env = (do callWith pos (← eval (.Name (Str.ofString "list") px) env) [] (backTo pos (starEach [e] env)) (backToKw pos (keywordEach [] env)))) : EVP C ρ φ (.Call (.Name (Str.ofString "list") px) [e] [] pos) (.lst ds) :=
  EVP_cls ok n_list b_list (by decide) hk (EVsP_cons ok hs h EVsP_nil) (fun R r => OP_listOfT ok hz r) rfl hs (fun _ _ => rfl) hc
theorem EVP_repT (ok : C.Ok) {a b : Expr} {pos : Pos} {x : D} {n : Int} (h : EVP C ρ φ a (.tup [x])) (k : EVP C ρ φ b (.int n)) (o : OPP C φ (fun vs => binaryOp .Mult (vs.getD 0 .none) (vs.getD 1 .none)) [.tup [x], .int n] (.tup (List.replicate n.toNat x))) : EVP C ρ φ (.BinOp a .Mult b pos) (.tup (List.replicate n.toNat x)) := EVP_bin ok h k o
theorem EVP_pure (ok : C.Ok) {x : Str} {px pos : Pos} {f : Addr} {oc : Value} {od : Option Addr} {fd : FuncData} {sl : Array (Option Value)} {e : Expr} {es : List Expr} {ds : List D} {d : D}
    (hx : nsIn C.K mainGlobals x = some (some (.ref f))) (hf : C.K.lookup f = some ⟨oc, od, .func fd, sl⟩) (hk : C.env.kindOf x = some .globalImplicit) (h : EVsP C ρ φ (e :: es) ds) (p : Pure C f ds d)
    (hd : (x == ("__debug__" : Str)) = false) (hs : plainE e = true)
    (hc : ∀ env, eval (.Call (.Name x px) (e :: es) [] pos) env = (do callWith pos (← eval (.Name x px) env) [] (backTo pos (starEach (e :: es) env)) (backToKw pos (keywordEach [] env)))) :
    EVP C ρ φ (.Call (.Name x px) (e :: es) [] pos) d := fun R r => EV_call_def ok hx hf hk (h _ (p _ _ r)) hd (star1 hs) hc
theorem EVP_if (ok : C.Ok) {t b o : Expr} {pos : Pos} {c : Bool} {x y : D} (ht : TRP C ρ φ t c) (h1 : c = true → EVP C ρ φ b x) (h2 : c = false → EVP C ρ φ o y) : EVP C ρ φ (.IfExp t b o pos) (if c = true then x else y) := fun R r => EV_if ok (ht _ (by
  cases c with
  | true => exact h1 rfl R r
  | false => exact h2 rfl R r))
/-! tests -/
theorem TRP_cmp (ok : C.Ok) {a b : Expr} {op : CmpOp} {pos : Pos} {x y : D} {c : Bool} (h : EVP C ρ φ a x) (k : EVP C ρ φ b y) (o : OPP C φ (fun vs => compareOp op (vs.getD 0 .none) (vs.getD 1 .none)) [x, y] (.bool c)) (hm : behindInMarks op b = false) : TRP C ρ φ (.Compare a [op] [b] pos) c := fun R r => TR_compare ok (h _ (k _ (o _ ⟨_, rfl, r⟩))) hm
theorem TRP_eqs (ok : C.Ok) {a : Expr} {pos p : Pos} {x y : Str} {k : Nat} (h : EVP C ρ φ a (.str x)) : TRP C ρ φ (.Compare a [.Eq] [.Constant (.str y) k p] pos) (x == y) := TRP_cmp ok h EVP_str (fun R r => OP_eqs r) rfl
theorem TRP_nes (ok : C.Ok) {a : Expr} {pos p : Pos} {x y : Str} {k : Nat} (o : OPP C φ (fun vs => compareOp .NotEq (vs.getD 0 .none) (vs.getD 1 .none)) [.str x, .str y] (.bool (x != y))) (h : EVP C ρ φ a (.str x)) : TRP C ρ φ (.Compare a [.NotEq] [.Constant (.str y) k p] pos) (x != y) := TRP_cmp ok h EVP_str o rfl
theorem TRP_ins (ok : C.Ok) {a b : Expr} {pos : Pos} {x : Str} {xs : List Str} (h : EVP C ρ φ a (.str x)) (k : EVP C ρ φ b (.tup (xs.map .str))) (hm : behindInMarks .In b = false) : TRP C ρ φ (.Compare a [.In] [b] pos) (xs.any (· == x)) := TRP_cmp ok h k (fun R r => OP_inT r) hm
theorem TRP_not {x : Expr} {pos : Pos} {b : Bool} (h : TRP C ρ φ x b) : TRP C ρ φ (.UnaryOp .Not x pos) (!b) := fun R r => TR_not (h _ r)
theorem TRP_and (ok : C.Ok) {a b : Expr} {pos : Pos} {x y : Bool} (h : TRP C ρ φ a x) (k : x = true → TRP C ρ φ b y) : TRP C ρ φ (.BoolOp .And [a, b] pos) (x && y) := fun R r => TR_bool (ALLT_and ok (h _ (by
  cases x with
  | true => exact ALLT_and ok (k rfl _ (by cases y with | true => exact ALLT_and_nil r | false => exact r))
  | false => exact r)))
theorem TRP_or (ok : C.Ok) {a b : Expr} {pos : Pos} {x y : Bool} (h : TRP C ρ φ a x) (k : x = false → TRP C ρ φ b y) : TRP C ρ φ (.BoolOp .Or [a, b] pos) (x || y) := fun R r => TR_bool (ALLT_or ok (h _ (by
  cases x with
  | false => exact ALLT_or ok (k rfl _ (by cases y with | false => exact ALLT_or_nil r | true => exact r))
  | true => exact r)))
theorem TRP_plain {e : Expr} {b : Bool} (h : EVP C ρ φ e (.bool b)) (hp : ∀ env, isTrue e env (eval e env) = (do let v ← eval e env; standAt e.pos; holding [v] (truthy v))) : TRP C ρ φ e b := fun R r => TR_plain (h _ ⟨_, rfl, r⟩) hp
/-! statements that give a datum back -/
theorem EXR_ret (ok : C.Ok) {e : Expr} {pos : Pos} {ss : List Stmt} {d : D} (h : EVP C ρ φ e d) : EXR C ρ φ (.Return (some e) pos :: ss) d := fun R r => EX_cons (EX_return ok (h _ r))
theorem EXR_asg (ok : C.Ok) {x : Str} {px pos : Pos} {e : Expr} {ss : List Stmt} {v d : D} (hk : Storable C x) (h : EVP C ρ φ e v) (hs : ∀ env, swapsWith e (some (.Name x px)) pos.line env = pure false) (k : EXR C ((x, v) :: ρ) φ ss d) : EXR C ρ φ (.Assign [.Name x px] e pos :: ss) d := fun R r => EX_cons (EX_assign ok hk (h _ (k _ r)) hs)
theorem EXR_if (ok : C.Ok) {t : Expr} {b : List Stmt} {pos : Pos} {ss : List Stmt} {c : Bool} {d : D} (ht : TRP C ρ φ t c) (h1 : c = true → EXR C ρ φ b d) (h2 : c = false → EXR C ρ φ ss d) : EXR C ρ φ (.If t b [] pos :: ss) d := fun R r => EX_cons (EX_if ok (ht _ (by
  cases c with
  | true => exact h1 rfl _ r
  | false => exact EX_nil (h2 rfl _ r))))
theorem EXR_eqs (ok : C.Ok) {x : Str} {px p q pos : Pos} {l y : Str} {k : Nat} {b ss : List Stmt} {d : D} (hx : ρ.lookup x = some (.str l)) (hk : seenK C x = true) (h1 : l = y → EXR C ρ φ b d) (h2 : ¬ l = y → EXR C ρ φ ss d) :
    EXR C ρ φ (.If (.Compare (.Name x px) [.Eq] [.Constant (.str y) k p] q) b [] pos :: ss) d := EXR_if ok (TRP_eqs ok (EVP_name ok hx hk)) (fun h => h1 (beq_iff_eq.mp h)) fun h => h2 (beq_eq_false_iff_ne.mp h)
theorem EXR_unp (ok : C.Ok) {elts : List Expr} {k : Nat} {tp pos : Pos} {e : Expr} {xs : List Str} {ss : List Stmt} {ds : List D} {d : D} (hw : swappedStores [.Tuple elts k tp] e C.env = pure (some xs)) (hk : ∀ x ∈ xs, Storable C x) (h : EVP C ρ φ e (.tup ds)) (hl : ds.length = xs.length)
    (hs : swapsWithSole [.Tuple elts k tp] e pos.line C.env = pure false) (g : EXR C (binds xs.reverse ds.reverse ρ) φ ss d) : EXR C ρ φ (.Assign [.Tuple elts k tp] e pos :: ss) d := fun R r => EX_cons (EX_swap ok hw hk (h _ ⟨_, rfl, hl, g _ r⟩) hs)
end
end Mine
end
section
open PySem PySem.W PyProof.Rows PySem.Calls
set_option maxRecDepth 100000
namespace Mine
def Less (ρ ρ' : List (Str × D)) : Prop := ∀ x d, ρ.lookup x = some d → ρ'.lookup x = some d
theorem Less.refl (ρ : List (Str × D)) : Less ρ ρ := fun _ _ h => h
theorem Less.trans {a b c : List (Str × D)} (h : Less a b) (k : Less b c) : Less a c := fun x d e => k x d (h x d e)
theorem Less.cons {a b : List (Str × D)} (y : Str) (e : D) (h : Less a b) : Less ((y, e) :: a) ((y, e) :: b) := fun x d q => by
  rw [lookup_cons] at q ⊢
  split
  · rename_i hx; rw [if_pos hx] at q; exact q
  · rename_i hx; rw [if_neg hx] at q; exact h x d q
theorem Less.drop {a b : List (Str × D)} (y : Str) (e : D) (h : Less a b) (hy : a.lookup y = none) : Less a ((y, e) :: b) := fun x d q => by
  rw [lookup_cons]
  split
  · rename_i hx; subst hx; rw [hy] at q; cases q
  · exact h x d q
theorem EX_less {C : Cx} {ρ ρ' : List (Str × D)} {φ : C.S} {ss : List Stmt} {R : Out C.S → Prop} (h : EX C ρ φ ss R) (l : Less ρ ρ') : EX C ρ' φ ss R := fun s Q E st i q1 q2 => h s Q E (st.less l) i q1 q2
theorem len_ok {n : Nat} (h : Nat.ble n 1000 = true) : n ≤ sizeLine := by have := Nat.le_of_ble_eq_true h; have := line_eq; omega
theorem le_ok {n m : Nat} (h : n ≤ m) (k : Nat.ble m 1000 = true) : n ≤ sizeLine := by have := Nat.le_of_ble_eq_true k; have := line_eq; omega
theorem lt_ok {n m : Nat} (h : n ≤ m) (k : Nat.ble m 1000 = true) : n < 2 ^ 62 := by have := Nat.le_of_ble_eq_true k; omega
theorem add_ok {a b m : Nat} (h : a ≤ m) (hm : Nat.ble m 1000 = true) (k : Nat.ble b 1000 = true) : a + b ≤ sizeLine := by have := Nat.le_of_ble_eq_true k; have := Nat.le_of_ble_eq_true hm; have := line_eq; omega
theorem add_ok' {a b m : Nat} (k : Nat.ble a 1000 = true) (h : b ≤ m) (hm : Nat.ble m 1000 = true) : a + b ≤ sizeLine := by have := Nat.le_of_ble_eq_true k; have := Nat.le_of_ble_eq_true hm; have := line_eq; omega
theorem sum_ok {a b : Nat} (h : a ≤ 200) (k : b ≤ 200) : a + b ≤ sizeLine := by have := line_eq; omega
theorem sum_le {a b : Nat} (h : a ≤ 10000) (k : b ≤ 10000) : a + b ≤ sizeLine := by have := line_eq; omega
theorem stor2 {C : Cx} {a b : Str} (h : (decide (C.env.kindOf a = some .local) && decide (C.env.kindOf b = some .local)) = true) : ∀ x ∈ [a, b], Storable C x := fun x hx => by
  rw [Bool.and_eq_true, decide_eq_true_iff, decide_eq_true_iff] at h
  simp only [List.mem_cons, List.not_mem_nil, or_false] at hx
  rcases hx with rfl | rfl
  · exact .inl h.1
  · exact .inl h.2
def EVF (C : Cx) (ρ : List (Str × D)) (φ : C.S) (e : Expr) (b : Bool) : Prop := ∀ R : D → C.S → Prop, (∀ x : Str, (x == Str.empty) = b → R (.str x) φ) → EV C ρ φ e R
def EXB (C : Cx) (ρ : List (Str × D)) (φ : C.S) (ss : List Stmt) (b : Bool) : Prop := ∀ R : Out C.S → Prop, (∀ x : Str, (x == Str.empty) = b → R (.ret (.str x) φ)) → EX C ρ φ ss R
def JPN (C : Cx) (ρ : List (Str × D)) (φ : C.S) (es : List Expr) (k c : Nat) : Prop := ∀ (out : Str) (R : Str → C.S → Prop), out.length + 200 * k ≤ 2000 → (∀ x : Str, out.length + c ≤ x.length → R x φ) → JP C ρ φ out es R
section
variable {C : Cx} {ρ : List (Str × D)} {φ : C.S}
theorem EVP.cast {e : Expr} {d d' : D} (h : EVP C ρ φ e d) (k : d = d') : EVP C ρ φ e d' := k ▸ h
theorem TRP.cast {e : Expr} {b b' : Bool} (h : TRP C ρ φ e b) (k : b = b') : TRP C ρ φ e b' := k ▸ h
theorem TRP.less {ρ' : List (Str × D)} {e : Expr} {b : Bool} (h : TRP C ρ φ e b) (l : Less ρ ρ') : TRP C ρ' φ e b := fun R r s Q E st i q => h R r s Q E (st.less l) i q
theorem EVF.less {ρ' : List (Str × D)} {e : Expr} {b : Bool} (h : EVF C ρ φ e b) (l : Less ρ ρ') : EVF C ρ' φ e b := fun R r s Q E st i q => h R r s Q E (st.less l) i q
theorem EXB.less {ρ' : List (Str × D)} {ss : List Stmt} {b : Bool} (h : EXB C ρ φ ss b) (l : Less ρ ρ') : EXB C ρ' φ ss b := fun R r => EX_less (h R r) l
theorem EVP_one {op : BoolOp} {e : Expr} {pos : Pos} {d : D} (h : EVP C ρ φ e d) : EVP C ρ φ (.BoolOp op [e] pos) d := fun R r => EV_one (h R r)
theorem EVP_and (ok : C.Ok) {a b : Expr} {es : List Expr} {pos : Pos} {x y : Bool} (h : EVP C ρ φ a (.bool x)) (k : x = true → EVP C ρ φ (.BoolOp .And (b :: es) pos) (.bool y)) : EVP C ρ φ (.BoolOp .And (a :: b :: es) pos) (.bool (x && y)) := fun R r => EV_and ok (h _ ⟨_, rfl, by
  cases x with
  | true => exact k rfl R r
  | false => exact r⟩)
theorem EVP_not {a : Expr} {pos : Pos} {x : Bool} (h : EVP C ρ φ a (.bool x)) : EVP C ρ φ (.UnaryOp .Not a pos) (.bool !x) := fun R r => EV_not (h _ ⟨_, rfl, r⟩)
theorem EVP_cmp (ok : C.Ok) {a b : Expr} {op : CmpOp} {pos : Pos} {x y z : D} (h : EVP C ρ φ a x) (k : EVP C ρ φ b y) (o : OPP C φ (fun vs => compareOp op (vs.getD 0 .none) (vs.getD 1 .none)) [x, y] z) (hm : behindInMarks op b = false) : EVP C ρ φ (.Compare a [op] [b] pos) z := fun R r => EV_Compare ok (h _ (k _ (o _ r))) hm
theorem EVP_chain (ok : C.Ok) {a b c : Expr} {o₁ o₂ : CmpOp} {pos : Pos} {x y z : D} {s t : Bool} (h1 : EVP C ρ φ a x) (h2 : EVP C ρ φ b y) (h3 : EVP C ρ φ c z) (p : OPP C φ (fun vs => compareOp o₁ (vs.getD 0 .none) (vs.getD 1 .none)) [x, y] (.bool s)) (q : OPP C φ (fun vs => compareOp o₂ (vs.getD 0 .none) (vs.getD 1 .none)) [y, z] (.bool t))
    (hm : lastMarks [o₁, o₂] [b, c] = false) : EVP C ρ φ (.Compare a [o₁, o₂] [b, c] pos) (.bool (s && t)) := fun R r => EV_chain ok (h1 _ (h2 _ (p _ ⟨_, rfl, by
  cases s with
  | true => exact h3 _ (q _ r)
  | false => exact r⟩))) hm
theorem EVP_all (ok : C.Ok) {elt iter : Expr} {x : Str} {px pa pos cp : Pos} {scope : Scope} (sc : CompScope C scope x ρ) {ds : List D} {f : D → Bool} (hk : C.env.kindOf (Str.ofString "all") = some .globalImplicit) (h : EVP C ρ φ iter (.tup ds)) (hz : ds.length ≤ sizeLine)
    (hf : ∀ d ∈ ds, ∀ c a, (C.comp scope c a).Ok → EVP (C.comp scope c a) ((x, d) :: ρ) φ elt (.bool (f d)))
    (hs : ∀ x, foldedSetIterable iter C.env x = pure x)
    (hc : ∀ env, eval (.Call (.Name (Str.ofString "all") pa) [.ListComp elt [⟨.Name x px, iter, [], 0⟩] scope pos] [] cp) env = (do callWith cp (← eval (.Name (Str.ofString "all") pa) env) [] (backTo cp (starEach [.ListComp elt [⟨.Name x px, iter, [], 0⟩] scope pos] env)) (backToKw cp (keywordEach [] env)))) :
    EVP C ρ φ (.Call (.Name (Str.ofString "all") pa) [.ListComp elt [⟨.Name x px, iter, [], 0⟩] scope pos] [] cp) (.bool (ds.all f)) := fun R r =>
  EV_call_blt ok n_all b_all (by decide) hk (EVs_cons ok (EV_mapB ok sc (SRC_tup ok (h _ ⟨_, rfl, hz, f, fun d hd c a R' ok' r' => hf d hd c a ok' _ r', EVs_nil (OP_all ok (by
    have e : (ds.map f).all id = ds.all f := by simp [List.all_map]
    rw [e]; exact r))⟩)) hs) (star1 rfl)) rfl (star1 rfl) (fun _ _ => rfl) hc
theorem ATP_nil : ATP C ρ φ .Or [] false := fun R r => ALLT_or_nil r
theorem ATP_or (ok : C.Ok) {a : Expr} {es : List Expr} {x y : Bool} (h : TRP C ρ φ a x) (k : x = false → ATP C ρ φ .Or es y) : ATP C ρ φ .Or (a :: es) (x || y) := fun R r => ALLT_or ok (h _ (by
  cases x with
  | false => exact k rfl R r
  | true => exact r))
theorem ATP.cast {op : BoolOp} {es : List Expr} {b b' : Bool} (h : ATP C ρ φ op es b) (k : b = b') : ATP C ρ φ op es b' := k ▸ h
theorem TRP_bool {op : BoolOp} {es : List Expr} {pos : Pos} {b : Bool} (h : ATP C ρ φ op es b) : TRP C ρ φ (.BoolOp op es pos) b := fun R r => TR_bool (h R r)
theorem EXB.cast {ss : List Stmt} {b b' : Bool} (h : EXB C ρ φ ss b) (k : b = b') : EXB C ρ φ ss b' := k ▸ h
theorem JPN_nil : JPN C ρ φ [] 0 0 := fun out R h r => JP_nil (by have := line_eq; omega) (r out (Nat.le_refl _))
theorem JPN_str (ok : C.Ok) {x : Str} {kk : Nat} {pos : Pos} {es : List Expr} {k c : Nat} (hx : Nat.ble x.length 200 = true) (h : JPN C ρ φ es k c) : JPN C ρ φ (.Constant (.str x) kk pos :: es) (k + 1) (c + x.length) := fun out R hz r => by
  have hx := Nat.le_of_ble_eq_true hx
  have hl : (out ++ x).length = out.length + x.length := Str.length_append ..
  exact JP_str ok (by have := line_eq; omega) (h _ R (by omega) fun y hy => r y (by omega))
theorem JPN_valS (ok : C.Ok) {e : Expr} {pos : Pos} {es : List Expr} {k c : Nat} {x : Str} (he : EVP C ρ φ e (.str x)) (hx : x.length ≤ 200) (h : JPN C ρ φ es k c) : JPN C ρ φ (.FormattedValue e (-1) none pos :: es) (k + 1) c := fun out R hz r => by
  have hl : (out ++ x).length = out.length + x.length := Str.length_append ..
  exact JP_val ok (by omega) (he _ (.inl ⟨_, rfl, hx, h _ R (by omega) fun y hy => r y (by omega)⟩))
theorem JPN_valI (ok : C.Ok) {e : Expr} {pos : Pos} {es : List Expr} {k c : Nat} {n : Int} (he : EVP C ρ φ e (.int n)) (hn : n.natAbs < 10 ^ 6) (h : JPN C ρ φ es k c) : JPN C ρ φ (.FormattedValue e (-1) none pos :: es) (k + 1) c := fun out R hz r =>
  JP_val ok (by omega) (he _ (.inr ⟨_, rfl, hn, fun x hx => by
    have hl : (out ++ x).length = out.length + x.length := Str.length_append ..
    exact h _ R (by omega) fun y hy => r y (by omega)⟩))
theorem EVF_join {e₁ e₂ : Expr} {es : List Expr} {pos : Pos} {k c : Nat} (h : JPN C ρ φ (e₁ :: e₂ :: es) k c) (hk : Nat.ble (200 * k) 2000 = true) (hc : Nat.blt 0 c = true) : EVF C ρ φ (.JoinedStr (e₁ :: e₂ :: es) pos) false := fun R r =>
  EV_joined (h _ _ (by have : Str.empty.length = 0 := rfl; have := Nat.le_of_ble_eq_true hk; omega) fun x hx => r x (by
    rw [beq_eq_false_iff_ne]
    intro e
    have h1 := Nat.le_of_ble_eq_true hc
    rw [e] at hx
    have : Str.empty.length = 0 := rfl
    omega))
theorem EVF_str {x : Str} {k : Nat} {pos : Pos} {b : Bool} (h : (x == Str.empty) = b) : EVF C ρ φ (.Constant (.str x) k pos) b := fun R r => EV_str (r x h)
theorem EVF_if (ok : C.Ok) {t b o : Expr} {pos : Pos} {c x : Bool} (ht : TRP C ρ φ t c) (h1 : c = true → EVF C ρ φ b x) (h2 : c = false → EVF C ρ φ o x) : EVF C ρ φ (.IfExp t b o pos) x := fun R r => EV_if ok (ht _ (by
  cases c with
  | true => exact h1 rfl R r
  | false => exact h2 rfl R r))
theorem EXB_ret (ok : C.Ok) {e : Expr} {pos : Pos} {ss : List Stmt} {b : Bool} (h : EVF C ρ φ e b) : EXB C ρ φ (.Return (some e) pos :: ss) b := fun R r => EX_cons (EX_return ok (h _ r))
theorem EXB_unp (ok : C.Ok) {elts : List Expr} {k : Nat} {tp pos : Pos} {e : Expr} {xs : List Str} {ss : List Stmt} {ds : List D} {b : Bool} (hw : swappedStores [.Tuple elts k tp] e C.env = pure (some xs)) (hk : ∀ x ∈ xs, Storable C x) (h : EVP C ρ φ e (.tup ds)) (hl : ds.length = xs.length)
    (hs : swapsWithSole [.Tuple elts k tp] e pos.line C.env = pure false) (g : EXB C (binds xs.reverse ds.reverse ρ) φ ss b) : EXB C ρ φ (.Assign [.Tuple elts k tp] e pos :: ss) b := fun R r => EX_cons (EX_swap ok hw hk (h _ ⟨_, rfl, hl, g _ r⟩) hs)
theorem EXB_unp' (ok : C.Ok) {elts : List Expr} {k : Nat} {tp pos : Pos} {e : Expr} {xs : List Str} {ss : List Stmt} {ds : List D} {b : Bool} (hx : allNames elts = some xs) (hk : ∀ x ∈ xs, Storable C x) (h : EVP C ρ φ e (.tup ds)) (hl : ds.length = xs.length) (hlen : (assignEach elts C.env).length = xs.length) (hst : (assignEach elts C.env).findIdx? (·.1) = none)
    (hs : swapsWithSole [.Tuple elts k tp] e pos.line C.env = pure false) (hw : swappedStores [.Tuple elts k tp] e C.env = pure none) (g : EXB C (binds xs ds ρ) φ ss b) : EXB C ρ φ (.Assign [.Tuple elts k tp] e pos :: ss) b := fun R r => EX_cons (EX_unpack ok hx hk (h _ ⟨_, rfl, hl, g _ r⟩) hlen hst hs hw)
/-- a fault where the test says so, else on -/
theorem EXB_chk (ok : C.Ok) {t e : Expr} {p pos : Pos} {ss : List Stmt} {c b : Bool} (ht : TRP C ρ φ t (!c)) (he : c = false → EVF C ρ φ e false) (k : c = true → EXB C ρ φ ss b) : EXB C ρ φ (.If t [.Return (some e) p] [] pos :: ss) (c && b) := fun R r => EX_cons (EX_if ok (ht _ (by
  cases c with
  | true => exact EX_nil (k rfl R r)
  | false => exact EX_cons (EX_return ok (he rfl _ r)))))
/-- a loop that gives a fault back where one item has one -/
theorem EXB_for (ok : C.Ok) {target iter t e : Expr} {p pos fp : Pos} {ss : List Stmt} {ds : List D} {tgt : D → List (Str × D) → Option (List (Str × D))} {c : Nat → Bool} {b : Bool} (h : ∀ R : List D → (D → List (Str × D) → Option (List (Str × D))) → C.S → Prop, R ds tgt φ → SRCT C ρ φ target iter R)
    (step : ∀ k d, ds[k]? = some d → ∃ pre : List (Str × D), (∀ ρ', tgt d ρ' = some (pre ++ ρ')) ∧ (pre.all fun x => (ρ.lookup x.1).isNone) = true ∧ TRP C (pre ++ ρ) φ t (!c k) ∧ (c k = false → EVF C (pre ++ ρ) φ e false))
    (hs : ∀ env x, foldedSetIterable iter env x = pure x) (k : (∀ k, k < ds.length → c k = true) → EXB C ρ φ ss b) : EXB C ρ φ (.For target iter [.If t [.Return (some e) p] [] pos] [] fp :: ss) ((List.range ds.length).all c && b) := fun R r => by
  have pl : ∀ (pre : List (Str × D)) {ρ'}, Less ρ ρ' → Less (pre ++ ρ) (pre ++ ρ') := fun pre {ρ'} l => by
    induction pre with
    | nil => exact l
    | cons x r ih => exact .cons _ _ ih
  have pd : ∀ (pre : List (Str × D)) {ρ'}, (pre.all fun x => (ρ.lookup x.1).isNone) = true → Less ρ ρ' → Less ρ (pre ++ ρ') := fun pre {ρ'} hn l => by
    induction pre with
    | nil => exact l
    | cons x r ih =>
      rw [List.all_cons, Bool.and_eq_true] at hn
      exact .drop _ _ (ih hn.2) (Option.isNone_iff_eq_none.mp hn.1)
  refine EX_cons (EX_for ok (h _ ⟨fun k ρ' φ' => φ' = φ ∧ Less ρ ρ' ∧ ∀ j, j < k → c j = true, ⟨rfl, .refl _, fun j hj => absurd hj (Nat.not_lt_zero _)⟩, fun j d ρ' φ' hd ⟨e0, l, hj⟩ ρ'' hρ => ?_, fun ρ' φ' ⟨e0, l, hj⟩ => ?_⟩) hs)
  · subst e0
    obtain ⟨pre, h1, h2, h3, h4⟩ := step j d hd
    rw [h1] at hρ; cases hρ
    refine EX_cons (EX_if ok ((h3.less (pl pre l)) _ ?_))
    cases hc : c j with
    | true =>
      refine EX_nil (EX_nil ⟨rfl, pd pre h2 l, fun i hi => ?_⟩)
      by_cases ei : i = j
      · rw [ei]; exact hc
      · exact hj i (by omega)
    | false =>
      have hall : (List.range ds.length).all c = false := by
        rw [← Bool.not_eq_true, List.all_eq_true]
        intro H
        have := H j (List.mem_range.mpr (List.getElem?_eq_some_iff.mp hd).1)
        rw [hc] at this; cases this
      rw [hall] at r
      exact EX_cons (EX_return ok (((h4 hc).less (pl pre l)) _ r))
  · subst e0
    have hall : (List.range ds.length).all c = true := List.all_eq_true.mpr fun j hj' => hj j (List.mem_range.mp hj')
    rw [hall] at r
    exact EX_less (k hj R r) l
end
end Mine
end
section
open PySem PySem.W PyProof.Rows PySem.Calls
set_option maxRecDepth 100000
namespace Mine
def isNum : D → Bool | .int _ => true | _ => false
def isRow : D → Bool | .tup ds => ds.all isNum | _ => false
def isVar (m : Int) : D → Bool | .int n => decide (0 ≤ n) && decide (n < m) | _ => false
def allT (f : D → Bool) : D → Bool | .tup ds => ds.all f | _ => false
theorem isTup_shape {d : D} (h : isTup d = true) : ∃ ds, d = .tup ds := by cases d <;> first | exact ⟨_, rfl⟩ | cases h
theorem isNum_shape {d : D} (h : isNum d = true) : ∃ n, d = .int n := by cases d <;> first | exact ⟨_, rfl⟩ | cases h
theorem room_enter' {C : Cx} {fd : FuncData} {L f : Addr} {k : Nat} (ok' : (C.enter fd L f).Ok) (h : Room C (k + 1)) : Room (C.enter fd L f) k := room_enter h
theorem Room.dep {C : Cx} {k : Nat} (h : Room C k) : C.A.depth < recursionLimit := Nat.lt_of_le_of_lt (Nat.le_add_right _ _) h.1
theorem Room.ble {C : Cx} {j k : Nat} (h : Room C k) (hj : Nat.ble j k = true) : Room C j := h.down (Nat.le_of_ble_eq_true hj)
theorem num_def {C : Cx} (ok : C.Ok) (room : Room C 3) {d : D} (p : plainD d = true) : Pure C 42 [d] (.bool (isNum d)) := fun φ R r =>
  OP_def ok (f := 42) rfl rfl rfl rfl (names := [Str.ofString "thing"]) (fun vals hv => bind1 (P := fun vals => bindArgs _ ⟨vals, []⟩ = pure (List.zip _ vals)) hv fun _ => rfl) rfl (locals_all rfl) room.dep rfl rfl rfl rfl rfl fun L ok' =>
    EXR_ret ok' (EVP.cast (d' := .bool (isNum d)) (EVP_and ok' (EVP_blt ok' n_isinstance b_isinstance (by decide) rfl (EVsP_cons ok' rfl (EVP_name ok' rfl rfl) (EVsP_cons ok' rfl (EVP_type ok' n_int b_int (by decide) rfl rfl) EVsP_nil)) (fun R r => OP_isint (by (first | assumption | rfl)) r) rfl rfl (fun _ _ => rfl) (fun _ => rfl)) fun _ => EVP_one (EVP_not (EVP_blt ok' n_isinstance b_isinstance (by decide) rfl (EVsP_cons ok' rfl (EVP_name ok' rfl rfl) (EVsP_cons ok' rfl (EVP_type ok' n_bool b_bool (by decide) rfl rfl) EVsP_nil)) (fun R r => OP_isbool (by (first | assumption | rfl)) r) rfl rfl (fun _ _ => rfl) (fun _ => rfl)))) (by cases d <;> first | rfl | cases p)) _ r
theorem row_def {C : Cx} (ok : C.Ok) (room : Room C 4) {d : D} (p : Fine 1 d) : Pure C 47 [d] (.bool (isRow d)) := fun φ R r => by
  have pd := p.plain
  refine OP_def ok (f := 47) rfl rfl rfl rfl (names := [Str.ofString "thing"]) (fun vals hv => bind1 (P := fun vals => bindArgs _ ⟨vals, []⟩ = pure (List.zip _ vals)) hv fun _ => rfl) rfl (locals_all rfl) room.dep rfl rfl rfl rfl rfl fun L ok' => ?_
  have rm := room_enter' ok' room
  refine EXR_ret ok' (EVP.cast (d' := .bool (isRow d)) (EVP_and (y := isRow d) ok' (EVP_blt ok' n_isinstance b_isinstance (by decide) rfl (EVsP_cons ok' rfl (EVP_name ok' rfl rfl) (EVsP_cons ok' rfl (EVP_type ok' n_tuple b_tuple (by decide) rfl rfl) EVsP_nil)) (fun R r => OP_istup (by (first | assumption | rfl)) r) rfl rfl (fun _ _ => rfl) (fun _ => rfl)) fun h => ?_) (by cases d <;> rfl)) _ r
  obtain ⟨ds, rfl⟩ := isTup_shape h
  obtain ⟨hz, hd⟩ := p.tup
  exact EVP_one (EVP_all ok' (compScope rfl rfl rfl rfl rfl rfl rfl) rfl (EVP_name ok' rfl rfl) (lines hz) (fun d hd' c a ok'' => have pd' := (hd d hd').plain; (EVP_pure ok'' g_is_number rfl rfl (EVsP_cons ok'' rfl (EVP_name ok'' rfl rfl) EVsP_nil) (num_def ok'' (Room.ble (by assumption) rfl) (by (first | assumption | rfl))) rfl rfl (fun _ => rfl))) (fun _ => rfl) (fun _ => rfl))
end Mine
end
section
open PySem PySem.W PyProof.Rows PySem.Calls
set_option maxRecDepth 100000
namespace Mine
def linears : List Str := [Str.ofString "linear_le", Str.ofString "linear_eq", Str.ofString "linear_ne"]
def strengths : List Str := [Str.ofString "bounds", Str.ofString "values"]
theorem G_LINEAR {C : Cx} : GIs C.K (.ref 15) (.tup (linears.map .str)) := .tup (vs := [_, _, _]) rfl (.cons (.str _ _) (.cons (.str _ _) (.cons (.str _ _) .nil)))
theorem G_STRENGTHS {C : Cx} : GIs C.K (.ref 16) (.tup (strengths.map .str)) := .tup (vs := [_, _]) rfl (.cons (.str _ _) (.cons (.str _ _) .nil))
def linHead : D → Bool | .tup (.str x :: _) => linears.any (· == x) | _ => false
def strHead : D → Bool | .tup (.str _ :: _) => true | .tup (_ :: _) => false | _ => true
def inStrengths : D → Bool | .str x => strengths.any (· == x) | _ => false
def fitsS (T : D → Int → Bool) (k : Str) (d : D) (m : Int) : Bool :=
  if k == Str.ofString "x" then isVar m d else if k == Str.ofString "X" then allT (isVar m) d else if k == Str.ofString "n" then isNum d else if k == Str.ofString "N" then isRow d
  else if k == Str.ofString "R" then allT isRow d else if k == Str.ofString "s" then inStrengths d else linHead d && T d m
def plainKind (k : Str) : Bool := k == Str.ofString "x" || (k == Str.ofString "X" || (k == Str.ofString "n" || (k == Str.ofString "N" || (k == Str.ofString "R" || k == Str.ofString "s"))))
def ToldC (C : Cx) (d : D) (m : Int) (b : Bool) : Prop := ∀ (φ : C.S) (R : D → C.S → Prop), (∀ r : Str, (r == Str.empty) = b → R (.str r) φ) → OP C φ (fun vs => call (.ref 69) vs) [d, .int m] R
theorem var_def {C : Cx} (ok : C.Ok) (room : Room C 4) {d : D} {m : Int} (p : plainD d = true) : Pure C 54 [d, .int m] (.bool (isVar m d)) := fun φ R r => by
  refine OP_def ok (f := 54) rfl rfl rfl rfl (names := [Str.ofString "thing", Str.ofString "many"]) (fun vals hv => bind2 (P := fun vals => bindArgs _ ⟨vals, []⟩ = pure (List.zip _ vals)) hv fun _ _ => rfl) rfl (locals_all rfl) room.dep rfl rfl rfl rfl rfl fun L ok' => ?_
  have rm := room_enter' ok' room
  refine EXR_ret ok' (EVP.cast (d' := .bool (isVar m d)) (EVP_and (y := isVar m d) ok' (EVP_pure ok' g_is_number rfl rfl (EVsP_cons ok' rfl (EVP_name ok' rfl rfl) EVsP_nil) (num_def ok' (Room.ble (by assumption) rfl) (by (first | assumption | rfl))) rfl rfl (fun _ => rfl)) fun h => ?_) (by cases d <;> rfl)) _ r
  obtain ⟨n, rfl⟩ := isNum_shape h
  exact EVP_one (EVP_chain ok' EVP_int (EVP_name ok' rfl rfl) (EVP_name ok' rfl rfl) (fun R r => OP_lei r) (fun R r => OP_lti r) rfl)
theorem fits_last {T : D → Int → Bool} {k : Str} {d : D} {m : Int} (h1 : ¬ k = Str.ofString "x") (h2 : ¬ k = Str.ofString "X") (h3 : ¬ k = Str.ofString "n") (h4 : ¬ k = Str.ofString "N") (h5 : ¬ k = Str.ofString "R") (h6 : ¬ k = Str.ofString "s") : fitsS T k d m = (linHead d && T d m) ∧ plainKind k = false := by
  unfold fitsS plainKind
  rw [beq_eq_false_iff_ne.mpr h1, beq_eq_false_iff_ne.mpr h2, beq_eq_false_iff_ne.mpr h3, beq_eq_false_iff_ne.mpr h4, beq_eq_false_iff_ne.mpr h5, beq_eq_false_iff_ne.mpr h6]
  exact ⟨rfl, rfl⟩
theorem fits_def {C : Cx} (ok : C.Ok) (room : Room C 6) {k : Str} {d : D} {m : Int} {T : D → Int → Bool} (p : Fine 3 d) (ps : plainKind k = false → strHead d = true ∧ (linHead d = true → ∀ L fd, (C.enter fd L 59).Ok → ToldC (C.enter fd L 59) d m (T d m))) :
    Pure C 59 [.str k, d, .int m] (.bool (fitsS T k d m)) := fun φ R r => by
  have pd := p.plain
  refine OP_def ok (f := 59) rfl rfl rfl rfl (names := [Str.ofString "kind", Str.ofString "thing", Str.ofString "many"]) (fun vals hv => bind3 (P := fun vals => bindArgs _ ⟨vals, []⟩ = pure (List.zip _ vals)) hv fun _ _ _ => rfl) rfl (fun n y hy => by simp only [List.mem_cons, List.not_mem_nil, or_false] at hy; rcases hy with rfl | rfl | rfl <;> first | exact .inl rfl | exact .inr ⟨rfl, rfl⟩) room.dep rfl rfl rfl rfl rfl (fun L ok' => ?_)
  have rm := room_enter' ok' room
  refine (show EXR (C.enter _ L 59) _ φ _ (.bool (fitsS T k d m)) from ?_) _ r
  clear r R
  refine EXR_eqs ok' rfl rfl (fun e => ?_) fun n1 => EXR_eqs ok' rfl rfl (fun e => ?_) fun n2 => EXR_eqs ok' rfl rfl (fun e => ?_) fun n3 => EXR_eqs ok' rfl rfl (fun e => ?_) fun n4 => EXR_eqs ok' rfl rfl (fun e => ?_) fun n5 => EXR_eqs ok' rfl rfl (fun e => ?_) fun n6 => ?_
  · subst e
    exact EXR_ret ok' (EVP_pure ok' g_is_var rfl rfl (EVsP_cons ok' rfl (EVP_name ok' rfl rfl) (EVsP_cons ok' rfl (EVP_name ok' rfl rfl) EVsP_nil)) (var_def ok' (Room.ble (by assumption) rfl) (by (first | assumption | rfl))) rfl rfl (fun _ => rfl))
  · subst e
    refine EXR_ret ok' (EVP.cast (d' := .bool (allT (isVar m) d)) (EVP_and (y := allT (isVar m) d) ok' (EVP_blt ok' n_isinstance b_isinstance (by decide) rfl (EVsP_cons ok' rfl (EVP_name ok' rfl rfl) (EVsP_cons ok' rfl (EVP_type ok' n_tuple b_tuple (by decide) rfl rfl) EVsP_nil)) (fun R r => OP_istup (by (first | assumption | rfl)) r) rfl rfl (fun _ _ => rfl) (fun _ => rfl)) fun h => ?_) (by cases d <;> rfl))
    obtain ⟨ds, rfl⟩ := isTup_shape h
    obtain ⟨hz, hd⟩ := p.tup
    exact EVP_one (EVP_all ok' (compScope rfl rfl rfl rfl rfl rfl rfl) rfl (EVP_name ok' rfl rfl) (lines hz) (fun d hd' c a ok'' => have pd' := (hd d hd').plain; (EVP_pure ok'' g_is_var rfl rfl (EVsP_cons ok'' rfl (EVP_name ok'' rfl rfl) (EVsP_cons ok'' rfl (EVP_name ok'' rfl rfl) EVsP_nil)) (var_def ok'' (Room.ble (by assumption) rfl) (by (first | assumption | rfl))) rfl rfl (fun _ => rfl))) (fun _ => rfl) (fun _ => rfl))
  · subst e
    exact EXR_ret ok' (EVP_pure ok' g_is_number rfl rfl (EVsP_cons ok' rfl (EVP_name ok' rfl rfl) EVsP_nil) (num_def ok' (Room.ble (by assumption) rfl) (by (first | assumption | rfl))) rfl rfl (fun _ => rfl))
  · subst e
    have p1 : Fine 1 d := p.down.down
    exact EXR_ret ok' (EVP_pure ok' g_is_row rfl rfl (EVsP_cons ok' rfl (EVP_name ok' rfl rfl) EVsP_nil) (row_def ok' (Room.ble (by assumption) rfl) (by (first | assumption | rfl))) rfl rfl (fun _ => rfl))
  · subst e
    refine EXR_ret ok' (EVP.cast (d' := .bool (allT isRow d)) (EVP_and (y := allT isRow d) ok' (EVP_blt ok' n_isinstance b_isinstance (by decide) rfl (EVsP_cons ok' rfl (EVP_name ok' rfl rfl) (EVsP_cons ok' rfl (EVP_type ok' n_tuple b_tuple (by decide) rfl rfl) EVsP_nil)) (fun R r => OP_istup (by (first | assumption | rfl)) r) rfl rfl (fun _ _ => rfl) (fun _ => rfl)) fun h => ?_) (by cases d <;> rfl))
    obtain ⟨ds, rfl⟩ := isTup_shape h
    obtain ⟨hz, hd⟩ := p.tup
    exact EVP_one (EVP_all ok' (compScope rfl rfl rfl rfl rfl rfl rfl) rfl (EVP_name ok' rfl rfl) (lines hz) (fun d hd' c a ok'' => have pd' : Fine 1 d := (hd d hd').down; (EVP_pure ok'' g_is_row rfl rfl (EVsP_cons ok'' rfl (EVP_name ok'' rfl rfl) EVsP_nil) (row_def ok'' (Room.ble (by assumption) rfl) (by (first | assumption | rfl))) rfl rfl (fun _ => rfl))) (fun _ => rfl) (fun _ => rfl))
  · subst e
    refine EXR_ret ok' (EVP.cast (d' := .bool (inStrengths d)) (EVP_and (y := inStrengths d) ok' (EVP_blt ok' n_isinstance b_isinstance (by decide) rfl (EVsP_cons ok' rfl (EVP_name ok' rfl rfl) (EVsP_cons ok' rfl (EVP_type ok' n_str b_str (by decide) rfl rfl) EVsP_nil)) (fun R r => OP_isstr (by (first | assumption | rfl)) r) rfl rfl (fun _ _ => rfl) (fun _ => rfl)) fun h => ?_) (by cases d <;> rfl))
    cases d <;> first | cases h | skip
    exact EVP_one (EVP_cmp ok' (EVP_name ok' rfl rfl) (EVP_gname ok' g_STRENGTHS G_STRENGTHS rfl rfl) (fun R r => OP_inT r) rfl)
  obtain ⟨ef, ek⟩ := fits_last (T := T) (d := d) (m := m) n1 n2 n3 n4 n5 n6
  obtain ⟨sh, hT⟩ := ps ek
  clear ps n1 n2 n3 n4 n5 n6
  rw [ef]
  refine EXR_ret ok' (EVP.cast (d' := .bool (linHead d && T d m)) (EVP_and (y := linHead d && T d m) ok' (EVP_blt ok' n_isinstance b_isinstance (by decide) rfl (EVsP_cons ok' rfl (EVP_name ok' rfl rfl) (EVsP_cons ok' rfl (EVP_type ok' n_tuple b_tuple (by decide) rfl rfl) EVsP_nil)) (fun R r => OP_istup (by (first | assumption | rfl)) r) rfl rfl (fun _ _ => rfl) (fun _ => rfl)) fun h => ?_) (by cases d <;> rfl))
  obtain ⟨ds, rfl⟩ := isTup_shape h
  have hz := p.tup.1
  refine EVP.cast (EVP_and (y := linHead (.tup ds) && T (.tup ds) m) ok' (EVP_cmp ok' (EVP_lenT ok' rfl rfl (EVP_name ok' rfl rfl) (by (first | exact len_ok rfl | exact le_ok (by assumption) (by rfl) | exact lt_ok (by assumption) (by rfl))) (fun _ => rfl)) EVP_int (fun R r => OP_gti r) rfl) fun h => ?_) (by
    cases ds with
    | nil => rfl
    | cons a b => rw [show decide ((0 : Int) < (((a :: b).length : Nat) : Int)) = true from decide_eq_true (by rw [List.length_cons]; omega), Bool.true_and])
  match ds, h, sh, hT with
  | .str x :: rest, _, _, hT =>
    exact EVP_and ok' (EVP_cmp ok' (EVP_at (k := 0) ok' (EVP_name ok' rfl rfl) rfl (by (first | rfl | assumption))) (EVP_gname ok' g_LINEAR G_LINEAR rfl rfl) (fun R r => OP_inT r) rfl) fun h => EVP_one fun R r' => EV_Compare ok' (EV_call_def ok' g_told_fault rfl rfl (EVs_cons ok' (EV_name ok' rfl (by first | exact .inl rfl | exact .inr (.inl rfl) | exact .inr (.inr rfl)) (EVs_cons ok' (EV_name ok' rfl (by first | exact .inl rfl | exact .inr (.inl rfl) | exact .inr (.inr rfl)) (EVs_nil ((hT h _ _ ok' _ _ fun r hr => (EV_str (OP_eqs (by rw [show (r == Str.ofString "") = T _ m from hr]; exact r')))))))))))
end Mine
end
section
open PySem PySem.W PyProof.Rows PySem.Calls
set_option maxRecDepth 100000
namespace Mine
def rowD (r : List Int) : D := .tup (r.map .int)
def within (lo hi : Int) (s : Int) : Bool := decide (lo ≤ s) && decide (s ≤ hi)
def machOk (states letters : Int) (rows : List (List Int)) (start : Int) (finals : List Int) : Bool :=
  ((rows.length : Int) == states) && (rows.all (fun r => (r.length : Int) == letters) && (rows.all (fun r => r.all (within 0 states)) && (start :: finals).all (within 1 states)))
def lenIs (n : Int) : D → Bool | .tup ds => (ds.length : Int) == n | _ => false
def within' (lo hi : Int) : D → Bool | .int s => within lo hi s | _ => false
theorem flat_len {states : Int} : ∀ l : List (List Int), (∀ r ∈ l, r.length ≤ 1000) → (l.flatMap fun r => r.map (within 0 states)).length ≤ l.length * 1000 := fun l => by
  induction l with
  | nil => intro _; exact Nat.le_refl _
  | cons a l ih =>
    intro hl
    have h1 := hl a (List.mem_cons_self ..)
    have h2 := ih fun r hr => hl r (List.mem_cons_of_mem _ hr)
    rw [List.flatMap_cons, List.length_append, List.length_map, List.length_cons]; omega
theorem size1000 {a b : Nat} (ha : a ≤ 1000 * 1000) (hb : b ≤ 1000) : a + b ≤ sizeLine := by
  have : sizeLine = 16777216 := sizeLine_eq
  omega
section
variable {C : Cx} {ρ : List (Str × D)} {φ : C.S}
/-- all([f for row in rows for x in row]) -/
theorem EVP_all2 (ok : C.Ok) {elt iter : Expr} {x y : Str} {px py pz pa pos cp : Pos} {scope : Scope} (sc : CompScope C scope x ρ) (hy : scope.names.lookup y = some .local) (hxy : x ≠ y) {rows : List (List Int)} {states : Int} (hk : C.env.kindOf (Str.ofString "all") = some .globalImplicit)
    (h1 : rows.length ≤ 1000) (h2 : ∀ r ∈ rows, r.length ≤ 1000) (h : EVP C ρ φ iter (.tup (rows.map rowD))) (hx : ∀ c a r, (C.comp scope c a).Ok → EVP (C.comp scope c a) ((x, rowD r) :: ρ) φ (.Name x pz) (rowD r))
    (hf : ∀ r n c a, (C.comp scope c a).Ok → EVP (C.comp scope c a) ((y, .int n) :: (x, rowD r) :: ρ) φ elt (.bool (within 0 states n)))
    (hs : ∀ x, foldedSetIterable iter C.env x = pure x)
    (hc : ∀ env, eval (.Call (.Name (Str.ofString "all") pa) [.ListComp elt [⟨.Name x px, iter, [], 0⟩, ⟨.Name y py, .Name x pz, [], 0⟩] scope pos] [] cp) env = (do callWith cp (← eval (.Name (Str.ofString "all") pa) env) [] (backTo cp (starEach [.ListComp elt [⟨.Name x px, iter, [], 0⟩, ⟨.Name y py, .Name x pz, [], 0⟩] scope pos] env)) (backToKw cp (keywordEach [] env)))) :
    EVP C ρ φ (.Call (.Name (Str.ofString "all") pa) [.ListComp elt [⟨.Name x px, iter, [], 0⟩, ⟨.Name y py, .Name x pz, [], 0⟩] scope pos] [] cp) (.bool (rows.all fun r => r.all (within 0 states))) := fun R r => by
  refine EV_call_blt ok n_all b_all (by decide) hk (EVs_cons ok (EV_comp2 ok sc hy hxy (SRC_tup ok (h _ ⟨_, rfl, ?_⟩)) hs (fun _ _ => rfl)) (star1 rfl)) rfl (star1 rfl) (fun _ _ => rfl) hc
  refine ⟨fun k outs φ' => φ = φ' ∧ outs = (((rows.take k).flatMap fun r => r.map (within 0 states))).map .bool, ⟨rfl, rfl⟩, fun k d outs φ' c a hd ⟨e1, e2⟩ ok'' => ?_, fun outs φ' ⟨e1, e2⟩ => ?_⟩
  · subst e1; subst e2
    rw [List.getElem?_map] at hd
    obtain ⟨ro, hro, rfl⟩ := Option.map_eq_some_iff.mp hd
    have hz := h2 ro (List.mem_of_getElem? hro)
    refine SRC_tup ok'' (hx c a ro ok'' _ ⟨_, rfl, fun j outs φ' => φ = φ' ∧ outs = (((rows.take k).flatMap fun r => r.map (within 0 states)) ++ (ro.take j).map (within 0 states)).map .bool, ⟨rfl, by rw [List.take_zero, List.map_nil, List.append_nil]⟩, fun j e outs φ' he ⟨e1, e2⟩ => ⟨?_, ?_⟩, fun outs φ' ⟨e1, e2⟩ => ⟨e1, ?_⟩⟩)
    · subst e2
      have := flat_len (states := states) (rows.take k) fun r hr => h2 r (List.mem_of_mem_take hr)
      have h3 : (rows.take k).length ≤ 1000 := Nat.le_trans (List.length_take_le' ..) h1
      rw [List.length_map, List.length_append, List.length_map]
      exact size1000 (Nat.le_trans this (Nat.mul_le_mul_right _ h3)) (Nat.le_trans (List.length_take_le' ..) hz)
    · subst e1; subst e2
      rw [List.getElem?_map] at he
      obtain ⟨n, hn', rfl⟩ := Option.map_eq_some_iff.mp he
      refine hf ro n c a ok'' _ ⟨rfl, ?_⟩
      rw [List.take_add_one, hn', List.map_append, List.map_append, List.map_append, List.map_append, List.append_assoc]; rfl
    · rw [e2, List.take_add_one, hro, List.length_map, List.take_length, List.flatMap_append]
      exact congrArg _ (congrArg _ (List.flatMap_singleton (fun r => r.map (within 0 states)) ro).symm)
  · subst e1; subst e2
    refine EVs_nil (OP_all ok ?_)
    have e3 : (((rows.take (rows.map rowD).length).flatMap fun r => r.map (within 0 states)).all id) = rows.all fun r => r.all (within 0 states) := by
      rw [List.length_map, List.take_length]
      simp [List.all_flatMap, List.all_map]
    rw [e3]
    exact r
end
theorem machine_def {C : Cx} (ok : C.Ok) (room : Room C 4) {nm xs : D} {states letters start : Int} {rows : List (List Int)} {finals : List Int} (h1 : rows.length ≤ 1000) (h2 : ∀ r ∈ rows, r.length ≤ 1000) (h3 : finals.length ≤ 1000)
    (φ : C.S) (R : D → C.S → Prop) (r : ∀ r : Str, (r == Str.empty) = machOk states letters rows start finals → R (.str r) φ) :
    OP C φ (fun vs => call (.ref 64) vs) [.tup [nm, xs, .int states, .int letters, .tup (rows.map rowD), .int start, .tup (finals.map .int)]] R := by
  refine OP_def ok (f := 64) rfl rfl rfl rfl (names := [Str.ofString "told"]) (fun vals hv => bind1 (P := fun vals => bindArgs _ ⟨vals, []⟩ = pure (List.zip _ vals)) hv fun _ => rfl) rfl (locals_all rfl) room.dep rfl rfl rfl rfl rfl (fun L ok' => ?_)
  refine (show EXB (C.enter _ L 64) _ φ _ (machOk states letters rows start finals) from ?_) _ r
  clear r R
  have hn : (rows.map rowD).length ≤ 1000 := by rw [List.length_map]; exact h1
  have hn' : (finals.map D.int).length ≤ 1000 := by rw [List.length_map]; exact h3
  refine EXB_unp' ok' (xs := [Str.ofString "states", Str.ofString "letters", Str.ofString "rows", Str.ofString "start", Str.ofString "finals"]) rfl (fun y hy => by simp only [List.mem_cons, List.not_mem_nil, or_false] at hy; rcases hy with rfl | rfl | rfl | rfl | rfl <;> first | exact .inl rfl | exact .inr ⟨rfl, rfl⟩)
    (EVP_from (k := 2) (ds := [nm, xs, .int states, .int letters, .tup (rows.map rowD), .int start, .tup (finals.map .int)]) ok' (EVP_name ok' rfl rfl) (by (first | exact len_ok rfl | exact le_ok (by assumption) (by rfl) | exact lt_ok (by assumption) (by rfl) | exact add_ok' rfl (by assumption) (by rfl))) EVP_int) rfl rfl rfl rfl rfl ?_
  have lm : ((rows.map rowD).length : Int) = rows.length := by rw [List.length_map]
  have e2 : (rows.map rowD).all (lenIs letters) = rows.all (fun r => (r.length : Int) == letters) := by
    rw [List.all_map]
    congr 1
    funext ro
    show (((ro.map D.int).length : Int) == letters) = _
    rw [List.length_map]
  have e4 : ([D.int start] ++ finals.map D.int).all (within' 1 states) = (start :: finals).all (within 1 states) := by
    rw [List.all_append, List.all_map]
    exact congrFun (congrArg _ (Bool.and_true _)) _
  have em : machOk states letters rows start finals = ((((rows.length : Int) == states) && (rows.map rowD).all (lenIs letters)) && ((rows.all fun r => r.all (within 0 states)) && (([D.int start] ++ finals.map D.int).all (within' 1 states) && true))) := by
    rw [e2, e4, Bool.and_true, Bool.and_assoc]; rfl
  rw [em]
  clear em e2 e4
  refine EXB_chk ok' (TRP.cast (TRP_or ok' (TRP_cmp ok' (EVP_lenT ok' rfl rfl (EVP_name ok' rfl rfl) (by (first | exact len_ok rfl | exact le_ok (by assumption) (by rfl) | exact lt_ok (by assumption) (by rfl) | exact add_ok' rfl (by assumption) (by rfl))) (fun _ => rfl)) (EVP_name ok' rfl rfl) (fun R r => OP_nei r) rfl) fun _ => TRP_not (TRP_plain (EVP_all ok' (compScope rfl rfl rfl rfl rfl rfl rfl) rfl (EVP_name ok' rfl rfl) (lines hn) (fun d hd' c a ok'' => ?_) (fun _ => rfl) (fun _ => rfl)) (fun _ => rfl))) (by rw [lm]; exact (Bool.not_and _ _).symm)) (fun _ => EVF_str rfl) fun _ =>
    EXB_chk ok' (TRP_not (TRP_plain (EVP_all2 ok' (compScope rfl rfl rfl rfl rfl rfl rfl) rfl (by decide) rfl h1 h2 (EVP_name ok' rfl rfl) (fun c a r ok'' => EVP_name ok'' rfl rfl) (fun r n c a ok'' => ?_) (fun _ => rfl) (fun _ => rfl)) (fun _ => rfl))) (fun _ => EVF_str rfl) fun _ =>
    EXB_chk ok' (TRP_not (TRP_plain (EVP_all ok' (compScope rfl rfl rfl rfl rfl rfl rfl) rfl (EVP_addT ok' (EVP_Tuple ok' (EVsP_cons ok' rfl (EVP_name ok' rfl rfl) EVsP_nil) (by (first | exact len_ok rfl | exact le_ok (by assumption) (by rfl) | exact lt_ok (by assumption) (by rfl) | exact add_ok' rfl (by assumption) (by rfl)))) (EVP_name ok' rfl rfl) (by (first | exact len_ok rfl | exact le_ok (by assumption) (by rfl) | exact lt_ok (by assumption) (by rfl) | exact add_ok' rfl (by assumption) (by rfl)))) (by rw [List.length_append]; exact add_ok' rfl hn' rfl) (fun d hd' c a ok'' => ?_) (fun _ => rfl) (fun _ => rfl)) (fun _ => rfl))) (fun _ => EVF_str rfl) fun _ =>
    EXB_ret ok' (EVF_str rfl)
  · obtain ⟨ro, hro, rfl⟩ := List.mem_map.mp hd'
    have hz' : (ro.map D.int).length ≤ 1000 := by rw [List.length_map]; exact h2 ro hro
    exact EVP_cmp ok'' (EVP_lenT ok'' rfl rfl (EVP_name ok'' rfl rfl) (by (first | exact len_ok rfl | exact le_ok (by assumption) (by rfl) | exact lt_ok (by assumption) (by rfl) | exact add_ok' rfl (by assumption) (by rfl))) (fun _ => rfl)) (EVP_name ok'' rfl rfl) (fun R r => OP_eqi r) rfl
  · exact EVP_chain ok'' EVP_int (EVP_name ok'' rfl rfl) (EVP_name ok'' rfl rfl) (fun R r => OP_lei r) (fun R r => OP_lei r) rfl
  · obtain ⟨n, rfl⟩ : ∃ n, d = .int n := by
      rcases List.mem_append.mp hd' with h | h
      · exact ⟨start, List.mem_singleton.mp h⟩
      · obtain ⟨n, _, rfl⟩ := List.mem_map.mp h; exact ⟨n, rfl⟩
    exact EVP_chain ok'' EVP_int (EVP_name ok'' rfl rfl) (EVP_name ok'' rfl rfl) (fun R r => OP_lei r) (fun R r => OP_lei r) rfl
end Mine
end
section
open PySem PySem.W PyProof.Rows PySem.Calls
set_option maxRecDepth 100000
namespace Mine
def formTab : List (Str × Str) := [(Str.ofString "linear_le", Str.ofString "NXn"), (Str.ofString "linear_eq", Str.ofString "NXn"), (Str.ofString "linear_ne", Str.ofString "NXn"), (Str.ofString "times", Str.ofString "xxx"), (Str.ofString "div", Str.ofString "xxx"), (Str.ofString "mod", Str.ofString "xxx"), (Str.ofString "abs", Str.ofString "xx"), (Str.ofString "max", Str.ofString "Xx"), (Str.ofString "min", Str.ofString "Xx"), (Str.ofString "element", Str.ofString "xXx"), (Str.ofString "element_of", Str.ofString "xNx"), (Str.ofString "table", Str.ofString "XR"), (Str.ofString "all_different", Str.ofString "Xs"), (Str.ofString "count", Str.ofString "Xnx"), (Str.ofString "nvalue", Str.ofString "Xx"), (Str.ofString "cardinality", Str.ofString "XNNN"), (Str.ofString "cumulative", Str.ofString "XNNn"), (Str.ofString "disjunctive", Str.ofString "XN"), (Str.ofString "circuit", Str.ofString "X"), (Str.ofString "inverse", Str.ofString "XX"), (Str.ofString "regular", Str.ofString "XnnRnN"), (Str.ofString "lex_le", Str.ofString "XX"), (Str.ofString "lex_lt", Str.ofString "XX"), (Str.ofString "increasing", Str.ofString "X"), (Str.ofString "precede", Str.ofString "nnX"), (Str.ofString "clause", Str.ofString "XX"), (Str.ofString "and", Str.ofString "Xx"), (Str.ofString "or", Str.ofString "Xx"), (Str.ofString "xor", Str.ofString "xxx"), (Str.ofString "reif", Str.ofString "xt"), (Str.ofString "imp", Str.ofString "xt")]
def pairTab : List (Str × List (Nat × Nat)) := [(Str.ofString "linear_le", [(1, 2)]), (Str.ofString "linear_eq", [(1, 2)]), (Str.ofString "linear_ne", [(1, 2)]), (Str.ofString "cardinality", [(2, 3), (2, 4)]), (Str.ofString "cumulative", [(1, 2), (1, 3)]), (Str.ofString "disjunctive", [(1, 2)]), (Str.ofString "inverse", [(1, 2)])]
def formD : List (Str × D) := formTab.map fun p => (p.1, D.str p.2)
def pairD : List (Str × D) := pairTab.map fun p => (p.1, D.tup (p.2.map fun q => D.tup [.int q.1, .int q.2]))
theorem ents_FORMS {C : Cx} : ∃ es n, C.K.lookup 17 = some ⟨.type "dict", none, .dict (List.toArray es) n, #[]⟩ ∧ Ents C.w.params C.K es formD := ⟨_, _, rfl, .cons (.str _ _) (.cons (.str _ _) (.cons (.str _ _) (.cons (.str _ _) (.cons (.str _ _) (.cons (.str _ _) (.cons (.str _ _) (.cons (.str _ _) (.cons (.str _ _) (.cons (.str _ _) (.cons (.str _ _) (.cons (.str _ _) (.cons (.str _ _) (.cons (.str _ _) (.cons (.str _ _) (.cons (.str _ _) (.cons (.str _ _) (.cons (.str _ _) (.cons (.str _ _) (.cons (.str _ _) (.cons (.str _ _) (.cons (.str _ _) (.cons (.str _ _) (.cons (.str _ _) (.cons (.str _ _) (.cons (.str _ _) (.cons (.str _ _) (.cons (.str _ _) (.cons (.str _ _) (.cons (.str _ _) (.cons (.str _ _) (.nil)))))))))))))))))))))))))))))))⟩
theorem ents_PAIRS {C : Cx} : ∃ es n, C.K.lookup 19 = some ⟨.type "dict", none, .dict (List.toArray es) n, #[]⟩ ∧ Ents C.w.params C.K es pairD := ⟨_, _, rfl, .cons (.tup (vs := [_]) rfl (.cons (.tup (vs := [_, _]) rfl (.cons (.int _ _) (.cons (.int _ _) .nil))) (.nil))) (.cons (.tup (vs := [_]) rfl (.cons (.tup (vs := [_, _]) rfl (.cons (.int _ _) (.cons (.int _ _) .nil))) (.nil))) (.cons (.tup (vs := [_]) rfl (.cons (.tup (vs := [_, _]) rfl (.cons (.int _ _) (.cons (.int _ _) .nil))) (.nil))) (.cons (.tup (vs := [_, _]) rfl (.cons (.tup (vs := [_, _]) rfl (.cons (.int _ _) (.cons (.int _ _) .nil))) (.cons (.tup (vs := [_, _]) rfl (.cons (.int _ _) (.cons (.int _ _) .nil))) (.nil)))) (.cons (.tup (vs := [_, _]) rfl (.cons (.tup (vs := [_, _]) rfl (.cons (.int _ _) (.cons (.int _ _) .nil))) (.cons (.tup (vs := [_, _]) rfl (.cons (.int _ _) (.cons (.int _ _) .nil))) (.nil)))) (.cons (.tup (vs := [_]) rfl (.cons (.tup (vs := [_, _]) rfl (.cons (.int _ _) (.cons (.int _ _) .nil))) (.nil))) (.cons (.tup (vs := [_]) rfl (.cons (.tup (vs := [_, _]) rfl (.cons (.int _ _) (.cons (.int _ _) .nil))) (.nil))) (.nil)))))))⟩
end Mine
end
section
open PySem PySem.W PyProof.Rows PySem.Calls
set_option maxRecDepth 100000
namespace Mine
def lenD : D → Int | .tup ds => ds.length | _ => 0
def intD : D → Int | .int n => n | _ => 0
def tupD : D → List D | .tup ds => ds | _ => []
def intsD (d : D) : List Int := (tupD d).map intD
def nn (d : D) : Bool := (intsD d).all fun n => decide (0 ≤ n)
def nn1 (d : D) : Bool := decide (0 ≤ intD d)
def at' (t : List D) (i : Nat) : D := (t[i]?).getD .none
def fitAll (T : D → Int → Bool) (form : Str) (t : List D) (m : Int) : Bool := (List.range form.cps.size).all fun j => fitsS T ⟨#[form.cps.getD j 0]⟩ (at' t (j + 1)) m
def pairsOk (name : Str) (t : List D) : Bool := ((pairTab.lookup name).getD []).all fun q => lenD (at' t q.1) == lenD (at' t q.2)
def cumOk (name : Str) (t : List D) : Bool := !(name == Str.ofString "cumulative") || (nn (at' t 2) && (nn (at' t 3) && nn1 (at' t 4)))
def disOk (name : Str) (t : List D) : Bool := !(name == Str.ofString "disjunctive") || nn (at' t 2)
def mmOk (name : Str) (t : List D) : Bool := !([Str.ofString "max", Str.ofString "min"].any (· == name)) || !(lenD (at' t 1) == 0)
def tabOk (name : Str) (t : List D) : Bool := !(name == Str.ofString "table") || (tupD (at' t 2)).all fun r => lenD r == lenD (at' t 1)
def regOk (name : Str) (t : List D) : Bool := !(name == Str.ofString "regular") || machOk (intD (at' t 2)) (intD (at' t 3)) ((tupD (at' t 4)).map intsD) (intD (at' t 5)) (intsD (at' t 6))
def okS (T : D → Int → Bool) (d : D) (m : Int) : Bool := match d with
  | .tup (.str name :: rest) => match formTab.lookup name with
    | none => false
    | some form => (((rest.length + 1 : Nat) : Int) == form.cps.size + 1) && (fitAll T form (.str name :: rest) m && (pairsOk name (.str name :: rest) && (cumOk name (.str name :: rest) && (disOk name (.str name :: rest) &&
      (mmOk name (.str name :: rest) && (tabOk name (.str name :: rest) && regOk name (.str name :: rest)))))))
  | _ => false

theorem formD_lookup (x : Str) : formD.lookup x = (formTab.lookup x).map D.str := by
  unfold formD
  induction formTab with
  | nil => rfl
  | cons p r ih =>
    rw [List.map_cons, List.lookup_cons, List.lookup_cons, ih]
    cases x == p.1 <;> rfl
theorem pairD_lookup (x : Str) : pairD.lookup x = (pairTab.lookup x).map fun qs => D.tup (qs.map fun q => D.tup [.int q.1, .int q.2]) := by
  unfold pairD
  induction pairTab with
  | nil => rfl
  | cons p r ih =>
    rw [List.map_cons, List.lookup_cons, List.lookup_cons, ih]
    cases x == p.1 <;> rfl
theorem nonempty_str {r : Str} (h : 0 < r.length) : (r == Str.empty) = false := by
  rw [beq_eq_false_iff_ne]
  intro e
  rw [e] at h
  exact absurd h (by decide)
theorem form_small : ∀ p ∈ formTab, p.1.length ≤ 20 ∧ p.2.cps.size ≤ 6 := by decide
theorem nums_shape : ∀ {ds : List D}, ds.all isNum = true → ∃ ns : List Int, ds = ns.map .int
  | [], _ => ⟨[], rfl⟩
  | d :: ds, h => by
    rw [List.all_cons, Bool.and_eq_true] at h
    obtain ⟨n, rfl⟩ := isNum_shape h.1
    obtain ⟨ns, rfl⟩ := nums_shape h.2
    exact ⟨n :: ns, rfl⟩
theorem isRow_shape {d : D} (h : isRow d = true) : ∃ ns, d = rowD ns := by
  cases d <;> first | cases h | skip
  obtain ⟨ns, rfl⟩ := nums_shape h
  exact ⟨ns, rfl⟩
theorem isVar_shape {m : Int} {d : D} (h : isVar m d = true) : ∃ n, d = .int n ∧ 0 ≤ n ∧ n < m := by
  cases d <;> first | cases h | skip
  unfold isVar at h
  rw [Bool.and_eq_true, decide_eq_true_iff, decide_eq_true_iff] at h
  exact ⟨_, rfl, h⟩
theorem vars_shape {m : Int} : ∀ {ds : List D}, ds.all (isVar m) = true → ∃ ns : List Int, ds = ns.map .int
  | [], _ => ⟨[], rfl⟩
  | d :: ds, h => by
    rw [List.all_cons, Bool.and_eq_true] at h
    obtain ⟨n, rfl, _⟩ := isVar_shape h.1
    obtain ⟨ns, rfl⟩ := vars_shape h.2
    exact ⟨n :: ns, rfl⟩
theorem isVars_shape {m : Int} {d : D} (h : allT (isVar m) d = true) : ∃ ns, d = rowD ns := by
  cases d <;> first | cases h | skip
  obtain ⟨ns, rfl⟩ := vars_shape h
  exact ⟨ns, rfl⟩
theorem rows_shape : ∀ {ds : List D}, ds.all isRow = true → ∃ rs : List (List Int), ds = rs.map rowD
  | [], _ => ⟨[], rfl⟩
  | d :: ds, h => by
    rw [List.all_cons, Bool.and_eq_true] at h
    obtain ⟨n, rfl⟩ := isRow_shape h.1
    obtain ⟨ns, rfl⟩ := rows_shape h.2
    exact ⟨n :: ns, rfl⟩
theorem isRows_shape {d : D} (h : allT isRow d = true) : ∃ rs : List (List Int), d = .tup (rs.map rowD) := by
  cases d <;> first | cases h | skip
  obtain ⟨ns, rfl⟩ := rows_shape h
  exact ⟨ns, rfl⟩
theorem intsD_row (ns : List Int) : intsD (rowD ns) = ns := by
  unfold intsD rowD tupD
  rw [List.map_map]
  exact (List.map_congr_left fun _ _ => rfl).trans (List.map_id _)
theorem fitAll_at {T : D → Int → Bool} {form : Str} {t : List D} {m : Int} (h : fitAll T form t m = true) (j : Nat) (hj : j < form.cps.size) : fitsS T ⟨#[form.cps.getD j 0]⟩ (at' t (j + 1)) m = true :=
  List.all_eq_true.mp h j (List.mem_range.mpr hj)
theorem pair_kinds : ∀ p ∈ pairTab, ∀ q ∈ p.2, ∀ f ∈ formTab, f.1 = p.1 → (0 < q.1 ∧ q.1 ≤ f.2.cps.size ∧ (f.2.cps.getD (q.1 - 1) 0 = 88 ∨ f.2.cps.getD (q.1 - 1) 0 = 78)) ∧ (0 < q.2 ∧ q.2 ≤ f.2.cps.size ∧ (f.2.cps.getD (q.2 - 1) 0 = 88 ∨ f.2.cps.getD (q.2 - 1) 0 = 78)) := by decide
theorem fits_tup {T : D → Int → Bool} {k : Nat} {d : D} {m : Int} (hk : k = 88 ∨ k = 78) (h : fitsS T ⟨#[k]⟩ d m = true) : ∃ ns, d = rowD ns := by
  rcases hk with rfl | rfl
  · exact isVars_shape h
  · exact isRow_shape h
theorem at_of {t : List D} {i : Nat} {d : D} (h : t[i]? = some d) : at' t i = d := by unfold at'; rw [h]; rfl
theorem at_some {t : List D} {i : Nat} (h : i < t.length) : t[i]? = some (at' t i) := by
  unfold at'; rw [List.getElem?_eq_getElem h]; rfl
end Mine
end
section
open PySem PySem.W PyProof.Rows PySem.Calls
set_option maxRecDepth 100000
namespace Mine
theorem okS_cons {T : D → Int → Bool} {name form : Str} {rest : List D} {m : Int} (h : formTab.lookup name = some form) : okS T (.tup (.str name :: rest)) m = ((((rest.length + 1 : Nat) : Int) == form.cps.size + 1) && (fitAll T form (.str name :: rest) m && (pairsOk name (.str name :: rest) && (cumOk name (.str name :: rest) && (disOk name (.str name :: rest) &&
      (mmOk name (.str name :: rest) && (tabOk name (.str name :: rest) && regOk name (.str name :: rest)))))))) := by
  simp only [okS, h]
theorem nn_row {a : List Int} : nn (rowD a) = a.all fun n => decide (0 ≤ n) := by unfold nn; rw [intsD_row]
theorem min_key {a b : List Int} {c mn : Int} (hm : mn ∈ a ++ b ++ [c]) (hall : ∀ x ∈ a ++ b ++ [c], mn ≤ x) : decide (mn < 0) = !(nn (rowD a) && (nn (rowD b) && nn1 (D.int c))) := by
  rw [nn_row, nn_row]
  show decide (mn < 0) = !(_ && (_ && decide (0 ≤ c)))
  by_cases hneg : mn < 0
  · rw [decide_eq_true hneg]
    symm
    rw [Bool.not_eq_true', Bool.eq_false_iff]
    intro h
    rw [Bool.and_eq_true, Bool.and_eq_true, List.all_eq_true, List.all_eq_true, decide_eq_true_iff] at h
    obtain ⟨h1, h2, h3⟩ := h
    rw [List.mem_append, List.mem_append, List.mem_singleton] at hm
    rcases hm with (hm | hm) | hm
    · have := h1 mn hm; rw [decide_eq_true_iff] at this; omega
    · have := h2 mn hm; rw [decide_eq_true_iff] at this; omega
    · omega
  · rw [decide_eq_false hneg]
    symm
    rw [Bool.not_eq_false', Bool.and_eq_true, Bool.and_eq_true, List.all_eq_true, List.all_eq_true, decide_eq_true_iff]
    refine ⟨fun n hn => ?_, fun n hn => ?_, ?_⟩
    · have := hall n (List.mem_append_left _ (List.mem_append_left _ hn)); rw [decide_eq_true_iff]; omega
    · have := hall n (List.mem_append_left _ (List.mem_append_right _ hn)); rw [decide_eq_true_iff]; omega
    · have := hall c (List.mem_append_right _ (List.mem_singleton.mpr rfl)); omega
theorem min_key0 {a : List Int} {mn : Int} (hm : mn ∈ a ++ [0]) (hall : ∀ x ∈ a ++ [0], mn ≤ x) : decide (mn < 0) = !(nn (rowD a)) := by
  have := min_key (a := a) (b := []) (c := 0) (mn := mn) (by simpa using hm) (by simpa using hall)
  rw [this]
  show (!(nn (rowD a) && (true && true))) = _
  simp
theorem last_one : ∀ (t : List D) (n : Nat), t.length = n + 1 → t.drop n = [at' t n]
  | [], n, h => by cases h
  | [a], 0, h => rfl
  | a :: b :: c, 0, h => by cases h
  | a :: t, n + 1, h => by
    rw [List.drop_succ_cons, last_one t n (by simpa using h)]
    rfl
theorem min_get {ns : List Int} {m : Int} (h : m ∈ ns) (k : ∀ a ∈ ns, m ≤ a) : m = (ns.min?).getD 0 := by
  rw [List.min?_eq_some_iff.mpr ⟨h, k⟩]; rfl
theorem min_ok {ns : List Int} (h : 0 < ns.length) : (ns.min?).getD 0 ∈ ns ∧ ∀ a ∈ ns, (ns.min?).getD 0 ≤ a := by
  cases e : ns.min? with
  | none => rw [List.min?_eq_none_iff.mp e] at h; cases h
  | some m => exact List.min?_eq_some_iff.mp e
section
variable {C : Cx} {ρ : List (Str × D)} {φ : C.S}
theorem EVP_min (ok : C.Ok) {px pos : Pos} {e : Expr} {ns : List Int} (hk : C.env.kindOf (Str.ofString "min") = some .globalImplicit) (hs : plainE e = true) (h : EVP C ρ φ e (.tup (ns.map .int))) (hn : 0 < ns.length)
    (hc : ∀ env, eval (.Call (.Name (Str.ofString "min") px) [e] [] pos) env = (do callWith pos (← eval (.Name (Str.ofString "min") px) env) [] (backTo pos (starEach [e] env)) (backToKw pos (keywordEach [] env)))) : EVP C ρ φ (.Call (.Name (Str.ofString "min") px) [e] [] pos) (.int ((ns.min?).getD 0)) :=
  EVP_blt ok n_min b_min (by decide) hk (EVsP_cons ok hs h EVsP_nil) (fun R r => OP_minT ok hn fun m h k => by rw [min_get h k]; exact r) rfl hs (fun _ _ => rfl) hc
theorem EVP_ixG (ok : C.Ok) {e n : Expr} {pos : Pos} {a : Addr} {es : List DictEntry} {m : Nat} {tab : List (Str × D)} {x : Str} {y : D} (hl : C.K.lookup a = some ⟨.type "dict", none, .dict es.toArray m, #[]⟩) (he : Ents C.w.params C.K es tab) (h : EVP C ρ φ e (.ref a)) (g : EVP C ρ φ n (.str x)) (hy : tab.lookup x = some y)
    (hs : ∀ o i, subscripted n false o i = operate [o, i] (getItem o i)) : EVP C ρ φ (.Subscript e n pos) y := fun R r => EV_itemG ok hl he (h _ ⟨rfl, g _ ⟨_, _, rfl, hy, r⟩⟩) hs
end
/-- what is known of a told constraint whose arguments fit -/
structure Shape (T : D → Int → Bool) (name form : Str) (rest : List D) (m : Int) : Prop where
  hl : formTab.lookup name = some form
  hlen : rest.length = form.cps.size
  fine : ∀ x ∈ D.str name :: rest, Fine 3 x
  fit : ∀ j, j < form.cps.size → fitsS T ⟨#[form.cps.getD j 0]⟩ (at' (.str name :: rest) (j + 1)) m = true
section
variable {T : D → Int → Bool} {name form : Str} {rest : List D} {m : Int}
theorem Shape.at (h : Shape T name form rest m) {nm fm : Str} (e : name = nm) (hf : formTab.lookup nm = some fm) (j : Nat) (hj : Nat.blt j fm.cps.size = true) : (D.str name :: rest)[j + 1]? = some (at' (.str name :: rest) (j + 1)) ∧ Fine 3 (at' (.str name :: rest) (j + 1)) ∧ fitsS T ⟨#[fm.cps.getD j 0]⟩ (at' (.str name :: rest) (j + 1)) m = true := by
  subst e
  have e := h.hl
  rw [hf] at e; cases e
  have hj := Nat.le_of_ble_eq_true hj
  have hs := at_some (t := D.str name :: rest) (i := j + 1) (by rw [List.length_cons, h.hlen]; exact Nat.succ_lt_succ hj)
  exact ⟨hs, h.fine _ (List.mem_of_getElem? hs), h.fit j hj⟩
theorem Shape.row (h : Shape T name form rest m) {nm fm : Str} (e : name = nm) (hf : formTab.lookup nm = some fm) (j : Nat) (hj : Nat.blt j fm.cps.size = true) (hk : fm.cps.getD j 0 = 78) : ∃ ns : List Int, at' (.str name :: rest) (j + 1) = rowD ns ∧ (D.str name :: rest)[j + 1]? = some (.tup (ns.map .int)) ∧ ns.length ≤ 1000 := by
  obtain ⟨h1, h2, h3⟩ := h.at e hf j hj
  rw [hk] at h3
  obtain ⟨ns, e⟩ := isRow_shape h3
  rw [e] at h1 h2
  have := h2.tup.1
  rw [List.length_map] at this
  exact ⟨ns, e, h1, this⟩
theorem Shape.vars (h : Shape T name form rest m) {nm fm : Str} (e : name = nm) (hf : formTab.lookup nm = some fm) (j : Nat) (hj : Nat.blt j fm.cps.size = true) (hk : fm.cps.getD j 0 = 88) : ∃ ns : List Int, at' (.str name :: rest) (j + 1) = rowD ns ∧ (D.str name :: rest)[j + 1]? = some (.tup (ns.map .int)) ∧ ns.length ≤ 1000 := by
  obtain ⟨h1, h2, h3⟩ := h.at e hf j hj
  rw [hk] at h3
  obtain ⟨ns, e⟩ := isVars_shape h3
  rw [e] at h1 h2
  have := h2.tup.1
  rw [List.length_map] at this
  exact ⟨ns, e, h1, this⟩
theorem Shape.num (h : Shape T name form rest m) {nm fm : Str} (e : name = nm) (hf : formTab.lookup nm = some fm) (j : Nat) (hj : Nat.blt j fm.cps.size = true) (hk : fm.cps.getD j 0 = 110) : ∃ n : Int, at' (.str name :: rest) (j + 1) = .int n ∧ (D.str name :: rest)[j + 1]? = some (.int n) := by
  obtain ⟨h1, h2, h3⟩ := h.at e hf j hj
  rw [hk] at h3
  obtain ⟨n, e⟩ := isNum_shape h3
  rw [e] at h1
  exact ⟨n, e, h1⟩
theorem Shape.rows (h : Shape T name form rest m) {nm fm : Str} (e : name = nm) (hf : formTab.lookup nm = some fm) (j : Nat) (hj : Nat.blt j fm.cps.size = true) (hk : fm.cps.getD j 0 = 82) : ∃ rs : List (List Int), at' (.str name :: rest) (j + 1) = .tup (rs.map rowD) ∧ (D.str name :: rest)[j + 1]? = some (.tup (rs.map rowD)) ∧ rs.length ≤ 1000 ∧ ∀ r ∈ rs, r.length ≤ 1000 := by
  obtain ⟨h1, h2, h3⟩ := h.at e hf j hj
  rw [hk] at h3
  obtain ⟨rs, e⟩ := isRows_shape h3
  rw [e] at h1 h2
  have := h2.tup
  refine ⟨rs, e, h1, by have := this.1; rwa [List.length_map] at this, fun r hr => ?_⟩
  have := (this.2 _ (List.mem_map_of_mem hr)).tup.1
  rwa [List.length_map] at this
theorem cum_key {a b : List Int} {c : Int} (e : at' (.str name :: rest) 2 = rowD a) (e' : at' (.str name :: rest) 3 = rowD b) (e'' : at' (.str name :: rest) 4 = .int c) : decide (((a ++ b ++ [c]).min?).getD 0 < 0) = !(nn (at' (.str name :: rest) 2) && (nn (at' (.str name :: rest) 3) && nn1 (at' (.str name :: rest) 4))) := by
  obtain ⟨h1, h2⟩ := min_ok (ns := a ++ b ++ [c]) (by rw [List.length_append]; exact Nat.succ_pos _)
  rw [e, e', e'']
  exact min_key h1 h2
theorem dis_key {a : List Int} (e : at' (.str name :: rest) 2 = rowD a) : decide (((a ++ [0]).min?).getD 0 < 0) = !(nn (at' (.str name :: rest) 2)) := by
  obtain ⟨h1, h2⟩ := min_ok (ns := a ++ [0]) (by rw [List.length_append]; exact Nat.succ_pos _)
  rw [e]
  exact min_key0 h1 h2
theorem last_at {fm : Str} (h : Shape T name form rest m) (e : name = Str.ofString "cumulative") {c : Int} (h4 : (D.str name :: rest)[4]? = some (.int c)) : (D.str name :: rest).drop 4 = [D.int c] := by
  subst e
  have e := h.hl
  cases e
  have hl := h.hlen
  rw [last_one (D.str _ :: rest) 4 (by rw [List.length_cons, hl]; rfl), at_of h4]
end
def headOk : D → Bool | .tup (.str n :: _) => (formTab.lookup n).isSome | _ => false
theorem head_eq {n : Str} {rest : List D} : headOk (.tup (.str n :: rest)) = (formTab.lookup n).isSome := rfl
theorem head_shape {d : D} (h : headOk d = true) : ∃ name rest form, d = .tup (.str name :: rest) ∧ formTab.lookup name = some form := by
  match d, h with
  | .tup (.str n :: rest), h =>
    cases e : formTab.lookup n with
    | none => rw [head_eq, e] at h; cases h
    | some form => exact ⟨n, rest, form, rfl, e⟩
theorem head_ok {T : D → Int → Bool} {d : D} {m : Int} : (headOk d && okS T d m) = okS T d m := by
  cases h : headOk d with
  | true => rfl
  | false =>
    match d, h with
    | .tup (.str n :: rest), h =>
      cases e : formTab.lookup n with
      | none => simp only [okS, e]; rfl
      | some form => rw [head_eq, e] at h; cases h
    | .tup [], _ | .none, _ | .bool _, _ | .int _, _ | .str _, _ | .lst _, _ | .ref _, _ | .typ _, _ => rfl
    | .tup (.none :: _), _ | .tup (.bool _ :: _), _ | .tup (.int _ :: _), _ | .tup (.tup _ :: _), _ | .tup (.lst _ :: _), _ | .tup (.ref _ :: _), _ | .tup (.typ _ :: _), _ => rfl
theorem all_range {α : Type} {qs : List α} {f : α → Bool} : ((List.range qs.length).all fun k => (qs[k]?).all f) = qs.all f := by
  rw [Bool.eq_iff_iff, List.all_eq_true, List.all_eq_true]
  constructor
  · intro h x hx
    obtain ⟨k, hk, e⟩ := List.mem_iff_getElem.mp hx
    have := h k (List.mem_range.mpr hk)
    rw [List.getElem?_eq_getElem hk, e] at this
    exact this
  · intro h k hk
    have hk := List.mem_range.mp hk
    rw [List.getElem?_eq_getElem hk]
    exact h _ (List.getElem_mem hk)
theorem num_abs {n : Nat} (h : n ≤ 1000) : ((n : Int)).natAbs < 10 ^ 6 ∧ ((n : Int) + 1).natAbs < 10 ^ 6 ∧ ((n : Int) - 1).natAbs < 10 ^ 6 := by omega
theorem pair_shape {T : D → Int → Bool} {name form : Str} {rest : List D} {m : Int} (sh : Shape T name form rest m) {q : Nat × Nat} (hq : q ∈ (pairTab.lookup name).getD []) : ∃ xs ys : List Int, (D.str name :: rest)[((q.1 : Nat) : Int).toNat]? = some (.tup (xs.map .int)) ∧ (D.str name :: rest)[((q.2 : Nat) : Int).toNat]? = some (.tup (ys.map .int)) ∧
    (xs.map D.int).length ≤ 1000 ∧ (ys.map D.int).length ≤ 1000 ∧ q.1 ≤ 1000 ∧ q.2 ≤ 1000 ∧ lenD (at' (.str name :: rest) q.1) = (xs.map D.int).length ∧ lenD (at' (.str name :: rest) q.2) = (ys.map D.int).length := by
  have one : ∀ i : Nat, 0 < i → i ≤ form.cps.size → (form.cps.getD (i - 1) 0 = 88 ∨ form.cps.getD (i - 1) 0 = 78) → ∃ xs : List Int, (D.str name :: rest)[((i : Nat) : Int).toNat]? = some (.tup (xs.map .int)) ∧ (xs.map D.int).length ≤ 1000 ∧ lenD (at' (.str name :: rest) i) = (xs.map D.int).length := fun i h0 h1 hk => by
    obtain ⟨j, rfl⟩ : ∃ j, i = j + 1 := ⟨i - 1, by omega⟩
    obtain ⟨xs, e⟩ := fits_tup hk (sh.fit j h1)
    have hs := at_some (t := D.str name :: rest) (i := j + 1) (by rw [List.length_cons, sh.hlen]; exact Nat.succ_le_succ h1)
    have hf := sh.fine _ (List.mem_of_getElem? hs)
    rw [e] at hs hf
    exact ⟨xs, hs, hf.tup.1, by rw [e]; rfl⟩
  cases hpl : pairTab.lookup name with
  | none => rw [hpl] at hq; cases hq
  | some qs =>
    rw [hpl] at hq
    obtain ⟨⟨a1, a2, a3⟩, ⟨b1, b2, b3⟩⟩ := pair_kinds _ (mem_of_lookup hpl) q hq _ (mem_of_lookup sh.hl) rfl
    have hz : form.cps.size ≤ 6 := (form_small _ (mem_of_lookup sh.hl)).2
    obtain ⟨xs, x1, x2, x3⟩ := one q.1 a1 a2 a3
    obtain ⟨ys, y1, y2, y3⟩ := one q.2 b1 b2 b3
    exact ⟨xs, ys, x1, y1, x2, y2, Nat.le_trans a2 (Nat.le_trans hz (by decide)), Nat.le_trans b2 (Nat.le_trans hz (by decide)), x3, y3⟩
set_option maxHeartbeats 4000000 in
theorem told_gen {C : Cx} (ok : C.Ok) (room : Room C 8) {d : D} {m : Int} {T : D → Int → Bool} (p : Fine 4 d)
    (hF : ∀ name form rest, d = .tup (.str name :: rest) → formTab.lookup name = some form → rest.length = form.cps.size → ∀ j, j < form.cps.size → ∀ L fd, (C.enter fd L 69).Ok → Room (C.enter fd L 69) 7 →
      Pure (C.enter fd L 69) 59 [.str ⟨#[form.cps.getD j 0]⟩, at' (.str name :: rest) (j + 1), .int m] (.bool (fitsS T ⟨#[form.cps.getD j 0]⟩ (at' (.str name :: rest) (j + 1)) m))) : ToldC C d m (okS T d m) := fun φ R r => by
  have pd := p.plain
  obtain ⟨hFs, hFn, hFl, hFe⟩ := ents_FORMS (C := C)
  obtain ⟨hPs, hPn, hPl, hPe⟩ := ents_PAIRS (C := C)
  refine OP_def ok (f := 69) rfl rfl rfl rfl (names := [Str.ofString "told", Str.ofString "many"]) (fun vals hv => bind2 (P := fun vals => bindArgs _ ⟨vals, []⟩ = pure (List.zip _ vals)) hv fun _ _ => rfl) rfl (fun n y hy => by simp only [List.mem_cons, List.not_mem_nil, or_false] at hy; rcases hy with rfl | rfl <;> first | exact .inl rfl | exact .inr ⟨rfl, rfl⟩) room.dep rfl rfl rfl rfl rfl (fun L ok' => ?_)
  have rm := room_enter' ok' room
  refine (show EXB (C.enter _ L 69) _ φ _ (okS T d m) from ?_) _ r
  clear r R
  refine EXB.cast (EXB_chk (c := headOk d) (b := okS T d m) ok' (TRP_bool ((ATP_or (y := !headOk d) ok' (TRP_not (TRP_plain (EVP_blt ok' n_isinstance b_isinstance (by decide) rfl (EVsP_cons ok' rfl (EVP_name ok' rfl rfl) (EVsP_cons ok' rfl (EVP_type ok' n_tuple b_tuple (by decide) rfl rfl) EVsP_nil)) (fun R r => OP_istup (by (first | assumption | rfl)) r) rfl rfl (fun _ _ => rfl) (fun _ => rfl)) (fun _ => rfl))) fun h => ?_).cast (by cases d <;> rfl))) (fun _ => EVF_str rfl) fun hc => ?_) head_ok
  · obtain ⟨ds, rfl⟩ := isTup_shape (d := d) (by rwa [Bool.not_eq_false'] at h)
    obtain ⟨hz, hd⟩ := p.tup
    refine (ATP_or (y := !headOk (.tup ds)) ok' (TRP_cmp ok' (EVP_lenT ok' rfl rfl (EVP_name ok' rfl rfl) (by (first | exact len_ok rfl | exact le_ok (by assumption) (by rfl) | exact lt_ok (by assumption) (by rfl) | exact Int.natCast_nonneg _)) (fun _ => rfl)) EVP_int (fun R r => OP_eqi r) rfl) fun h => ?_).cast (by cases ds <;> rfl)
    match ds, h, hd with
    | hd0 :: rest, _, hd =>
      have pl0 := (hd hd0 (List.mem_cons_self ..)).plain
      refine (ATP_or (y := !headOk (.tup (hd0 :: rest))) ok' (TRP_not (TRP_plain (EVP_blt ok' n_isinstance b_isinstance (by decide) rfl (EVsP_cons ok' rfl (EVP_at (k := 0) ok' (EVP_name ok' rfl rfl) rfl (by (first | rfl | assumption))) (EVsP_cons ok' rfl (EVP_type ok' n_str b_str (by decide) rfl rfl) EVsP_nil)) (fun R r => OP_isstr (by (first | assumption | rfl)) r) rfl rfl (fun _ _ => rfl) (fun _ => rfl)) (fun _ => rfl))) fun h => ?_).cast (by cases hd0 <;> first | rfl | exact Bool.false_or _)
      match hd0, h with
      | .str name, _ =>
        exact (ATP_or ok' (TRP_cmp ok' (EVP_at (k := 0) ok' (EVP_name ok' rfl rfl) rfl (by (first | rfl | assumption))) (EVP_gname ok' g_FORMS (.ref _) rfl rfl) (fun R r => OP_notinG ok' hFl hFe rfl r) rfl) fun _ => ATP_nil).cast (by rw [formD_lookup, Bool.or_false]; rw [head_eq]; cases formTab.lookup name <;> rfl)
  obtain ⟨name, rest, form, rfl, hl⟩ := head_shape hc
  clear hc
  obtain ⟨hz, hd⟩ := p.tup
  have hl' : formD.lookup name = some (.str form) := by rw [formD_lookup, hl]; rfl
  obtain ⟨hs1, hs2⟩ := form_small _ (mem_of_lookup hl)
  have hs1 : name.length ≤ 200 := Nat.le_trans (show name.length ≤ 20 from hs1) (by decide)
  have hs2 : form.length ≤ 1000 := Nat.le_trans (show form.length ≤ 6 from hs2) (by decide)
  rw [okS_cons hl]
  have hF := hF name form rest rfl hl
  refine EXB_unp ok' (xs := [Str.ofString "name", Str.ofString "form"]) rfl (stor2 rfl) (EVP_Tuple ok' (EVsP_cons ok' rfl (EVP_at (k := 0) ok' (EVP_name ok' rfl rfl) rfl (by (first | rfl | assumption))) (EVsP_cons ok' rfl (EVP_ixG ok' hFl hFe (EVP_gname ok' g_FORMS (.ref _) rfl rfl) (EVP_at (k := 0) ok' (EVP_name ok' rfl rfl) rfl (by (first | rfl | assumption))) hl' (fun _ _ => rfl)) EVsP_nil)) (len_ok rfl)) rfl rfl ?_
  have a1 := num_abs hz
  have a2 := num_abs hs2
  refine EXB_chk ok' (TRP_cmp ok' (EVP_lenT ok' rfl rfl (EVP_name ok' rfl rfl) (by (first | exact len_ok rfl | exact le_ok (by assumption) (by rfl) | exact lt_ok (by assumption) (by rfl) | exact Int.natCast_nonneg _)) (fun _ => rfl)) (EVP_add ok' (EVP_lenS ok' rfl rfl (EVP_name ok' rfl rfl) (by (first | exact len_ok rfl | exact le_ok (by assumption) (by rfl) | exact lt_ok (by assumption) (by rfl) | exact Int.natCast_nonneg _)) (fun _ => rfl)) EVP_int) (fun R r => OP_nei r) rfl) (fun _ => EVF_join (JPN_valS ok' (EVP_name ok' rfl rfl) hs1 (JPN_str ok' rfl (JPN_valI ok' (EVP_lenS ok' rfl rfl (EVP_name ok' rfl rfl) (by (first | exact len_ok rfl | exact le_ok (by assumption) (by rfl) | exact lt_ok (by assumption) (by rfl) | exact Int.natCast_nonneg _)) (fun _ => rfl)) a2.1 (JPN_str ok' rfl (JPN_valI ok' (EVP_sub ok' (EVP_lenT ok' rfl rfl (EVP_name ok' rfl rfl) (by (first | exact len_ok rfl | exact le_ok (by assumption) (by rfl) | exact lt_ok (by assumption) (by rfl) | exact Int.natCast_nonneg _)) (fun _ => rfl)) EVP_int) a1.2.2 JPN_nil))))) rfl rfl) fun hc => ?_
  have hlen : rest.length = form.cps.size := by
    have : ((rest.length + 1 : Nat) : Int) = form.cps.size + 1 := beq_iff_eq.mp hc
    omega
  clear hc a1 a2
  have hF := hF hlen
  refine EXB.cast (EXB_for (c := fun k => fitsS T ⟨#[form.cps.getD k 0]⟩ (at' (.str name :: rest) (k + 1)) m) (ds := numbered form) (tgt := tgtT [Str.ofString "place", Str.ofString "kind"]) ok' (fun R r => SRCT_enum ok' (xs := [Str.ofString "place", Str.ofString "kind"]) rfl rfl (stor2 rfl) rfl n_enumerate b_enumerate (EVP.ev (EVP_name ok' rfl rfl) ⟨_, rfl, r⟩)) (fun k d hk => ?_) (fun _ _ => rfl) fun hall => ?_) (by rw [numbered_len]; rfl)
  · have hk' : k < form.cps.size := by have := (List.getElem?_eq_some_iff.mp hk).1; rwa [numbered_len] at this
    have hdk : d = .tup [.int (k : Nat), .str ⟨#[form.cps.getD k 0]⟩] := by
      unfold numbered at hk
      rw [List.getElem?_map, List.getElem?_range hk'] at hk
      exact (Option.some.inj hk).symm
    subst hdk
    have hix : (D.str name :: rest)[((k : Int) + 1).toNat]? = some (at' (.str name :: rest) (k + 1)) := at_some (t := .str name :: rest) (i := k + 1) (by rw [List.length_cons, hlen]; exact Nat.succ_lt_succ hk')
    have hk3 : k ≤ 1000 := Nat.le_of_lt (Nat.lt_of_lt_of_le hk' hs2)
    have a3 := num_abs hk3
    exact ⟨[(Str.ofString "kind", .str ⟨#[form.cps.getD k 0]⟩), (Str.ofString "place", .int (k : Nat))], fun _ => rfl, rfl, TRP_not (TRP_plain (EVP_pure ok' g_fits rfl rfl (EVsP_cons ok' rfl (EVP_name ok' rfl rfl) (EVsP_cons ok' rfl (EVP_itemT ok' (EVP_name ok' rfl rfl) (EVP_add ok' (EVP_name ok' rfl rfl) EVP_int) (by omega) (by omega) hix (fun _ _ => rfl)) (EVsP_cons ok' rfl (EVP_name ok' rfl rfl) EVsP_nil))) (hF k hk' _ _ ok' rm) rfl rfl (fun _ => rfl)) (fun _ => rfl)),
      fun _ => EVF_join (JPN_valS ok' (EVP_name ok' rfl rfl) hs1 (JPN_str ok' rfl (JPN_valI ok' (EVP_add ok' (EVP_name ok' rfl rfl) EVP_int) a3.2.1 (JPN_str ok' rfl JPN_nil)))) rfl rfl⟩
  have sh : Shape T name form rest m := ⟨hl, hlen, hd, fun j hj => hall j (by rw [numbered_len]; exact hj)⟩
  clear hall hF hFl hFe hl' hs2 hlen hl pd
  have eqs : (pairD.lookup name).getD (.tup []) = .tup (((pairTab.lookup name).getD []).map fun q => D.tup [.int q.1, .int q.2]) := by
    rw [pairD_lookup]; cases pairTab.lookup name <;> rfl
  have hps := fun q hq => pair_shape sh (q := q) hq
  unfold pairsOk
  generalize (pairTab.lookup name).getD [] = qs at eqs hps
  refine EXB.cast (EXB_for (c := fun k => (qs[k]?).all fun q => lenD (at' (.str name :: rest) q.1) == lenD (at' (.str name :: rest) q.2)) (ds := qs.map fun q => D.tup [.int q.1, .int q.2]) (tgt := tgtT [Str.ofString "one", Str.ofString "other"]) ok' (fun R r => SRCT_tuple ok' (xs := [Str.ofString "one", Str.ofString "other"]) rfl (stor2 rfl)
    (SRC_tup ok' (EV_getG ok' hPl hPe rfl (EV_gname ok' g_PAIRS (.ref _) rfl ⟨rfl, EVP.ev (EVP_name ok' rfl rfl) ⟨_, rfl, EV_Tuple ok' (EVs_nil ⟨len_ok rfl, _, eqs, fun d hd => by
      obtain ⟨q, _, rfl⟩ := List.mem_map.mp hd; exact ⟨_, rfl, rfl⟩, r⟩)⟩⟩)))) (fun k d hk => ?_) (fun _ _ => rfl) fun _ => ?_) (by rw [List.length_map, all_range])
  · rw [List.getElem?_map] at hk
    obtain ⟨q, hq, rfl⟩ := Option.map_eq_some_iff.mp hk
    obtain ⟨xs, ys, hx1, hy1, zx, zy, q1, q2, ex, ey⟩ := hps q (List.mem_of_getElem? hq)
    have b1 := num_abs q1
    have b2 := num_abs q2
    have q1' := lt_ok q1 rfl
    have q2' := lt_ok q2 rfl
    refine ⟨[(Str.ofString "other", .int (q.2 : Nat)), (Str.ofString "one", .int (q.1 : Nat))], fun _ => rfl, rfl, TRP.cast (TRP_cmp ok' (EVP_lenT ok' rfl rfl (EVP_itemT ok' (EVP_name ok' rfl rfl) (EVP_name ok' rfl rfl) (Int.natCast_nonneg _) (by omega) hx1 (fun _ _ => rfl)) (lt_ok zx rfl) (fun _ => rfl)) (EVP_lenT ok' rfl rfl (EVP_itemT ok' (EVP_name ok' rfl rfl) (EVP_name ok' rfl rfl) (Int.natCast_nonneg _) (by omega) hy1 (fun _ _ => rfl)) (lt_ok zy rfl) (fun _ => rfl)) (fun R r => OP_nei r) rfl) (by rw [hq, Option.all_some, ex, ey]; rfl),
      fun _ => EVF_join (JPN_valS ok' (EVP_name ok' rfl rfl) hs1 (JPN_str ok' rfl (JPN_valI ok' (EVP_name ok' rfl rfl) b1.1 (JPN_str ok' rfl (JPN_valI ok' (EVP_name ok' rfl rfl) b2.1 (JPN_str ok' rfl JPN_nil)))))) rfl rfl⟩
  clear hps eqs hPl hPe
  refine EXB_chk ok' ((TRP_and (y := !(nn (at' (.str name :: rest) 2) && (nn (at' (.str name :: rest) 3) && nn1 (at' (.str name :: rest) 4)))) ok' (TRP_eqs ok' (EVP_name ok' rfl rfl)) fun h => ?_).cast (by unfold cumOk; cases (name == Str.ofString "cumulative") <;> rfl)) (fun _ => EVF_str rfl) fun _ => ?_
  · have e := beq_iff_eq.mp h
    obtain ⟨a, ea, ga, za⟩ := sh.row e rfl 1 rfl rfl
    obtain ⟨b, eb, gb, zb⟩ := sh.row e rfl 2 rfl rfl
    obtain ⟨c, ec, gc⟩ := sh.num e rfl 3 rfl rfl
    have el := last_at (fm := form) sh e gc
    exact (TRP_cmp ok' (EVP_min (ns := a ++ b ++ [c]) ok' rfl rfl (EVP.cast (EVP_addT ok' (EVP_addT ok' (EVP_at (k := 2) ok' (EVP_name ok' rfl rfl) rfl (by (first | rfl | assumption))) (EVP_at (k := 3) ok' (EVP_name ok' rfl rfl) rfl (by (first | rfl | assumption))) (by rw [List.length_map, List.length_map]; exact sum_le (by omega) (by omega))) (EVP_from (k := 4) ok' (EVP_name ok' rfl rfl) (le_ok hz rfl) EVP_int) (by rw [el, List.length_append, List.length_map, List.length_map]; exact sum_le (by omega) (Nat.le_of_ble_eq_true rfl))) (by rw [el, List.map_append, List.map_append]; rfl)) (by rw [List.length_append]; exact Nat.succ_pos _) (fun _ => rfl)) EVP_int (fun R r => OP_lti r) rfl).cast (cum_key ea eb ec)
  refine EXB_chk ok' ((TRP_and (y := !(nn (at' (.str name :: rest) 2))) ok' (TRP_eqs ok' (EVP_name ok' rfl rfl)) fun h => ?_).cast (by unfold disOk; cases (name == Str.ofString "disjunctive") <;> rfl)) (fun _ => EVF_str rfl) fun _ => ?_
  · have e := beq_iff_eq.mp h
    obtain ⟨a, ea, ga, za⟩ := sh.row e rfl 1 rfl rfl
    exact (TRP_cmp ok' (EVP_min (ns := a ++ [0]) ok' rfl rfl (EVP.cast (EVP_addT ok' (EVP_at (k := 2) ok' (EVP_name ok' rfl rfl) rfl (by (first | rfl | assumption))) (EVP_Tuple ok' (EVsP_cons ok' rfl EVP_int EVsP_nil) (by (first | exact len_ok rfl | exact le_ok (by assumption) (by rfl) | exact lt_ok (by assumption) (by rfl) | exact Int.natCast_nonneg _))) (by rw [List.length_map]; exact add_ok za rfl rfl)) (by rw [List.map_append]; rfl)) (by rw [List.length_append]; exact Nat.succ_pos _) (fun _ => rfl)) EVP_int (fun R r => OP_lti r) rfl).cast (dis_key ea)
  refine EXB_chk ok' ((TRP_and (y := (lenD (at' (.str name :: rest) 1) == 0)) ok' (TRP_ins (xs := [(Str.ofString "max"), (Str.ofString "min")]) ok' (EVP_name ok' rfl rfl) (EVP_Tuple ok' (EVsP_cons ok' rfl EVP_str (EVsP_cons ok' rfl EVP_str EVsP_nil)) (by (first | exact len_ok rfl | exact le_ok (by assumption) (by rfl) | exact lt_ok (by assumption) (by rfl) | exact Int.natCast_nonneg _))) rfl) fun h => ?_).cast (by unfold mmOk; cases ([Str.ofString "max", Str.ofString "min"].any (· == name)) <;> cases (lenD (at' (.str name :: rest) 1) == 0) <;> rfl)) (fun _ => EVF_join (JPN_valS ok' (EVP_name ok' rfl rfl) hs1 (JPN_str ok' rfl JPN_nil)) rfl rfl) fun _ => ?_
  · have e : name = Str.ofString "max" ∨ name = Str.ofString "min" := by
      simp only [List.any_cons, List.any_nil, Bool.or_false, Bool.or_eq_true, beq_iff_eq] at h
      exact h.imp Eq.symm Eq.symm
    obtain ⟨a, ea, ga, za⟩ := show ∃ ns : List Int, at' (.str name :: rest) 1 = rowD ns ∧ (D.str name :: rest)[1]? = some (.tup (ns.map .int)) ∧ ns.length ≤ 1000 from e.elim (fun e => sh.vars e rfl 0 rfl rfl) fun e => sh.vars e rfl 0 rfl rfl
    exact (TRP_cmp ok' (EVP_lenT ok' rfl rfl (EVP_at (k := 1) ok' (EVP_name ok' rfl rfl) rfl (by (first | rfl | assumption))) (by rw [List.length_map]; exact lt_ok za rfl) (fun _ => rfl)) EVP_int (fun R r => OP_eqi r) rfl).cast (by rw [ea]; rfl)
  refine EXB_chk ok' ((TRP_and (y := !((tupD (at' (.str name :: rest) 2)).all fun r => lenD r == lenD (at' (.str name :: rest) 1))) ok' (TRP_eqs ok' (EVP_name ok' rfl rfl)) fun h => ?_).cast (by unfold tabOk; cases (name == Str.ofString "table") <;> rfl)) (fun _ => EVF_str rfl) fun _ => ?_
  · have e := beq_iff_eq.mp h
    obtain ⟨a, ea, ga, za⟩ := sh.vars e rfl 0 rfl rfl
    obtain ⟨rs, er, gr, zr, zr'⟩ := sh.rows e rfl 1 rfl rfl
    rw [ea, er]
    refine TRP_not (TRP_plain (EVP_all (ds := rs.map rowD) (f := fun r => lenD r == lenD (rowD a)) ok' (compScope rfl rfl rfl rfl rfl rfl rfl) rfl (EVP_at (k := 2) ok' (EVP_name ok' rfl rfl) rfl (by (first | rfl | assumption))) (by rw [List.length_map]; exact lines zr) (fun d hd c a0 ok'' => ?_) (fun _ => rfl) (fun _ => rfl)) (fun _ => rfl))
    obtain ⟨ro, hro, rfl⟩ := List.mem_map.mp hd
    have z1 : (ro.map D.int).length ≤ 1000 := by rw [List.length_map]; exact zr' ro hro
    have z2 : (a.map D.int).length ≤ 1000 := by rw [List.length_map]; exact za
    exact EVP_cmp ok'' (EVP_lenT ok'' rfl rfl (EVP_name ok'' rfl rfl) (by (first | exact len_ok rfl | exact le_ok (by assumption) (by rfl) | exact lt_ok (by assumption) (by rfl) | exact Int.natCast_nonneg _)) (fun _ => rfl)) (EVP_lenT ok'' rfl rfl (EVP_at (k := 1) ok'' (EVP_name ok'' rfl rfl) rfl (by (first | rfl | assumption))) (by (first | exact len_ok rfl | exact le_ok (by assumption) (by rfl) | exact lt_ok (by assumption) (by rfl) | exact Int.natCast_nonneg _)) (fun _ => rfl)) (fun R r => OP_eqi r) rfl
  refine EXB_ret ok' (EVF_if ok' (TRP_eqs ok' (EVP_name ok' rfl rfl)) (fun h => ?_) fun h => ?_)
  · have e := beq_iff_eq.mp h
    obtain ⟨a2, e2, g2⟩ := sh.num e rfl 1 rfl rfl
    obtain ⟨a3, e3, g3⟩ := sh.num e rfl 2 rfl rfl
    obtain ⟨a4, e4, g4, z4, zr⟩ := sh.rows e rfl 3 rfl rfl
    obtain ⟨a5, e5, g5⟩ := sh.num e rfl 4 rfl rfl
    obtain ⟨a6, e6, g6, z6⟩ := sh.row e rfl 5 rfl rfl
    have er : regOk name (.str name :: rest) = machOk a2 a3 a4 a5 a6 := by
      unfold regOk
      rw [h, e2, e3, e4, e5, e6, intsD_row, show (tupD (D.tup (a4.map rowD))).map intsD = a4 from (by
        show (a4.map rowD).map intsD = a4
        rw [List.map_map]
        exact (List.map_congr_left fun x _ => intsD_row x).trans (List.map_id _))]
      rfl
    rw [er]
    have hl6 : rest.length = 6 := by
      have := sh.hl
      rw [e] at this; cases this
      exact sh.hlen
    clear sh e2 e3 e4 e5 e6 er h hd hz p
    match rest, hl6, g2, g3, g4, g5, g6 with
    | [b1, _, _, _, _, _], _, rfl, rfl, rfl, rfl, rfl =>
      exact fun R r => EV_call_def ok' g_machine rfl rfl (EVs_cons ok' (EVP.ev (EVP_name ok' rfl rfl) (EVs_nil (machine_def ok' (Room.ble rm rfl) z4 zr z6 _ _ r))))
  · have er : regOk name (.str name :: rest) = true := by unfold regOk; rw [h]; rfl
    rw [er]
    exact EVF_str rfl
end Mine
end
section
open PySem PySem.W PyProof.Rows PySem.Calls
set_option maxRecDepth 100000
namespace Mine
def okL : D → Int → Bool := okS fun _ _ => false
def okF : D → Int → Bool := okS okL
/-- the part that is a told constraint has a name first -/
def HS (d : D) : Prop := ∀ name form rest, d = .tup (.str name :: rest) → formTab.lookup name = some form → rest.length = form.cps.size → ∀ j, j < form.cps.size → plainKind ⟨#[form.cps.getD j 0]⟩ = false → strHead (at' (.str name :: rest) (j + 1)) = true
theorem lin_plain : ∀ p ∈ formTab, linears.any (· == p.1) = true → ∀ j ∈ List.range p.2.cps.size, plainKind ⟨#[p.2.cps.getD j 0]⟩ = true := by decide
theorem fine_at {n : Nat} {t : List D} {i : Nat} (p : Fine (n + 1) (.tup t)) (h : i < t.length) : Fine n (at' t i) := p.tup.2 _ (List.mem_of_getElem? (at_some h))
theorem told_lin {C : Cx} (ok : C.Ok) (room : Room C 8) {d : D} {m : Int} (p : Fine 4 d) (hl : linHead d = true) : ToldC C d m (okL d m) := told_gen ok room p fun name form rest e hf hlen j hj L fd ok' rm => by
  subst e
  exact fits_def ok' (rm.down (by omega)) (fine_at p (by rw [List.length_cons]; omega)) fun hk => by
    rw [lin_plain _ (mem_of_lookup hf) hl j (List.mem_range.mpr hj)] at hk; cases hk
theorem told_def {C : Cx} (ok : C.Ok) (room : Room C 16) {d : D} {m : Int} (p : Fine 5 d) (hs : HS d) : ToldC C d m (okF d m) := told_gen ok (room.down (by omega)) p.down fun name form rest e hf hlen j hj L fd ok' rm => by
  have r' := room_enter' ok' room
  have e' := e
  subst e
  have pa : Fine 4 (at' (.str name :: rest) (j + 1)) := fine_at p (by rw [List.length_cons]; omega)
  exact fits_def ok' (rm.down (by omega)) pa.down fun hk => ⟨hs _ _ _ rfl hf hlen j hj hk, fun hl L' fd' ok'' => told_lin ok'' ((room_enter' ok'' r').down (by omega)) pa hl⟩
end Mine
end
section
open PySem PySem.W PyProof.Rows PySem.Calls
set_option maxRecDepth 100000
namespace Mine
theorem mulok (a b : Int) (h : a.natAbs < 2 ^ 40) : IntMulOk a b := IntMulOk.of_left (by
  unfold Builtin.Int.intBits
  split
  · omega
  · rename_i h0
    have : a.natAbs.log2 < 40 := (Nat.log2_lt (by simpa using h0)).mpr h
    omega)
theorem dip_def {C : Cx} (ok : C.Ok) (fc : FeedCx C) (room : Room C 3) {m : Int} (hm : 0 < m) (φ : C.S) (hp : 0 ≤ (fc.get φ).place) (hp2 : (fc.get φ).place ≤ 100000) (R : D → C.S → Prop)
    (r : ∀ x, 0 ≤ x → x < m → R (.int x) (fc.set φ { fc.get φ with place := (fc.get φ).place + 1 })) : OP C φ (fun vs => call (.ref 108) vs) [.ref fc.F, .int m] R := by
  have hr := room.1
  refine OP_def ok (f := 108) rfl rfl rfl rfl (names := [Str.ofString "feed", Str.ofString "many"]) (fun vals hv => bind2 (P := fun vals => bindArgs _ ⟨vals, []⟩ = pure (List.zip _ vals)) hv fun _ _ => rfl) rfl (locals_all rfl) (by omega) rfl rfl rfl rfl rfl (fun L ok' => ?_)
  have rm := room_enter' ok' room
  refine EX_cons (EX_swap ok' (xs := [Str.ofString "cells", Str.ofString "place"]) rfl (fun y hy => by simp only [List.mem_cons, List.not_mem_nil, or_false] at hy; rcases hy with rfl | rfl <;> first | exact .inl rfl | exact .inr ⟨rfl, rfl⟩) (EV_Tuple ok' (EVs_cons ok' (EV_feed ok' (fc.enter _ L 108) (EV_name ok' rfl (by first | exact .inl rfl | exact .inr (.inl rfl) | exact .inr (.inr rfl)) ⟨rfl, _, rfl, (EVs_cons ok' (EV_feed ok' (fc.enter _ L 108) (EV_name ok' rfl (by first | exact .inl rfl | exact .inr (.inl rfl) | exact .inr (.inr rfl)) ⟨rfl, _, rfl, (EVs_nil ⟨by (first | assumption | omega | decide | (simp only [List.length_map, List.length_cons, List.length_nil, List.length_append]; omega) | exact lines (by simp)), ⟨_, rfl, rfl, ?_⟩⟩)⟩)))⟩)))))
  refine EX_cons (EX_feed ok' (fc.enter _ L 108) (EV_BinOp ok' (EV_name ok' rfl (by first | exact .inl rfl | exact .inr (.inl rfl) | exact .inr (.inr rfl)) (EV_int (OP_add ⟨_, rfl, (EV_name ok' rfl (by first | exact .inl rfl | exact .inr (.inl rfl) | exact .inr (.inr rfl)) ⟨rfl, _, rfl, ?_⟩)⟩)))))
  have hs := fc.short
  have hn : fc.ns.length ≤ 60 := hs
  refine EX_cons (EX_if ok' (TR_compare ok' (EV_name ok' rfl (by first | exact .inl rfl | exact .inr (.inl rfl) | exact .inr (.inr rfl)) (EV_call_blt ok' n_len b_len (by decide) rfl (EVs_cons ok' (EV_name ok' rfl (by first | exact .inl rfl | exact .inr (.inl rfl) | exact .inr (.inr rfl)) (EVs_nil (OP_lenC ok' (fc.enter _ L 108) (OP_lti ⟨_, rfl, ?_⟩)))))))))
  split
  · rename_i h
    have h : (fc.get φ).place < (fc.ns.length : Int) := of_decide_eq_true h
    exact EX_cons (EX_return ok' (EV_BinOp ok' (EV_itemC ok' (fc.enter _ L 108) (EV_name ok' rfl (by first | exact .inl rfl | exact .inr (.inl rfl) | exact .inr (.inr rfl)) ⟨rfl, (EV_name ok' rfl (by first | exact .inl rfl | exact .inr (.inl rfl) | exact .inr (.inr rfl)) ⟨_, rfl, hp, h, fun x => (EV_name ok' rfl (by first | exact .inl rfl | exact .inr (.inl rfl) | exact .inr (.inr rfl)) (OP_mod hm (r _ (Int.emod_nonneg _ (by omega)) (Int.emod_lt_of_pos _ hm))))⟩)⟩))))
  · exact EX_nil (EX_cons (EX_return ok' (EV_BinOp ok' (EV_BinOp ok' (EV_BinOp ok' (EV_BinOp ok' (EV_BinOp ok' (EV_BinOp ok' (EV_BinOp ok' (EV_int (EV_name ok' rfl (by first | exact .inl rfl | exact .inr (.inl rfl) | exact .inr (.inr rfl)) (OP_mul (by (first | exact mulok _ _ (by decide) | exact mulok _ _ (show (5 * (fc.get φ).place).natAbs < 2 ^ 40 from by omega))) (EV_name ok' rfl (by first | exact .inl rfl | exact .inr (.inl rfl) | exact .inr (.inr rfl)) (OP_mul (by (first | exact mulok _ _ (by decide) | exact mulok _ _ (show (5 * (fc.get φ).place).natAbs < 2 ^ 40 from by omega))) (EV_BinOp ok' (EV_int (EV_name ok' rfl (by first | exact .inl rfl | exact .inr (.inl rfl) | exact .inr (.inr rfl)) (OP_mul (by (first | exact mulok _ _ (by decide) | exact mulok _ _ (show (5 * (fc.get φ).place).natAbs < 2 ^ 40 from by omega))) (OP_add (EV_BinOp ok' (EV_int (EV_call_blt ok' n_len b_len (by decide) rfl (EVs_cons ok' (EV_name ok' rfl (by first | exact .inl rfl | exact .inr (.inl rfl) | exact .inr (.inr rfl)) (EVs_nil (OP_lenC ok' (fc.enter _ L 108) (OP_mul (by (first | exact mulok _ _ (by decide) | exact mulok _ _ (show (5 * (fc.get φ).place).natAbs < 2 ^ 40 from by omega))) (OP_add (EV_int (OP_add (EV_int (OP_mod (by (first | assumption | omega | decide | (simp only [List.length_map, List.length_cons, List.length_nil, List.length_append]; omega) | exact lines (by simp))) (EV_name ok' rfl (by first | exact .inl rfl | exact .inr (.inl rfl) | exact .inr (.inr rfl)) (OP_mod (by (first | assumption | omega | decide | (simp only [List.length_map, List.length_cons, List.length_nil, List.length_append]; omega) | exact lines (by simp))) (r _ (Int.emod_nonneg _ (by omega)) (Int.emod_lt_of_pos _ hm))))))))))))))))))))))))))))))))))))
end Mine
end
section
open PySem PySem.W PyProof.Rows PySem.Calls
set_option maxRecDepth 100000
namespace Mine
def At {C : Cx} (fc : FeedCx C) (φ0 φ : C.S) (c : Nat) (m1 : Int) : Prop := ∃ p, φ = fc.set φ0 ⟨p, (fc.get φ0).many, m1⟩ ∧ (fc.get φ0).place ≤ p ∧ p ≤ (fc.get φ0).place + c
def Good {C : Cx} (fc : FeedCx C) (φ0 : C.S) : Prop := 0 ≤ (fc.get φ0).place ∧ (fc.get φ0).place ≤ 60000 ∧ 0 < (fc.get φ0).many
theorem upto_len (n : Int) : (upto n).length = n.toNat := by simp [upto]
section
variable {C : Cx} {ρ : List (Str × D)} {φ : C.S} {fc : FeedCx C} {φ0 : C.S} {c c' : Nat} {m1 : Int}
theorem At.refl (fc : FeedCx C) (φ : C.S) : At fc φ φ 0 (fc.get φ).most := ⟨(fc.get φ).place, (fc.sg φ).symm, Int.le_refl _, by omega⟩
theorem At.up (a : At fc φ0 φ c m1) (h : c ≤ c') : At fc φ0 φ c' m1 := let ⟨p, e, h1, h2⟩ := a; ⟨p, e, h1, by omega⟩
theorem At.many (a : At fc φ0 φ c m1) : feedAt fc.cl (fc.get φ) (Str.ofString "many") = some (.int (fc.get φ0).many) := by obtain ⟨p, rfl, _⟩ := a; rw [fc.gs]; rfl
theorem At.most (a : At fc φ0 φ c m1) : feedAt fc.cl (fc.get φ) (Str.ofString "most") = some (.int m1) := by obtain ⟨p, rfl, _⟩ := a; rw [fc.gs]; rfl
theorem At.setMost (a : At fc φ0 φ c m1) (n : Int) : ∃ f', feedSet (fc.get φ) (Str.ofString "most") n = some f' ∧ At fc φ0 (fc.set φ f') c n := by
  obtain ⟨p, rfl, h⟩ := a
  rw [fc.gs]
  exact ⟨_, rfl, p, by rw [fc.ss], h⟩
/-- another place to count from -/
theorem At.base (g : Good fc φ0) (a : At fc φ0 φ c m1) (hc : (fc.get φ0).place ≤ 50000) (h : c ≤ 10000) : Good fc φ ∧ (fc.get φ).many = (fc.get φ0).many ∧ (fc.get φ).most = m1 ∧ ∀ {φ' k m}, At fc φ φ' k m → At fc φ0 φ' (c + k) m := by
  obtain ⟨p, rfl, h1, h2⟩ := a
  obtain ⟨g1, g2, g3⟩ := g
  unfold Good At
  rw [fc.gs]
  refine ⟨⟨by show 0 ≤ p; omega, by show p ≤ 60000; omega, g3⟩, rfl, rfl, fun {φ' k m} ⟨q, e, k1, k2⟩ => ⟨q, by rw [e, fc.ss], by have : p ≤ q := k1; omega, by have : q ≤ p + k := k2; omega⟩⟩
theorem leb {a b : Nat} (h : Nat.ble a b = true) : a ≤ b := Nat.le_of_ble_eq_true h
theorem At.fin {k : Nat} (a : At fc φ0 φ c m1) (h : Nat.ble c k = true) : At fc φ0 φ k m1 := a.up (Nat.le_of_ble_eq_true h)
theorem EV_callF (ok : C.Ok) {x y : Str} {px py pos : Pos} {f : Addr} {oc : Value} {od : Option Addr} {fd : FuncData} {sl : Array (Option Value)} {es : List Expr} {R : D → C.S → Prop} {F : Addr} (hx : nsIn C.K mainGlobals x = some (some (.ref f))) (hf : C.K.lookup f = some ⟨oc, od, .func fd, sl⟩) (hk : C.env.kindOf x = some .globalImplicit)
    (hy : ρ.lookup y = some (.ref F)) (hky : seenK C y = true) (h : EVs C ρ φ es fun ds φ₁ => OP C φ₁ (fun vs => call (.ref f) vs) (.ref F :: ds) R)
    (hd : (x == ("__debug__" : Str)) = false := by rfl)
    (hc : ∀ env, eval (.Call (.Name x px) (.Name y py :: es) [] pos) env = (do callWith pos (← eval (.Name x px) env) [] (backTo pos (starEach (.Name y py :: es) env)) (backToKw pos (keywordEach [] env))) := by intro _; rfl) :
    EV C ρ φ (.Call (.Name x px) (.Name y py :: es) [] pos) R := EV_call_def ok hx hf hk (EVs_cons ok (EVP_name ok hy hky _ h) (star1 rfl)) hd (star1 rfl) hc
theorem dip_a (ok : C.Ok) (fc : FeedCx C) (room : Room C 3) {m : Int} (hm : 0 < m) (g : Good fc φ0) (a : At fc φ0 φ c m1) (hc : c ≤ 20000) (R : D → C.S → Prop)
    (r : ∀ x φ', 0 ≤ x → x < m → At fc φ0 φ' (c + 1) m1 → R (.int x) φ') : OP C φ (fun vs => call (.ref 108) vs) [.ref fc.F, .int m] R := by
  obtain ⟨p, rfl, h1, h2⟩ := a
  have g1 := g.1
  have g2 := g.2.1
  have e := fc.gs φ0 ⟨p, (fc.get φ0).many, m1⟩
  refine dip_def ok fc room hm _ (by rw [e]; show 0 ≤ p; omega) (by rw [e]; show p ≤ 100000; omega) R fun x h0 h1 => r x _ h0 h1 ⟨p + 1, by rw [e, fc.ss], by omega, by omega⟩
theorem lvar_a (ok : C.Ok) (fc : FeedCx C) (room : Room C 4) (g : Good fc φ0) (a : At fc φ0 φ c m1) (hc : c ≤ 20000) (R : D → C.S → Prop)
    (r : ∀ x φ', 0 ≤ x → x < (fc.get φ0).many → At fc φ0 φ' (c + 1) (max m1 x) → R (.int x) φ') : OP C φ (fun vs => call (.ref 115) vs) [.ref fc.F] R := by
  refine OP_def ok (f := 115) rfl rfl rfl rfl (names := [Str.ofString "feed"]) (fun vals hv => bind1 (P := fun vals => bindArgs _ ⟨vals, []⟩ = pure (List.zip _ vals)) hv fun _ => rfl) rfl (locals_all rfl) room.dep rfl rfl rfl rfl rfl (fun L ok' => ?_)
  have rm := room_enter' ok' room
  refine EX_cons (EX_assign ok' (.inl rfl) (EV_callF ok' g_dip rfl rfl rfl rfl (EVs_cons ok' (EV_feed ok' (fc.enter _ L 115) (EVP_name ok' rfl rfl _ ⟨rfl, _, a.many, EVs_nil (dip_a ok' (fc.enter _ L 115) rm g.2.2 g a hc _ fun x φ1 h0 h1 a1 => ?_)⟩)) (star1 rfl))))
  obtain ⟨f', hf, a2⟩ := At.setMost (C := C) a1 (max m1 x)
  exact EX_cons (EX_feed ok' (fc.enter _ L 115) (EV_call_blt ok' n_max b_max (by decide) rfl (EVs_cons ok' (EV_feed ok' (fc.enter _ L 115) (EVP_name ok' rfl rfl _ ⟨rfl, _, a1.most, EVs_cons ok' (EVP_name ok' rfl rfl _ (EVs_nil (OP_max ok' ⟨_, rfl, EVP_name ok' rfl rfl _ ⟨rfl, f', hf, EX_cons (EX_return ok' (EVP_name ok' rfl rfl _ (r x _ h0 h1 a2)))⟩⟩))) (star1 rfl)⟩)) (star1 rfl)) rfl (star1 rfl)))
/-- tuple([.. for lap in range(n)]), the feed drawn from at each lap -/
theorem EV_laps (ok : C.Ok) (fc : FeedCx C) {α : Type} (f : α → D) (P : α → Prop) (M : List α → Int) (s : Nat) {elt e : Expr} {x : Str} {px pt pr rp cp pos : Pos} {scope : Scope} {R : D → C.S → Prop} (sc : CompScope C scope x ρ)
    (kt : C.env.kindOf (Str.ofString "tuple") = some .globalImplicit) (kr : C.env.kindOf (Str.ofString "range") = some .globalImplicit)
    (h : EV C ρ φ e fun d φ₁ => ∃ n : Int, d = .int n ∧ (0 ≤ n ∧ n ≤ 100) ∧ At fc φ0 φ₁ c (M []) ∧
      (∀ xs k φ' ca aa, (C.comp scope ca aa).Ok → At fc φ0 φ' (c + s * xs.length) (M xs) → xs.length < 100 → EV (C.comp scope ca aa) ((x, .int k) :: ρ) φ' elt fun y φ₂ => ∃ z, y = f z ∧ P z ∧ At fc φ0 φ₂ (c + s * xs.length + s) (M (xs ++ [z]))) ∧
      (∀ xs φ', xs.length = n.toNat → (∀ z ∈ xs, P z) → At fc φ0 φ' (c + s * n.toNat) (M xs) → R (.tup (xs.map f)) φ'))
    (hs : ∀ x, foldedSetIterable (.Call (.Name (Str.ofString "range") pr) [e] [] rp) C.env x = pure x) (he : plainE e = true)
    (hc : ∀ env, eval (.Call (.Name (Str.ofString "range") pr) [e] [] rp) env = (do callWith rp (← eval (.Name (Str.ofString "range") pr) env) [] (backTo rp (starEach [e] env)) (backToKw rp (keywordEach [] env))))
    (hc' : ∀ env, eval (.Call (.Name (Str.ofString "tuple") pt) [.ListComp elt [⟨.Name x px, .Call (.Name (Str.ofString "range") pr) [e] [] rp, [], 0⟩] scope pos] [] cp) env = (do callWith cp (← eval (.Name (Str.ofString "tuple") pt) env) [] (backTo cp (starEach [.ListComp elt [⟨.Name x px, .Call (.Name (Str.ofString "range") pr) [e] [] rp, [], 0⟩] scope pos] env)) (backToKw cp (keywordEach [] env)))) :
    EV C ρ φ (.Call (.Name (Str.ofString "tuple") pt) [.ListComp elt [⟨.Name x px, .Call (.Name (Str.ofString "range") pr) [e] [] rp, [], 0⟩] scope pos] [] cp) R := by
  have hsl := line_eq
  refine EV_call_type ok n_tuple b_tuple (by decide) kt (EVs_cons ok (EV_comp ok sc (SRC_range ok kr n_range b_range (h.mono fun d φ₁ ⟨n, e1, hn, a, step, fin⟩ => ?_) (star1 he) hc) hs) (star1 rfl)) rfl (star1 rfl) (fun _ _ => rfl) hc'
  refine ⟨n, e1, by omega, by omega, by rw [upto_len]; omega, fun k outs φ' => ∃ xs, outs = xs.map f ∧ xs.length = k ∧ (∀ z ∈ xs, P z) ∧ At fc φ0 φ' (c + s * k) (M xs), ⟨[], rfl, rfl, fun z hz => (List.not_mem_nil hz).elim, a⟩, fun k d outs φ' ca aa hd ⟨xs, e1, e2, e3, e4⟩ hl ok'' => ?_, fun outs φ' ⟨xs, e1, e2, e3, e4⟩ hl => ?_⟩
  · have hk : k < n.toNat := by have := (List.getElem?_eq_some_iff.mp hd).1; rwa [upto_len] at this
    have hd' : d = .int k := by
      unfold upto at hd
      rw [List.getElem?_map, List.getElem?_range hk] at hd
      exact (Option.some.inj hd).symm
    subst e1; subst e2; subst hd'
    refine (step xs _ φ' ca aa ok'' e4 (by omega)).mono fun y φ₂ ⟨z, e5, e6, e7⟩ => ⟨xs ++ [z], by rw [e5, List.map_append]; rfl, by rw [List.length_append]; rfl, fun w hw => ?_, by rw [Nat.mul_succ, ← Nat.add_assoc]; exact e7⟩
    rcases List.mem_append.mp hw with hw | hw
    · exact e3 w hw
    · rw [List.mem_singleton.mp hw]; exact e6
  · rw [upto_len] at e2 e4
    subst e1
    exact EVs_nil (OP_tupleOf ok (by rw [List.length_map]; omega) (fin xs φ' e2 e3 e4))
end
section
variable {C : Cx} {ρ : List (Str × D)} {φ : C.S} {φ0 : C.S} {c : Nat} {m1 : Int}
theorem vars_a (ok : C.Ok) (fc : FeedCx C) (room : Room C 5) {wide : Int} (hw : 0 ≤ wide ∧ wide ≤ 100) (g : Good fc φ0) (a : At fc φ0 φ c m1) (hc : c ≤ 19000) (R : D → C.S → Prop)
    (r : ∀ (xs : List Int) φ', xs.length = wide.toNat → (∀ x ∈ xs, 0 ≤ x ∧ x < (fc.get φ0).many) → At fc φ0 φ' (c + 100) (xs.foldl max m1) → R (.tup (xs.map .int)) φ') : OP C φ (fun vs => call (.ref 120) vs) [.ref fc.F, .int wide] R := by
  refine OP_def ok (f := 120) rfl rfl rfl rfl (names := [Str.ofString "feed", Str.ofString "wide"]) (fun vals hv => bind2 (P := fun vals => bindArgs _ ⟨vals, []⟩ = pure (List.zip _ vals)) hv fun _ _ => rfl) rfl (fun n y hy => by simp only [List.mem_cons, List.not_mem_nil, or_false] at hy; rcases hy with rfl | rfl <;> first | exact .inl rfl | exact .inr ⟨rfl, rfl⟩) room.dep rfl rfl rfl rfl rfl (fun L ok' => ?_)
  have rm := room_enter' ok' room
  refine EX_cons (EX_return ok' (EV_laps ok' (fc.enter _ L 120) D.int (fun x => 0 ≤ x ∧ x < (fc.get φ0).many) (fun xs => xs.foldl max m1) 1 (compScope rfl rfl rfl rfl rfl rfl rfl) rfl rfl (EVP_name ok' rfl rfl _ ⟨_, rfl, hw, a, fun xs k φ' ca aa ok'' a1 h1 => ?_, fun xs φ' h1 h2 h3 => r xs φ' h1 h2 (At.up (C := C) h3 (by omega))⟩) (fun _ => rfl) rfl (fun _ => rfl) (fun _ => rfl)))
  refine EV_callF ok'' g_var rfl rfl rfl rfl (EVs_nil (lvar_a ok'' ((fc.enter _ L 120).comp _ ca aa) (room_comp rm) g a1 (by omega) _ fun x φ2 h2 h3 a2 => ⟨x, rfl, ⟨h2, h3⟩, ?_⟩))
  rw [List.foldl_append, Nat.one_mul]
  rw [Nat.one_mul] at a2
  exact a2
theorem numbers_a (ok : C.Ok) (fc : FeedCx C) (room : Room C 5) {wide low : Int} (hw : 0 ≤ wide ∧ wide ≤ 100) (g : Good fc φ0) (a : At fc φ0 φ c m1) (hc : c ≤ 19000) (R : D → C.S → Prop)
    (r : ∀ (xs : List Int) φ', xs.length = wide.toNat → (∀ x ∈ xs, low ≤ x ∧ x < low + 9) → At fc φ0 φ' (c + 100) m1 → R (.tup (xs.map .int)) φ') : OP C φ (fun vs => call (.ref 125) vs) [.ref fc.F, .int wide, .int low] R := by
  refine OP_def ok (f := 125) rfl rfl rfl rfl (names := [Str.ofString "feed", Str.ofString "wide", Str.ofString "low"]) (fun vals hv => bind3 (P := fun vals => bindArgs _ ⟨vals, []⟩ = pure (List.zip _ vals)) hv fun _ _ _ => rfl) rfl (fun n y hy => by simp only [List.mem_cons, List.not_mem_nil, or_false] at hy; rcases hy with rfl | rfl | rfl <;> first | exact .inl rfl | exact .inr ⟨rfl, rfl⟩) room.dep rfl rfl rfl rfl rfl (fun L ok' => ?_)
  have rm := room_enter' ok' room
  refine EX_cons (EX_return ok' (EV_laps ok' (fc.enter _ L 125) D.int (fun x => low ≤ x ∧ x < low + 9) (fun _ => m1) 1 (compScope rfl rfl rfl rfl rfl rfl rfl) rfl rfl (EVP_name ok' rfl rfl _ ⟨_, rfl, hw, a, fun xs k φ' ca aa ok'' a1 h1 => ?_, fun xs φ' h1 h2 h3 => r xs φ' h1 h2 (At.up (C := C) h3 (by omega))⟩) (fun _ => rfl) rfl (fun _ => rfl) (fun _ => rfl)))
  refine EV_BinOp ok'' (EVP_name ok'' rfl rfl _ (EV_callF ok'' g_dip rfl rfl rfl rfl (EVs_cons ok'' (EV_int (EVs_nil (dip_a ok'' ((fc.enter _ L 125).comp _ ca aa) (Room.ble (room_comp rm) rfl) (by decide) g a1 (by omega) _ fun x φ2 h2 h3 a2 => OP_add ⟨_, rfl, by omega, a2⟩))) (star1 rfl))))
end
end Mine
end
section
open PySem PySem.W PyProof.Rows PySem.Calls
set_option maxRecDepth 100000
namespace Mine
def Rng (many : Int) (xs : List Int) : Prop := ∀ x ∈ xs, 0 ≤ x ∧ x < many
def sign (l : Str) : Nat := l.cps.getD 0 0
/-- what a letter may give, by its sign -/
def PartF (many : Int) (wide : Nat) (t : List D) (m0 : Int) (d : D) (m1 : Int) : Nat → Prop := fun
  | 120 => ∃ n, d = .int n ∧ m1 = max m0 n ∧ 0 ≤ n ∧ n < many
  | 88 => ∃ xs, d = rowD xs ∧ m1 = xs.foldl max m0 ∧ xs.length = wide ∧ Rng many xs
  | 89 => ∃ xs, d = rowD xs ∧ m1 = xs.foldl max m0 ∧ xs.length ≤ 3 ∧ Rng many xs
  | 90 => ∃ xs, d = rowD xs ∧ m1 = xs.foldl max m0 ∧ 0 < xs.length ∧ xs.length ≤ 3 ∧ Rng many xs
  | 78 => ∃ ns, d = rowD ns ∧ m1 = m0 ∧ ns.length = wide
  | 80 => ∃ ns, d = rowD ns ∧ m1 = m0 ∧ ns.length = wide ∧ ∀ n ∈ ns, 0 ≤ n
  | 77 => ∃ ns, d = rowD ns ∧ m1 = m0 ∧ ns.length ≤ 3
  | 82 => ∃ rs : List (List Int), d = .tup (rs.map rowD) ∧ m1 = m0 ∧ rs.length ≤ 2 ∧ ∀ r ∈ rs, (r.length : Int) = lenD (at' t 1)
  | 115 => ∃ x, d = .str x ∧ m1 = m0 ∧ strengths.any (· == x) = true
  | 116 => ∃ x ns xs n, d = .tup [.str x, rowD ns, rowD xs, .int n] ∧ m1 = xs.foldl max m0 ∧ linears.any (· == x) = true ∧ ns.length = wide ∧ xs.length = wide ∧ Rng many xs
  | 97 => ∃ n, d = .int n ∧ m1 = m0 ∧ 1 ≤ n ∧ n ≤ 2
  | 98 => ∃ n, d = .int n ∧ m1 = m0 ∧ 1 ≤ n ∧ n ≤ 2
  | 114 => ∃ rs : List (List Int), d = .tup (rs.map rowD) ∧ m1 = m0 ∧ (rs.length : Int) = intD (at' t 2) ∧ ∀ r ∈ rs, (r.length : Int) = intD (at' t 3) ∧ ∀ e ∈ r, 0 ≤ e ∧ e ≤ intD (at' t 2)
  | 99 => ∃ n, d = .int n ∧ m1 = m0 ∧ 1 ≤ n ∧ n ≤ intD (at' t 2)
  | 102 => ∃ ns, d = rowD ns ∧ m1 = m0 ∧ ns.length ≤ 2 ∧ ∀ n ∈ ns, 1 ≤ n ∧ n ≤ intD (at' t 2)
  | 110 => ∃ n, d = .int n ∧ m1 = m0
  | 112 => ∃ n, d = .int n ∧ m1 = m0 ∧ 0 ≤ n
  | _ => False
def Part (many : Int) (wide : Nat) (t : List D) (m0 : Int) (l : Str) (d : D) (m1 : Int) : Prop := PartF many wide t m0 d m1 (sign l)
def theLetters : List Str := [Str.ofString "x", Str.ofString "X", Str.ofString "Y", Str.ofString "Z", Str.ofString "N", Str.ofString "P", Str.ofString "M", Str.ofString "R", Str.ofString "s", Str.ofString "t", Str.ofString "a", Str.ofString "b", Str.ofString "r", Str.ofString "c", Str.ofString "f", Str.ofString "n", Str.ofString "p"]
section
variable {many : Int} {wide : Nat} {tl : List D} {m0 : Int} {k : Int} {xs ns : List Int} {rs : List (List Int)}
theorem Part.x (h0 : 0 ≤ k) (h1 : k < many) : Part many wide tl m0 (Str.ofString "x") (.int k) (max m0 k) := Exists.intro k ⟨rfl, rfl, h0, h1⟩
theorem Part.X (h0 : xs.length = wide) (h1 : Rng many xs) : Part many wide tl m0 (Str.ofString "X") (rowD xs) (xs.foldl max m0) := Exists.intro xs ⟨rfl, rfl, h0, h1⟩
theorem Part.Y (h0 : xs.length ≤ 3) (h1 : Rng many xs) : Part many wide tl m0 (Str.ofString "Y") (rowD xs) (xs.foldl max m0) := Exists.intro xs ⟨rfl, rfl, h0, h1⟩
theorem Part.Z (h : 0 < xs.length) (h0 : xs.length ≤ 3) (h1 : Rng many xs) : Part many wide tl m0 (Str.ofString "Z") (rowD xs) (xs.foldl max m0) := Exists.intro xs ⟨rfl, rfl, h, h0, h1⟩
theorem Part.N (h0 : ns.length = wide) : Part many wide tl m0 (Str.ofString "N") (rowD ns) m0 := Exists.intro ns ⟨rfl, rfl, h0⟩
theorem Part.P (h0 : ns.length = wide) (h : ∀ n ∈ ns, 0 ≤ n) : Part many wide tl m0 (Str.ofString "P") (rowD ns) m0 := Exists.intro ns ⟨rfl, rfl, h0, h⟩
theorem Part.M (h0 : ns.length ≤ 3) : Part many wide tl m0 (Str.ofString "M") (rowD ns) m0 := Exists.intro ns ⟨rfl, rfl, h0⟩
theorem Part.R (h0 : rs.length ≤ 2) (h : ∀ r ∈ rs, (r.length : Int) = lenD (at' tl 1)) : Part many wide tl m0 (Str.ofString "R") (.tup (rs.map rowD)) m0 := Exists.intro rs ⟨rfl, rfl, h0, h⟩
theorem Part.s {x : Str} (h : strengths.any (· == x) = true) : Part many wide tl m0 (Str.ofString "s") (.str x) m0 := Exists.intro x ⟨rfl, rfl, h⟩
theorem Part.t {x : Str} (h : linears.any (· == x) = true) (h0 : ns.length = wide) (h1 : xs.length = wide) (h2 : Rng many xs) : Part many wide tl m0 (Str.ofString "t") (.tup [.str x, rowD ns, rowD xs, .int k]) (xs.foldl max m0) := Exists.intro x ⟨ns, xs, k, rfl, rfl, h, h0, h1, h2⟩
theorem Part.a (h0 : 1 ≤ k) (h1 : k ≤ 2) : Part many wide tl m0 (Str.ofString "a") (.int k) m0 := Exists.intro k ⟨rfl, rfl, h0, h1⟩
theorem Part.b (h0 : 1 ≤ k) (h1 : k ≤ 2) : Part many wide tl m0 (Str.ofString "b") (.int k) m0 := Exists.intro k ⟨rfl, rfl, h0, h1⟩
theorem Part.r (h0 : (rs.length : Int) = intD (at' tl 2)) (h1 : ∀ r ∈ rs, (r.length : Int) = intD (at' tl 3) ∧ ∀ e ∈ r, 0 ≤ e ∧ e ≤ intD (at' tl 2)) : Part many wide tl m0 (Str.ofString "r") (.tup (rs.map rowD)) m0 := Exists.intro rs ⟨rfl, rfl, h0, h1⟩
theorem Part.c (h0 : 1 ≤ k) (h1 : k ≤ intD (at' tl 2)) : Part many wide tl m0 (Str.ofString "c") (.int k) m0 := Exists.intro k ⟨rfl, rfl, h0, h1⟩
theorem Part.f (h0 : ns.length ≤ 2) (h1 : ∀ n ∈ ns, 1 ≤ n ∧ n ≤ intD (at' tl 2)) : Part many wide tl m0 (Str.ofString "f") (rowD ns) m0 := Exists.intro ns ⟨rfl, rfl, h0, h1⟩
theorem Part.n : Part many wide tl m0 (Str.ofString "n") (.int k) m0 := Exists.intro k ⟨rfl, rfl⟩
theorem Part.p (h0 : 0 ≤ k) : Part many wide tl m0 (Str.ofString "p") (.int k) m0 := Exists.intro k ⟨rfl, rfl, h0⟩
end
end Mine
end
section
open PySem PySem.W PyProof.Rows PySem.Calls
set_option maxRecDepth 100000
namespace Mine
structure PlacePre (l : Str) (t : List D) : Prop where
  mem : l ∈ theLetters
  hR : l = Str.ofString "R" → ∃ xs, t[1]? = some (rowD xs) ∧ xs.length ≤ 100
  h2 : l = Str.ofString "r" ∨ l = Str.ofString "c" ∨ l = Str.ofString "f" → ∃ s, t[2]? = some (.int s) ∧ 1 ≤ s ∧ s ≤ 2
  h3 : l = Str.ofString "r" → ∃ s, t[3]? = some (.int s) ∧ 1 ≤ s ∧ s ≤ 2
theorem pick2 {a b : Str} {y : Int} (h0 : 0 ≤ y) (h1 : y < 2) : ∃ d, [D.str a, D.str b][y.toNat]? = some (.str d) ∧ [a, b].any (· == d) = true := by
  rcases (show y = 0 ∨ y = 1 by omega) with rfl | rfl
  · exact ⟨a, rfl, List.any_eq_true.mpr ⟨a, by simp, beq_self_eq_true a⟩⟩
  · exact ⟨b, rfl, List.any_eq_true.mpr ⟨b, by simp, beq_self_eq_true b⟩⟩
theorem pick3 {a b c : Str} {y : Int} (h0 : 0 ≤ y) (h1 : y < 3) : ∃ d, [D.str a, D.str b, D.str c][y.toNat]? = some (.str d) ∧ [a, b, c].any (· == d) = true := by
  rcases (show y = 0 ∨ y = 1 ∨ y = 2 by omega) with rfl | rfl | rfl
  · exact ⟨a, rfl, List.any_eq_true.mpr ⟨a, by simp, beq_self_eq_true a⟩⟩
  · exact ⟨b, rfl, List.any_eq_true.mpr ⟨b, by simp, beq_self_eq_true b⟩⟩
  · exact ⟨c, rfl, List.any_eq_true.mpr ⟨c, by simp, beq_self_eq_true c⟩⟩
theorem le100 {y n : Int} (h : y < n) (k : decide (n ≤ 101) = true) : y ≤ 100 := by have := of_decide_eq_true k; omega
theorem lt62 {y n : Int} (h : y < n) (k : decide (n ≤ 101) = true) : y < 2 ^ 62 := by have := of_decide_eq_true k; omega
theorem toNat_le {y : Int} {n k : Nat} (h : n = y.toNat) (hy : y < k + 1) : n ≤ k := by omega
theorem succ_nat {y : Int} {n k : Nat} (h0 : 0 ≤ y) (h : n = (1 + y).toNat) (hy : y < k) : 0 < n ∧ n ≤ k := by omega
theorem succ_int {y k : Int} (h0 : 0 ≤ y) (hy : y < k) : 0 ≤ 1 + y ∧ 1 ≤ 1 + y ∧ 1 + y ≤ k := by omega
section
variable {C : Cx} {ρ : List (Str × D)} {φ : C.S}
theorem EX_ret (ok : C.Ok) {e : Expr} {pos : Pos} {ss : List Stmt} {R : Out C.S → Prop} (h : EV C ρ φ e fun d φ' => R (.ret d φ')) : EX C ρ φ (.Return (some e) pos :: ss) R := EX_cons (EX_return ok h)
theorem EX_if1 (ok : C.Ok) {t : Expr} {b ss : List Stmt} {pos : Pos} {c : Bool} {R : Out C.S → Prop} (h : TRP C ρ φ t c) (h1 : c = true → EX C ρ φ b (Then C ss R)) (h2 : c = false → EX C ρ φ ss R) : EX C ρ φ (.If t b [] pos :: ss) R := EX_cons (EX_if ok (h _ (by
  cases c with
  | true => exact h1 rfl
  | false => exact EX_nil (h2 rfl))))
theorem EX_eqs (ok : C.Ok) {x : Str} {px p q pos : Pos} {l y : Str} {k : Nat} {b ss : List Stmt} {R : Out C.S → Prop} (hx : ρ.lookup x = some (.str l)) (hk : seenK C x = true) (h1 : l = y → EX C ρ φ b (Then C ss R)) (h2 : ¬ l = y → EX C ρ φ ss R) :
    EX C ρ φ (.If (.Compare (.Name x px) [.Eq] [.Constant (.str y) k p] q) b [] pos :: ss) R := EX_if1 ok (TRP_eqs ok (EVP_name ok hx hk)) (fun e => h1 (beq_iff_eq.mp e)) fun e => h2 (beq_eq_false_iff_ne.mp e)
theorem EX_or2 (ok : C.Ok) {x : Str} {px p q px' p' q' qq pos : Pos} {l y y' : Str} {k k' : Nat} {b ss : List Stmt} {R : Out C.S → Prop} (hx : ρ.lookup x = some (.str l)) (hk : seenK C x = true) (h1 : l = y ∨ l = y' → EX C ρ φ b (Then C ss R)) (h2 : ¬ l = y → ¬ l = y' → EX C ρ φ ss R) :
    EX C ρ φ (.If (.BoolOp .Or [.Compare (.Name x px) [.Eq] [.Constant (.str y) k p] q, .Compare (.Name x px') [.Eq] [.Constant (.str y') k' p'] q'] qq) b [] pos :: ss) R :=
  EX_if1 ok (TRP_or ok (TRP_eqs ok (EVP_name ok hx hk)) fun _ => TRP_eqs ok (EVP_name ok hx hk)) (fun e => h1 (by rwa [Bool.or_eq_true, beq_iff_eq, beq_iff_eq] at e)) fun e => by
    rw [Bool.or_eq_false_iff] at e
    exact h2 (beq_eq_false_iff_ne.mp e.1) (beq_eq_false_iff_ne.mp e.2)
end
theorem last_letters {l : Str} (hm : l ∈ theLetters) (n1 : ¬ l = Str.ofString "x") (n2 : ¬ l = Str.ofString "X") (n3 : ¬ l = Str.ofString "Y") (n4 : ¬ l = Str.ofString "Z") (n5 : ¬ l = Str.ofString "N") (n5' : ¬ l = Str.ofString "P") (n6 : ¬ l = Str.ofString "M") (n7 : ¬ l = Str.ofString "R") (n8 : ¬ l = Str.ofString "s") (n9 : ¬ l = Str.ofString "t") (n10 : ¬ l = Str.ofString "a") (n10' : ¬ l = Str.ofString "b") (n11 : ¬ l = Str.ofString "r") (n12 : ¬ l = Str.ofString "c") (n13 : ¬ l = Str.ofString "f") : l = Str.ofString "n" ∨ l = Str.ofString "p" := by
  simp only [theLetters, List.mem_cons, List.not_mem_nil, or_false, n1, n2, n3, n4, n5, n5', n6, n7, n8, n9, n10, n10', n11, n12, n13, false_or] at hm
  exact hm
set_option maxHeartbeats 4000000 in
theorem place_core {C : Cx} (ok : C.Ok) (fc : FeedCx C) (room : Room C 8) {l : Str} {wide : Int} {t : List D} (pre : PlacePre l t) (hw : 0 ≤ wide ∧ wide ≤ 3) {φ : C.S} (g : Good fc φ) (R : D → C.S → Prop)
    (r : ∀ d φ' m', Part (fc.get φ).many wide.toNat t (fc.get φ).most l d m' → At fc φ φ' 400 m' → R d φ') : OP C φ (fun vs => call (.ref 130) vs) [.ref fc.F, .str l, .int wide, .tup t] R := by
  refine OP_def ok (f := 130) rfl rfl rfl rfl (names := [Str.ofString "feed", Str.ofString "letter", Str.ofString "wide", Str.ofString "told"]) (fun vals hv => bind4 (P := fun vals => bindArgs _ ⟨vals, []⟩ = pure (List.zip _ vals)) hv fun _ _ _ _ => rfl) rfl (fun n y hy => by simp only [List.mem_cons, List.not_mem_nil, or_false] at hy; rcases hy with rfl | rfl | rfl | rfl <;> first | exact .inl rfl | exact .inr ⟨rfl, rfl⟩) room.dep rfl rfl rfl rfl rfl (fun L ok' => ?_)
  have rm := room_enter' ok' room
  have hw' : 0 ≤ wide ∧ wide ≤ 100 := ⟨hw.1, Int.le_trans hw.2 (by decide)⟩
  have a0 := At.refl fc φ
  have r : ∀ {d φ' m' c}, Part (fc.get φ).many wide.toNat t (fc.get φ).most l d m' → At fc φ φ' c m' → c ≤ 400 → R d φ' := fun p a h => r _ _ _ p (a.up h)
  refine EX_eqs ok' rfl rfl (fun e => ?_) fun n1 => EX_eqs ok' rfl rfl (fun e => ?_) fun n2 => EX_eqs ok' rfl rfl (fun e => ?_) fun n3 => EX_eqs ok' rfl rfl (fun e => ?_) fun n4 => EX_or2 ok' rfl rfl (fun e => ?_) fun n5 n5' => EX_eqs ok' rfl rfl (fun e => ?_) fun n6 => EX_eqs ok' rfl rfl (fun e => ?_) fun n7 => EX_eqs ok' rfl rfl (fun e => ?_) fun n8 =>
    EX_eqs ok' rfl rfl (fun e => ?_) fun n9 => EX_or2 ok' rfl rfl (fun e => ?_) fun n10 n10' => EX_eqs ok' rfl rfl (fun e => ?_) fun n11 => EX_eqs ok' rfl rfl (fun e => ?_) fun n12 => EX_eqs ok' rfl rfl (fun e => ?_) fun n13 => ?_
  · subst e
    exact EX_ret ok' (EV_callF ok' g_var rfl rfl rfl rfl (EVs_nil ((lvar_a ok' (fc.enter _ L 130) (Room.ble rm rfl) g a0 (leb rfl) _ fun y1 φ1 h1 k1 a1 => (r (.x h1 k1) a1 (leb rfl))))))
  · subst e
    exact EX_ret ok' (EV_callF ok' g_vars rfl rfl rfl rfl (EVs_cons ok' (EVP_name ok' rfl rfl _ (EVs_nil ((vars_a ok' (fc.enter _ L 130) (Room.ble rm rfl) hw' g a0 (leb rfl) _ fun y1 φ1 h1 k1 a1 => (r (.X h1 k1) a1 (leb rfl)))))) (star1 rfl)))
  · subst e
    exact EX_ret ok' (EV_callF ok' g_vars rfl rfl rfl rfl (EVs_cons ok' (EV_callF ok' g_dip rfl rfl rfl rfl (EVs_cons ok' (EV_int (EVs_nil ((dip_a ok' (fc.enter _ L 130) (Room.ble rm rfl) (by decide) g a0 (leb rfl) _ fun y1 φ1 h1 k1 a1 => (EVs_nil (vars_a ok' (fc.enter _ L 130) (Room.ble rm rfl) ⟨h1, le100 k1 rfl⟩ g a1 (leb rfl) _ fun y2 φ2 h2 k2 a2 => r (.Y (toNat_le h2 k1) k2) a2 (leb rfl))))))) (star1 rfl))) (star1 rfl)))
  · subst e
    exact EX_ret ok' (EV_callF ok' g_vars rfl rfl rfl rfl (EVs_cons ok' (EV_BinOp ok' (EV_int (EV_callF ok' g_dip rfl rfl rfl rfl (EVs_cons ok' (EV_int (EVs_nil ((dip_a ok' (fc.enter _ L 130) (Room.ble rm rfl) (by decide) g a0 (leb rfl) _ fun y1 φ1 h1 k1 a1 => (OP_add (EVs_nil (vars_a ok' (fc.enter _ L 130) (Room.ble rm rfl) (by omega) g a1 (leb rfl) _ fun y2 φ2 h2 k2 a2 => have z := succ_nat (k := 3) h1 h2 k1; r (.Z z.1 z.2 k2) a2 (leb rfl)))))))) (star1 rfl))))) (star1 rfl)))
  · refine EX_ret ok' (EV_callF ok' g_numbers rfl rfl rfl rfl (EVs_cons ok' (EVP_name ok' rfl rfl _ (EVs_cons ok' ?_ (star1 rfl))) (star1 rfl)))
    rcases e with e | e
    · subst e
      exact (EVP.cast (EVP_if ok' (TRP_eqs ok' (EVP_name ok' rfl rfl)) (fun _ => (EVP_neg EVP_int)) (fun _ => EVP_int)) (show _ = D.int (-4) from rfl)) _ (EVs_nil (numbers_a ok' (fc.enter _ L 130) (Room.ble rm rfl) hw' g a0 (leb rfl) _ fun y1 φ1 h1 k1 a1 => r (.N h1) a1 (leb rfl)))
    · subst e
      exact (EVP.cast (EVP_if ok' (TRP_eqs ok' (EVP_name ok' rfl rfl)) (fun _ => (EVP_neg EVP_int)) (fun _ => EVP_int)) (show _ = D.int 0 from rfl)) _ (EVs_nil (numbers_a ok' (fc.enter _ L 130) (Room.ble rm rfl) hw' g a0 (leb rfl) _ fun y1 φ1 h1 k1 a1 => r (.P h1 fun n hn => (k1 n hn).1) a1 (leb rfl)))
  · subst e
    exact EX_ret ok' (EV_callF ok' g_numbers rfl rfl rfl rfl (EVs_cons ok' (EV_callF ok' g_dip rfl rfl rfl rfl (EVs_cons ok' (EV_int (EVs_nil ((dip_a ok' (fc.enter _ L 130) (Room.ble rm rfl) (by decide) g a0 (leb rfl) _ fun y1 φ1 h1 k1 a1 => (EVs_cons ok' (EVP_neg EVP_int _ (EVs_nil (numbers_a ok' (fc.enter _ L 130) (Room.ble rm rfl) ⟨h1, le100 k1 rfl⟩ g a1 (leb rfl) _ fun y2 φ2 h2 k2 a2 => r (.M (toNat_le h2 k1)) a2 (leb rfl)))) (star1 rfl)))))) (star1 rfl))) (star1 rfl)))
  · subst e
    obtain ⟨xs, ht1, hx⟩ := pre.hR rfl
    have hx3 : (xs.map D.int).length ≤ 100 := by rw [List.length_map]; exact hx
    have hx4 : ((xs.map D.int).length : Int) ≤ 100 := by omega
    refine EX_ret ok' (EV_laps ok' (fc.enter _ L 130) rowD (fun r => (r.length : Int) = lenD (at' t 1)) (fun _ => (fc.get φ).most) 100 (compScope rfl rfl rfl rfl rfl rfl rfl) rfl rfl (EV_callF ok' g_dip rfl rfl rfl rfl (EVs_cons ok' (EV_int (EVs_nil ((dip_a ok' (fc.enter _ L 130) (Room.ble rm rfl) (by decide) g a0 (leb rfl) _ fun y1 φ1 h1 k1 a1 => ⟨_, rfl, ⟨h1, le100 k1 rfl⟩, a1, fun rs k φ' c a ok'' a10 hl => ?_, fun rs φ' e2 e3 a10 => r (.R (toNat_le e2 k1) e3) a10 (by omega)⟩)))) (star1 rfl))) (fun _ => rfl) rfl (fun _ => rfl) (fun _ => rfl))
    refine EV_callF ok'' g_numbers rfl rfl rfl rfl (EVs_cons ok'' ((EVP_lenT ok'' rfl rfl (EVP_at (k := 1) ok'' (EVP_name ok'' rfl rfl) rfl ht1) (lt_ok hx3 rfl) (fun _ => rfl)) _ (EVs_cons ok'' (EVP_neg EVP_int _ (EVs_nil (numbers_a ok'' ((fc.enter _ L 130).comp _ c a) (Room.ble (room_comp rm) rfl) ⟨Int.natCast_nonneg _, hx4⟩ g a10 (by omega) _ fun ys φ' h1 h2 a11 => ⟨ys, rfl, ?_, a11⟩))) (star1 rfl))) (star1 rfl))
    rw [at_of ht1, h1]
    show (((xs.map D.int).length : Int).toNat : Int) = ((xs.map D.int).length : Int)
    rw [Int.toNat_natCast]
  · subst e
    refine EX_ret ok' (EV_itemT ok' ((EVP_Tuple ok' (EVsP_cons ok' rfl EVP_str (EVsP_cons ok' rfl EVP_str EVsP_nil)) (by (first | exact len_ok rfl | assumption | omega))) _ ⟨_, rfl, (EV_callF ok' g_dip rfl rfl rfl rfl (EVs_cons ok' (EV_int (EVs_nil ((dip_a ok' (fc.enter _ L 130) (Room.ble rm rfl) (by decide) g a0 (leb rfl) _ fun y1 φ1 h1 k1 a1 => ?_)))) (star1 rfl)))⟩))
    obtain ⟨d, hd, hor⟩ := pick2 (a := Str.ofString "bounds") (b := Str.ofString "values") h1 k1
    exact ⟨_, .str d, rfl, h1, lt62 k1 rfl, hd, r (.s hor) a1 (leb rfl)⟩
  · subst e
    refine EX_cons (EX_assign ok' (.inl rfl) (EV_itemT ok' ((EVP_Tuple ok' (EVsP_cons ok' rfl EVP_str (EVsP_cons ok' rfl EVP_str (EVsP_cons ok' rfl EVP_str EVsP_nil))) (by (first | exact len_ok rfl | assumption | omega))) _ ⟨_, rfl, (EV_callF ok' g_dip rfl rfl rfl rfl (EVs_cons ok' (EV_int (EVs_nil ((dip_a ok' (fc.enter _ L 130) (Room.ble rm rfl) (by decide) g a0 (leb rfl) _ fun y1 φ1 h1 k1 a1 => ?_)))) (star1 rfl)))⟩)))
    obtain ⟨d, hd, hor⟩ := pick3 (a := Str.ofString "linear_le") (b := Str.ofString "linear_eq") (c := Str.ofString "linear_ne") h1 k1
    refine ⟨_, .str d, rfl, h1, lt62 k1 rfl, hd, ?_⟩
    exact EX_ret ok' (EV_Tuple ok' (EVs_cons ok' (EVP_name ok' rfl rfl _ (EVs_cons ok' (EV_callF ok' g_numbers rfl rfl rfl rfl (EVs_cons ok' (EVP_name ok' rfl rfl _ (EVs_cons ok' (EV_neg (EV_int ⟨_, rfl, (EVs_nil ((numbers_a ok' (fc.enter _ L 130) (Room.ble rm rfl) hw' g a1 (leb rfl) _ fun y2 φ2 h2 k2 a2 => (EVs_cons ok' (EV_callF ok' g_vars rfl rfl rfl rfl (EVs_cons ok' (EVP_name ok' rfl rfl _ (EVs_nil ((vars_a ok' (fc.enter _ L 130) (Room.ble rm rfl) hw' g a2 (leb rfl) _ fun y3 φ3 h3 k3 a3 => (EVs_cons ok' (EV_BinOp ok' (EV_callF ok' g_dip rfl rfl rfl rfl (EVs_cons ok' (EV_int (EVs_nil ((dip_a ok' (fc.enter _ L 130) (Room.ble rm rfl) (by decide) g a3 (leb rfl) _ fun y4 φ4 h4 k4 a4 => (EV_int (OP_sub (EVs_nil ⟨by (first | exact len_ok rfl | assumption | omega), (r (.t hor h2 h3 k3) a4 (leb rfl))⟩))))))) (star1 rfl)))) (star1 rfl)))))) (star1 rfl))) (star1 rfl)))))⟩)) (star1 rfl))) (star1 rfl))) (star1 rfl))) (star1 rfl)))
  · refine EX_ret ok' (EV_BinOp ok' (EV_int (EV_callF ok' g_dip rfl rfl rfl rfl (EVs_cons ok' (EV_int (EVs_nil ((dip_a ok' (fc.enter _ L 130) (Room.ble rm rfl) (by decide) g a0 (leb rfl) _ fun y1 φ1 h1 k1 a1 => (OP_add ?_))))) (star1 rfl)))))
    have z := succ_int h1 k1
    rcases e with e | e
    · subst e
      exact r (.a z.2.1 z.2.2) a1 (leb rfl)
    · subst e
      exact r (.b z.2.1 z.2.2) a1 (leb rfl)
  · subst e
    obtain ⟨s2, t2, b2, b2'⟩ := pre.h2 (.inl rfl)
    obtain ⟨s3, t3, b3, b3'⟩ := pre.h3 rfl
    refine EX_ret ok' (EV_laps ok' (fc.enter _ L 130) rowD (fun r => (r.length : Int) = intD (at' t 3) ∧ ∀ e ∈ r, 0 ≤ e ∧ e ≤ intD (at' t 2)) (fun _ => (fc.get φ).most) 2 (compScope rfl rfl rfl rfl rfl rfl rfl) rfl rfl ((EVP_at (k := 2) ok' (EVP_name ok' rfl rfl) rfl t2) _ ⟨_, rfl, by omega, a0, fun rs k φ' c a ok'' a10 hl => ?_, fun rs φ' e2 e3 a10 => r (.r (by rw [at_of t2, e2]; show (s2.toNat : Int) = s2; omega) e3) a10 (by omega)⟩) (fun _ => rfl) rfl (fun _ => rfl) (fun _ => rfl))
    refine EV_laps ok'' ((fc.enter _ L 130).comp _ c a) D.int (fun e => 0 ≤ e ∧ e ≤ intD (at' t 2)) (fun _ => (fc.get φ).most) 1 (compScope rfl rfl rfl rfl rfl rfl rfl) rfl rfl ((EVP_at (k := 3) ok'' (EVP_name ok'' rfl rfl) rfl t3) _ ⟨_, rfl, by omega, a10, fun es j φ' c' a' ok3 a20 hl => ?_, fun es φ' f2 f3 a20 => ⟨es, rfl, ⟨by rw [at_of t3, f2]; show (s3.toNat : Int) = s3; omega, f3⟩, a20.up (by omega)⟩⟩) (fun _ => rfl) rfl (fun _ => rfl) (fun _ => rfl)
    refine EV_callF ok3 g_dip rfl rfl rfl rfl (EVs_cons ok3 ((EVP_add ok3 (EVP_at (k := 2) ok3 (EVP_name ok3 rfl rfl) rfl t2) EVP_int) _ (EVs_nil (dip_a ok3 (((fc.enter _ L 130).comp _ c a).comp _ c' a') (Room.ble (room_comp (room_comp rm)) rfl) (by omega) g a20 (by omega) _ fun x φ' x0 x1 a21 => ⟨x, rfl, ⟨x0, by rw [at_of t2]; show x ≤ s2; omega⟩, a21⟩))) (star1 rfl))
  · subst e
    obtain ⟨s2, t2, b2, b2'⟩ := pre.h2 (.inr (.inl rfl))
    exact EX_ret ok' (EV_BinOp ok' (EV_int (EV_callF ok' g_dip rfl rfl rfl rfl (EVs_cons ok' ((EVP_at (k := 2) ok' (EVP_name ok' rfl rfl) rfl t2) _ (EVs_nil (dip_a ok' (fc.enter _ L 130) (Room.ble rm rfl) (by omega) g a0 (leb rfl) _ fun x φ1 h1 k1 a1 => OP_add (have z := succ_int h1 k1; r (.c z.2.1 (by rw [at_of t2]; exact z.2.2)) a1 (leb rfl))))) (star1 rfl)))))
  · subst e
    obtain ⟨s2, t2, b2, b2'⟩ := pre.h2 (.inr (.inr rfl))
    refine EX_ret ok' (EV_laps ok' (fc.enter _ L 130) D.int (fun e => 1 ≤ e ∧ e ≤ intD (at' t 2)) (fun _ => (fc.get φ).most) 1 (compScope rfl rfl rfl rfl rfl rfl rfl) rfl rfl (EV_callF ok' g_dip rfl rfl rfl rfl (EVs_cons ok' (EV_int (EVs_nil ((dip_a ok' (fc.enter _ L 130) (Room.ble rm rfl) (by decide) g a0 (leb rfl) _ fun y1 φ1 h1 k1 a1 => ⟨_, rfl, ⟨h1, le100 k1 rfl⟩, a1, fun es k φ' c a ok'' a10 hl => ?_, fun es φ' e2 e3 a10 => r (.f (toNat_le e2 k1) e3) a10 (by omega)⟩)))) (star1 rfl))) (fun _ => rfl) rfl (fun _ => rfl) (fun _ => rfl))
    exact EV_BinOp ok'' (EV_int (EV_callF ok'' g_dip rfl rfl rfl rfl (EVs_cons ok'' ((EVP_at (k := 2) ok'' (EVP_name ok'' rfl rfl) rfl t2) _ (EVs_nil (dip_a ok'' ((fc.enter _ L 130).comp _ c a) (Room.ble (room_comp rm) rfl) (by omega) g a10 (by omega) _ fun x φ1 h1 k1 a1 => OP_add ⟨_, rfl, (have z := succ_int h1 k1; ⟨z.2.1, by rw [at_of t2]; exact z.2.2⟩), a1⟩))) (star1 rfl))))
  refine EX_ret ok' (EV_BinOp ok' (EV_callF ok' g_dip rfl rfl rfl rfl (EVs_cons ok' (EV_int (EVs_nil ((dip_a ok' (fc.enter _ L 130) (Room.ble rm rfl) (by decide) g a0 (leb rfl) _ fun y1 φ1 h1 k1 a1 => ?_)))) (star1 rfl))))
  rcases last_letters pre.mem n1 n2 n3 n4 n5 n5' n6 n7 n8 n9 n10 n10' n11 n12 n13 with e | e
  · subst e
    exact (EVP.cast (EVP_if ok' (TRP_eqs ok' (EVP_name ok' rfl rfl)) (fun _ => EVP_int) (fun _ => EVP_int)) (show _ = D.int 4 from rfl)) _ (OP_sub (r .n a1 (leb rfl)))
  · subst e
    exact (EVP.cast (EVP_if ok' (TRP_eqs ok' (EVP_name ok' rfl rfl)) (fun _ => EVP_int) (fun _ => EVP_int)) (show _ = D.int 0 from rfl)) _ (OP_sub (r (.p (by omega)) a1 (leb rfl)))
theorem place_def {C : Cx} (ok : C.Ok) (fc : FeedCx C) (room : Room C 8) {l : Str} {wide : Int} {t : List D} (pre : PlacePre l t) (hw : 0 ≤ wide ∧ wide ≤ 3) {φ0 φ : C.S} {c0 : Nat} {m1 : Int} (g : Good fc φ0) (hp : (fc.get φ0).place ≤ 50000) (a0 : At fc φ0 φ c0 m1) (hc : c0 ≤ 10000) (R : D → C.S → Prop)
    (r : ∀ d φ' m', Part (fc.get φ0).many wide.toNat t m1 l d m' → At fc φ0 φ' (c0 + 400) m' → R d φ') : OP C φ (fun vs => call (.ref 130) vs) [.ref fc.F, .str l, .int wide, .tup t] R := by
  obtain ⟨g', e1, e2, up⟩ := a0.base g hp hc
  refine place_core ok fc room pre hw g' R fun d φ' m' p a => r d φ' m' ?_ (up a)
  rw [e1, e2] at p
  exact p
end Mine
end
section
open PySem PySem.W PyProof.Rows PySem.Calls
set_option maxRecDepth 100000
namespace Mine
def lawTab : List (Str × Str) := [(Str.ofString "linear_le", Str.ofString "NXn"), (Str.ofString "linear_eq", Str.ofString "NXn"), (Str.ofString "linear_ne", Str.ofString "NXn"), (Str.ofString "times", Str.ofString "xxx"), (Str.ofString "div", Str.ofString "xxx"), (Str.ofString "mod", Str.ofString "xxx"), (Str.ofString "abs", Str.ofString "xx"), (Str.ofString "max", Str.ofString "Zx"), (Str.ofString "min", Str.ofString "Zx"), (Str.ofString "element", Str.ofString "xYx"), (Str.ofString "element_of", Str.ofString "xMx"), (Str.ofString "table", Str.ofString "YR"), (Str.ofString "all_different", Str.ofString "Ys"), (Str.ofString "count", Str.ofString "Ynx"), (Str.ofString "nvalue", Str.ofString "Yx"), (Str.ofString "cardinality", Str.ofString "YNNN"), (Str.ofString "cumulative", Str.ofString "XPPp"), (Str.ofString "disjunctive", Str.ofString "XP"), (Str.ofString "circuit", Str.ofString "Y"), (Str.ofString "inverse", Str.ofString "XX"), (Str.ofString "regular", Str.ofString "Yabrcf"), (Str.ofString "lex_le", Str.ofString "YY"), (Str.ofString "lex_lt", Str.ofString "YY"), (Str.ofString "increasing", Str.ofString "Y"), (Str.ofString "precede", Str.ofString "nnY"), (Str.ofString "clause", Str.ofString "YY"), (Str.ofString "and", Str.ofString "Yx"), (Str.ofString "or", Str.ofString "Yx"), (Str.ofString "xor", Str.ofString "xxx"), (Str.ofString "reif", Str.ofString "xt"), (Str.ofString "imp", Str.ofString "xt")]
theorem G__law_names {C : Cx} : GIs C.K (.ref 101) (.tup (lawTab.map fun p => D.tup [.str p.1, .str p.2])) := .tup (vs := [_, _, _, _, _, _, _, _, _, _, _, _, _, _, _, _, _, _, _, _, _, _, _, _, _, _, _, _, _, _, _]) rfl (.cons (.tup (vs := [_, _]) rfl (.cons (.str _ _) (.cons (.str _ _) .nil))) (.cons (.tup (vs := [_, _]) rfl (.cons (.str _ _) (.cons (.str _ _) .nil))) (.cons (.tup (vs := [_, _]) rfl (.cons (.str _ _) (.cons (.str _ _) .nil))) (.cons (.tup (vs := [_, _]) rfl (.cons (.str _ _) (.cons (.str _ _) .nil))) (.cons (.tup (vs := [_, _]) rfl (.cons (.str _ _) (.cons (.str _ _) .nil))) (.cons (.tup (vs := [_, _]) rfl (.cons (.str _ _) (.cons (.str _ _) .nil))) (.cons (.tup (vs := [_, _]) rfl (.cons (.str _ _) (.cons (.str _ _) .nil))) (.cons (.tup (vs := [_, _]) rfl (.cons (.str _ _) (.cons (.str _ _) .nil))) (.cons (.tup (vs := [_, _]) rfl (.cons (.str _ _) (.cons (.str _ _) .nil))) (.cons (.tup (vs := [_, _]) rfl (.cons (.str _ _) (.cons (.str _ _) .nil))) (.cons (.tup (vs := [_, _]) rfl (.cons (.str _ _) (.cons (.str _ _) .nil))) (.cons (.tup (vs := [_, _]) rfl (.cons (.str _ _) (.cons (.str _ _) .nil))) (.cons (.tup (vs := [_, _]) rfl (.cons (.str _ _) (.cons (.str _ _) .nil))) (.cons (.tup (vs := [_, _]) rfl (.cons (.str _ _) (.cons (.str _ _) .nil))) (.cons (.tup (vs := [_, _]) rfl (.cons (.str _ _) (.cons (.str _ _) .nil))) (.cons (.tup (vs := [_, _]) rfl (.cons (.str _ _) (.cons (.str _ _) .nil))) (.cons (.tup (vs := [_, _]) rfl (.cons (.str _ _) (.cons (.str _ _) .nil))) (.cons (.tup (vs := [_, _]) rfl (.cons (.str _ _) (.cons (.str _ _) .nil))) (.cons (.tup (vs := [_, _]) rfl (.cons (.str _ _) (.cons (.str _ _) .nil))) (.cons (.tup (vs := [_, _]) rfl (.cons (.str _ _) (.cons (.str _ _) .nil))) (.cons (.tup (vs := [_, _]) rfl (.cons (.str _ _) (.cons (.str _ _) .nil))) (.cons (.tup (vs := [_, _]) rfl (.cons (.str _ _) (.cons (.str _ _) .nil))) (.cons (.tup (vs := [_, _]) rfl (.cons (.str _ _) (.cons (.str _ _) .nil))) (.cons (.tup (vs := [_, _]) rfl (.cons (.str _ _) (.cons (.str _ _) .nil))) (.cons (.tup (vs := [_, _]) rfl (.cons (.str _ _) (.cons (.str _ _) .nil))) (.cons (.tup (vs := [_, _]) rfl (.cons (.str _ _) (.cons (.str _ _) .nil))) (.cons (.tup (vs := [_, _]) rfl (.cons (.str _ _) (.cons (.str _ _) .nil))) (.cons (.tup (vs := [_, _]) rfl (.cons (.str _ _) (.cons (.str _ _) .nil))) (.cons (.tup (vs := [_, _]) rfl (.cons (.str _ _) (.cons (.str _ _) .nil))) (.cons (.tup (vs := [_, _]) rfl (.cons (.str _ _) (.cons (.str _ _) .nil))) (.cons (.tup (vs := [_, _]) rfl (.cons (.str _ _) (.cons (.str _ _) .nil))) (.nil))))))))))))))))))))))))))))))))
def lets (x : Str) : List Str := x.cps.toList.map fun c => ⟨#[c]⟩
theorem signs_lets (x : Str) : signs x = (lets x).map .str := by simp [signs, lets]
theorem lets_len (x : Str) : (lets x).length = x.cps.size := by simp [lets]
/-- the parts, one after another -/
noncomputable def ToldR (many : Int) (wide : Nat) : List D → Int → List Str → List D → Int → Prop
  | t, m0, [], ps, m' => ps = [] ∧ m' = m0
  | t, m0, l :: ls, ps, m' => ∃ d rest m1, ps = d :: rest ∧ Part many wide t m0 l d m1 ∧ ToldR many wide (t ++ [d]) m1 ls rest m'
theorem ToldR.snoc {many : Int} {wide : Nat} {l : Str} {d : D} : ∀ {ls : List Str} {t ps : List D} {m0 m m' : Int}, ToldR many wide t m0 ls ps m → Part many wide (t ++ ps) m l d m' → ToldR many wide t m0 (ls ++ [l]) (ps ++ [d]) m'
  | [], t, ps, m0, m, m', ⟨e1, e2⟩, p => by
    subst e1; subst e2
    rw [List.append_nil] at p
    exact ⟨d, [], m', rfl, p, rfl, rfl⟩
  | l' :: ls, t, ps, m0, m, m', ⟨d', rest, m1, e, p', r⟩, p => by
    subst e
    rw [show t ++ d' :: rest = (t ++ [d']) ++ rest by simp] at p
    exact ⟨d', rest ++ [d], m1, rfl, p', ToldR.snoc r p⟩
theorem ToldR.length {many : Int} {wide : Nat} : ∀ {ls : List Str} {t ps : List D} {m0 m : Int}, ToldR many wide t m0 ls ps m → ps.length = ls.length
  | [], _, _, _, _, ⟨e1, _⟩ => by subst e1; rfl
  | _ :: ls, _, _, _, _, ⟨_, _, _, e, _, r⟩ => by subst e; rw [List.length_cons, List.length_cons, ToldR.length r]
theorem letter_facts : ∀ p ∈ lawTab, p.2.cps.size ≤ 6 ∧ ∀ k ∈ List.range p.2.cps.size, ∀ l, (lets p.2)[k]? = some l → l ∈ theLetters ∧ (l = Str.ofString "R" → lets p.2 = [Str.ofString "Y", Str.ofString "R"] ∧ k = 1) ∧
    (l = Str.ofString "r" ∨ l = Str.ofString "c" ∨ l = Str.ofString "f" → (lets p.2).take 3 = [Str.ofString "Y", Str.ofString "a", Str.ofString "b"] ∧ 3 ≤ k) := by
  intro p hp
  have := show ∀ p ∈ lawTab, p.2.cps.size ≤ 6 ∧ ∀ k ∈ List.range p.2.cps.size, ((lets p.2)[k]?.all fun l => decide (l ∈ theLetters) && (!decide (l = Str.ofString "R") || (decide (lets p.2 = [Str.ofString "Y", Str.ofString "R"]) && decide (k = 1))) &&
    (!decide (l = Str.ofString "r" ∨ l = Str.ofString "c" ∨ l = Str.ofString "f") || (decide ((lets p.2).take 3 = [Str.ofString "Y", Str.ofString "a", Str.ofString "b"]) && decide (3 ≤ k)))) = true from by decide
  obtain ⟨h1, h2⟩ := this p hp
  refine ⟨h1, fun k hk l hl => ?_⟩
  have := h2 k hk
  rw [hl] at this
  simp only [Option.all_some, Bool.and_eq_true, Bool.or_eq_true, Bool.not_eq_true', decide_eq_true_eq, decide_eq_false_iff_not] at this
  obtain ⟨⟨a, b⟩, c⟩ := this
  exact ⟨a, fun e => b.resolve_left fun n => n e, fun e => c.resolve_left fun n => n e⟩
end Mine
end
section
open PySem PySem.W PyProof.Rows PySem.Calls
set_option maxRecDepth 100000
namespace Mine
theorem pre_of {p : Str × Str} (hp : p ∈ lawTab) {k : Nat} {l : Str} (hk : (lets p.2)[k]? = some l) {many : Int} {wide : Nat} {m0 m : Int} {ps : List D} (h : ToldR many wide [.str p.1] m0 ((lets p.2).take k) ps m) : PlacePre l (.str p.1 :: ps) := by
  obtain ⟨_, hf⟩ := letter_facts p hp
  have hlt : k < p.2.cps.size := by have := (List.getElem?_eq_some_iff.mp hk).1; rwa [lets_len] at this
  obtain ⟨h1, h2, h3⟩ := hf k (List.mem_range.mpr hlt) l hk
  have key : l = Str.ofString "r" ∨ l = Str.ofString "c" ∨ l = Str.ofString "f" → (∃ s, (D.str p.1 :: ps)[2]? = some (.int s) ∧ 1 ≤ s ∧ s ≤ 2) ∧ (∃ s, (D.str p.1 :: ps)[3]? = some (.int s) ∧ 1 ≤ s ∧ s ≤ 2) := fun e => by
    obtain ⟨e1, e2⟩ := h3 e
    have e3 : (lets p.2).take k = [Str.ofString "Y", Str.ofString "a", Str.ofString "b"] ++ ((lets p.2).take k).drop 3 := by
      conv => lhs; rw [← List.take_append_drop 3 ((lets p.2).take k)]
      rw [List.take_take, Nat.min_eq_left e2, e1]
    rw [e3] at h
    obtain ⟨d1, r1, m1, rfl, p1, d2, r2, m2, rfl, p2, d3, r3, m3, rfl, p3, _⟩ := h
    obtain ⟨n2, rfl, _, b1, b2⟩ := p2
    obtain ⟨n3, rfl, _, c1, c2⟩ := p3
    exact ⟨⟨n2, rfl, b1, b2⟩, ⟨n3, rfl, c1, c2⟩⟩
  refine ⟨h1, fun e => ?_, fun e => (key e).1, fun e => (key (.inl e)).2⟩
  obtain ⟨e1, e2⟩ := h2 e
  subst e2
  rw [e1] at h
  obtain ⟨d1, r1, m1, rfl, p1, _⟩ := h
  obtain ⟨xs, rfl, _, hx, _⟩ := p1
  exact ⟨xs, rfl, by omega⟩
theorem name_at {y : Int} (h0 : 0 ≤ y) (h1 : y < 31) : ∃ p, lawTab[y.toNat]? = some p ∧ p ∈ lawTab := by
  have hlen : lawTab.length = 31 := rfl
  have e := List.getElem?_eq_getElem (l := lawTab) (i := y.toNat) (by omega)
  exact ⟨_, e, List.mem_of_getElem? e⟩
set_option maxHeartbeats 4000000 in
theorem told_law {C : Cx} (ok : C.Ok) (fc : FeedCx C) (room : Room C 10) {φ : C.S} (g : Good fc φ) (hp : (fc.get φ).place ≤ 50000) (R : D → C.S → Prop)
    (r : ∀ p wide ps m φ', p ∈ lawTab → wide ≤ 3 → ToldR (fc.get φ).many wide [.str p.1] (fc.get φ).most (lets p.2) ps m → At fc φ φ' 3000 m → R (.tup [.tup (.str p.1 :: ps), .str p.2]) φ') : OP C φ (fun vs => call (.ref 137) vs) [.ref fc.F] R := by
  refine OP_def ok (f := 137) rfl rfl rfl rfl (names := [Str.ofString "feed"]) (fun vals hv => bind1 (P := fun vals => bindArgs _ ⟨vals, []⟩ = pure (List.zip _ vals)) hv fun _ => rfl) rfl (locals_all rfl) room.dep rfl rfl rfl rfl rfl (fun L ok' => ?_)
  have rm := room_enter' ok' room
  have a0 := At.refl fc φ
  refine EX_cons (EX_unpack ok' (xs := [Str.ofString "name", Str.ofString "letters"]) rfl (stor2 rfl) (EV_itemT ok' ((EVP_gname ok' g_names G__law_names rfl rfl) _ ⟨_, rfl, (EV_callF ok' g_dip rfl rfl rfl rfl (EVs_cons ok' (EV_int (EVs_nil ((dip_a ok' (fc.enter _ L 137) (Room.ble rm rfl) (by decide) g a0 (leb rfl) _ fun y1 φ1 h1 k1 a1 => ?_)))) (star1 rfl)))⟩)))
  obtain ⟨p, hp', hpm⟩ := name_at h1 k1
  have pz := (letter_facts p hpm).1
  refine ⟨_, .tup [.str p.1, .str p.2], rfl, h1, Int.lt_trans k1 (by decide), by rw [List.getElem?_map, hp']; rfl, _, rfl, rfl, ?_⟩
  refine EX_cons (EX_swap ok' (xs := [Str.ofString "told", Str.ofString "wide"]) rfl (stor2 rfl) (EV_Tuple ok' (EVs_cons ok' (EV_Tuple ok' (EVs_cons ok' (EVP_name ok' rfl rfl _ (EVs_nil ⟨by (first | exact len_ok rfl | exact add_ok (by assumption) rfl rfl), (EVs_cons ok' (EV_callF ok' g_dip rfl rfl rfl rfl (EVs_cons ok' (EV_int (EVs_nil ((dip_a ok' (fc.enter _ L 137) (Room.ble rm rfl) (by decide) g a1 (leb rfl) _ fun y2 φ2 h2 k2 a2 => (EVs_nil ⟨by (first | exact len_ok rfl | exact add_ok (by assumption) rfl rfl), ⟨_, rfl, rfl, ?_⟩⟩))))) (star1 rfl))) (star1 rfl))⟩)) (star1 rfl))) (star1 rfl))))
  have hw : 0 ≤ y2 ∧ y2 ≤ 3 := by omega
  refine EX_cons (EX_for ok' (SRCT_name ok' (.inl rfl) (SRC_str ok' ((EVP_name ok' rfl rfl) _ ⟨_, rfl, ?_⟩))))
  rw [signs_lets]
  refine ⟨fun k ρ' φ' => ∃ ps m, Less ((Str.ofString "told", .tup (.str p.1 :: ps)) :: [(Str.ofString "wide", D.int y2), (Str.ofString "letters", .str p.2), (Str.ofString "name", .str p.1), (Str.ofString "feed", .ref fc.F)]) ρ' ∧ ToldR (fc.get φ).many y2.toNat [.str p.1] (fc.get φ).most ((lets p.2).take k) ps m ∧ At fc φ φ' (2 + 400 * k) m,
    ⟨[], _, .refl _, ⟨rfl, rfl⟩, a2⟩, fun k d ρ' φ' hk ⟨ps, m, hless, ht, a10⟩ ρ'' hρ => ?_, fun ρ' φ' ⟨ps, m, hless, ht, a10⟩ => ?_⟩
  · cases hρ
    have hkl : k < p.2.cps.size := by have := (List.getElem?_eq_some_iff.mp hk).1; rwa [List.length_map, lets_len] at this
    rw [List.getElem?_map] at hk
    obtain ⟨l, hl, rfl⟩ := Option.map_eq_some_iff.mp hk
    have pre := pre_of hpm hl ht
    have hz : (D.str p.1 :: ps).length ≤ 7 := by
      have hpl := ht.length
      rw [List.length_take] at hpl
      rw [List.length_cons]; omega
    have hc : 2 + 400 * k ≤ 10000 := by omega
    refine EX_less (ρ := (Str.ofString "letter", .str l) :: (Str.ofString "told", .tup (.str p.1 :: ps)) :: [(Str.ofString "wide", D.int y2), (Str.ofString "letters", .str p.2), (Str.ofString "name", .str p.1), (Str.ofString "feed", .ref fc.F)]) ?_ (.cons _ _ hless)
    refine EX_cons (EX_assign ok' (.inl rfl) (EV_BinOp ok' (EVP_name ok' rfl rfl _ (EV_Tuple ok' (EVs_cons ok' (EV_callF ok' g_place rfl rfl rfl rfl (EVs_cons ok' (EVP_name ok' rfl rfl _ (EVs_cons ok' (EVP_name ok' rfl rfl _ (EVs_cons ok' (EVP_name ok' rfl rfl _ (EVs_nil ((place_def ok' (fc.enter _ L 137) (Room.ble rm rfl) pre hw g hp a10 hc _ fun y11 φ11 m11 h11 a11 => (EVs_nil ⟨by (first | exact len_ok rfl | exact add_ok (by assumption) rfl rfl), (OP_addT ok' (by (first | exact len_ok rfl | exact add_ok (by assumption) rfl rfl)) ?_)⟩))))) (star1 rfl))) (star1 rfl))) (star1 rfl))) (star1 rfl))))))
    refine EX_nil ⟨ps ++ [y11], m11, .cons _ _ (.drop _ _ (.drop _ _ (.refl _) rfl) rfl), ?_, At.up (C := C) a11 (by omega)⟩
    rw [List.take_add_one, hl]
    exact ht.snoc h11
  · refine EX_less ?_ hless
    rw [List.length_map, lets_len] at a10
    rw [List.length_map, List.take_length] at ht
    exact EX_ret ok' ((EVP_Tuple ok' (EVsP_cons ok' rfl (EVP_name ok' rfl rfl) (EVsP_cons ok' rfl (EVP_name ok' rfl rfl) EVsP_nil)) (by (first | exact len_ok rfl | exact add_ok (by assumption) rfl rfl))) _ (r p y2.toNat ps m φ' hpm (by omega) ht (At.up (C := C) a10 (by omega))))
end Mine
end
section
open PySem PySem.W PyProof.Rows PySem.Calls
set_option maxRecDepth 100000
namespace Mine
def bX (l : Str) (ps : List D) (many : Int) : List D := [.lst ps, .tup (ps ++ [.int many]), .tup (ps ++ [.int (-1)]), .tup (ps ++ [.bool false]), .int 0, .none, .str (Str.ofString "0")] ++
  (if (l == Str.ofString "X") = true then [.tup (ps ++ [.int 0])] else if (l == Str.ofString "Z") = true then [.tup []] else [])
def bN (l : Str) (ps : List D) : List D := ([.lst ps, .tup (ps ++ [.bool true]), .tup (ps ++ [.str (Str.ofString "1")]), .tup (ps ++ [.tup [.int 1]]), .int 7, .none] ++ (if (l != Str.ofString "M") = true then [.tup (ps ++ [.int 1])] else [])) ++
  (if ((l == Str.ofString "P") && !ps.isEmpty) = true then [.tup ([.int (-1)] ++ ps.drop 1)] else [])
def bR (ps : List D) (wide : Nat) : List D := [.lst ps, .tup (ps ++ [.lst (List.replicate wide (.int 0))]), .tup (ps ++ [.tup (List.replicate (wide + 1) (.int 0))]), .tup (ps ++ [.tup (List.replicate wide (.int 0) ++ [.bool true])]), .tup (ps ++ [.int 5]), .int 5]
def bS : List D := [.str (Str.ofString "strong"), .str (Str.ofString ""), .int 0, .none, .bool true, .tup [.str (Str.ofString "bounds")]]
def bT (p0 p2 p3 : D) (p1 : List D) (many : Int) : List D := [.tup [.str (Str.ofString "max"), .tup [.int 0], .int 1], .tup [], .int 5, .tup [p0, .tup p1, p2], .tup ([p0, .tup p1, p2, p3] ++ [.int 0]), .lst [p0, .tup p1, p2, p3],
  .tup [.str (Str.ofString "linear_eq"), .tup [.int 1], .tup [.int many], .int 0], .tup [p0, .tup (p1 ++ [.int 1]), p2, p3], .none]
def br (r0 : List D) (rest : List D) (states : Int) : List D := [.tup (D.tup r0 :: rest).dropLast, .tup ((D.tup r0 :: rest) ++ [.tup r0]), .lst (D.tup r0 :: rest), .tup ([.tup (r0 ++ [.int 0])] ++ rest), .tup ([.tup r0.dropLast] ++ rest), .tup ([.lst r0] ++ rest)] ++
  [D.int (states + 1), .int (-1), .bool true].map fun w => .tup ([.tup ([w] ++ r0.drop 1)] ++ rest)
def bc (states : Int) : List D := [.int 0, .int (states + 1), .int (-1), .bool true, .none, .tup [.int 1]]
def bf (ps : List D) (states : Int) : List D := [.tup (ps ++ [.int 0]), .tup (ps ++ [.int (states + 1)]), .tup (ps ++ [.bool true]), .lst ps, .int 1, .none]
def bn (l : Str) (n : Int) : List D := ([.bool true, .none, .str (Str.ofString "1"), .tup [.int 1]] ++ (if ([Str.ofString "a", Str.ofString "b"].any (· == l)) = true then [.int (n + 1), .int (n - 1)] else [])) ++ (if (l == Str.ofString "p") = true then [.int (-1)] else [])
def bx (many : Int) : List D := [.int (-1), .int many, .bool true, .none, .str (Str.ofString "0"), .tup [.int 0]]
/-- what is asked of a bent part, and what it gives -/
inductive Bend (t : List D) (many : Int) : Str → D → List D → Prop
  | x {d : D} : Bend t many (Str.ofString "x") d (bx many)
  | X {l : Str} {ps : List D} : [Str.ofString "X", Str.ofString "Y", Str.ofString "Z"].any (· == l) = true → ps.length ≤ 100 → Bend t many l (.tup ps) (bX l ps many)
  | N {l : Str} {ps : List D} : [Str.ofString "N", Str.ofString "P", Str.ofString "M"].any (· == l) = true → ps.length ≤ 100 → Bend t many l (.tup ps) (bN l ps)
  | R {ps ys : List D} : ps.length ≤ 100 → t[1]? = some (.tup ys) → ys.length ≤ 90 → Bend t many (Str.ofString "R") (.tup ps) (bR ps ys.length)
  | s {d : D} : Bend t many (Str.ofString "s") d bS
  | t {p0 p2 p3 : D} {p1 : List D} : p1.length ≤ 100 → Bend t many (Str.ofString "t") (.tup [p0, .tup p1, p2, p3]) (bT p0 p2 p3 p1 many)
  | r {r0 rest : List D} {s : Int} {d : D} : r0.length ≤ 100 → rest.length ≤ 100 → t[2]? = some (.int s) → t[3]? = some d → Bend t many (Str.ofString "r") (.tup (.tup r0 :: rest)) (br r0 rest s)
  | c {s : Int} {d d' : D} : t[2]? = some (.int s) → t[3]? = some d → Bend t many (Str.ofString "c") d' (bc s)
  | f {ps : List D} {s : Int} {d : D} : ps.length ≤ 100 → t[2]? = some (.int s) → t[3]? = some d → Bend t many (Str.ofString "f") (.tup ps) (bf ps s)
  | n {l : Str} {n : Int} {d d' : D} : [Str.ofString "a", Str.ofString "b", Str.ofString "n", Str.ofString "p"].any (· == l) = true → t[2]? = some d → t[3]? = some d' → Bend t many l (.int n) (bn l n)
theorem any_disj {l : Str} {xs ys : List Str} (h : xs.any (· == l) = true) (h' : ys.any (· == l) = true) (d : xs.all (fun x => !(ys.any (· == x))) = true) : False := by
  obtain ⟨x, hx, e⟩ := List.any_eq_true.mp h
  rw [beq_iff_eq] at e; subst e
  have := List.all_eq_true.mp d _ hx
  rw [h'] at this; cases this
theorem any_one {l x : Str} {xs : List Str} (h : xs.any (· == l) = true) (e : l = x) (d : xs.any (· == x) = false) : False := by
  subst e; rw [h] at d; cases d
theorem any_not {l x : Str} {xs : List Str} (h : xs.any (· == l) = true) (d : xs.any (· == x) = false) : ¬ l = x := fun e => by subst e; rw [h] at d; cases d
theorem any_no {l : Str} {xs ys : List Str} (h : xs.any (· == l) = true) (d : xs.all (fun x => !(ys.any (· == x))) = true) : ¬ ys.any (· == l) = true := fun h' => any_disj h h' d
structure BendI (t : List D) (many : Int) (l : Str) (d : D) (out : List D) : Prop where
  ix : l = Str.ofString "x" → out = bx many
  iX : [Str.ofString "X", Str.ofString "Y", Str.ofString "Z"].any (· == l) = true → ∃ ps, d = .tup ps ∧ out = bX l ps many ∧ ps.length ≤ 100
  iN : [Str.ofString "N", Str.ofString "P", Str.ofString "M"].any (· == l) = true → ∃ ps, d = .tup ps ∧ out = bN l ps ∧ ps.length ≤ 100
  iR : l = Str.ofString "R" → ∃ ps ys, d = .tup ps ∧ out = bR ps ys.length ∧ ps.length ≤ 100 ∧ t[1]? = some (.tup ys) ∧ ys.length ≤ 90
  is : l = Str.ofString "s" → out = bS
  it : l = Str.ofString "t" → ∃ p0 p1 p2 p3, d = .tup [p0, .tup p1, p2, p3] ∧ out = bT p0 p2 p3 p1 many ∧ p1.length ≤ 100
  ir : l = Str.ofString "r" → ∃ r0 rest s, d = .tup (.tup r0 :: rest) ∧ out = br r0 rest s ∧ r0.length ≤ 100 ∧ rest.length ≤ 100 ∧ t[2]? = some (.int s)
  ic : l = Str.ofString "c" → ∃ s, out = bc s ∧ t[2]? = some (.int s)
  if' : l = Str.ofString "f" → ∃ ps s, d = .tup ps ∧ out = bf ps s ∧ ps.length ≤ 100 ∧ t[2]? = some (.int s)
  i2 : ¬ l = Str.ofString "x" → ¬ [Str.ofString "X", Str.ofString "Y", Str.ofString "Z"].any (· == l) = true → ¬ [Str.ofString "N", Str.ofString "P", Str.ofString "M"].any (· == l) = true → ¬ l = Str.ofString "R" → ¬ l = Str.ofString "s" → ¬ l = Str.ofString "t" → ∃ d1 d2, t[2]? = some d1 ∧ t[3]? = some d2
  iz : ¬ l = Str.ofString "x" → ¬ [Str.ofString "X", Str.ofString "Y", Str.ofString "Z"].any (· == l) = true → ¬ [Str.ofString "N", Str.ofString "P", Str.ofString "M"].any (· == l) = true → ¬ l = Str.ofString "R" → ¬ l = Str.ofString "s" → ¬ l = Str.ofString "t" → ¬ l = Str.ofString "r" → ¬ l = Str.ofString "c" → ¬ l = Str.ofString "f" → ∃ n, d = .int n ∧ out = bn l n
theorem Bend.inv {t : List D} {many : Int} {l : Str} {d : D} {out : List D} (b : Bend t many l d out) : BendI t many l d out := by
  cases b with
  | x =>
    exact {ix := fun _ => rfl, iX := fun e => absurd e (by decide), iN := fun e => absurd e (by decide), iR := fun e => absurd e (by decide), is := fun e => absurd e (by decide), it := fun e => absurd e (by decide), ir := fun e => absurd e (by decide), ic := fun e => absurd e (by decide), if' := fun e => absurd e (by decide), i2 := fun n _ _ _ _ _ => absurd rfl n, iz := fun n _ _ _ _ _ _ _ _ => absurd rfl n}
  | X h hz =>
    exact {ix := fun e => (any_not h rfl e).elim, iX := fun _ => ⟨_, rfl, rfl, hz⟩, iN := fun e => (any_disj h e rfl).elim, iR := fun e => (any_not h rfl e).elim, is := fun e => (any_not h rfl e).elim, it := fun e => (any_not h rfl e).elim, ir := fun e => (any_not h rfl e).elim, ic := fun e => (any_not h rfl e).elim, if' := fun e => (any_not h rfl e).elim, i2 := fun _ n _ _ _ _ => absurd h n, iz := fun _ n _ _ _ _ _ _ _ => absurd h n}
  | N h hz =>
    exact {ix := fun e => (any_not h rfl e).elim, iX := fun e => (any_disj h e rfl).elim, iN := fun _ => ⟨_, rfl, rfl, hz⟩, iR := fun e => (any_not h rfl e).elim, is := fun e => (any_not h rfl e).elim, it := fun e => (any_not h rfl e).elim, ir := fun e => (any_not h rfl e).elim, ic := fun e => (any_not h rfl e).elim, if' := fun e => (any_not h rfl e).elim, i2 := fun _ _ n _ _ _ => absurd h n, iz := fun _ _ n _ _ _ _ _ _ => absurd h n}
  | R hz h1 hy =>
    exact {ix := fun e => absurd e (by decide), iX := fun e => absurd e (by decide), iN := fun e => absurd e (by decide), iR := fun _ => ⟨_, _, rfl, rfl, hz, h1, hy⟩, is := fun e => absurd e (by decide), it := fun e => absurd e (by decide), ir := fun e => absurd e (by decide), ic := fun e => absurd e (by decide), if' := fun e => absurd e (by decide), i2 := fun _ _ _ n _ _ => absurd rfl n, iz := fun _ _ _ n _ _ _ _ _ => absurd rfl n}
  | s =>
    exact {ix := fun e => absurd e (by decide), iX := fun e => absurd e (by decide), iN := fun e => absurd e (by decide), iR := fun e => absurd e (by decide), is := fun _ => rfl, it := fun e => absurd e (by decide), ir := fun e => absurd e (by decide), ic := fun e => absurd e (by decide), if' := fun e => absurd e (by decide), i2 := fun _ _ _ _ n _ => absurd rfl n, iz := fun _ _ _ _ n _ _ _ _ => absurd rfl n}
  | t hz =>
    exact {ix := fun e => absurd e (by decide), iX := fun e => absurd e (by decide), iN := fun e => absurd e (by decide), iR := fun e => absurd e (by decide), is := fun e => absurd e (by decide), it := fun _ => ⟨_, _, _, _, rfl, rfl, hz⟩, ir := fun e => absurd e (by decide), ic := fun e => absurd e (by decide), if' := fun e => absurd e (by decide), i2 := fun _ _ _ _ _ n => absurd rfl n, iz := fun _ _ _ _ _ n _ _ _ => absurd rfl n}
  | r hz0 hz h2 h3 =>
    exact {ix := fun e => absurd e (by decide), iX := fun e => absurd e (by decide), iN := fun e => absurd e (by decide), iR := fun e => absurd e (by decide), is := fun e => absurd e (by decide), it := fun e => absurd e (by decide), ir := fun _ => ⟨_, _, _, rfl, rfl, hz0, hz, h2⟩, ic := fun e => absurd e (by decide), if' := fun e => absurd e (by decide), i2 := fun _ _ _ _ _ _ => ⟨_, _, h2, h3⟩, iz := fun _ _ _ _ _ _ n _ _ => absurd rfl n}
  | c h2 h3 =>
    exact {ix := fun e => absurd e (by decide), iX := fun e => absurd e (by decide), iN := fun e => absurd e (by decide), iR := fun e => absurd e (by decide), is := fun e => absurd e (by decide), it := fun e => absurd e (by decide), ir := fun e => absurd e (by decide), ic := fun _ => ⟨_, rfl, h2⟩, if' := fun e => absurd e (by decide), i2 := fun _ _ _ _ _ _ => ⟨_, _, h2, h3⟩, iz := fun _ _ _ _ _ _ _ n _ => absurd rfl n}
  | f hz h2 h3 =>
    exact {ix := fun e => absurd e (by decide), iX := fun e => absurd e (by decide), iN := fun e => absurd e (by decide), iR := fun e => absurd e (by decide), is := fun e => absurd e (by decide), it := fun e => absurd e (by decide), ir := fun e => absurd e (by decide), ic := fun e => absurd e (by decide), if' := fun _ => ⟨_, _, rfl, rfl, hz, h2⟩, i2 := fun _ _ _ _ _ _ => ⟨_, _, h2, h3⟩, iz := fun _ _ _ _ _ _ _ _ n => absurd rfl n}
  | n h h2 h3 =>
    exact {ix := fun e => (any_not h rfl e).elim, iX := fun e => (any_disj h e rfl).elim, iN := fun e => (any_disj h e rfl).elim, iR := fun e => (any_not h rfl e).elim, is := fun e => (any_not h rfl e).elim, it := fun e => (any_not h rfl e).elim, ir := fun e => (any_not h rfl e).elim, ic := fun e => (any_not h rfl e).elim, if' := fun e => (any_not h rfl e).elim, i2 := fun _ _ _ _ _ _ => ⟨_, _, h2, h3⟩, iz := fun _ _ _ _ _ _ _ _ _ => ⟨_, rfl, rfl⟩}
theorem ite_ok {α : Type} {c : Prop} [Decidable c] {a b : List α} (h : Nat.ble a.length 200 = true) (k : Nat.ble b.length 200 = true) : (if c then a else b).length ≤ 200 := by
  split
  · exact Nat.le_of_ble_eq_true h
  · exact Nat.le_of_ble_eq_true k
theorem ite_ok' {α : Type} {c : Prop} [Decidable c] {a b : List α} (h : Nat.ble a.length 200 = true) (k : b.length ≤ 200) : (if c then a else b).length ≤ 200 := by
  split
  · exact Nat.le_of_ble_eq_true h
  · exact k
theorem add_ite {α : Type} {c : Prop} [Decidable c] {a b d : List α} (h0 : Nat.ble d.length 100 = true) (h : Nat.ble a.length 100 = true) (k : Nat.ble b.length 100 = true) : (d ++ if c then a else b).length ≤ 200 := by
  have := Nat.le_of_ble_eq_true h0
  have := Nat.le_of_ble_eq_true h
  have := Nat.le_of_ble_eq_true k
  rw [List.length_append]
  split <;> omega
theorem drop_ok {α : Type} {l : List α} {k m : Nat} (h : l.length ≤ m) : (l.drop k).length ≤ m := by rw [List.length_drop]; omega
section
variable {C : Cx} {ρ : List (Str × D)} {φ : C.S}
theorem EVP_repL1 (ok : C.Ok) {b : Expr} {kk : Nat} {p q pos : Pos} {n : Nat} (h : EVP C ρ φ b (.int n)) (hn : n ≤ 100) : EVP C ρ φ (.BinOp (.List [.Constant (.int 0) kk p] q) .Mult b pos) (.lst (List.replicate n (.int 0))) :=
  EVP_bin ok (EVP_List ok (EVsP_cons ok rfl EVP_int EVsP_nil) (len_ok rfl)) h fun R r => OP_repL (n := (n : Int)) ok (by omega) (by omega) r
theorem EVP_repT1 (ok : C.Ok) {b : Expr} {kk kt : Nat} {p q pos : Pos} {n : Nat} (h : EVP C ρ φ b (.int n)) (hn : n ≤ 100) : EVP C ρ φ (.BinOp (.Tuple [.Constant (.int 0) kk p] kt q) .Mult b pos) (.tup (List.replicate n (.int 0))) :=
  EVP_bin ok (EVP_Tuple ok (EVsP_cons ok rfl EVP_int EVsP_nil) (len_ok rfl)) h fun R r => OP_repT (n := (n : Int)) ok (by omega) (by omega) r
theorem EVP_map (ok : C.Ok) {elt iter : Expr} {x : Str} {px pos : Pos} {scope : Scope} (sc : CompScope C scope x ρ) {ds : List D} {f : D → D} (h : EVP C ρ φ iter (.tup ds)) (hz : ds.length ≤ sizeLine) (hf : ∀ d c a, (C.comp scope c a).Ok → EVP (C.comp scope c a) ((x, d) :: ρ) φ elt (f d))
    (hs : ∀ x, foldedSetIterable iter C.env x = pure x) : EVP C ρ φ (.ListComp elt [⟨.Name x px, iter, [], 0⟩] scope pos) (.lst (ds.map f)) := fun R r =>
  EV_map ok sc (SRC_tup ok (h _ ⟨_, rfl, hz, f, fun d _ c a R' ok' r' => hf d c a ok' _ r', r⟩)) hs
theorem EVP_ifL (ok : C.Ok) {t b o : Expr} {pos : Pos} {c : Bool} {x y : List D} (ht : TRP C ρ φ t c) (h1 : c = true → EVP C ρ φ b (.lst x)) (h2 : c = false → EVP C ρ φ o (.lst y)) : EVP C ρ φ (.IfExp t b o pos) (.lst (if c = true then x else y)) := fun R r => EV_if ok (ht _ (by
  cases c with
  | true => exact h1 rfl R r
  | false => exact h2 rfl R r))
theorem EXR_ins (ok : C.Ok) {a b : Expr} {q pos : Pos} {x : Str} {xs : List Str} {bd ss : List Stmt} {d : D} (h : EVP C ρ φ a (.str x)) (k : EVP C ρ φ b (.tup (xs.map .str))) (hm : behindInMarks .In b = false) (h1 : xs.any (· == x) = true → EXR C ρ φ bd d) (h2 : ¬ xs.any (· == x) = true → EXR C ρ φ ss d) :
    EXR C ρ φ (.If (.Compare a [.In] [b] q) bd [] pos :: ss) d := EXR_if ok (TRP_ins ok h k hm) h1 fun e => h2 (by rw [e]; exact Bool.false_ne_true)
end
set_option maxHeartbeats 4000000 in
theorem bends_def {C : Cx} (ok : C.Ok) (room : Room C 3) {l : Str} {part : D} {t : List D} {many : Int} {out : List D} (b : Bend t many l part out) : Pure C 142 [.str l, part, .tup t, .int many] (.lst out) := fun φ R r => by
  refine OP_def ok (f := 142) rfl rfl rfl rfl (names := [Str.ofString "letter", Str.ofString "part", Str.ofString "told", Str.ofString "many"]) (fun vals hv => bind4 (P := fun vals => bindArgs _ ⟨vals, []⟩ = pure (List.zip _ vals)) hv fun _ _ _ _ => rfl) rfl (fun n y hy => by simp only [List.mem_cons, List.not_mem_nil, or_false] at hy; rcases hy with rfl | rfl | rfl | rfl <;> first | exact .inl rfl | exact .inr ⟨rfl, rfl⟩) (Nat.lt_of_le_of_lt (Nat.le_add_right _ _) room.1) rfl rfl rfl rfl rfl (fun L ok' => ?_)
  have ru : C.A.units + 3 < cLine := by have := room.2; omega
  refine (show EXR (C.enter _ L 142) _ φ _ (.lst out) from ?_) _ r
  clear r R
  have bi := b.inv
  clear b
  refine EXR_eqs ok' rfl rfl (fun e => ?_) fun n1 => EXR_ins (xs := [Str.ofString "X", Str.ofString "Y", Str.ofString "Z"]) ok' (EVP_name ok' rfl rfl) (EVP_Tuple ok' (EVsP_cons ok' rfl EVP_str (EVsP_cons ok' rfl EVP_str (EVsP_cons ok' rfl EVP_str EVsP_nil))) (by (first | exact len_ok rfl | exact le_ok (by assumption) (by rfl) | exact add_ok (by assumption) (by rfl) (by rfl) | exact add_ok' rfl (drop_ok (by assumption)) (by rfl) | exact add_ok' rfl (by assumption) (by rfl)))) rfl (fun e => ?_) fun n2 => EXR_ins (xs := [Str.ofString "N", Str.ofString "P", Str.ofString "M"]) ok' (EVP_name ok' rfl rfl) (EVP_Tuple ok' (EVsP_cons ok' rfl EVP_str (EVsP_cons ok' rfl EVP_str (EVsP_cons ok' rfl EVP_str EVsP_nil))) (by (first | exact len_ok rfl | exact le_ok (by assumption) (by rfl) | exact add_ok (by assumption) (by rfl) (by rfl) | exact add_ok' rfl (drop_ok (by assumption)) (by rfl) | exact add_ok' rfl (by assumption) (by rfl)))) rfl (fun e => ?_) fun n3 =>
    EXR_eqs ok' rfl rfl (fun e => ?_) fun n4 => EXR_eqs ok' rfl rfl (fun e => ?_) fun n5 => EXR_eqs ok' rfl rfl (fun e => ?_) fun n6 => ?_
  · rw [bi.ix e]
    exact EXR_ret ok' (EVP_List ok' (EVsP_cons ok' rfl (EVP_neg EVP_int) (EVsP_cons ok' rfl (EVP_name ok' rfl rfl) (EVsP_cons ok' rfl EVP_bool (EVsP_cons ok' rfl EVP_none (EVsP_cons ok' rfl EVP_str (EVsP_cons ok' rfl (EVP_Tuple ok' (EVsP_cons ok' rfl EVP_int EVsP_nil) (by (first | exact len_ok rfl | exact le_ok (by assumption) (by rfl) | exact add_ok (by assumption) (by rfl) (by rfl) | exact add_ok' rfl (drop_ok (by assumption)) (by rfl) | exact add_ok' rfl (by assumption) (by rfl)))) EVsP_nil)))))) (by (first | exact len_ok rfl | exact le_ok (by assumption) (by rfl) | exact add_ok (by assumption) (by rfl) (by rfl) | exact add_ok' rfl (drop_ok (by assumption)) (by rfl) | exact add_ok' rfl (by assumption) (by rfl))))
  · obtain ⟨ps, rfl, rfl, hz⟩ := bi.iX e
    refine EXR_asg ok' (.inl rfl) (EVP_List ok' (EVsP_cons ok' rfl (EVP_listT ok' rfl rfl (EVP_name ok' rfl rfl) (by (first | exact len_ok rfl | exact le_ok (by assumption) (by rfl) | exact add_ok (by assumption) (by rfl) (by rfl) | exact add_ok' rfl (drop_ok (by assumption)) (by rfl) | exact add_ok' rfl (by assumption) (by rfl))) (fun _ => rfl)) (EVsP_cons ok' rfl (EVP_addT ok' (EVP_name ok' rfl rfl) (EVP_Tuple ok' (EVsP_cons ok' rfl (EVP_name ok' rfl rfl) EVsP_nil) (by (first | exact len_ok rfl | exact le_ok (by assumption) (by rfl) | exact add_ok (by assumption) (by rfl) (by rfl) | exact add_ok' rfl (drop_ok (by assumption)) (by rfl) | exact add_ok' rfl (by assumption) (by rfl)))) (by (first | exact len_ok rfl | exact le_ok (by assumption) (by rfl) | exact add_ok (by assumption) (by rfl) (by rfl) | exact add_ok' rfl (drop_ok (by assumption)) (by rfl) | exact add_ok' rfl (by assumption) (by rfl)))) (EVsP_cons ok' rfl (EVP_addT ok' (EVP_name ok' rfl rfl) (EVP_Tuple ok' (EVsP_cons ok' rfl (EVP_neg EVP_int) EVsP_nil) (by (first | exact len_ok rfl | exact le_ok (by assumption) (by rfl) | exact add_ok (by assumption) (by rfl) (by rfl) | exact add_ok' rfl (drop_ok (by assumption)) (by rfl) | exact add_ok' rfl (by assumption) (by rfl)))) (by (first | exact len_ok rfl | exact le_ok (by assumption) (by rfl) | exact add_ok (by assumption) (by rfl) (by rfl) | exact add_ok' rfl (drop_ok (by assumption)) (by rfl) | exact add_ok' rfl (by assumption) (by rfl)))) (EVsP_cons ok' rfl (EVP_addT ok' (EVP_name ok' rfl rfl) (EVP_Tuple ok' (EVsP_cons ok' rfl EVP_bool EVsP_nil) (by (first | exact len_ok rfl | exact le_ok (by assumption) (by rfl) | exact add_ok (by assumption) (by rfl) (by rfl) | exact add_ok' rfl (drop_ok (by assumption)) (by rfl) | exact add_ok' rfl (by assumption) (by rfl)))) (by (first | exact len_ok rfl | exact le_ok (by assumption) (by rfl) | exact add_ok (by assumption) (by rfl) (by rfl) | exact add_ok' rfl (drop_ok (by assumption)) (by rfl) | exact add_ok' rfl (by assumption) (by rfl)))) (EVsP_cons ok' rfl EVP_int (EVsP_cons ok' rfl EVP_none (EVsP_cons ok' rfl EVP_str EVsP_nil))))))) (by (first | exact len_ok rfl | exact le_ok (by assumption) (by rfl) | exact add_ok (by assumption) (by rfl) (by rfl) | exact add_ok' rfl (drop_ok (by assumption)) (by rfl) | exact add_ok' rfl (by assumption) (by rfl)))) (fun _ => rfl) ?_
    exact EXR_ret ok' (EVP_addL ok' (EVP_name ok' rfl rfl) (EVP_ifL ok' (TRP_eqs ok' (EVP_name ok' rfl rfl)) (fun _ => (EVP_List ok' (EVsP_cons ok' rfl (EVP_addT ok' (EVP_name ok' rfl rfl) (EVP_Tuple ok' (EVsP_cons ok' rfl EVP_int EVsP_nil) (by (first | exact len_ok rfl | exact le_ok (by assumption) (by rfl) | exact add_ok (by assumption) (by rfl) (by rfl) | exact add_ok' rfl (drop_ok (by assumption)) (by rfl) | exact add_ok' rfl (by assumption) (by rfl)))) (by (first | exact len_ok rfl | exact le_ok (by assumption) (by rfl) | exact add_ok (by assumption) (by rfl) (by rfl) | exact add_ok' rfl (drop_ok (by assumption)) (by rfl) | exact add_ok' rfl (by assumption) (by rfl)))) EVsP_nil) (by (first | exact len_ok rfl | exact le_ok (by assumption) (by rfl) | exact add_ok (by assumption) (by rfl) (by rfl) | exact add_ok' rfl (drop_ok (by assumption)) (by rfl) | exact add_ok' rfl (by assumption) (by rfl))))) (fun _ => (EVP_ifL ok' (TRP_eqs ok' (EVP_name ok' rfl rfl)) (fun _ => (EVP_List ok' (EVsP_cons ok' rfl (EVP_Tuple ok' EVsP_nil (by (first | exact len_ok rfl | exact le_ok (by assumption) (by rfl) | exact add_ok (by assumption) (by rfl) (by rfl) | exact add_ok' rfl (drop_ok (by assumption)) (by rfl) | exact add_ok' rfl (by assumption) (by rfl)))) EVsP_nil) (by (first | exact len_ok rfl | exact le_ok (by assumption) (by rfl) | exact add_ok (by assumption) (by rfl) (by rfl) | exact add_ok' rfl (drop_ok (by assumption)) (by rfl) | exact add_ok' rfl (by assumption) (by rfl))))) (fun _ => (EVP_List ok' EVsP_nil (by (first | exact len_ok rfl | exact le_ok (by assumption) (by rfl) | exact add_ok (by assumption) (by rfl) (by rfl) | exact add_ok' rfl (drop_ok (by assumption)) (by rfl) | exact add_ok' rfl (by assumption) (by rfl)))))))) (add_ok' rfl (ite_ok' rfl (ite_ok rfl rfl)) rfl))
  · obtain ⟨ps, rfl, rfl, hz⟩ := bi.iN e
    refine EXR_asg ok' (.inl rfl) (EVP_addL ok' (EVP_List ok' (EVsP_cons ok' rfl (EVP_listT ok' rfl rfl (EVP_name ok' rfl rfl) (by (first | exact len_ok rfl | exact le_ok (by assumption) (by rfl) | exact add_ok (by assumption) (by rfl) (by rfl) | exact add_ok' rfl (drop_ok (by assumption)) (by rfl) | exact add_ok' rfl (by assumption) (by rfl))) (fun _ => rfl)) (EVsP_cons ok' rfl (EVP_addT ok' (EVP_name ok' rfl rfl) (EVP_Tuple ok' (EVsP_cons ok' rfl EVP_bool EVsP_nil) (by (first | exact len_ok rfl | exact le_ok (by assumption) (by rfl) | exact add_ok (by assumption) (by rfl) (by rfl) | exact add_ok' rfl (drop_ok (by assumption)) (by rfl) | exact add_ok' rfl (by assumption) (by rfl)))) (by (first | exact len_ok rfl | exact le_ok (by assumption) (by rfl) | exact add_ok (by assumption) (by rfl) (by rfl) | exact add_ok' rfl (drop_ok (by assumption)) (by rfl) | exact add_ok' rfl (by assumption) (by rfl)))) (EVsP_cons ok' rfl (EVP_addT ok' (EVP_name ok' rfl rfl) (EVP_Tuple ok' (EVsP_cons ok' rfl EVP_str EVsP_nil) (by (first | exact len_ok rfl | exact le_ok (by assumption) (by rfl) | exact add_ok (by assumption) (by rfl) (by rfl) | exact add_ok' rfl (drop_ok (by assumption)) (by rfl) | exact add_ok' rfl (by assumption) (by rfl)))) (by (first | exact len_ok rfl | exact le_ok (by assumption) (by rfl) | exact add_ok (by assumption) (by rfl) (by rfl) | exact add_ok' rfl (drop_ok (by assumption)) (by rfl) | exact add_ok' rfl (by assumption) (by rfl)))) (EVsP_cons ok' rfl (EVP_addT ok' (EVP_name ok' rfl rfl) (EVP_Tuple ok' (EVsP_cons ok' rfl (EVP_Tuple ok' (EVsP_cons ok' rfl EVP_int EVsP_nil) (by (first | exact len_ok rfl | exact le_ok (by assumption) (by rfl) | exact add_ok (by assumption) (by rfl) (by rfl) | exact add_ok' rfl (drop_ok (by assumption)) (by rfl) | exact add_ok' rfl (by assumption) (by rfl)))) EVsP_nil) (by (first | exact len_ok rfl | exact le_ok (by assumption) (by rfl) | exact add_ok (by assumption) (by rfl) (by rfl) | exact add_ok' rfl (drop_ok (by assumption)) (by rfl) | exact add_ok' rfl (by assumption) (by rfl)))) (by (first | exact len_ok rfl | exact le_ok (by assumption) (by rfl) | exact add_ok (by assumption) (by rfl) (by rfl) | exact add_ok' rfl (drop_ok (by assumption)) (by rfl) | exact add_ok' rfl (by assumption) (by rfl)))) (EVsP_cons ok' rfl EVP_int (EVsP_cons ok' rfl EVP_none EVsP_nil)))))) (by (first | exact len_ok rfl | exact le_ok (by assumption) (by rfl) | exact add_ok (by assumption) (by rfl) (by rfl) | exact add_ok' rfl (drop_ok (by assumption)) (by rfl) | exact add_ok' rfl (by assumption) (by rfl)))) (EVP_ifL ok' (TRP_nes ok' (fun R r => OP_nes r) (EVP_name ok' rfl rfl)) (fun _ => (EVP_List ok' (EVsP_cons ok' rfl (EVP_addT ok' (EVP_name ok' rfl rfl) (EVP_Tuple ok' (EVsP_cons ok' rfl EVP_int EVsP_nil) (by (first | exact len_ok rfl | exact le_ok (by assumption) (by rfl) | exact add_ok (by assumption) (by rfl) (by rfl) | exact add_ok' rfl (drop_ok (by assumption)) (by rfl) | exact add_ok' rfl (by assumption) (by rfl)))) (by (first | exact len_ok rfl | exact le_ok (by assumption) (by rfl) | exact add_ok (by assumption) (by rfl) (by rfl) | exact add_ok' rfl (drop_ok (by assumption)) (by rfl) | exact add_ok' rfl (by assumption) (by rfl)))) EVsP_nil) (by (first | exact len_ok rfl | exact le_ok (by assumption) (by rfl) | exact add_ok (by assumption) (by rfl) (by rfl) | exact add_ok' rfl (drop_ok (by assumption)) (by rfl) | exact add_ok' rfl (by assumption) (by rfl))))) (fun _ => (EVP_List ok' EVsP_nil (by (first | exact len_ok rfl | exact le_ok (by assumption) (by rfl) | exact add_ok (by assumption) (by rfl) (by rfl) | exact add_ok' rfl (drop_ok (by assumption)) (by rfl) | exact add_ok' rfl (by assumption) (by rfl)))))) (add_ok' rfl (ite_ok rfl rfl) rfl)) (fun _ => rfl) ?_
    exact EXR_ret ok' (EVP_addL ok' (EVP_name ok' rfl rfl) (EVP_ifL ok' (TRP_and ok' (TRP_eqs ok' (EVP_name ok' rfl rfl)) (fun _ => TRP_cmp ok' (EVP_name ok' rfl rfl) (EVP_Tuple ok' EVsP_nil (by (first | exact len_ok rfl | exact le_ok (by assumption) (by rfl) | exact add_ok (by assumption) (by rfl) (by rfl) | exact add_ok' rfl (drop_ok (by assumption)) (by rfl) | exact add_ok' rfl (by assumption) (by rfl)))) (fun R r => OP_neT0 (show C.A.units + 3 < cLine from ru) r) rfl)) (fun _ => (EVP_List ok' (EVsP_cons ok' rfl (EVP_addT ok' (EVP_Tuple ok' (EVsP_cons ok' rfl (EVP_neg EVP_int) EVsP_nil) (by (first | exact len_ok rfl | exact le_ok (by assumption) (by rfl) | exact add_ok (by assumption) (by rfl) (by rfl) | exact add_ok' rfl (drop_ok (by assumption)) (by rfl) | exact add_ok' rfl (by assumption) (by rfl)))) (EVP_from (k := 1) ok' (EVP_name ok' rfl rfl) (by (first | exact len_ok rfl | exact le_ok (by assumption) (by rfl) | exact add_ok (by assumption) (by rfl) (by rfl) | exact add_ok' rfl (drop_ok (by assumption)) (by rfl) | exact add_ok' rfl (by assumption) (by rfl))) EVP_int) (by (first | exact len_ok rfl | exact le_ok (by assumption) (by rfl) | exact add_ok (by assumption) (by rfl) (by rfl) | exact add_ok' rfl (drop_ok (by assumption)) (by rfl) | exact add_ok' rfl (by assumption) (by rfl)))) EVsP_nil) (by (first | exact len_ok rfl | exact le_ok (by assumption) (by rfl) | exact add_ok (by assumption) (by rfl) (by rfl) | exact add_ok' rfl (drop_ok (by assumption)) (by rfl) | exact add_ok' rfl (by assumption) (by rfl))))) (fun _ => (EVP_List ok' EVsP_nil (by (first | exact len_ok rfl | exact le_ok (by assumption) (by rfl) | exact add_ok (by assumption) (by rfl) (by rfl) | exact add_ok' rfl (drop_ok (by assumption)) (by rfl) | exact add_ok' rfl (by assumption) (by rfl)))))) (sum_ok (add_ite rfl rfl rfl) (ite_ok rfl rfl)))
  · obtain ⟨ps, ys, rfl, rfl, hz, h1, hy⟩ := bi.iR e
    refine EXR_asg ok' (.inl rfl) (EVP_lenT ok' rfl rfl (EVP_at (k := 1) ok' (EVP_name ok' rfl rfl) rfl (by (first | rfl | assumption))) (by omega) (fun _ => rfl)) (fun _ => rfl) ?_
    refine EXR_ret ok' (EVP_List ok' (EVsP_cons ok' rfl (EVP_listT ok' rfl rfl (EVP_name ok' rfl rfl) (by (first | exact len_ok rfl | exact le_ok (by assumption) (by rfl) | exact add_ok (by assumption) (by rfl) (by rfl) | exact add_ok' rfl (drop_ok (by assumption)) (by rfl) | exact add_ok' rfl (by assumption) (by rfl))) (fun _ => rfl)) (EVsP_cons ok' rfl (EVP_addT ok' (EVP_name ok' rfl rfl) (EVP_Tuple ok' (EVsP_cons ok' rfl (EVP_repL1 ok' (EVP_name ok' rfl rfl) (by omega)) EVsP_nil) (len_ok rfl)) (by (first | exact len_ok rfl | exact le_ok (by assumption) (by rfl) | exact add_ok (by assumption) (by rfl) (by rfl) | exact add_ok' rfl (drop_ok (by assumption)) (by rfl) | exact add_ok' rfl (by assumption) (by rfl)))) (EVsP_cons ok' rfl (EVP_addT ok' (EVP_name ok' rfl rfl) (EVP_Tuple ok' (EVsP_cons ok' rfl (EVP_repT1 (n := ys.length + 1) ok' (EVP_add (x := (ys.length : Int)) (y := 1) ok' (EVP_name ok' rfl rfl) EVP_int) (by omega)) EVsP_nil) (len_ok rfl)) (by (first | exact len_ok rfl | exact le_ok (by assumption) (by rfl) | exact add_ok (by assumption) (by rfl) (by rfl) | exact add_ok' rfl (drop_ok (by assumption)) (by rfl) | exact add_ok' rfl (by assumption) (by rfl))))
      (EVsP_cons ok' rfl (EVP_addT ok' (EVP_name ok' rfl rfl) (EVP_Tuple ok' (EVsP_cons ok' rfl (EVP_addT ok' (EVP_repT1 ok' (EVP_name ok' rfl rfl) (by omega)) (EVP_Tuple ok' (EVsP_cons ok' rfl EVP_bool EVsP_nil) (by (first | exact len_ok rfl | exact le_ok (by assumption) (by rfl) | exact add_ok (by assumption) (by rfl) (by rfl) | exact add_ok' rfl (drop_ok (by assumption)) (by rfl) | exact add_ok' rfl (by assumption) (by rfl)))) (add_ok (m := 100) (by rw [List.length_replicate]; omega) rfl rfl)) EVsP_nil) (len_ok rfl)) (by (first | exact len_ok rfl | exact le_ok (by assumption) (by rfl) | exact add_ok (by assumption) (by rfl) (by rfl) | exact add_ok' rfl (drop_ok (by assumption)) (by rfl) | exact add_ok' rfl (by assumption) (by rfl)))) (EVsP_cons ok' rfl (EVP_addT ok' (EVP_name ok' rfl rfl) (EVP_Tuple ok' (EVsP_cons ok' rfl EVP_int EVsP_nil) (by (first | exact len_ok rfl | exact le_ok (by assumption) (by rfl) | exact add_ok (by assumption) (by rfl) (by rfl) | exact add_ok' rfl (drop_ok (by assumption)) (by rfl) | exact add_ok' rfl (by assumption) (by rfl)))) (by (first | exact len_ok rfl | exact le_ok (by assumption) (by rfl) | exact add_ok (by assumption) (by rfl) (by rfl) | exact add_ok' rfl (drop_ok (by assumption)) (by rfl) | exact add_ok' rfl (by assumption) (by rfl)))) (EVsP_cons ok' rfl EVP_int EVsP_nil)))))) (len_ok rfl))
  · rw [bi.is e]
    exact EXR_ret ok' (EVP_List ok' (EVsP_cons ok' rfl EVP_str (EVsP_cons ok' rfl EVP_str (EVsP_cons ok' rfl EVP_int (EVsP_cons ok' rfl EVP_none (EVsP_cons ok' rfl EVP_bool (EVsP_cons ok' rfl (EVP_Tuple ok' (EVsP_cons ok' rfl EVP_str EVsP_nil) (by (first | exact len_ok rfl | exact le_ok (by assumption) (by rfl) | exact add_ok (by assumption) (by rfl) (by rfl) | exact add_ok' rfl (drop_ok (by assumption)) (by rfl) | exact add_ok' rfl (by assumption) (by rfl)))) EVsP_nil)))))) (by (first | exact len_ok rfl | exact le_ok (by assumption) (by rfl) | exact add_ok (by assumption) (by rfl) (by rfl) | exact add_ok' rfl (drop_ok (by assumption)) (by rfl) | exact add_ok' rfl (by assumption) (by rfl))))
  · obtain ⟨p0, p1, p2, p3, rfl, rfl, hz⟩ := bi.it e
    refine EXR_asg ok' (.inl rfl) (EVP_Tuple ok' (EVsP_cons ok' rfl (EVP_at (k := 0) ok' (EVP_name ok' rfl rfl) rfl (by (first | rfl | assumption))) (EVsP_cons ok' rfl (EVP_addT ok' (EVP_at (k := 1) ok' (EVP_name ok' rfl rfl) rfl (by (first | rfl | assumption))) (EVP_Tuple ok' (EVsP_cons ok' rfl EVP_int EVsP_nil) (by (first | exact len_ok rfl | exact le_ok (by assumption) (by rfl) | exact add_ok (by assumption) (by rfl) (by rfl) | exact add_ok' rfl (drop_ok (by assumption)) (by rfl) | exact add_ok' rfl (by assumption) (by rfl)))) (by (first | exact len_ok rfl | exact le_ok (by assumption) (by rfl) | exact add_ok (by assumption) (by rfl) (by rfl) | exact add_ok' rfl (drop_ok (by assumption)) (by rfl) | exact add_ok' rfl (by assumption) (by rfl)))) (EVsP_cons ok' rfl (EVP_at (k := 2) ok' (EVP_name ok' rfl rfl) rfl (by (first | rfl | assumption))) (EVsP_cons ok' rfl (EVP_at (k := 3) ok' (EVP_name ok' rfl rfl) rfl (by (first | rfl | assumption))) EVsP_nil)))) (by (first | exact len_ok rfl | exact le_ok (by assumption) (by rfl) | exact add_ok (by assumption) (by rfl) (by rfl) | exact add_ok' rfl (drop_ok (by assumption)) (by rfl) | exact add_ok' rfl (by assumption) (by rfl)))) (fun _ => rfl) ?_
    exact EXR_ret ok' (EVP_List ok' (EVsP_cons ok' rfl (EVP_Tuple ok' (EVsP_cons ok' rfl EVP_str (EVsP_cons ok' rfl (EVP_Tuple ok' (EVsP_cons ok' rfl EVP_int EVsP_nil) (by (first | exact len_ok rfl | exact le_ok (by assumption) (by rfl) | exact add_ok (by assumption) (by rfl) (by rfl) | exact add_ok' rfl (drop_ok (by assumption)) (by rfl) | exact add_ok' rfl (by assumption) (by rfl)))) (EVsP_cons ok' rfl EVP_int EVsP_nil))) (by (first | exact len_ok rfl | exact le_ok (by assumption) (by rfl) | exact add_ok (by assumption) (by rfl) (by rfl) | exact add_ok' rfl (drop_ok (by assumption)) (by rfl) | exact add_ok' rfl (by assumption) (by rfl)))) (EVsP_cons ok' rfl (EVP_Tuple ok' EVsP_nil (by (first | exact len_ok rfl | exact le_ok (by assumption) (by rfl) | exact add_ok (by assumption) (by rfl) (by rfl) | exact add_ok' rfl (drop_ok (by assumption)) (by rfl) | exact add_ok' rfl (by assumption) (by rfl)))) (EVsP_cons ok' rfl EVP_int (EVsP_cons ok' rfl (EVP_upto (k := 3) (ds := [p0, .tup p1, p2, p3]) ok' (EVP_name ok' rfl rfl) (by (first | exact len_ok rfl | exact le_ok (by assumption) (by rfl) | exact add_ok (by assumption) (by rfl) (by rfl) | exact add_ok' rfl (drop_ok (by assumption)) (by rfl) | exact add_ok' rfl (by assumption) (by rfl))) EVP_int) (EVsP_cons ok' rfl (EVP_addT ok' (EVP_name ok' rfl rfl) (EVP_Tuple ok' (EVsP_cons ok' rfl EVP_int EVsP_nil) (by (first | exact len_ok rfl | exact le_ok (by assumption) (by rfl) | exact add_ok (by assumption) (by rfl) (by rfl) | exact add_ok' rfl (drop_ok (by assumption)) (by rfl) | exact add_ok' rfl (by assumption) (by rfl)))) (by (first | exact len_ok rfl | exact le_ok (by assumption) (by rfl) | exact add_ok (by assumption) (by rfl) (by rfl) | exact add_ok' rfl (drop_ok (by assumption)) (by rfl) | exact add_ok' rfl (by assumption) (by rfl)))) (EVsP_cons ok' rfl (EVP_listT ok' rfl rfl (EVP_name ok' rfl rfl) (by (first | exact len_ok rfl | exact le_ok (by assumption) (by rfl) | exact add_ok (by assumption) (by rfl) (by rfl) | exact add_ok' rfl (drop_ok (by assumption)) (by rfl) | exact add_ok' rfl (by assumption) (by rfl))) (fun _ => rfl)) (EVsP_cons ok' rfl (EVP_Tuple ok' (EVsP_cons ok' rfl EVP_str (EVsP_cons ok' rfl (EVP_Tuple ok' (EVsP_cons ok' rfl EVP_int EVsP_nil) (by (first | exact len_ok rfl | exact le_ok (by assumption) (by rfl) | exact add_ok (by assumption) (by rfl) (by rfl) | exact add_ok' rfl (drop_ok (by assumption)) (by rfl) | exact add_ok' rfl (by assumption) (by rfl)))) (EVsP_cons ok' rfl (EVP_Tuple ok' (EVsP_cons ok' rfl (EVP_name ok' rfl rfl) EVsP_nil) (by (first | exact len_ok rfl | exact le_ok (by assumption) (by rfl) | exact add_ok (by assumption) (by rfl) (by rfl) | exact add_ok' rfl (drop_ok (by assumption)) (by rfl) | exact add_ok' rfl (by assumption) (by rfl)))) (EVsP_cons ok' rfl EVP_int EVsP_nil)))) (by (first | exact len_ok rfl | exact le_ok (by assumption) (by rfl) | exact add_ok (by assumption) (by rfl) (by rfl) | exact add_ok' rfl (drop_ok (by assumption)) (by rfl) | exact add_ok' rfl (by assumption) (by rfl)))) (EVsP_cons ok' rfl (EVP_name ok' rfl rfl) (EVsP_cons ok' rfl EVP_none EVsP_nil))))))))) (by (first | exact len_ok rfl | exact le_ok (by assumption) (by rfl) | exact add_ok (by assumption) (by rfl) (by rfl) | exact add_ok' rfl (drop_ok (by assumption)) (by rfl) | exact add_ok' rfl (by assumption) (by rfl))))
  obtain ⟨d1, d2, h2, h3⟩ := bi.i2 n1 n2 n3 n4 n5 n6
  refine EXR_unp ok' (xs := [Str.ofString "states", Str.ofString "letters"]) rfl (stor2 rfl) (EVP_Tuple ok' (EVsP_cons ok' rfl (EVP_at (k := 2) ok' (EVP_name ok' rfl rfl) rfl (by (first | rfl | assumption))) (EVsP_cons ok' rfl (EVP_at (k := 3) ok' (EVP_name ok' rfl rfl) rfl (by (first | rfl | assumption))) EVsP_nil)) (by (first | exact len_ok rfl | exact le_ok (by assumption) (by rfl) | exact add_ok (by assumption) (by rfl) (by rfl) | exact add_ok' rfl (drop_ok (by assumption)) (by rfl) | exact add_ok' rfl (by assumption) (by rfl)))) rfl rfl ?_
  refine EXR_eqs ok' rfl rfl (fun e => ?_) fun n7 => EXR_eqs ok' rfl rfl (fun e => ?_) fun n8 => EXR_eqs ok' rfl rfl (fun e => ?_) fun n9 => ?_
  · obtain ⟨r0, rest, s, rfl, rfl, hz0, hz, e2⟩ := bi.ir e
    rw [h2] at e2; cases e2
    have hz1 : (D.tup r0 :: rest).length ≤ 101 := by rw [List.length_cons]; omega
    have z0 : r0.length ≤ 101 := by omega
    have z1 : rest.length ≤ 200 := by omega
    refine EXR_asg ok' (.inl rfl) (EVP_List ok' (EVsP_cons ok' rfl (EVP_last (ds := (D.tup r0 :: rest)) ok' (EVP_name ok' rfl rfl) (by (first | exact len_ok rfl | exact le_ok (by assumption) (by rfl) | exact add_ok (by assumption) (by rfl) (by rfl) | exact add_ok' rfl (drop_ok (by assumption)) (by rfl) | exact add_ok' rfl (by assumption) (by rfl))) (EVP_neg EVP_int)) (EVsP_cons ok' rfl (EVP_addT ok' (EVP_name ok' rfl rfl) (EVP_Tuple ok' (EVsP_cons ok' rfl (EVP_at (k := 0) ok' (EVP_name ok' rfl rfl) rfl (by (first | rfl | assumption))) EVsP_nil) (by (first | exact len_ok rfl | exact le_ok (by assumption) (by rfl) | exact add_ok (by assumption) (by rfl) (by rfl) | exact add_ok' rfl (drop_ok (by assumption)) (by rfl) | exact add_ok' rfl (by assumption) (by rfl)))) (by (first | exact len_ok rfl | exact le_ok (by assumption) (by rfl) | exact add_ok (by assumption) (by rfl) (by rfl) | exact add_ok' rfl (drop_ok (by assumption)) (by rfl) | exact add_ok' rfl (by assumption) (by rfl)))) (EVsP_cons ok' rfl (EVP_listT ok' rfl rfl (EVP_name ok' rfl rfl) (by (first | exact len_ok rfl | exact le_ok (by assumption) (by rfl) | exact add_ok (by assumption) (by rfl) (by rfl) | exact add_ok' rfl (drop_ok (by assumption)) (by rfl) | exact add_ok' rfl (by assumption) (by rfl))) (fun _ => rfl)) (EVsP_cons ok' rfl (EVP_addT ok' (EVP_Tuple ok' (EVsP_cons ok' rfl (EVP_addT ok' (EVP_at (k := 0) ok' (EVP_name ok' rfl rfl) rfl (by (first | rfl | assumption))) (EVP_Tuple ok' (EVsP_cons ok' rfl EVP_int EVsP_nil) (by (first | exact len_ok rfl | exact le_ok (by assumption) (by rfl) | exact add_ok (by assumption) (by rfl) (by rfl) | exact add_ok' rfl (drop_ok (by assumption)) (by rfl) | exact add_ok' rfl (by assumption) (by rfl)))) (by (first | exact len_ok rfl | exact le_ok (by assumption) (by rfl) | exact add_ok (by assumption) (by rfl) (by rfl) | exact add_ok' rfl (drop_ok (by assumption)) (by rfl) | exact add_ok' rfl (by assumption) (by rfl)))) EVsP_nil) (by (first | exact len_ok rfl | exact le_ok (by assumption) (by rfl) | exact add_ok (by assumption) (by rfl) (by rfl) | exact add_ok' rfl (drop_ok (by assumption)) (by rfl) | exact add_ok' rfl (by assumption) (by rfl)))) (EVP_from (k := 1) (ds := (D.tup r0 :: rest)) ok' (EVP_name ok' rfl rfl) (by (first | exact len_ok rfl | exact le_ok (by assumption) (by rfl) | exact add_ok (by assumption) (by rfl) (by rfl) | exact add_ok' rfl (drop_ok (by assumption)) (by rfl) | exact add_ok' rfl (by assumption) (by rfl))) EVP_int) (by (first | exact len_ok rfl | exact le_ok (by assumption) (by rfl) | exact add_ok (by assumption) (by rfl) (by rfl) | exact add_ok' rfl (drop_ok (by assumption)) (by rfl) | exact add_ok' rfl (by assumption) (by rfl)))) (EVsP_cons ok' rfl (EVP_addT ok' (EVP_Tuple ok' (EVsP_cons ok' rfl (EVP_last ok' (EVP_at (k := 0) ok' (EVP_name ok' rfl rfl) rfl (by (first | rfl | assumption))) (by (first | exact len_ok rfl | exact le_ok (by assumption) (by rfl) | exact add_ok (by assumption) (by rfl) (by rfl) | exact add_ok' rfl (drop_ok (by assumption)) (by rfl) | exact add_ok' rfl (by assumption) (by rfl))) (EVP_neg EVP_int)) EVsP_nil) (by (first | exact len_ok rfl | exact le_ok (by assumption) (by rfl) | exact add_ok (by assumption) (by rfl) (by rfl) | exact add_ok' rfl (drop_ok (by assumption)) (by rfl) | exact add_ok' rfl (by assumption) (by rfl)))) (EVP_from (k := 1) (ds := (D.tup r0 :: rest)) ok' (EVP_name ok' rfl rfl) (by (first | exact len_ok rfl | exact le_ok (by assumption) (by rfl) | exact add_ok (by assumption) (by rfl) (by rfl) | exact add_ok' rfl (drop_ok (by assumption)) (by rfl) | exact add_ok' rfl (by assumption) (by rfl))) EVP_int) (by (first | exact len_ok rfl | exact le_ok (by assumption) (by rfl) | exact add_ok (by assumption) (by rfl) (by rfl) | exact add_ok' rfl (drop_ok (by assumption)) (by rfl) | exact add_ok' rfl (by assumption) (by rfl)))) (EVsP_cons ok' rfl (EVP_addT ok' (EVP_Tuple ok' (EVsP_cons ok' rfl (EVP_listT ok' rfl rfl (EVP_at (k := 0) ok' (EVP_name ok' rfl rfl) rfl (by (first | rfl | assumption))) (by (first | exact len_ok rfl | exact le_ok (by assumption) (by rfl) | exact add_ok (by assumption) (by rfl) (by rfl) | exact add_ok' rfl (drop_ok (by assumption)) (by rfl) | exact add_ok' rfl (by assumption) (by rfl))) (fun _ => rfl)) EVsP_nil) (by (first | exact len_ok rfl | exact le_ok (by assumption) (by rfl) | exact add_ok (by assumption) (by rfl) (by rfl) | exact add_ok' rfl (drop_ok (by assumption)) (by rfl) | exact add_ok' rfl (by assumption) (by rfl)))) (EVP_from (k := 1) (ds := (D.tup r0 :: rest)) ok' (EVP_name ok' rfl rfl) (by (first | exact len_ok rfl | exact le_ok (by assumption) (by rfl) | exact add_ok (by assumption) (by rfl) (by rfl) | exact add_ok' rfl (drop_ok (by assumption)) (by rfl) | exact add_ok' rfl (by assumption) (by rfl))) EVP_int) (by (first | exact len_ok rfl | exact le_ok (by assumption) (by rfl) | exact add_ok (by assumption) (by rfl) (by rfl) | exact add_ok' rfl (drop_ok (by assumption)) (by rfl) | exact add_ok' rfl (by assumption) (by rfl)))) EVsP_nil)))))) (by (first | exact len_ok rfl | exact le_ok (by assumption) (by rfl) | exact add_ok (by assumption) (by rfl) (by rfl) | exact add_ok' rfl (drop_ok (by assumption)) (by rfl) | exact add_ok' rfl (by assumption) (by rfl)))) (fun _ => rfl) ?_
    refine EXR_ret ok' (EVP_addL ok' (EVP_name ok' rfl rfl) (EVP_map (f := fun w => .tup ([.tup ([w] ++ r0.drop 1)] ++ rest)) ok' (compScope rfl rfl rfl rfl rfl rfl rfl) (EVP_Tuple ok' (EVsP_cons ok' rfl (EVP_add ok' (EVP_name ok' rfl rfl) EVP_int) (EVsP_cons ok' rfl (EVP_neg EVP_int) (EVsP_cons ok' rfl EVP_bool EVsP_nil))) (by (first | exact len_ok rfl | exact le_ok (by assumption) (by rfl) | exact add_ok (by assumption) (by rfl) (by rfl) | exact add_ok' rfl (drop_ok (by assumption)) (by rfl) | exact add_ok' rfl (by assumption) (by rfl)))) (len_ok rfl) (fun w c a ok'' => ?_) (fun _ => rfl)) (len_ok rfl))
    exact (EVP_addT ok'' (EVP_Tuple ok'' (EVsP_cons ok'' rfl (EVP_addT ok'' (EVP_Tuple ok'' (EVsP_cons ok'' rfl (EVP_name ok'' rfl rfl) EVsP_nil) (by (first | exact len_ok rfl | exact le_ok (by assumption) (by rfl) | exact add_ok (by assumption) (by rfl) (by rfl) | exact add_ok' rfl (drop_ok (by assumption)) (by rfl) | exact add_ok' rfl (by assumption) (by rfl)))) (EVP_from (k := 1) ok'' (EVP_at (k := 0) ok'' (EVP_name ok'' rfl rfl) rfl (by (first | rfl | assumption))) (by (first | exact len_ok rfl | exact le_ok (by assumption) (by rfl) | exact add_ok (by assumption) (by rfl) (by rfl) | exact add_ok' rfl (drop_ok (by assumption)) (by rfl) | exact add_ok' rfl (by assumption) (by rfl))) EVP_int) (by (first | exact len_ok rfl | exact le_ok (by assumption) (by rfl) | exact add_ok (by assumption) (by rfl) (by rfl) | exact add_ok' rfl (drop_ok (by assumption)) (by rfl) | exact add_ok' rfl (by assumption) (by rfl)))) EVsP_nil) (by (first | exact len_ok rfl | exact le_ok (by assumption) (by rfl) | exact add_ok (by assumption) (by rfl) (by rfl) | exact add_ok' rfl (drop_ok (by assumption)) (by rfl) | exact add_ok' rfl (by assumption) (by rfl)))) (EVP_from (k := 1) (ds := (D.tup r0 :: rest)) ok'' (EVP_name ok'' rfl rfl) (by (first | exact len_ok rfl | exact le_ok (by assumption) (by rfl) | exact add_ok (by assumption) (by rfl) (by rfl) | exact add_ok' rfl (drop_ok (by assumption)) (by rfl) | exact add_ok' rfl (by assumption) (by rfl))) EVP_int) (by (first | exact len_ok rfl | exact le_ok (by assumption) (by rfl) | exact add_ok (by assumption) (by rfl) (by rfl) | exact add_ok' rfl (drop_ok (by assumption)) (by rfl) | exact add_ok' rfl (by assumption) (by rfl))))
  · obtain ⟨s, rfl, e2⟩ := bi.ic e
    rw [h2] at e2; cases e2
    exact EXR_ret ok' (EVP_List ok' (EVsP_cons ok' rfl EVP_int (EVsP_cons ok' rfl (EVP_add ok' (EVP_name ok' rfl rfl) EVP_int) (EVsP_cons ok' rfl (EVP_neg EVP_int) (EVsP_cons ok' rfl EVP_bool (EVsP_cons ok' rfl EVP_none (EVsP_cons ok' rfl (EVP_Tuple ok' (EVsP_cons ok' rfl EVP_int EVsP_nil) (by (first | exact len_ok rfl | exact le_ok (by assumption) (by rfl) | exact add_ok (by assumption) (by rfl) (by rfl) | exact add_ok' rfl (drop_ok (by assumption)) (by rfl) | exact add_ok' rfl (by assumption) (by rfl)))) EVsP_nil)))))) (by (first | exact len_ok rfl | exact le_ok (by assumption) (by rfl) | exact add_ok (by assumption) (by rfl) (by rfl) | exact add_ok' rfl (drop_ok (by assumption)) (by rfl) | exact add_ok' rfl (by assumption) (by rfl))))
  · obtain ⟨ps, s, rfl, rfl, hz, e2⟩ := bi.if' e
    rw [h2] at e2; cases e2
    exact EXR_ret ok' (EVP_List ok' (EVsP_cons ok' rfl (EVP_addT ok' (EVP_name ok' rfl rfl) (EVP_Tuple ok' (EVsP_cons ok' rfl EVP_int EVsP_nil) (by (first | exact len_ok rfl | exact le_ok (by assumption) (by rfl) | exact add_ok (by assumption) (by rfl) (by rfl) | exact add_ok' rfl (drop_ok (by assumption)) (by rfl) | exact add_ok' rfl (by assumption) (by rfl)))) (by (first | exact len_ok rfl | exact le_ok (by assumption) (by rfl) | exact add_ok (by assumption) (by rfl) (by rfl) | exact add_ok' rfl (drop_ok (by assumption)) (by rfl) | exact add_ok' rfl (by assumption) (by rfl)))) (EVsP_cons ok' rfl (EVP_addT ok' (EVP_name ok' rfl rfl) (EVP_Tuple ok' (EVsP_cons ok' rfl (EVP_add ok' (EVP_name ok' rfl rfl) EVP_int) EVsP_nil) (by (first | exact len_ok rfl | exact le_ok (by assumption) (by rfl) | exact add_ok (by assumption) (by rfl) (by rfl) | exact add_ok' rfl (drop_ok (by assumption)) (by rfl) | exact add_ok' rfl (by assumption) (by rfl)))) (by (first | exact len_ok rfl | exact le_ok (by assumption) (by rfl) | exact add_ok (by assumption) (by rfl) (by rfl) | exact add_ok' rfl (drop_ok (by assumption)) (by rfl) | exact add_ok' rfl (by assumption) (by rfl)))) (EVsP_cons ok' rfl (EVP_addT ok' (EVP_name ok' rfl rfl) (EVP_Tuple ok' (EVsP_cons ok' rfl EVP_bool EVsP_nil) (by (first | exact len_ok rfl | exact le_ok (by assumption) (by rfl) | exact add_ok (by assumption) (by rfl) (by rfl) | exact add_ok' rfl (drop_ok (by assumption)) (by rfl) | exact add_ok' rfl (by assumption) (by rfl)))) (by (first | exact len_ok rfl | exact le_ok (by assumption) (by rfl) | exact add_ok (by assumption) (by rfl) (by rfl) | exact add_ok' rfl (drop_ok (by assumption)) (by rfl) | exact add_ok' rfl (by assumption) (by rfl)))) (EVsP_cons ok' rfl (EVP_listT ok' rfl rfl (EVP_name ok' rfl rfl) (by (first | exact len_ok rfl | exact le_ok (by assumption) (by rfl) | exact add_ok (by assumption) (by rfl) (by rfl) | exact add_ok' rfl (drop_ok (by assumption)) (by rfl) | exact add_ok' rfl (by assumption) (by rfl))) (fun _ => rfl)) (EVsP_cons ok' rfl EVP_int (EVsP_cons ok' rfl EVP_none EVsP_nil)))))) (by (first | exact len_ok rfl | exact le_ok (by assumption) (by rfl) | exact add_ok (by assumption) (by rfl) (by rfl) | exact add_ok' rfl (drop_ok (by assumption)) (by rfl) | exact add_ok' rfl (by assumption) (by rfl))))
  obtain ⟨n, rfl, rfl⟩ := bi.iz n1 n2 n3 n4 n5 n6 n7 n8 n9
  refine EXR_asg ok' (.inl rfl) (EVP_addL ok' (EVP_List ok' (EVsP_cons ok' rfl EVP_bool (EVsP_cons ok' rfl EVP_none (EVsP_cons ok' rfl EVP_str (EVsP_cons ok' rfl (EVP_Tuple ok' (EVsP_cons ok' rfl EVP_int EVsP_nil) (by (first | exact len_ok rfl | exact le_ok (by assumption) (by rfl) | exact add_ok (by assumption) (by rfl) (by rfl) | exact add_ok' rfl (drop_ok (by assumption)) (by rfl) | exact add_ok' rfl (by assumption) (by rfl)))) EVsP_nil)))) (by (first | exact len_ok rfl | exact le_ok (by assumption) (by rfl) | exact add_ok (by assumption) (by rfl) (by rfl) | exact add_ok' rfl (drop_ok (by assumption)) (by rfl) | exact add_ok' rfl (by assumption) (by rfl)))) (EVP_ifL ok' (TRP_ins (xs := [(Str.ofString "a"), (Str.ofString "b")]) ok' (EVP_name ok' rfl rfl) (EVP_Tuple ok' (EVsP_cons ok' rfl EVP_str (EVsP_cons ok' rfl EVP_str EVsP_nil)) (by (first | exact len_ok rfl | exact le_ok (by assumption) (by rfl) | exact add_ok (by assumption) (by rfl) (by rfl) | exact add_ok' rfl (drop_ok (by assumption)) (by rfl) | exact add_ok' rfl (by assumption) (by rfl)))) rfl) (fun _ => (EVP_List ok' (EVsP_cons ok' rfl (EVP_add ok' (EVP_name ok' rfl rfl) EVP_int) (EVsP_cons ok' rfl (EVP_sub ok' (EVP_name ok' rfl rfl) EVP_int) EVsP_nil)) (by (first | exact len_ok rfl | exact le_ok (by assumption) (by rfl) | exact add_ok (by assumption) (by rfl) (by rfl) | exact add_ok' rfl (drop_ok (by assumption)) (by rfl) | exact add_ok' rfl (by assumption) (by rfl))))) (fun _ => (EVP_List ok' EVsP_nil (by (first | exact len_ok rfl | exact le_ok (by assumption) (by rfl) | exact add_ok (by assumption) (by rfl) (by rfl) | exact add_ok' rfl (drop_ok (by assumption)) (by rfl) | exact add_ok' rfl (by assumption) (by rfl)))))) (add_ok' rfl (ite_ok rfl rfl) rfl)) (fun _ => rfl) ?_
  exact EXR_ret ok' (EVP_addL ok' (EVP_name ok' rfl rfl) (EVP_ifL ok' (TRP_eqs ok' (EVP_name ok' rfl rfl)) (fun _ => (EVP_List ok' (EVsP_cons ok' rfl (EVP_neg EVP_int) EVsP_nil) (by (first | exact len_ok rfl | exact le_ok (by assumption) (by rfl) | exact add_ok (by assumption) (by rfl) (by rfl) | exact add_ok' rfl (drop_ok (by assumption)) (by rfl) | exact add_ok' rfl (by assumption) (by rfl))))) (fun _ => (EVP_List ok' EVsP_nil (by (first | exact len_ok rfl | exact le_ok (by assumption) (by rfl) | exact add_ok (by assumption) (by rfl) (by rfl) | exact add_ok' rfl (drop_ok (by assumption)) (by rfl) | exact add_ok' rfl (by assumption) (by rfl)))))) (sum_ok (add_ite rfl rfl rfl) (ite_ok rfl rfl)))
end Mine
end
section
open PySem PySem.W PyProof.Rows PySem.Calls
set_option maxRecDepth 100000
namespace Mine
def kindTab : List (Str × Str) := [(Str.ofString "x", Str.ofString "x"), (Str.ofString "X", Str.ofString "X"), (Str.ofString "Y", Str.ofString "X"), (Str.ofString "Z", Str.ofString "X"), (Str.ofString "N", Str.ofString "N"), (Str.ofString "P", Str.ofString "N"), (Str.ofString "M", Str.ofString "N"), (Str.ofString "R", Str.ofString "R"), (Str.ofString "s", Str.ofString "s"), (Str.ofString "t", Str.ofString "t"), (Str.ofString "r", Str.ofString "R"), (Str.ofString "f", Str.ofString "N")]
def kindOf (l : Str) : Str := (kindTab.lookup l).getD (Str.ofString "n")
theorem law_forms : ∀ p ∈ lawTab, (formTab.lookup p.1).map lets = some ((lets p.2).map kindOf) := by decide
theorem law_form {p : Str × Str} (hp : p ∈ lawTab) : ∃ form, formTab.lookup p.1 = some form ∧ lets form = (lets p.2).map kindOf := by
  have h := law_forms p hp
  cases hf : formTab.lookup p.1 with
  | none => rw [hf] at h; cases h
  | some form => rw [hf] at h; exact ⟨form, rfl, Option.some.inj h⟩
theorem at_succ (x : D) (ps : List D) (j : Nat) : at' (x :: ps) (j + 1) = at' ps j := rfl
theorem lets_get {form : Str} {j : Nat} (h : j < form.cps.size) : (lets form)[j]? = some ⟨#[form.cps.getD j 0]⟩ := by
  unfold lets
  rw [List.getElem?_map, Array.getElem?_toList, Array.getElem?_eq_getElem h, Option.map_some]
  congr 3
  simp [Array.getD, h]
theorem fitAll_iff {T : D → Int → Bool} {form : Str} {x : D} {ps : List D} {m : Int} (hl : ps.length = form.cps.size) : fitAll T form (x :: ps) m = true ↔ ∀ (j : Nat) (k : Str) (d : D), (lets form)[j]? = some k → ps[j]? = some d → fitsS T k d m = true := by
  unfold fitAll
  rw [List.all_eq_true]
  constructor
  · intro h j k d hk hd
    have hj := (List.getElem?_eq_some_iff.mp hk).1
    rw [lets_len] at hj
    have := h j (List.mem_range.mpr hj)
    rw [lets_get hj] at hk; cases hk
    rw [at_succ, at_of hd] at this
    exact this
  · intro h j hj
    have hj := List.mem_range.mp hj
    refine h j _ _ (lets_get hj) ?_
    rw [at_succ]
    exact at_some (by omega)
theorem okS_iff {T : D → Int → Bool} {name form : Str} {rest : List D} {m : Int} (hf : formTab.lookup name = some form) (hl : rest.length = form.cps.size) : okS T (.tup (.str name :: rest)) m = true ↔
    (∀ (j : Nat) (k : Str) (d : D), (lets form)[j]? = some k → rest[j]? = some d → fitsS T k d m = true) ∧ pairsOk name (.str name :: rest) = true ∧ cumOk name (.str name :: rest) = true ∧ disOk name (.str name :: rest) = true ∧ mmOk name (.str name :: rest) = true ∧ tabOk name (.str name :: rest) = true ∧ regOk name (.str name :: rest) = true := by
  have e : okS T (.tup (.str name :: rest)) m = ((((rest.length + 1 : Nat) : Int) == form.cps.size + 1) && (fitAll T form (.str name :: rest) m && (pairsOk name (.str name :: rest) && (cumOk name (.str name :: rest) && (disOk name (.str name :: rest) &&
      (mmOk name (.str name :: rest) && (tabOk name (.str name :: rest) && regOk name (.str name :: rest)))))))) := by
    simp only [okS, hf]
  rw [e, ← fitAll_iff (x := .str name) hl]
  have e1 : ((((rest.length + 1 : Nat) : Int) == form.cps.size + 1)) = true := by rw [beq_iff_eq]; omega
  rw [e1]
  simp only [Bool.true_and, Bool.and_eq_true]
theorem okS_len {T : D → Int → Bool} {name form : Str} {rest : List D} {m : Int} (hf : formTab.lookup name = some form) (h : okS T (.tup (.str name :: rest)) m = true) : rest.length = form.cps.size := by
  simp only [okS, hf, Bool.and_eq_true, beq_iff_eq] at h
  have := h.1
  omega
theorem okS_none {T : D → Int → Bool} {name : Str} {rest : List D} {m : Int} (hf : formTab.lookup name = none) : okS T (.tup (.str name :: rest)) m = false := by
  simp only [okS, hf]
theorem okS_short {T : D → Int → Bool} {name form : Str} {rest : List D} {m : Int} (hf : formTab.lookup name = some form) (hl : rest.length ≠ form.cps.size) : okS T (.tup (.str name :: rest)) m = false := by
  cases h : okS T (.tup (.str name :: rest)) m with
  | false => rfl
  | true => exact absurd (okS_len hf h) hl
section
variable {T : D → Int → Bool} {d : D} {m : Int}
theorem fits_x : fitsS T (Str.ofString "x") d m = isVar m d := rfl
theorem fits_X : fitsS T (Str.ofString "X") d m = allT (isVar m) d := rfl
theorem fits_n : fitsS T (Str.ofString "n") d m = isNum d := rfl
theorem fits_N : fitsS T (Str.ofString "N") d m = isRow d := rfl
theorem fits_R : fitsS T (Str.ofString "R") d m = allT isRow d := rfl
theorem fits_s : fitsS T (Str.ofString "s") d m = inStrengths d := rfl
theorem fits_t : fitsS T (Str.ofString "t") d m = (linHead d && T d m) := rfl
end
theorem row_ok (ns : List Int) : isRow (rowD ns) = true := by simp [isRow, rowD, isNum]
theorem rows_ok (rs : List (List Int)) : allT isRow (.tup (rs.map rowD)) = true := by simp [allT, row_ok]
theorem vars_iff {many few : Int} {xs : List Int} (h : Rng many xs) : allT (isVar few) (rowD xs) = true ↔ ∀ x ∈ xs, x < few := by
  simp only [allT, rowD, List.all_map, List.all_eq_true, Function.comp, isVar, Bool.and_eq_true, decide_eq_true_iff]
  exact ⟨fun k x hx => (k x hx).2, fun k x hx => ⟨(h x hx).1, k x hx⟩⟩
theorem fold_iff {few : Int} : ∀ {xs : List Int} {m0 : Int}, xs.foldl max m0 < few ↔ m0 < few ∧ ∀ x ∈ xs, x < few
  | [], m0 => by simp
  | x :: xs, m0 => by
    rw [List.foldl_cons, fold_iff]
    simp only [List.mem_cons, forall_eq_or_imp]
    constructor
    · rintro ⟨h1, h2⟩; exact ⟨by omega, by omega, h2⟩
    · rintro ⟨h1, h2, h3⟩; exact ⟨by omega, h3⟩
theorem lin_iff {x : Str} {ns xs : List Int} {n m : Int} (hx : linears.any (· == x) = true) (hl : ns.length = xs.length) : okL (.tup [.str x, rowD ns, rowD xs, .int n]) m = true ↔ allT (isVar m) (rowD xs) = true := by
  have hf : formTab.lookup x = some (Str.ofString "NXn") ∧ pairsOk x [.str x, rowD ns, rowD xs, .int n] = true ∧ cumOk x [.str x, rowD ns, rowD xs, .int n] = true ∧ disOk x [.str x, rowD ns, rowD xs, .int n] = true ∧ mmOk x [.str x, rowD ns, rowD xs, .int n] = true ∧ tabOk x [.str x, rowD ns, rowD xs, .int n] = true ∧ regOk x [.str x, rowD ns, rowD xs, .int n] = true := by
    obtain ⟨y, hy, e⟩ := List.any_eq_true.mp hx
    rw [beq_iff_eq] at e; subst e
    simp only [linears, List.mem_cons, List.not_mem_nil, or_false] at hy
    rcases hy with rfl | rfl | rfl <;> (refine ⟨rfl, ?_, rfl, rfl, rfl, rfl, rfl⟩; show (([(1, 2)] : List (Nat × Nat)).all fun q => lenD (at' _ q.1) == lenD (at' _ q.2)) = true; simp [at', lenD, rowD, hl])
  obtain ⟨hf, h1, h2, h3, h4, h5, h6⟩ := hf
  unfold okL
  rw [okS_iff hf rfl]
  constructor
  · intro h
    exact h.1 1 (Str.ofString "X") _ rfl rfl
  · intro h
    refine ⟨fun j k d hk hd => ?_, h1, h2, h3, h4, h5, h6⟩
    match j, hk, hd with
    | 0, hk, hd => cases hk; cases hd; exact row_ok ns
    | 1, hk, hd => cases hk; cases hd; exact h
    | 2, hk, hd => cases hk; cases hd; rfl
theorem part_fit {many : Int} {wide : Nat} {t : List D} {m0 m1 few : Int} {l : Str} {d : D} (hl : l ∈ theLetters) (h : Part many wide t m0 l d m1) : m1 < few ↔ m0 < few ∧ fitsS okL (kindOf l) d few = true := by
  have tr : ∀ {b : Bool}, b = true → (m0 < few ↔ m0 < few ∧ b = true) := fun hb => ⟨fun h => ⟨h, hb⟩, fun h => h.1⟩
  have vr : ∀ {xs : List Int}, Rng many xs → (xs.foldl max m0 < few ↔ m0 < few ∧ allT (isVar few) (rowD xs) = true) := fun h => by rw [vars_iff h, fold_iff]
  simp only [theLetters, List.mem_cons, List.not_mem_nil, or_false] at hl
  rcases hl with rfl | rfl | rfl | rfl | rfl | rfl | rfl | rfl | rfl | rfl | rfl | rfl | rfl | rfl | rfl | rfl | rfl
  · obtain ⟨n, rfl, rfl, h1, h2⟩ := h
    show _ ↔ _ ∧ isVar few (.int n) = true
    simp only [isVar, Bool.and_eq_true, decide_eq_true_iff]; omega
  · obtain ⟨xs, rfl, rfl, _, h⟩ := h; exact vr h
  · obtain ⟨xs, rfl, rfl, _, h⟩ := h; exact vr h
  · obtain ⟨xs, rfl, rfl, _, _, h⟩ := h; exact vr h
  · obtain ⟨ns, rfl, rfl, _⟩ := h; exact tr (row_ok _)
  · obtain ⟨ns, rfl, rfl, _⟩ := h; exact tr (row_ok _)
  · obtain ⟨ns, rfl, rfl, _⟩ := h; exact tr (row_ok _)
  · obtain ⟨rs, rfl, rfl, _⟩ := h; exact tr (rows_ok _)
  · obtain ⟨x, rfl, rfl, h⟩ := h; exact tr h
  · obtain ⟨x, ns, xs, n, rfl, rfl, h1, h2, h3, h4⟩ := h
    show _ ↔ _ ∧ (linHead _ && okL _ few) = true
    rw [Bool.and_eq_true, lin_iff h1 (by omega), vr h4]
    exact ⟨fun h => ⟨h.1, h1, h.2⟩, fun h => ⟨h.1, h.2.2⟩⟩
  · obtain ⟨n, rfl, rfl, _⟩ := h; exact tr rfl
  · obtain ⟨n, rfl, rfl, _⟩ := h; exact tr rfl
  · obtain ⟨rs, rfl, rfl, _⟩ := h; exact tr (rows_ok _)
  · obtain ⟨n, rfl, rfl, _⟩ := h; exact tr rfl
  · obtain ⟨ns, rfl, rfl, _⟩ := h; exact tr (row_ok _)
  · obtain ⟨n, rfl, rfl⟩ := h; exact tr rfl
  · obtain ⟨n, rfl, rfl, _⟩ := h; exact tr rfl
theorem ToldR.fit {many : Int} {wide : Nat} {few : Int} {ls : List Str} : ∀ {t ps : List D} {m0 m : Int}, (∀ l ∈ ls, l ∈ theLetters) → ToldR many wide t m0 ls ps m →
    (m < few ↔ m0 < few ∧ ∀ (j : Nat) (l : Str) (d : D), ls[j]? = some l → ps[j]? = some d → fitsS okL (kindOf l) d few = true) := by
  induction ls with
  | nil =>
    intro t ps m0 m hl ⟨e1, e2⟩
    subst e1; subst e2
    exact ⟨fun h => ⟨h, fun j l d h => by cases h⟩, fun h => h.1⟩
  | cons l ls ih =>
    intro t ps m0 m hl ⟨d, rest, m1, e, p, r⟩
    subst e
    rw [ih (fun x hx => hl x (List.mem_cons_of_mem _ hx)) r, part_fit (hl l (List.mem_cons_self ..)) p, and_assoc]
    refine and_congr_right fun _ => ⟨fun ⟨h1, h2⟩ j k e hk he => ?_, fun h => ⟨h 0 l d rfl rfl, fun j k e hk he => h (j + 1) k e hk he⟩⟩
    cases j with
    | zero => cases hk; cases he; exact h1
    | succ j => exact h2 j k e hk he
theorem ToldR.at {many : Int} {wide : Nat} {ls : List Str} : ∀ {t ps : List D} {m0 m : Int}, ToldR many wide t m0 ls ps m → ∀ {k : Nat} {l : Str}, ls[k]? = some l →
    ∃ d ma mb, ps[k]? = some d ∧ ToldR many wide t m0 (ls.take k) (ps.take k) ma ∧ Part many wide (t ++ ps.take k) ma l d mb := by
  induction ls with
  | nil => intro _ _ _ _ _ _ _ h; cases h
  | cons l' ls ih =>
    intro t ps m0 m ⟨d, rest, m1, e, p, r⟩ k l h
    subst e
    cases k with
    | zero => cases h; exact ⟨d, m0, m1, rfl, ⟨rfl, rfl⟩, by rw [List.take_zero, List.append_nil]; exact p⟩
    | succ k =>
      obtain ⟨d', ma, mb, h1, h2, h3⟩ := ih r (k := k) (l := l) h
      refine ⟨d', ma, mb, h1, ⟨d, rest.take k, m1, rfl, p, h2⟩, ?_⟩
      rw [List.take_succ_cons, ← List.singleton_append, ← List.append_assoc]
      exact h3
end Mine
end
section
open PySem PySem.W PyProof.Rows PySem.Calls
set_option maxRecDepth 100000
namespace Mine
theorem fine_int (n : Nat) (x : Int) : Fine n (.int x) := by cases n <;> first | rfl | exact ⟨rfl, trivial⟩
theorem fine_str (n : Nat) (x : Str) : Fine n (.str x) := by cases n <;> first | rfl | exact ⟨rfl, trivial⟩
theorem fine_none (n : Nat) : Fine n .none := by cases n <;> first | rfl | exact ⟨rfl, trivial⟩
theorem fine_bool (n : Nat) (b : Bool) : Fine n (.bool b) := by cases n <;> first | rfl | exact ⟨rfl, trivial⟩
theorem fine_tup {n : Nat} {ds : List D} (h : ds.length ≤ 1000) (k : ∀ x ∈ ds, Fine n x) : Fine (n + 1) (.tup ds) := ⟨rfl, h, k⟩
theorem fine_lst {n : Nat} {ds : List D} (h : ds.length ≤ 1000) (k : ∀ x ∈ ds, Fine n x) : Fine (n + 1) (.lst ds) := ⟨rfl, h, k⟩
theorem fine_row {n : Nat} {ns : List Int} (h : ns.length ≤ 1000) : Fine (n + 1) (rowD ns) := fine_tup (by rw [List.length_map]; exact h) fun x hx => by
  obtain ⟨y, _, rfl⟩ := List.mem_map.mp hx; exact fine_int n y
theorem fine_rows {n : Nat} {rs : List (List Int)} (h : rs.length ≤ 1000) (k : ∀ r ∈ rs, r.length ≤ 1000) : Fine (n + 2) (.tup (rs.map rowD)) := fine_tup (by rw [List.length_map]; exact h) fun x hx => by
  obtain ⟨y, hy, rfl⟩ := List.mem_map.mp hx; exact fine_row (k y hy)
theorem part_fine {many : Int} {wide : Nat} {t : List D} {m0 m1 : Int} {l : Str} {d : D} (pre : PlacePre l t) (hw : wide ≤ 3) (h : Part many wide t m0 l d m1) : Fine 4 d := by
  have hrow : ∀ {ns : List Int}, ns.length ≤ 3 → Fine 4 (rowD ns) := fun h => fine_row (Nat.le_trans h (by decide))
  have hm := pre.mem
  simp only [theLetters, List.mem_cons, List.not_mem_nil, or_false] at hm
  rcases hm with rfl | rfl | rfl | rfl | rfl | rfl | rfl | rfl | rfl | rfl | rfl | rfl | rfl | rfl | rfl | rfl | rfl
  · obtain ⟨n, rfl, _⟩ := h; exact fine_int _ _
  · obtain ⟨xs, rfl, _, h, _⟩ := h; exact hrow (h ▸ hw)
  · obtain ⟨xs, rfl, _, h, _⟩ := h; exact hrow h
  · obtain ⟨xs, rfl, _, _, h, _⟩ := h; exact hrow h
  · obtain ⟨xs, rfl, _, h⟩ := h; exact hrow (h ▸ hw)
  · obtain ⟨xs, rfl, _, h, _⟩ := h; exact hrow (h ▸ hw)
  · obtain ⟨xs, rfl, _, h⟩ := h; exact hrow h
  · obtain ⟨rs, rfl, _, h1, h2⟩ := h
    obtain ⟨xs, e, hx⟩ := pre.hR rfl
    refine fine_rows (Nat.le_trans h1 (by decide)) fun r hr => ?_
    have := h2 r hr
    rw [at_of e] at this
    have e2 : lenD (rowD xs) = ((xs.map D.int).length : Nat) := rfl
    rw [List.length_map] at e2
    omega
  · obtain ⟨x, rfl, _⟩ := h; exact fine_str _ _
  · obtain ⟨x, ns, xs, n, rfl, _, _, h2, h3, _⟩ := h
    refine fine_tup (Nat.le_of_ble_eq_true rfl) fun x hx => ?_
    simp only [List.mem_cons, List.not_mem_nil, or_false] at hx
    rcases hx with rfl | rfl | rfl | rfl
    · exact fine_str _ _
    · exact fine_row (Nat.le_trans (h2 ▸ hw) (by decide))
    · exact fine_row (Nat.le_trans (h3 ▸ hw) (by decide))
    · exact fine_int _ _
  · obtain ⟨n, rfl, _⟩ := h; exact fine_int _ _
  · obtain ⟨n, rfl, _⟩ := h; exact fine_int _ _
  · obtain ⟨rs, rfl, _, h1, h2⟩ := h
    obtain ⟨s, e, hs1, hs2⟩ := pre.h2 (.inl rfl)
    obtain ⟨s', e', hs1', hs2'⟩ := pre.h3 rfl
    rw [at_of e] at h1
    rw [at_of e'] at h2
    have i1 : intD (.int s) = s := rfl
    have i2 : intD (.int s') = s' := rfl
    refine fine_rows (by omega) fun r hr => ?_
    have := (h2 r hr).1
    omega
  · obtain ⟨n, rfl, _⟩ := h; exact fine_int _ _
  · obtain ⟨xs, rfl, _, h, _⟩ := h; exact fine_row (Nat.le_trans h (by decide))
  · obtain ⟨n, rfl, _⟩ := h; exact fine_int _ _
  · obtain ⟨n, rfl, _⟩ := h; exact fine_int _ _
def wideLets : List Str := [Str.ofString "X", Str.ofString "N", Str.ofString "P"]
theorem row_len (xs : List Int) : lenD (rowD xs) = xs.length := by
  show (((xs.map D.int).length : Nat) : Int) = _
  rw [List.length_map]
theorem part_len {many : Int} {wide : Nat} {t : List D} {m0 m1 : Int} {l : Str} {d : D} (h : Part many wide t m0 l d m1) (e : l ∈ wideLets) : lenD d = wide := by
  simp only [wideLets, List.mem_cons, List.not_mem_nil, or_false] at e
  rcases e with rfl | rfl | rfl
  · obtain ⟨xs, rfl, _, h', _⟩ := h; rw [row_len, h']
  · obtain ⟨xs, rfl, _, h'⟩ := h; rw [row_len, h']
  · obtain ⟨xs, rfl, _, h', _⟩ := h; rw [row_len, h']
theorem lets_mem {p : Str × Str} (hp : p ∈ lawTab) : ∀ l ∈ lets p.2, l ∈ theLetters := fun l hl => by
  obtain ⟨k, hk, e⟩ := List.mem_iff_getElem.mp hl
  exact ((letter_facts p hp).2 k (List.mem_range.mpr (by rw [← lets_len]; exact hk)) l (by rw [List.getElem?_eq_getElem hk, e])).1
theorem pair_lets : ∀ p ∈ lawTab, ∀ q ∈ (pairTab.lookup p.1).getD [], (∃ l, (lets p.2)[q.1 - 1]? = some l ∧ l ∈ wideLets) ∧ 0 < q.1 ∧ (∃ l, (lets p.2)[q.2 - 1]? = some l ∧ l ∈ wideLets) ∧ 0 < q.2 ∧ q.1 ≠ q.2 := by
  intro p hp q hq
  have := show ∀ p ∈ lawTab, ∀ q ∈ (pairTab.lookup p.1).getD [], ((lets p.2)[q.1 - 1]?.any fun l => decide (l ∈ wideLets)) = true ∧ 0 < q.1 ∧ ((lets p.2)[q.2 - 1]?.any fun l => decide (l ∈ wideLets)) = true ∧ 0 < q.2 ∧ q.1 ≠ q.2 from by decide
  obtain ⟨h1, h2, h3, h4, h5⟩ := this p hp q hq
  have key : ∀ i : Nat, ((lets p.2)[i]?.any fun l => decide (l ∈ wideLets)) = true → ∃ l, (lets p.2)[i]? = some l ∧ l ∈ wideLets := fun i h => by
    cases e : (lets p.2)[i]? with
    | none => rw [e] at h; cases h
    | some l => rw [e] at h; exact ⟨l, rfl, by simpa using h⟩
  exact ⟨key _ h1, h2, key _ h3, h4, h5⟩
theorem name_lets : ∀ p ∈ lawTab, (p.1 = Str.ofString "cumulative" → lets p.2 = [Str.ofString "X", Str.ofString "P", Str.ofString "P", Str.ofString "p"]) ∧ (p.1 = Str.ofString "disjunctive" → lets p.2 = [Str.ofString "X", Str.ofString "P"]) ∧
    (p.1 = Str.ofString "max" ∨ p.1 = Str.ofString "min" → lets p.2 = [Str.ofString "Z", Str.ofString "x"]) ∧ (p.1 = Str.ofString "table" → lets p.2 = [Str.ofString "Y", Str.ofString "R"]) ∧
    (p.1 = Str.ofString "regular" → lets p.2 = [Str.ofString "Y", Str.ofString "a", Str.ofString "b", Str.ofString "r", Str.ofString "c", Str.ofString "f"]) := by decide
theorem reg_shape {many : Int} {wide : Nat} {nm : D} {m0 m : Int} {ls : List Str} {ps : List D} (hl : ls = [Str.ofString "Y", Str.ofString "a", Str.ofString "b", Str.ofString "r", Str.ofString "c", Str.ofString "f"]) (h : ToldR many wide [nm] m0 ls ps m) :
    ∃ (xs : List Int) (s k : Int) (rs : List (List Int)) (c : Int) (fs : List Int), ps = [rowD xs, .int s, .int k, .tup (rs.map rowD), .int c, rowD fs] ∧ 1 ≤ s ∧ s ≤ 2 ∧ 1 ≤ k ∧ k ≤ 2 ∧ (rs.length : Int) = s ∧ (∀ r ∈ rs, (r.length : Int) = k ∧ ∀ e ∈ r, 0 ≤ e ∧ e ≤ s) ∧ 1 ≤ c ∧ c ≤ s ∧ fs.length ≤ 2 ∧ (∀ f ∈ fs, 1 ≤ f ∧ f ≤ s) ∧ xs.length ≤ 3 ∧ Rng many xs := by
  subst hl
  obtain ⟨d1, r1, m1, rfl, p1, d2, r2, m2, rfl, p2, d3, r3, m3, rfl, p3, d4, r4, m4, rfl, p4, d5, r5, m5, rfl, p5, d6, r6, m6, rfl, p6, rfl, _⟩ := h
  obtain ⟨xs, rfl, _, hx, hx'⟩ := p1
  obtain ⟨s, rfl, _, hs, hs'⟩ := p2
  obtain ⟨k, rfl, _, hk, hk'⟩ := p3
  obtain ⟨rs, rfl, _, h4, h4'⟩ := p4
  obtain ⟨c, rfl, _, h5, h5'⟩ := p5
  obtain ⟨fs, rfl, _, h6, h6'⟩ := p6
  exact ⟨xs, s, k, rs, c, fs, rfl, hs, hs', hk, hk', h4, h4', h5, h5', h6, h6', hx, hx'⟩
theorem intsD_rows (rs : List (List Int)) : (tupD (.tup (rs.map rowD))).map intsD = rs := by
  show (rs.map rowD).map intsD = rs
  rw [List.map_map]
  exact (List.map_congr_left fun _ _ => intsD_row _).trans (List.map_id _)
theorem reg_ok {nm : D} {xs : List Int} {s k : Int} {rs : List (List Int)} {c : Int} {fs : List Int} : regOk (Str.ofString "regular") [nm, rowD xs, .int s, .int k, .tup (rs.map rowD), .int c, rowD fs] = machOk s k rs c fs := by
  show (false || machOk s k ((tupD (.tup (rs.map rowD))).map intsD) c (intsD (rowD fs))) = _
  rw [intsD_rows, intsD_row, Bool.false_or]
section
variable {p : Str × Str} (hp : p ∈ lawTab) {many : Int} {wide : Nat} {ps : List D} {m : Int} (hw : wide ≤ 3) (ht : ToldR many wide [.str p.1] (-1) (lets p.2) ps m)
include hp ht
theorem told_at {k : Nat} {l : Str} (hk : (lets p.2)[k]? = some l) : ∃ d ma mb, ps[k]? = some d ∧ PlacePre l (.str p.1 :: ps.take k) ∧ Part many wide (.str p.1 :: ps.take k) ma l d mb := by
  obtain ⟨d, ma, mb, h1, h2, h3⟩ := ht.at hk
  exact ⟨d, ma, mb, h1, pre_of hp hk h2, h3⟩
theorem told_conds : pairsOk p.1 (.str p.1 :: ps) = true ∧ cumOk p.1 (.str p.1 :: ps) = true ∧ disOk p.1 (.str p.1 :: ps) = true ∧ mmOk p.1 (.str p.1 :: ps) = true ∧ tabOk p.1 (.str p.1 :: ps) = true ∧ regOk p.1 (.str p.1 :: ps) = true := by
  obtain ⟨n1, n2, n3, n4, n5⟩ := name_lets p hp
  have get : ∀ {j : Nat} {d : D}, ps[j]? = some d → at' (.str p.1 :: ps) (j + 1) = d := fun h => at_of (t := .str p.1 :: ps) h
  refine ⟨?_, ?_, ?_, ?_, ?_, ?_⟩
  · unfold pairsOk
    rw [List.all_eq_true]
    intro q hq
    obtain ⟨⟨l1, e1, w1⟩, z1, ⟨l2, e2, w2⟩, z2, _⟩ := pair_lets p hp q hq
    obtain ⟨d1, _, _, g1, _, p1⟩ := told_at hp ht e1
    obtain ⟨d2, _, _, g2, _, p2⟩ := told_at hp ht e2
    have a1 := get g1
    have a2 := get g2
    rw [Nat.sub_add_cancel z1] at a1
    rw [Nat.sub_add_cancel z2] at a2
    rw [a1, a2, part_len p1 w1, part_len p2 w2, beq_iff_eq]
  · unfold cumOk
    by_cases h : p.1 = Str.ofString "cumulative"
    · have e := n1 h
      obtain ⟨d1, _, _, g1, _, p1⟩ := told_at (k := 1) hp ht (by rw [e]; rfl)
      obtain ⟨d2, _, _, g2, _, p2⟩ := told_at (k := 2) hp ht (by rw [e]; rfl)
      obtain ⟨d3, _, _, g3, _, p3⟩ := told_at (k := 3) hp ht (by rw [e]; rfl)
      obtain ⟨xs, rfl, _, _, k1⟩ := p1
      obtain ⟨ys, rfl, _, _, k2⟩ := p2
      obtain ⟨n, rfl, _, k3⟩ := p3
      rw [get g1, get g2, get g3]
      simp only [nn, nn1, intsD_row, Bool.or_eq_true, Bool.and_eq_true, List.all_eq_true, decide_eq_true_iff]
      exact .inr ⟨k1, k2, k3⟩
    · rw [beq_eq_false_iff_ne.mpr h]; rfl
  · unfold disOk
    by_cases h : p.1 = Str.ofString "disjunctive"
    · have e := n2 h
      obtain ⟨d1, _, _, g1, _, p1⟩ := told_at (k := 1) hp ht (by rw [e]; rfl)
      obtain ⟨xs, rfl, _, _, k1⟩ := p1
      rw [get g1]
      simp only [nn, intsD_row, Bool.or_eq_true, List.all_eq_true, decide_eq_true_iff]
      exact .inr k1
    · rw [beq_eq_false_iff_ne.mpr h]; rfl
  · unfold mmOk
    cases h : [Str.ofString "max", Str.ofString "min"].any (· == p.1) with
    | false => rfl
    | true =>
      obtain ⟨y, hy, e⟩ := List.any_eq_true.mp h
      rw [beq_iff_eq] at e; subst e
      simp only [List.mem_cons, List.not_mem_nil, or_false] at hy
      have e := n3 hy
      obtain ⟨d1, _, _, g1, _, p1⟩ := told_at (k := 0) hp ht (by rw [e]; rfl)
      obtain ⟨xs, rfl, _, k1, _⟩ := p1
      rw [get g1, row_len]
      have : ((xs.length : Int) == 0) = false := beq_eq_false_iff_ne.mpr (by omega)
      rw [this]; rfl
  · unfold tabOk
    by_cases h : p.1 = Str.ofString "table"
    · have e := n4 h
      obtain ⟨d0, _, _, g0, _, p0⟩ := told_at (k := 0) hp ht (by rw [e]; rfl)
      obtain ⟨d1, _, _, g1, _, p1⟩ := told_at (k := 1) hp ht (by rw [e]; rfl)
      obtain ⟨rs, rfl, _, k1, k2⟩ := p1
      rw [get g0, get g1]
      have e0 : at' (.str p.1 :: ps.take 1) 1 = d0 := at_of (by
        show (ps.take 1)[0]? = _
        rw [List.getElem?_take, if_pos (by omega), g0])
      rw [e0] at k2
      rw [Bool.or_eq_true]
      refine .inr (List.all_eq_true.mpr fun x hx => ?_)
      obtain ⟨r, hr, rfl⟩ := List.mem_map.mp (show x ∈ rs.map rowD from hx)
      rw [row_len, k2 r hr, beq_iff_eq]
    · rw [beq_eq_false_iff_ne.mpr h]; rfl
  · by_cases h : p.1 = Str.ofString "regular"
    · obtain ⟨xs, s, k, rs, c, fs, rfl, s1, s2, k1, k2, h1, h2, h3, h4, h5, h6, _⟩ := reg_shape (n5 h) ht
      rw [h, reg_ok]
      simp only [machOk, within, Bool.and_eq_true, List.all_eq_true, decide_eq_true_iff, beq_iff_eq, List.mem_cons, forall_eq_or_imp]
      exact ⟨h1, fun r hr => (h2 r hr).1, fun r hr e he => (h2 r hr).2 e he, ⟨h3, h4⟩, h6⟩
    · unfold regOk; rw [beq_eq_false_iff_ne.mpr h]; rfl
theorem told_okF {few : Int} (h0 : 0 ≤ few) : okF (.tup (.str p.1 :: ps)) few = decide (m < few) := by
  obtain ⟨form, hf, hfl⟩ := law_form hp
  have hlen : ps.length = form.cps.size := by rw [ht.length, ← lets_len form, hfl, List.length_map]
  rw [Bool.eq_iff_iff, decide_eq_true_iff, ht.fit (lets_mem hp)]
  unfold okF
  rw [okS_iff hf hlen, hfl]
  constructor
  · rintro ⟨h, _⟩
    refine ⟨by omega, fun j l d hl hd => h j (kindOf l) d (by rw [List.getElem?_map, hl]; rfl) hd⟩
  · rintro ⟨_, h⟩
    refine ⟨fun j k d hk hd => ?_, told_conds hp ht⟩
    rw [List.getElem?_map] at hk
    obtain ⟨l, hl, rfl⟩ := Option.map_eq_some_iff.mp hk
    exact h j l d hl hd
include hw in
theorem told_fine : Fine 5 (.tup (.str p.1 :: ps)) ∧ ps.length ≤ 6 := by
  have hl : ps.length ≤ 6 := by rw [ht.length, lets_len]; exact (letter_facts p hp).1
  refine ⟨fine_tup (by rw [List.length_cons]; omega) fun x hx => ?_, hl⟩
  rcases List.mem_cons.mp hx with rfl | hx
  · exact fine_str _ _
  · obtain ⟨j, hj, e⟩ := List.mem_iff_getElem.mp hx
    have hj' : j < (lets p.2).length := by rw [← ht.length]; exact hj
    obtain ⟨d, _, _, g, pre, pt⟩ := told_at hp ht (List.getElem?_eq_getElem hj')
    rw [List.getElem?_eq_getElem hj, e] at g
    cases g
    exact part_fine pre hw pt
end
theorem plain_t : ∀ l ∈ theLetters, plainKind (kindOf l) = false → l = Str.ofString "t" := by decide
theorem HS_of {p : Str × Str} (hp : p ∈ lawTab) {ps : List D} (h : ∀ (j : Nat) (d : D), (lets p.2)[j]? = some (Str.ofString "t") → ps[j]? = some d → strHead d = true) : HS (.tup (.str p.1 :: ps)) := by
  intro name form rest e hf hlen j hj hk
  cases e
  obtain ⟨form', hf', hfl⟩ := law_form hp
  rw [hf] at hf'; cases hf'
  have hg := lets_get hj
  rw [hfl, List.getElem?_map] at hg
  obtain ⟨l, hl, e⟩ := Option.map_eq_some_iff.mp hg
  rw [← e] at hk
  have hj2 : j < p.2.cps.size := by have := (List.getElem?_eq_some_iff.mp hl).1; rwa [lets_len] at this
  have := plain_t l ((letter_facts p hp).2 j (List.mem_range.mpr hj2) l hl).1 hk
  subst this
  rw [at_succ]
  exact h j _ hl (at_some (by omega))
theorem HS_none {name : Str} {rest : List D} (h : formTab.lookup name = none) : HS (.tup (.str name :: rest)) := by
  intro n form r e hf
  cases e
  rw [h] at hf; cases hf
theorem HS_short {name form : Str} {rest : List D} (h : formTab.lookup name = some form) (hl : rest.length ≠ form.cps.size) : HS (.tup (.str name :: rest)) := by
  intro n f r e hf hn
  cases e
  rw [h] at hf; cases hf
  exact absurd hn hl
end Mine
end
section
open PySem PySem.W PyProof.Rows PySem.Calls
set_option maxRecDepth 100000
namespace Mine
def Bad (many : Int) (w : D) : Prop := okF w many = false ∧ Fine 5 w ∧ HS w
theorem allT_snoc {f : D → Bool} {ds : List D} {x : D} (h : f x = false) : allT f (.tup (ds ++ [x])) = false := by simp [allT, h]
theorem allT_head {f : D → Bool} {ds : List D} {x : D} (h : f x = false) : allT f (.tup (x :: ds)) = false := by simp [allT, h]
theorem isRow_snoc {ds : List D} {x : D} (h : isNum x = false) : isRow (.tup (ds ++ [x])) = false := by simp [isRow, h]
theorem isRow_head {ds : List D} {x : D} (h : isNum x = false) : isRow (.tup (x :: ds)) = false := by simp [isRow, h]
theorem fine_snoc {n : Nat} {ds : List D} {x : D} (h : ds.length ≤ 900) (k : ∀ y ∈ ds, Fine n y) (hx : Fine n x) : Fine (n + 1) (.tup (ds ++ [x])) := fine_tup (by rw [List.length_append, List.length_singleton]; omega) fun y hy => by
  rcases List.mem_append.mp hy with hy | hy
  · exact k y hy
  · rw [List.mem_singleton] at hy; subst hy; exact hx
theorem fine_ints {n : Nat} {ns : List Int} : ∀ y ∈ ns.map D.int, Fine n y := fun y hy => by
  obtain ⟨z, _, rfl⟩ := List.mem_map.mp hy; exact fine_int n z
theorem fine_rowsE {n : Nat} {rs : List (List Int)} (k : ∀ r ∈ rs, r.length ≤ 1000) : ∀ y ∈ rs.map rowD, Fine (n + 1) y := fun y hy => by
  obtain ⟨z, hz, rfl⟩ := List.mem_map.mp hy; exact fine_row (k z hz)
theorem fine_one {n : Nat} {x : D} (h : Fine n x) : Fine (n + 1) (.tup [x]) := fine_tup (by simp) fun y hy => by
  rw [List.mem_singleton] at hy; subst hy; exact h
theorem fine_nil (n : Nat) : Fine n (.tup []) := by cases n <;> first | rfl | exact fine_tup (by simp) fun y hy => by cases hy
theorem fine_rep {n k : Nat} (h : k ≤ 1000) : Fine (n + 1) (.tup (List.replicate k (.int 0))) := fine_tup (by rw [List.length_replicate]; exact h) fun y hy => by
  rw [List.eq_of_mem_replicate hy]; exact fine_int _ _
theorem fine_repL {n k : Nat} (h : k ≤ 1000) : Fine (n + 1) (.lst (List.replicate k (.int 0))) := fine_lst (by rw [List.length_replicate]; exact h) fun y hy => by
  rw [List.eq_of_mem_replicate hy]; exact fine_int _ _
def wp (p : Str × Str) (k : Nat) : Bool := ((pairTab.lookup p.1).getD []).any fun q => q.1 == k + 1 || q.2 == k + 1
def posB (p : Str × Str) (k : Nat) (l : Str) : Bool :=
  (!(l == Str.ofString "Z") || ((p.1 == Str.ofString "max" || p.1 == Str.ofString "min") && k == 0)) &&
  ((!(l == Str.ofString "P") || ((p.1 == Str.ofString "cumulative" && (k == 1 || k == 2)) || (p.1 == Str.ofString "disjunctive" && k == 1))) &&
  ((!(l == Str.ofString "p") || (p.1 == Str.ofString "cumulative" && k == 3)) &&
  ((!(l == Str.ofString "R") || (p.1 == Str.ofString "table" && k == 1)) &&
  ((!(l == Str.ofString "a") || (p.1 == Str.ofString "regular" && k == 1)) &&
  ((!(l == Str.ofString "b") || (p.1 == Str.ofString "regular" && k == 2)) &&
  ((!(l == Str.ofString "r") || (p.1 == Str.ofString "regular" && k == 3)) &&
  ((!(l == Str.ofString "c") || (p.1 == Str.ofString "regular" && k == 4)) &&
  ((!(l == Str.ofString "f") || (p.1 == Str.ofString "regular" && k == 5)) &&
  ((!(l == Str.ofString "n") || decide (3 ≤ p.2.cps.size)) &&
  (!(l == Str.ofString "X" || (l == Str.ofString "N" || l == Str.ofString "P")) || wp p k))))))))))
theorem pos_all : ∀ p ∈ lawTab, ∀ k ∈ List.range p.2.cps.size, ((lets p.2)[k]?.all fun l => posB p k l) = true := by decide
theorem pos_of {p : Str × Str} (hp : p ∈ lawTab) {k : Nat} {l : Str} (hk : (lets p.2)[k]? = some l) : posB p k l = true := by
  have hj : k < p.2.cps.size := by have := (List.getElem?_eq_some_iff.mp hk).1; rwa [lets_len] at this
  have := pos_all p hp k (List.mem_range.mpr hj)
  rw [hk] at this
  exact this
theorem lin_form {x : Str} (hx : linears.any (· == x) = true) : formTab.lookup x = some (Str.ofString "NXn") ∧ pairTab.lookup x = some [(1, 2)] := by
  obtain ⟨y, hy, e⟩ := List.any_eq_true.mp hx
  rw [beq_iff_eq] at e; subst e
  simp only [linears, List.mem_cons, List.not_mem_nil, or_false] at hy
  rcases hy with rfl | rfl | rfl <;> exact ⟨rfl, rfl⟩
section
variable {p : Str × Str} (hp : p ∈ lawTab) {many : Int} {wide : Nat} {ps : List D} {m : Int} (hw : wide ≤ 3) (ht : ToldR many wide [.str p.1] (-1) (lets p.2) ps m) {k : Nat} {l : Str} (hk : (lets p.2)[k]? = some l)
include hp hw ht hk
theorem set_get {w : D} : at' (.str p.1 :: ps.set k w) (k + 1) = w := by
  have hj := (List.getElem?_eq_some_iff.mp hk).1
  rw [at_succ]
  exact at_of (by rw [List.getElem?_set_self (by rw [ht.length]; exact hj)])
theorem set_ne {w : D} {j : Nat} (h : j ≠ k) : at' (.str p.1 :: ps.set k w) (j + 1) = at' (.str p.1 :: ps) (j + 1) := by
  rw [at_succ, at_succ]
  unfold at'
  rw [List.getElem?_set_ne (Ne.symm h)]
theorem set_fine {w : D} (f4 : Fine 4 w) : Fine 5 (.tup (.str p.1 :: ps.set k w)) := by
  obtain ⟨h1, h2⟩ := told_fine hp hw ht
  refine fine_tup (by rw [List.length_cons, List.length_set]; omega) fun x hx => ?_
  rcases List.mem_cons.mp hx with rfl | hx
  · exact fine_str _ _
  rcases List.mem_or_eq_of_mem_set hx with hx | rfl
  · exact h1.tup.2 x (List.mem_cons_of_mem _ hx)
  · exact f4
theorem set_HS {w : D} (hs : l = Str.ofString "t" → strHead w = true) : HS (.tup (.str p.1 :: ps.set k w)) := by
  refine HS_of hp fun j d hj hd => ?_
  by_cases h : k = j
  · subst h
    rw [hk] at hj; cases hj
    have hj := (List.getElem?_eq_some_iff.mp hk).1
    rw [List.getElem?_set_self (by rw [ht.length]; exact hj)] at hd
    cases hd
    exact hs rfl
  · rw [List.getElem?_set_ne h] at hd
    obtain ⟨d', _, _, g, _, pt⟩ := told_at hp ht hj
    rw [g] at hd; cases hd
    obtain ⟨x, ns, xs, n, rfl, _, _⟩ := pt
    rfl
theorem bad_of {w : D} (f4 : Fine 4 w) (hs : l = Str.ofString "t" → strHead w = true)
    (no : fitsS okL (kindOf l) w many = true → pairsOk p.1 (.str p.1 :: ps.set k w) = true → cumOk p.1 (.str p.1 :: ps.set k w) = true → disOk p.1 (.str p.1 :: ps.set k w) = true → mmOk p.1 (.str p.1 :: ps.set k w) = true → tabOk p.1 (.str p.1 :: ps.set k w) = true → regOk p.1 (.str p.1 :: ps.set k w) = true → False) :
    Bad many (.tup (.str p.1 :: ps.set k w)) := by
  refine ⟨?_, set_fine hp hw ht hk f4, set_HS hp hw ht hk hs⟩
  cases h : okF (.tup (.str p.1 :: ps.set k w)) many with
  | false => rfl
  | true =>
    exfalso
    obtain ⟨form, hf, hfl⟩ := law_form hp
    have hlen : (ps.set k w).length = form.cps.size := by rw [List.length_set, ht.length, ← lets_len form, hfl, List.length_map]
    obtain ⟨h0, h1, h2, h3, h4, h5, h6⟩ := (okS_iff (m := many) hf hlen).mp h
    have hj := (List.getElem?_eq_some_iff.mp hk).1
    exact no (h0 k _ _ (by rw [hfl, List.getElem?_map, hk]; rfl) (by rw [List.getElem?_set_self (by rw [ht.length]; exact hj)])) h1 h2 h3 h4 h5 h6
theorem bad_fit {w : D} (f4 : Fine 4 w) (hs : l = Str.ofString "t" → strHead w = true) (no : fitsS okL (kindOf l) w many = false) : Bad many (.tup (.str p.1 :: ps.set k w)) :=
  bad_of hp hw ht hk f4 hs fun h => by rw [no] at h; cases h
theorem bad_pair {w : D} (f4 : Fine 4 w) (hs : l = Str.ofString "t" → strHead w = true) (hl : wp p k = true) (hz : lenD w ≠ wide) : Bad many (.tup (.str p.1 :: ps.set k w)) := by
  refine bad_of hp hw ht hk f4 hs fun _ h _ _ _ _ _ => ?_
  unfold wp at hl
  obtain ⟨q, hq, hl⟩ := List.any_eq_true.mp hl
  have h := List.all_eq_true.mp h q hq
  rw [beq_iff_eq] at h
  obtain ⟨⟨l1, e1, w1⟩, z1, ⟨l2, e2, w2⟩, z2, ne⟩ := pair_lets p hp q hq
  obtain ⟨d1, _, _, g1, _, p1⟩ := told_at hp ht e1
  obtain ⟨d2, _, _, g2, _, p2⟩ := told_at hp ht e2
  have a1 := set_get (w := w) hp hw ht hk
  simp only [Bool.or_eq_true, beq_iff_eq] at hl
  rcases hl with hl | hl
  · rw [hl, a1, show q.2 = (q.2 - 1) + 1 by omega, set_ne hp hw ht hk (by omega), at_succ, at_of g2, part_len p2 w2] at h
    exact hz h
  · rw [hl, a1, show q.1 = (q.1 - 1) + 1 by omega, set_ne hp hw ht hk (by omega), at_succ, at_of g1, part_len p1 w1] at h
    exact hz h.symm
theorem bends_x (hl : l = Str.ofString "x") : ∀ w ∈ bx many, Bad many (.tup (.str p.1 :: ps.set k w)) := by
  intro w h
  have ns : l = Str.ofString "t" → strHead w = true := fun e => by rw [hl] at e; exact absurd e (by decide)
  subst hl
  simp only [bx, List.mem_cons, List.not_mem_nil, or_false] at h
  rcases h with rfl | rfl | rfl | rfl | rfl | rfl
  · exact bad_fit hp hw ht hk (fine_int _ _) ns rfl
  · refine bad_fit hp hw ht hk (fine_int _ _) ns ?_
    show isVar many (.int many) = false
    simp [isVar]
  · exact bad_fit hp hw ht hk (fine_bool _ _) ns rfl
  · exact bad_fit hp hw ht hk (fine_none _) ns rfl
  · exact bad_fit hp hw ht hk (fine_str _ _) ns rfl
  · exact bad_fit hp hw ht hk (fine_one (fine_int _ _)) ns rfl
theorem bends_X (hl : l = Str.ofString "X" ∨ l = Str.ofString "Y" ∨ l = Str.ofString "Z") {xs : List Int} (hxs : ps[k]? = some (rowD xs)) (hz : xs.length ≤ 3) (hX : l = Str.ofString "X" → xs.length = wide) : ∀ w ∈ bX l (xs.map .int) many, Bad many (.tup (.str p.1 :: ps.set k w)) := by
  intro w h
  have pos := pos_of hp hk
  have ns : l = Str.ofString "t" → strHead w = true := fun e => by subst e; rcases hl with e | e | e <;> exact absurd e (by decide)
  have fit : ∀ {w}, allT (isVar many) w = false → fitsS okL (kindOf l) w many = false := fun {w} e => by rcases hl with rfl | rfl | rfl <;> exact e
  have hz' : (xs.map D.int).length ≤ 900 := by rw [List.length_map]; omega
  simp only [bX, List.mem_append, List.mem_cons, List.not_mem_nil, or_false] at h
  rcases h with (rfl | rfl | rfl | rfl | rfl | rfl | rfl) | h
  · exact bad_fit hp hw ht hk (fine_lst (by omega) fine_ints) ns (fit rfl)
  · exact bad_fit hp hw ht hk (fine_snoc hz' fine_ints (fine_int _ _)) ns (fit (allT_snoc (by simp [isVar])))
  · exact bad_fit hp hw ht hk (fine_snoc hz' fine_ints (fine_int _ _)) ns (fit (allT_snoc rfl))
  · exact bad_fit hp hw ht hk (fine_snoc hz' fine_ints (fine_bool _ _)) ns (fit (allT_snoc rfl))
  · exact bad_fit hp hw ht hk (fine_int _ _) ns (fit rfl)
  · exact bad_fit hp hw ht hk (fine_none _) ns (fit rfl)
  · exact bad_fit hp hw ht hk (fine_str _ _) ns (fit rfl)
  · rcases hl with rfl | rfl | rfl
    · rw [if_pos (by decide), List.mem_singleton] at h
      subst h
      have hq : wp p k = true := pos
      refine bad_pair hp hw ht hk (fine_snoc hz' fine_ints (fine_int _ _)) ns hq ?_
      show ((((xs.map D.int) ++ [D.int 0]).length : Nat) : Int) ≠ _
      rw [List.length_append, List.length_map, hX rfl, List.length_singleton]; omega
    · rw [if_neg (by decide), if_neg (by decide)] at h; cases h
    · rw [if_neg (by decide), if_pos (by decide), List.mem_singleton] at h
      subst h
      refine bad_of hp hw ht hk (fine_nil _) ns fun _ _ _ _ h _ _ => ?_
      have hq : (((p.1 == Str.ofString "max" || p.1 == Str.ofString "min") && k == 0) && true) = true := pos
      simp only [Bool.and_true, Bool.and_eq_true, Bool.or_eq_true, beq_iff_eq] at hq
      obtain ⟨hq, rfl⟩ := hq
      unfold mmOk at h
      rw [set_get hp hw ht hk] at h
      rcases hq with e | e <;> (rw [e] at h; cases h)
end
end Mine
end
section
open PySem PySem.W PyProof.Rows PySem.Calls
set_option maxRecDepth 100000
namespace Mine
theorem isRow_cons_neg (xs : List Int) : intsD (.tup ([D.int (-1)] ++ (xs.map D.int).drop 1)) = -1 :: xs.drop 1 := by
  show ([D.int (-1)] ++ (xs.map D.int).drop 1).map intD = _
  rw [List.map_append, ← List.map_drop, List.map_map]
  have e : (xs.drop 1).map (intD ∘ D.int) = xs.drop 1 := (List.map_congr_left fun _ _ => rfl).trans (List.map_id _)
  rw [e]; rfl
theorem nn_neg (xs : List Int) : nn (.tup ([D.int (-1)] ++ (xs.map D.int).drop 1)) = false := by
  unfold nn; rw [isRow_cons_neg]; rfl
theorem fine_cut {n : Nat} {x : D} {ds : List D} (h : ds.length ≤ 900) (hx : Fine n x) (k : ∀ y ∈ ds, Fine n y) : Fine (n + 1) (.tup ([x] ++ ds.drop 1)) := fine_tup (by rw [List.length_append, List.length_singleton, List.length_drop]; omega) fun y hy => by
  rcases List.mem_append.mp hy with hy | hy
  · rw [List.mem_singleton] at hy; subst hy; exact hx
  · exact k y (List.mem_of_mem_drop hy)
theorem cum_name : ¬ (Str.ofString "cumulative" == Str.ofString "cumulative") = false := by decide
section
variable {p : Str × Str} (hp : p ∈ lawTab) {many : Int} {wide : Nat} {ps : List D} {m : Int} (hw : wide ≤ 3) (ht : ToldR many wide [.str p.1] (-1) (lets p.2) ps m) {k : Nat} {l : Str} (hk : (lets p.2)[k]? = some l)
include hp hw ht hk
theorem bends_N (hl : l = Str.ofString "N" ∨ l = Str.ofString "P" ∨ l = Str.ofString "M") {xs : List Int} (hxs : ps[k]? = some (rowD xs)) (hz : xs.length ≤ 3) (hX : l ≠ Str.ofString "M" → xs.length = wide) : ∀ w ∈ bN l (xs.map .int), Bad many (.tup (.str p.1 :: ps.set k w)) := by
  intro w h
  have pos := pos_of hp hk
  have ns : l = Str.ofString "t" → strHead w = true := fun e => by subst e; rcases hl with e | e | e <;> exact absurd e (by decide)
  have fit : ∀ {w}, isRow w = false → fitsS okL (kindOf l) w many = false := fun {w} e => by rcases hl with rfl | rfl | rfl <;> exact e
  have hz' : (xs.map D.int).length ≤ 900 := by rw [List.length_map]; omega
  simp only [bN, List.mem_append, List.mem_cons, List.not_mem_nil, or_false] at h
  rcases h with ((rfl | rfl | rfl | rfl | rfl | rfl) | h) | h
  · exact bad_fit hp hw ht hk (fine_lst (by omega) fine_ints) ns (fit rfl)
  · exact bad_fit hp hw ht hk (fine_snoc hz' fine_ints (fine_bool _ _)) ns (fit (isRow_snoc rfl))
  · exact bad_fit hp hw ht hk (fine_snoc hz' fine_ints (fine_str _ _)) ns (fit (isRow_snoc rfl))
  · exact bad_fit hp hw ht hk (fine_snoc hz' fine_ints (fine_one (fine_int _ _))) ns (fit (isRow_snoc rfl))
  · exact bad_fit hp hw ht hk (fine_int _ _) ns (fit rfl)
  · exact bad_fit hp hw ht hk (fine_none _) ns (fit rfl)
  · have hM : l ≠ Str.ofString "M" := fun e => by rw [e, if_neg (by decide)] at h; cases h
    have hq : wp p k = true := by
      rcases hl with rfl | rfl | rfl
      · exact pos
      · have hq : ((((p.1 == Str.ofString "cumulative" && (k == 1 || k == 2)) || (p.1 == Str.ofString "disjunctive" && k == 1))) && wp p k) = true := pos
        exact (Bool.and_eq_true_iff.mp hq).2
      · exact absurd rfl hM
    rw [if_pos (by rcases hl with rfl | rfl | rfl <;> first | exact absurd rfl hM | decide), List.mem_singleton] at h
    subst h
    refine bad_pair hp hw ht hk (fine_snoc hz' fine_ints (fine_int _ _)) ns hq ?_
    show ((((xs.map D.int) ++ [D.int 1]).length : Nat) : Int) ≠ _
    rw [List.length_append, List.length_map, hX hM, List.length_singleton]; omega
  · rcases hl with rfl | rfl | rfl
    · rw [if_neg (by rw [show (Str.ofString "N" == Str.ofString "P") = false from by decide]; simp)] at h; cases h
    · have hq : ((((p.1 == Str.ofString "cumulative" && (k == 1 || k == 2)) || (p.1 == Str.ofString "disjunctive" && k == 1))) && wp p k) = true := pos
      simp only [Bool.and_eq_true, Bool.or_eq_true, beq_iff_eq] at hq
      split at h
      · rw [List.mem_singleton] at h
        subst h
        have g := set_get (w := .tup ([D.int (-1)] ++ (xs.map D.int).drop 1)) hp hw ht hk
        refine bad_of hp hw ht hk (fine_cut hz' (fine_int _ _) fine_ints) ns fun _ _ hc hd _ _ _ => ?_
        rcases hq with ⟨⟨e, rfl | rfl⟩ | ⟨e, rfl⟩, _⟩
        · unfold cumOk at hc
          rw [g, nn_neg, e] at hc; cases hc
        · unfold cumOk at hc
          rw [g, nn_neg, e, Bool.false_and, Bool.and_false] at hc; cases hc
        · unfold disOk at hd
          rw [g, nn_neg, e] at hd; cases hd
      · cases h
    · rw [if_neg (by rw [show (Str.ofString "M" == Str.ofString "P") = false from by decide]; simp)] at h; cases h
theorem bends_s (hl : l = Str.ofString "s") : ∀ w ∈ bS, Bad many (.tup (.str p.1 :: ps.set k w)) := by
  intro w h
  have ns : l = Str.ofString "t" → strHead w = true := fun e => by rw [hl] at e; exact absurd e (by decide)
  subst hl
  simp only [bS, List.mem_cons, List.not_mem_nil, or_false] at h
  rcases h with rfl | rfl | rfl | rfl | rfl | rfl
  · exact bad_fit hp hw ht hk (fine_str _ _) ns (by show inStrengths (.str (Str.ofString "strong")) = false; decide)
  · exact bad_fit hp hw ht hk (fine_str _ _) ns (by show inStrengths (.str (Str.ofString "")) = false; decide)
  · exact bad_fit hp hw ht hk (fine_int _ _) ns rfl
  · exact bad_fit hp hw ht hk (fine_none _) ns rfl
  · exact bad_fit hp hw ht hk (fine_bool _ _) ns rfl
  · exact bad_fit hp hw ht hk (fine_one (fine_str _ _)) ns rfl
theorem bends_R (hl : l = Str.ofString "R") {rs : List (List Int)} {ys : List Int} (hrs : rs.length ≤ 3) (hy : ys.length ≤ 3) (h0 : ps[0]? = some (rowD ys)) (hr : ∀ r ∈ rs, r.length = ys.length) : ∀ w ∈ bR (rs.map rowD) ys.length, Bad many (.tup (.str p.1 :: ps.set k w)) := by
  intro w h
  have pos := pos_of hp hk
  have ns : l = Str.ofString "t" → strHead w = true := fun e => by rw [hl] at e; exact absurd e (by decide)
  subst hl
  have hq : ((p.1 == Str.ofString "table" && k == 1) && true) = true := pos
  simp only [Bool.and_true, Bool.and_eq_true, beq_iff_eq] at hq
  have hz' : (rs.map rowD).length ≤ 900 := by rw [List.length_map]; omega
  have hf : ∀ y ∈ rs.map rowD, Fine 3 y := fine_rowsE fun r h => by rw [hr r h]; omega
  simp only [bR, List.mem_cons, List.not_mem_nil, or_false] at h
  rcases h with rfl | rfl | rfl | rfl | rfl | rfl
  · exact bad_fit hp hw ht hk (fine_lst (by omega) hf) ns rfl
  · exact bad_fit hp hw ht hk (fine_snoc hz' hf (fine_repL (by omega))) ns (allT_snoc (f := isRow) rfl)
  · refine bad_of hp hw ht hk (fine_snoc hz' hf (fine_rep (by omega))) ns fun _ _ _ _ _ h _ => ?_
    obtain ⟨e, rfl⟩ := hq
    unfold tabOk at h
    rw [set_get hp hw ht hk, set_ne (k := 1) (j := 0) hp hw ht hk (by omega), e, at_succ, at_of h0, row_len] at h
    have h : ((rs.map rowD) ++ [D.tup (List.replicate (ys.length + 1) (D.int 0))]).all (fun r => lenD r == (ys.length : Int)) = true := h
    have := List.all_eq_true.mp h (.tup (List.replicate (ys.length + 1) (D.int 0))) (by simp)
    rw [beq_iff_eq] at this
    simp only [lenD, List.length_replicate] at this
    omega
  · exact bad_fit hp hw ht hk (fine_snoc hz' hf (fine_snoc (by rw [List.length_replicate]; omega) (fun y hy => by rw [List.eq_of_mem_replicate hy]; exact fine_int _ _) (fine_bool _ _))) ns (allT_snoc (f := isRow) (isRow_snoc rfl))
  · exact bad_fit hp hw ht hk (fine_snoc hz' hf (fine_int _ _)) ns (allT_snoc (f := isRow) rfl)
  · exact bad_fit hp hw ht hk (fine_int _ _) ns rfl
theorem bends_t (hl : l = Str.ofString "t") {x : Str} {ns xs : List Int} {n : Int} (hx : linears.any (· == x) = true) (hn : ns.length = wide) (hxs : xs.length = wide) : ∀ w ∈ bT (.str x) (rowD xs) (.int n) (ns.map .int) many, Bad many (.tup (.str p.1 :: ps.set k w)) := by
  intro w h
  subst hl
  obtain ⟨hf, hpr⟩ := lin_form hx
  have hz' : (ns.map D.int).length ≤ 900 := by rw [List.length_map]; omega
  have f4 : ∀ {y}, Fine 3 y → ∀ z ∈ [D.str x, rowD ns, rowD xs, .int n], Fine 3 z := fun _ z hz => by
    simp only [List.mem_cons, List.not_mem_nil, or_false] at hz
    rcases hz with rfl | rfl | rfl | rfl
    · exact fine_str _ _
    · exact fine_row (by omega)
    · exact fine_row (by omega)
    · exact fine_int _ _
  have no : ∀ {w}, (linHead w = true → okL w many = true → False) → fitsS okL (kindOf (Str.ofString "t")) w many = false := fun {w} h => by
    show (linHead w && okL w many) = false
    cases e1 : linHead w with
    | false => rfl
    | true => cases e2 : okL w many with
      | false => rfl
      | true => exact (h e1 e2).elim
  simp only [bT, List.mem_cons, List.not_mem_nil, or_false] at h
  rcases h with rfl | rfl | rfl | rfl | rfl | rfl | rfl | rfl | rfl
  · refine bad_fit hp hw ht hk (fine_tup (by simp) fun z hz => ?_) (fun _ => rfl) (no fun h _ => by exact absurd h (by decide))
    simp only [List.mem_cons, List.not_mem_nil, or_false] at hz
    rcases hz with rfl | rfl | rfl
    · exact fine_str _ _
    · exact fine_one (fine_int _ _)
    · exact fine_int _ _
  · exact bad_fit hp hw ht hk (fine_nil _) (fun _ => rfl) rfl
  · exact bad_fit hp hw ht hk (fine_int _ _) (fun _ => rfl) rfl
  · refine bad_fit hp hw ht hk (fine_tup (by simp) fun z hz => f4 (fine_int 3 0) z ?_) (fun _ => rfl) (no fun _ h => ?_)
    · simp only [List.mem_cons, List.not_mem_nil, or_false] at hz ⊢
      rcases hz with h | h | h
      · exact .inl h
      · exact .inr (.inl h)
      · exact .inr (.inr (.inl h))
    · have : 2 = 3 := okS_len hf h
      omega
  · refine bad_fit hp hw ht hk (fine_snoc (ds := [D.str x, rowD ns, rowD xs, .int n]) (by simp) (f4 (fine_int 3 0)) (fine_int _ _)) (fun _ => rfl) (no fun _ h => ?_)
    have : 4 = 3 := okS_len hf h
    omega
  · exact bad_fit hp hw ht hk (fine_lst (by simp) (f4 (fine_int 3 0))) (fun _ => rfl) rfl
  · refine bad_fit hp hw ht hk (fine_tup (by simp) fun z hz => ?_) (fun _ => rfl) (no fun _ h => ?_)
    · simp only [List.mem_cons, List.not_mem_nil, or_false] at hz
      rcases hz with rfl | rfl | rfl | rfl
      · exact fine_str _ _
      · exact fine_one (fine_int _ _)
      · exact fine_one (fine_int _ _)
      · exact fine_int _ _
    · have := (lin_iff (x := Str.ofString "linear_eq") (ns := [1]) (xs := [many]) (n := 0) (by decide) rfl).mp h
      simp [allT, rowD, isVar] at this
  · refine bad_fit hp hw ht hk (fine_tup (by simp) fun z hz => ?_) (fun _ => rfl) (no fun _ h => ?_)
    · simp only [List.mem_cons, List.not_mem_nil, or_false] at hz
      rcases hz with rfl | rfl | rfl | rfl
      · exact fine_str _ _
      · exact fine_snoc hz' fine_ints (fine_int _ _)
      · exact fine_row (by omega)
      · exact fine_int _ _
    · obtain ⟨_, h1, _⟩ := (okS_iff hf rfl).mp h
      unfold pairsOk at h1
      rw [hpr] at h1
      have := List.all_eq_true.mp h1 (1, 2) (by simp)
      rw [beq_iff_eq] at this
      have e1 : lenD (at' [D.str x, .tup (ns.map D.int ++ [D.int 1]), rowD xs, .int n] 1) = wide + 1 := by
        show (((ns.map D.int ++ [D.int 1]).length : Nat) : Int) = _
        rw [List.length_append, List.length_map, hn]; rfl
      have e2 : lenD (at' [D.str x, .tup (ns.map D.int ++ [D.int 1]), rowD xs, .int n] 2) = wide := by
        show lenD (rowD xs) = _
        rw [row_len, hxs]
      rw [e1, e2] at this
      omega
  · exact bad_fit hp hw ht hk (fine_none _) (fun _ => rfl) rfl
end
end Mine
end
section
open PySem PySem.W PyProof.Rows PySem.Calls
set_option maxRecDepth 100000
namespace Mine
theorem mach_iff {s k : Int} {rs : List (List Int)} {c : Int} {fs : List Int} : machOk s k rs c fs = true ↔ (rs.length : Int) = s ∧ (∀ r ∈ rs, (r.length : Int) = k) ∧ (∀ r ∈ rs, ∀ e ∈ r, 0 ≤ e ∧ e ≤ s) ∧ (1 ≤ c ∧ c ≤ s) ∧ ∀ f ∈ fs, 1 ≤ f ∧ f ≤ s := by
  simp only [machOk, within, Bool.and_eq_true, List.all_eq_true, decide_eq_true_iff, beq_iff_eq, List.mem_cons, forall_eq_or_imp]
section
variable {p : Str × Str} (hp : p ∈ lawTab) {many : Int} {wide : Nat} {ps : List D} {m : Int} (hw : wide ≤ 3) (ht : ToldR many wide [.str p.1] (-1) (lets p.2) ps m) {k : Nat} {l : Str} (hk : (lets p.2)[k]? = some l)
include hp hw ht hk
theorem bends_n {n : Int} (hl : [Str.ofString "a", Str.ofString "b", Str.ofString "n", Str.ofString "p"].any (· == l) = true) (hd : ps[k]? = some (.int n)) : ∀ w ∈ bn l n, Bad many (.tup (.str p.1 :: ps.set k w)) := by
  intro w h
  have pos := pos_of hp hk
  have hl' : l = Str.ofString "a" ∨ l = Str.ofString "b" ∨ l = Str.ofString "n" ∨ l = Str.ofString "p" := by
    obtain ⟨y, hy, e⟩ := List.any_eq_true.mp hl
    rw [beq_iff_eq] at e; subst e
    simpa only [List.mem_cons, List.not_mem_nil, or_false] using hy
  have ns : l = Str.ofString "t" → strHead w = true := fun e => by rcases hl' with h | h | h | h <;> (rw [h] at e; exact absurd e (by decide))
  have fit : ∀ {w}, isNum w = false → fitsS okL (kindOf l) w many = false := fun {w} e => by rcases hl' with rfl | rfl | rfl | rfl <;> exact e
  simp only [bn, List.mem_append, List.mem_cons, List.not_mem_nil, or_false] at h
  rcases h with ((rfl | rfl | rfl | rfl) | h) | h
  · exact bad_fit hp hw ht hk (fine_bool _ _) ns (fit rfl)
  · exact bad_fit hp hw ht hk (fine_none _) ns (fit rfl)
  · exact bad_fit hp hw ht hk (fine_str _ _) ns (fit rfl)
  · exact bad_fit hp hw ht hk (fine_one (fine_int _ _)) ns (fit rfl)
  · rcases hl' with rfl | rfl | rfl | rfl
    · have hq : ((p.1 == Str.ofString "regular" && k == 1) && true) = true := pos
      simp only [Bool.and_true, Bool.and_eq_true, beq_iff_eq] at hq
      obtain ⟨e, rfl⟩ := hq
      obtain ⟨xs, s, k', rs, c, fs, rfl, s1, s2, k1, k2, h1, h2, h3, h4, h5, h6, _⟩ := reg_shape ((name_lets p hp).2.2.2.2 e) ht
      cases hd
      rw [if_pos (by decide)] at h
      have key : ∀ y : Int, y ≠ n → Bad many (.tup (.str p.1 :: [rowD xs, .int n, .int k', .tup (rs.map rowD), .int c, rowD fs].set 1 (.int y))) := fun y hy => by
        refine bad_of hp hw ht hk (fine_int _ _) (fun e => absurd e (by decide)) fun _ _ _ _ _ _ h => ?_
        rw [e] at h
        have h : machOk y k' rs c fs = true := (reg_ok (nm := .str (Str.ofString "regular"))).symm.trans h
        rw [mach_iff] at h
        exact hy (by omega)
      simp only [List.mem_cons, List.not_mem_nil, or_false] at h
      rcases h with rfl | rfl
      · exact key _ (by omega)
      · exact key _ (by omega)
    · have hq : ((p.1 == Str.ofString "regular" && k == 2) && true) = true := pos
      simp only [Bool.and_true, Bool.and_eq_true, beq_iff_eq] at hq
      obtain ⟨e, rfl⟩ := hq
      obtain ⟨xs, s, k', rs, c, fs, rfl, s1, s2, k1, k2, h1, h2, h3, h4, h5, h6, _⟩ := reg_shape ((name_lets p hp).2.2.2.2 e) ht
      cases hd
      rw [if_pos (by decide)] at h
      have key : ∀ y : Int, y ≠ n → Bad many (.tup (.str p.1 :: [rowD xs, .int s, .int n, .tup (rs.map rowD), .int c, rowD fs].set 2 (.int y))) := fun y hy => by
        refine bad_of hp hw ht hk (fine_int _ _) (fun e => absurd e (by decide)) fun _ _ _ _ _ _ h => ?_
        rw [e] at h
        have h : machOk s y rs c fs = true := (reg_ok (nm := .str (Str.ofString "regular"))).symm.trans h
        rw [mach_iff] at h
        match rs, h1, h2, h with
        | [], h1, _, _ => simp at h1; omega
        | r :: _, _, h2, h =>
          have a := (h2 r (by simp)).1
          have b := h.2.1 r (by simp)
          exact hy (by omega)
      simp only [List.mem_cons, List.not_mem_nil, or_false] at h
      rcases h with rfl | rfl
      · exact key _ (by omega)
      · exact key _ (by omega)
    · rw [if_neg (by decide)] at h; cases h
    · rw [if_neg (by decide)] at h; cases h
  · rcases hl' with rfl | rfl | rfl | rfl
    · rw [if_neg (by decide)] at h; cases h
    · rw [if_neg (by decide)] at h; cases h
    · rw [if_neg (by decide)] at h; cases h
    · rw [if_pos (by decide), List.mem_singleton] at h
      subst h
      have hq : ((p.1 == Str.ofString "cumulative" && k == 3) && true) = true := pos
      simp only [Bool.and_true, Bool.and_eq_true, beq_iff_eq] at hq
      obtain ⟨e, rfl⟩ := hq
      refine bad_of hp hw ht hk (fine_int _ _) ns fun _ _ h _ _ _ _ => ?_
      unfold cumOk at h
      rw [set_get hp hw ht hk, e, show nn1 (.int (-1)) = false from rfl, Bool.and_false, Bool.and_false] at h
      cases h
theorem bends_c {s : Int} (hl : l = Str.ofString "c") (hs : (D.str p.1 :: ps)[2]? = some (.int s)) : ∀ w ∈ bc s, Bad many (.tup (.str p.1 :: ps.set k w)) := by
  intro w h
  have pos := pos_of hp hk
  have ns : l = Str.ofString "t" → strHead w = true := fun e => by rw [hl] at e; exact absurd e (by decide)
  subst hl
  have hq : ((p.1 == Str.ofString "regular" && k == 4) && true) = true := pos
  simp only [Bool.and_true, Bool.and_eq_true, beq_iff_eq] at hq
  obtain ⟨e, rfl⟩ := hq
  obtain ⟨xs, s', k', rs, c, fs, rfl, s1, s2, k1, k2, h1, h2, h3, h4, h5, h6, _⟩ := reg_shape ((name_lets p hp).2.2.2.2 e) ht
  cases hs
  have key : ∀ y : Int, ¬ (1 ≤ y ∧ y ≤ s) → Bad many (.tup (.str p.1 :: [rowD xs, .int s, .int k', .tup (rs.map rowD), .int c, rowD fs].set 4 (.int y))) := fun y hy => by
    refine bad_of hp hw ht hk (fine_int _ _) (fun e => absurd e (by decide)) fun _ _ _ _ _ _ h => ?_
    rw [e] at h
    have h : machOk s k' rs y fs = true := (reg_ok (nm := .str (Str.ofString "regular"))).symm.trans h
    rw [mach_iff] at h
    exact hy h.2.2.2.1
  simp only [bc, List.mem_cons, List.not_mem_nil, or_false] at h
  rcases h with rfl | rfl | rfl | rfl | rfl | rfl
  · exact key _ (by omega)
  · exact key _ (by omega)
  · exact key _ (by omega)
  · exact bad_fit hp hw ht hk (fine_bool _ _) ns rfl
  · exact bad_fit hp hw ht hk (fine_none _) ns rfl
  · exact bad_fit hp hw ht hk (fine_one (fine_int _ _)) ns rfl
theorem bends_f {s : Int} {gs : List Int} (hl : l = Str.ofString "f") (hd : ps[k]? = some (rowD gs)) (hs : (D.str p.1 :: ps)[2]? = some (.int s)) : ∀ w ∈ bf (gs.map .int) s, Bad many (.tup (.str p.1 :: ps.set k w)) := by
  intro w h
  have pos := pos_of hp hk
  have ns : l = Str.ofString "t" → strHead w = true := fun e => by rw [hl] at e; exact absurd e (by decide)
  subst hl
  have hq : ((p.1 == Str.ofString "regular" && k == 5) && true) = true := pos
  simp only [Bool.and_true, Bool.and_eq_true, beq_iff_eq] at hq
  obtain ⟨e, rfl⟩ := hq
  obtain ⟨xs, s', k', rs, c, fs, rfl, s1, s2, k1, k2, h1, h2, h3, h4, h5, h6, _⟩ := reg_shape ((name_lets p hp).2.2.2.2 e) ht
  cases hs
  have hgs : fs.map D.int = gs.map D.int := by
    have := Option.some.inj hd
    exact D.tup.inj this
  rw [← hgs] at h
  have hz : (fs.map D.int).length ≤ 900 := by rw [List.length_map]; omega
  have key : ∀ y : Int, ¬ (1 ≤ y ∧ y ≤ s) → Bad many (.tup (.str p.1 :: [rowD xs, .int s, .int k', .tup (rs.map rowD), .int c, rowD fs].set 5 (.tup (fs.map D.int ++ [D.int y])))) := fun y hy => by
    refine bad_of hp hw ht hk (fine_snoc hz fine_ints (fine_int _ _)) (fun e => absurd e (by decide)) fun _ _ _ _ _ _ h => ?_
    rw [e] at h
    have e2 : D.tup (fs.map D.int ++ [D.int y]) = rowD (fs ++ [y]) := by simp [rowD]
    rw [e2] at h
    have h : machOk s k' rs c (fs ++ [y]) = true := (reg_ok (nm := .str (Str.ofString "regular"))).symm.trans h
    rw [mach_iff] at h
    exact hy (h.2.2.2.2 y (by simp))
  simp only [bf, List.mem_cons, List.not_mem_nil, or_false] at h
  rcases h with rfl | rfl | rfl | rfl | rfl | rfl
  · exact key _ (by omega)
  · exact key _ (by omega)
  · exact bad_fit hp hw ht hk (fine_snoc hz fine_ints (fine_bool _ _)) ns (isRow_snoc rfl)
  · exact bad_fit hp hw ht hk (fine_lst (by omega) fine_ints) ns rfl
  · exact bad_fit hp hw ht hk (fine_int _ _) ns rfl
  · exact bad_fit hp hw ht hk (fine_none _) ns rfl
theorem bends_r {s : Int} {r0 : List Int} {rest : List (List Int)} (hl : l = Str.ofString "r") (hd : ps[k]? = some (.tup ((r0 :: rest).map rowD))) (hs : (D.str p.1 :: ps)[2]? = some (.int s)) : ∀ w ∈ br (r0.map .int) (rest.map rowD) s, Bad many (.tup (.str p.1 :: ps.set k w)) := by
  intro w h
  have pos := pos_of hp hk
  have ns : l = Str.ofString "t" → strHead w = true := fun e => by rw [hl] at e; exact absurd e (by decide)
  subst hl
  have hq : ((p.1 == Str.ofString "regular" && k == 3) && true) = true := pos
  simp only [Bool.and_true, Bool.and_eq_true, beq_iff_eq] at hq
  obtain ⟨e, rfl⟩ := hq
  obtain ⟨xs, s', k', rs, c, fs, rfl, s1, s2, k1, k2, h1, h2, h3, h4, h5, h6, _⟩ := reg_shape ((name_lets p hp).2.2.2.2 e) ht
  cases hs
  have hrs : rs = r0 :: rest := by
    have : rs.map rowD = (r0 :: rest).map rowD := D.tup.inj (Option.some.inj hd)
    rw [← intsD_rows rs, ← intsD_rows (r0 :: rest), this]
  subst hrs
  have hr0 := (h2 r0 (by simp)).1
  have hrz : ∀ r ∈ r0 :: rest, r.length ≤ 2 := fun r hr => by have := (h2 r hr).1; omega
  have hlen : rest.length ≤ 1 := by rw [List.length_cons] at h1; omega
  have fr0 : ∀ {n}, Fine (n + 1) (rowD r0) := fun {n} => fine_row (by have := hrz r0 (by simp); omega)
  have frest : ∀ {n}, ∀ y ∈ rest.map rowD, Fine (n + 1) y := fun {n} => fine_rowsE fun r hr => by have := hrz r (by simp [hr]); omega
  have key : ∀ (rs' : List (List Int)), (∀ r ∈ rs', r.length ≤ 100) → rs'.length ≤ 100 → (machOk s k' rs' c fs = true → False) → ∀ w, w = D.tup (rs'.map rowD) → Bad many (.tup (.str p.1 :: [rowD xs, .int s, .int k', .tup ((r0 :: rest).map rowD), .int c, rowD fs].set 3 w)) := fun rs' hr' hl' no w hw' => by
    subst hw'
    refine bad_of hp hw ht hk (fine_rows (by omega) fun r hr => by have := hr' r hr; omega) (fun e => absurd e (by decide)) fun _ _ _ _ _ _ h => ?_
    rw [e] at h
    exact no ((reg_ok (nm := .str (Str.ofString "regular"))).symm.trans h)
  have lr0 : (r0.map D.int).length ≤ 900 := by rw [List.length_map]; have := hrz r0 (by simp); omega
  have bad2 : ∀ x : D, Fine 3 x → isRow x = false → Bad many (.tup (.str p.1 :: [rowD xs, .int s, .int k', .tup ((r0 :: rest).map rowD), .int c, rowD fs].set 3 (.tup ([x] ++ rest.map rowD)))) := fun x fx hx => by
    refine bad_fit hp hw ht hk (fine_tup (by rw [List.length_append, List.length_map, List.length_singleton]; omega) fun y hy => ?_) (fun e => absurd e (by decide)) (allT_head (f := isRow) hx)
    rcases List.mem_append.mp hy with hy | hy
    · rw [List.mem_singleton] at hy; subst hy; exact fx
    · exact frest y hy
  simp only [br, List.mem_append, List.mem_map, List.mem_cons, List.not_mem_nil, or_false] at h
  rcases h with (rfl | rfl | rfl | rfl | rfl | rfl) | ⟨w', hw', rfl⟩
  · refine key (r0 :: rest).dropLast (fun r hr => by have := hrz r (List.dropLast_subset _ hr); omega) (by rw [List.length_dropLast, List.length_cons]; omega) (fun h => ?_) _ ?_
    · rw [mach_iff, List.length_dropLast] at h
      rw [List.length_cons] at h1 h
      have := h.1
      omega
    · rw [List.map_dropLast]; rfl
  · refine key ((r0 :: rest) ++ [r0]) (fun r hr => ?_) (by rw [List.length_append, List.length_cons, List.length_singleton]; omega) (fun h => ?_) _ ?_
    · rcases List.mem_append.mp hr with hr | hr
      · have := hrz r hr; omega
      · rw [List.mem_singleton] at hr; subst hr; have := hrz r (by simp); omega
    · rw [mach_iff, List.length_append, List.length_singleton] at h
      have := h.1
      omega
    · rw [List.map_append]; rfl
  · refine bad_fit hp hw ht hk (fine_lst (by rw [List.length_cons, List.length_map]; omega) fun y hy => ?_) ns rfl
    rcases List.mem_cons.mp hy with rfl | hy
    · exact fr0
    · exact frest y hy
  · refine key ((r0 ++ [0]) :: rest) (fun r hr => ?_) (by rw [List.length_cons]; omega) (fun h => ?_) _ ?_
    · rcases List.mem_cons.mp hr with rfl | hr
      · rw [List.length_append, List.length_singleton]; have := hrz r0 (by simp); omega
      · have := hrz r (by simp [hr]); omega
    · rw [mach_iff] at h
      have := h.2.1 (r0 ++ [0]) (by simp)
      rw [List.length_append, List.length_singleton] at this
      omega
    · simp [rowD]
  · refine key (r0.dropLast :: rest) (fun r hr => ?_) (by rw [List.length_cons]; omega) (fun h => ?_) _ ?_
    · rcases List.mem_cons.mp hr with rfl | hr
      · rw [List.length_dropLast]; have := hrz r0 (by simp); omega
      · have := hrz r (by simp [hr]); omega
    · rw [mach_iff] at h
      have := h.2.1 r0.dropLast (by simp)
      rw [List.length_dropLast] at this
      omega
    · simp [rowD, List.map_dropLast]
  · exact bad2 _ (fine_lst (by omega) fine_ints) rfl
  · have key2 : ∀ y : Int, ¬ (0 ≤ y ∧ y ≤ s) → Bad many (.tup (.str p.1 :: [rowD xs, .int s, .int k', .tup ((r0 :: rest).map rowD), .int c, rowD fs].set 3 (.tup ([.tup ([.int y] ++ (r0.map D.int).drop 1)] ++ rest.map rowD)))) := fun y hy => by
      refine key ((y :: r0.drop 1) :: rest) (fun r hr => ?_) (by rw [List.length_cons]; omega) (fun h => ?_) _ ?_
      · rcases List.mem_cons.mp hr with rfl | hr
        · rw [List.length_cons, List.length_drop]; have := hrz r0 (by simp); omega
        · have := hrz r (by simp [hr]); omega
      · rw [mach_iff] at h
        exact hy (h.2.2.1 (y :: r0.drop 1) (by simp) y (by simp))
      · simp [rowD]
    rcases hw' with rfl | rfl | rfl
    · exact key2 _ (by omega)
    · exact key2 _ (by omega)
    · exact bad2 _ (fine_cut lr0 (fine_bool _ _) fine_ints) rfl
end
end Mine
end
section
open PySem PySem.W PyProof.Rows PySem.Calls
set_option maxRecDepth 100000
namespace Mine
def wholes (p : Str × Str) (ps : List D) : List D := [.lst (.str p.1 :: ps), .tup (.str p.1 :: ps).dropLast, .tup ((.str p.1 :: ps) ++ [.int 0]), .tup ([.str (Str.ofString "linear")] ++ ps), .tup ([.int 7] ++ ps), .tup [], .str p.1, .none]
theorem bend_sizes {t : List D} {many : Int} {l : Str} {d : D} {out : List D} (h : Bend t many l d out) : out.length ≤ 20 := by
  cases h <;> simp [bx, bX, bN, bR, bS, bT, br, bc, bf, bn] <;> (repeat' split) <;> simp
section
variable {p : Str × Str} (hp : p ∈ lawTab) {many : Int} {wide : Nat} {ps : List D} {m : Int} (hw : wide ≤ 3) (ht : ToldR many wide [.str p.1] (-1) (lets p.2) ps m)
include hp hw ht
theorem whole_bad : ∀ w ∈ wholes p ps, Bad many w := by
  intro w h
  obtain ⟨form, hf, hfl⟩ := law_form hp
  have hlen : ps.length = form.cps.size := by rw [ht.length, ← lets_len form, hfl, List.length_map]
  obtain ⟨f5, hz⟩ := told_fine hp hw ht
  have fe : ∀ y ∈ D.str p.1 :: ps, Fine 4 y := f5.tup.2
  have fp : ∀ y ∈ ps, Fine 4 y := fun y hy => fe y (List.mem_cons_of_mem _ hy)
  have hpos : 0 < ps.length := by
    rw [ht.length, lets_len]
    exact (show ∀ p ∈ lawTab, 0 < p.2.cps.size from by decide) p hp
  have nhs : ∀ {d : D}, (∀ name rest, d ≠ .tup (.str name :: rest)) → HS d := fun h name _ rest e => absurd e (h name rest)
  simp only [wholes, List.mem_cons, List.not_mem_nil, or_false] at h
  rcases h with rfl | rfl | rfl | rfl | rfl | rfl | rfl | rfl
  · exact ⟨rfl, fine_lst (by rw [List.length_cons]; omega) fe, nhs fun _ _ e => by cases e⟩
  · have e : (D.str p.1 :: ps).dropLast = D.str p.1 :: ps.dropLast := by
      cases ps with
      | nil => simp at hpos
      | cons a r => rfl
    rw [e]
    have ne : ps.dropLast.length ≠ form.cps.size := by rw [List.length_dropLast]; omega
    refine ⟨okS_short hf ne, fine_tup (by rw [List.length_cons, List.length_dropLast]; omega) fun y hy => ?_, HS_short hf ne⟩
    rcases List.mem_cons.mp hy with rfl | hy
    · exact fine_str _ _
    · exact fp y (List.dropLast_subset _ hy)
  · have ne : (ps ++ [D.int 0]).length ≠ form.cps.size := by rw [List.length_append, List.length_singleton]; omega
    refine ⟨okS_short hf ne, fine_snoc (by rw [List.length_cons]; omega) fe (fine_int _ _), HS_short hf ne⟩
  · have hn : formTab.lookup (Str.ofString "linear") = none := by decide
    refine ⟨okS_none hn, fine_tup (by rw [List.length_append, List.length_singleton]; omega) fun y hy => ?_, HS_none hn⟩
    rcases List.mem_append.mp hy with hy | hy
    · rw [List.mem_singleton] at hy; subst hy; exact fine_str _ _
    · exact fp y hy
  · refine ⟨rfl, fine_tup (by rw [List.length_append, List.length_singleton]; omega) fun y hy => ?_, nhs fun _ _ e => by cases e⟩
    rcases List.mem_append.mp hy with hy | hy
    · rw [List.mem_singleton] at hy; subst hy; exact fine_int _ _
    · exact fp y hy
  · exact ⟨rfl, fine_nil _, nhs fun _ _ e => by cases e⟩
  · exact ⟨rfl, fine_str _ _, nhs fun _ _ e => by cases e⟩
  · exact ⟨rfl, fine_none _, nhs fun _ _ e => by cases e⟩
theorem bends_bad {k : Nat} {l : Str} (hk : (lets p.2)[k]? = some l) : ∃ d out, ps[k]? = some d ∧ Bend (.str p.1 :: ps) many l d out ∧ ∀ w ∈ out, Bad many (.tup (.str p.1 :: ps.set k w)) := by
  obtain ⟨d, ma, mb, hd, pre, pt⟩ := told_at hp ht hk
  have pos := pos_of hp hk
  have hkl := (List.getElem?_eq_some_iff.mp hk).1
  have hpl : ps.length = p.2.cps.size := by rw [ht.length, lets_len]
  rw [lets_len] at hkl
  have g2 : ∀ {s : Int}, 2 ≤ k → (D.str p.1 :: ps.take k)[2]? = some (.int s) → (D.str p.1 :: ps)[2]? = some (.int s) := fun {s} h2 e => by
    have e : (ps.take k)[1]? = _ := e
    rw [List.getElem?_take, if_pos (by omega)] at e
    exact e
  have some2 : ∀ {i}, i ≤ ps.length → ∃ d, (D.str p.1 :: ps)[i]? = some d := fun {i} h => ⟨_, List.getElem?_eq_getElem (by rw [List.length_cons]; omega)⟩
  have reg3 : p.1 = Str.ofString "regular" → ∃ s d', (D.str p.1 :: ps)[2]? = some (.int s) ∧ (D.str p.1 :: ps)[3]? = some d' := fun e => by
    obtain ⟨xs, s, k', rs, c, fs, rfl, _⟩ := reg_shape ((name_lets p hp).2.2.2.2 e) ht
    exact ⟨s, _, rfl, rfl⟩
  have two : 3 ≤ p.2.cps.size → ∃ d d', (D.str p.1 :: ps)[2]? = some d ∧ (D.str p.1 :: ps)[3]? = some d' := fun h => by
    obtain ⟨d, e⟩ := some2 (i := 2) (by omega)
    obtain ⟨d', e'⟩ := some2 (i := 3) (by omega)
    exact ⟨d, d', e, e'⟩
  have row : ∀ {xs : List Int}, xs.length ≤ 3 → (xs.map D.int).length ≤ 100 := fun h => by rw [List.length_map]; omega
  have hm := pre.mem
  simp only [theLetters, List.mem_cons, List.not_mem_nil, or_false] at hm
  rcases hm with rfl | rfl | rfl | rfl | rfl | rfl | rfl | rfl | rfl | rfl | rfl | rfl | rfl | rfl | rfl | rfl | rfl
  · exact ⟨d, _, hd, .x, bends_x hp hw ht hk rfl⟩
  · obtain ⟨xs, rfl, _, hx, _⟩ := pt
    exact ⟨_, _, hd, .X (by decide) (row (by omega)), bends_X hp hw ht hk (.inl rfl) hd (by omega) fun _ => hx⟩
  · obtain ⟨xs, rfl, _, hx, _⟩ := pt
    exact ⟨_, _, hd, .X (by decide) (row (by omega)), bends_X hp hw ht hk (.inr (.inl rfl)) hd (by omega) fun e => absurd e (by decide)⟩
  · obtain ⟨xs, rfl, _, _, hx, _⟩ := pt
    exact ⟨_, _, hd, .X (by decide) (row (by omega)), bends_X hp hw ht hk (.inr (.inr rfl)) hd (by omega) fun e => absurd e (by decide)⟩
  · obtain ⟨xs, rfl, _, hx⟩ := pt
    exact ⟨_, _, hd, .N (by decide) (row (by omega)), bends_N hp hw ht hk (.inl rfl) hd (by omega) fun _ => hx⟩
  · obtain ⟨xs, rfl, _, hx, _⟩ := pt
    exact ⟨_, _, hd, .N (by decide) (row (by omega)), bends_N hp hw ht hk (.inr (.inl rfl)) hd (by omega) fun _ => hx⟩
  · obtain ⟨xs, rfl, _, hx⟩ := pt
    exact ⟨_, _, hd, .N (by decide) (row (by omega)), bends_N hp hw ht hk (.inr (.inr rfl)) hd (by omega) fun e => absurd rfl e⟩
  · obtain ⟨rs, rfl, _, hx, hr⟩ := pt
    have hq : ((p.1 == Str.ofString "table" && k == 1) && true) = true := pos
    simp only [Bool.and_true, Bool.and_eq_true, beq_iff_eq] at hq
    obtain ⟨e, rfl⟩ := hq
    have el := (name_lets p hp).2.2.2.1 e
    obtain ⟨d0, _, _, h0, _, p0⟩ := told_at (k := 0) hp ht (by rw [el]; rfl)
    obtain ⟨ys, rfl, _, hy, _⟩ := p0
    have e0 : at' (.str p.1 :: ps.take 1) 1 = rowD ys := at_of (by
      show (ps.take 1)[0]? = _
      rw [List.getElem?_take, if_pos (by omega), h0])
    rw [e0, row_len] at hr
    have := bends_R hp hw ht hk rfl (rs := rs) (ys := ys) (by omega) hy h0 fun r h => by have := hr r h; omega
    rw [← List.length_map (f := D.int) (as := ys)] at this
    exact ⟨_, _, hd, .R (ys := ys.map .int) (by rw [List.length_map]; omega) h0 (by rw [List.length_map]; omega), this⟩
  · obtain ⟨x, rfl, _⟩ := pt
    exact ⟨_, _, hd, .s, bends_s hp hw ht hk rfl⟩
  · obtain ⟨x, ns, xs, n, rfl, _, hx, hn, hxs, _⟩ := pt
    exact ⟨_, _, hd, .t (row (by omega)), bends_t hp hw ht hk rfl hx hn hxs⟩
  · obtain ⟨n, rfl, _⟩ := pt
    have hq : ((p.1 == Str.ofString "regular" && k == 1) && true) = true := pos
    simp only [Bool.and_true, Bool.and_eq_true, beq_iff_eq] at hq
    obtain ⟨s, d', h2, h3⟩ := reg3 hq.1
    exact ⟨_, _, hd, .n (by decide) h2 h3, bends_n hp hw ht hk (by decide) hd⟩
  · obtain ⟨n, rfl, _⟩ := pt
    have hq : ((p.1 == Str.ofString "regular" && k == 2) && true) = true := pos
    simp only [Bool.and_true, Bool.and_eq_true, beq_iff_eq] at hq
    obtain ⟨s, d', h2, h3⟩ := reg3 hq.1
    exact ⟨_, _, hd, .n (by decide) h2 h3, bends_n hp hw ht hk (by decide) hd⟩
  · obtain ⟨rs, rfl, _, h1, h2⟩ := pt
    have hq : ((p.1 == Str.ofString "regular" && k == 3) && true) = true := pos
    simp only [Bool.and_true, Bool.and_eq_true, beq_iff_eq] at hq
    obtain ⟨e, rfl⟩ := hq
    obtain ⟨s, d', e2, e3⟩ := reg3 e
    obtain ⟨s', es, s1, s2⟩ := pre.h2 (.inl rfl)
    obtain ⟨k', ek, k1, k2⟩ := pre.h3 rfl
    have := g2 (by omega) es
    rw [e2] at this; cases this
    have i1 : intD (.int s) = s := rfl
    have i2 : intD (.int k') = k' := rfl
    rw [at_of es] at h1 h2
    rw [at_of ek] at h2
    match rs, h1, h2, hd with
    | [], h1, _, _ => simp at h1; omega
    | r0 :: rest, h1, h2, hd =>
      have := (h2 r0 (by simp)).1
      rw [List.length_cons] at h1
      exact ⟨_, _, hd, .r (by rw [List.length_map]; omega) (by rw [List.length_map]; omega) e2 e3, bends_r hp hw ht hk rfl hd e2⟩
  · have hq : ((p.1 == Str.ofString "regular" && k == 4) && true) = true := pos
    simp only [Bool.and_true, Bool.and_eq_true, beq_iff_eq] at hq
    obtain ⟨s, d', h2, h3⟩ := reg3 hq.1
    exact ⟨_, _, hd, .c h2 h3, bends_c hp hw ht hk rfl h2⟩
  · obtain ⟨gs, rfl, _, h1, _⟩ := pt
    have hq : ((p.1 == Str.ofString "regular" && k == 5) && true) = true := pos
    simp only [Bool.and_true, Bool.and_eq_true, beq_iff_eq] at hq
    obtain ⟨s, d', h2, h3⟩ := reg3 hq.1
    exact ⟨_, _, hd, .f (row (by omega)) h2 h3, bends_f hp hw ht hk rfl hd h2⟩
  · obtain ⟨n, rfl, _⟩ := pt
    have hq : (decide (3 ≤ p.2.cps.size) && true) = true := pos
    rw [Bool.and_true, decide_eq_true_iff] at hq
    obtain ⟨s, d', h2, h3⟩ := two hq
    exact ⟨_, _, hd, .n (by decide) h2 h3, bends_n hp hw ht hk (by decide) hd⟩
  · obtain ⟨n, rfl, _, _⟩ := pt
    have hq : ((p.1 == Str.ofString "cumulative" && k == 3) && true) = true := pos
    simp only [Bool.and_true, Bool.and_eq_true, beq_iff_eq] at hq
    obtain ⟨s, d', h2, h3⟩ := two (by omega)
    exact ⟨_, _, hd, .n (by decide) h2 h3, bends_n hp hw ht hk (by decide) hd⟩
theorem told_good {few : Int} (h0 : 0 ≤ few) : okF (.tup (.str p.1 :: ps)) few = decide (m < few) ∧ Fine 5 (.tup (.str p.1 :: ps)) ∧ HS (.tup (.str p.1 :: ps)) := by
  refine ⟨told_okF hp ht h0, (told_fine hp hw ht).1, HS_of hp fun j d hj hd => ?_⟩
  obtain ⟨d', _, _, g, _, pt⟩ := told_at hp ht hj
  rw [g] at hd; cases hd
  obtain ⟨x, ns, xs, n, rfl, _, _⟩ := pt
  rfl
end
end Mine
end
section
open PySem PySem.W PyProof.Rows PySem.Calls
set_option maxRecDepth 100000
namespace Mine
abbrev lawCx (prog : Program) (w : World) (A : Around) (nm : Str) (sc : Scope) (L fa : Addr) (cd : Value) (B : Heap) : Cx := ⟨prog, w, A, envOfC nm sc L fa cd, B, fun _ => False, fun _ => False, Unit, fun _ _ => True⟩
def RT {S : Type} (o : Out S) : Prop := match o with | .ret d _ => d = .bool true | .next _ _ => False
theorem upto_at {n : Int} {k : Nat} {d : D} (h : (upto n)[k]? = some d) : d = .int k ∧ (k : Int) < n := by
  unfold upto at h
  rw [List.getElem?_map] at h
  obtain ⟨y, hy, rfl⟩ := Option.map_eq_some_iff.mp h
  obtain ⟨hl, hy⟩ := List.getElem?_eq_some_iff.mp hy
  rw [List.getElem_range] at hy
  subst hy
  rw [List.length_range] at hl
  exact ⟨rfl, by omega⟩
def fcOf {C : Cx} {F cl : Addr} {vs : List Value} {ns : List Int} (ok : (C.fed F cl vs).Ok) (hn : IntsAre vs ns) (hz : ns.length ≤ 60) (hm : (F == sysModules) = false) (ne : cl ≠ F) : FeedCx (C.fed F cl vs) := fedCx C hn hz hm ne
/-- a lap's own names -/
def lapEnv (F : Addr) (many : Int) (d : D) (p : Str × Str) (ps : List D) : List (Str × D) := [(Str.ofString "letters", D.str p.2), (Str.ofString "told", D.tup (D.str p.1 :: ps)), (Str.ofString "lap", d), (Str.ofString "many", .int many), (Str.ofString "feed", .ref F)]
theorem told_item {t : List D} {j : Nat} {w : D} {x : D} {ps : List D} (ht : t = x :: ps) (h : j < ps.length) : (t.take (j + 1) ++ [w]) ++ t.drop (j + 2) = x :: ps.set j w := by
  subst ht
  rw [List.set_eq_take_append_cons_drop, if_pos h, List.take_succ_cons, List.drop_succ_cons, List.append_assoc]
  rfl
theorem take_z {ps : List D} {x : D} {j : Nat} (h : ps.length ≤ 6) : ((x :: ps).take (j + 1)).length ≤ 7 := by rw [List.length_take, List.length_cons]; omega
theorem drop_z {ps : List D} {x : D} {j : Nat} (h : ps.length ≤ 6) : ((x :: ps).drop (j + 2)).length ≤ 7 := by rw [List.length_drop, List.length_cons]; omega
theorem snoc_z {ps : List D} {x w : D} {j : Nat} (h : ps.length ≤ 6) : ((x :: ps).take (j + 1) ++ [w]).length ≤ 8 := by rw [List.length_append, List.length_singleton]; exact Nat.succ_le_succ (take_z h)
/-- an item at its place: what is asked of it, and what its bends give -/
theorem item_at {p : Str × Str} (hp : p ∈ lawTab) {many : Int} {wide : Nat} {ps : List D} {m : Int} (hw : wide ≤ 3) (ht : ToldR many wide [.str p.1] (-1) (lets p.2) ps m) {j : Nat} (hj : j < p.2.cps.size) : ∃ c part out, p.2.cps[((j : Nat) : Int).toNat]? = some c ∧ (D.str p.1 :: ps)[(((j : Nat) : Int) + 1).toNat]? = some part ∧ Bend (.str p.1 :: ps) many ⟨#[c]⟩ part out ∧
    ∀ w ∈ out, Bad many (.tup (((D.str p.1 :: ps).take (j + 1) ++ [w]) ++ (D.str p.1 :: ps).drop (j + 2))) := by
  obtain ⟨c, hc⟩ : ∃ c, p.2.cps[j]? = some c := ⟨_, Array.getElem?_eq_getElem hj⟩
  have hl3 : (lets p.2)[j]? = some ⟨#[c]⟩ := by unfold lets; rw [List.getElem?_map, Array.getElem?_toList, hc]; rfl
  obtain ⟨part, out, hd1, bend, bad⟩ := bends_bad (many := many) hp hw ht hl3
  refine ⟨c, part, out, hc, hd1, bend, fun w hw' => ?_⟩
  rw [told_item rfl (by rw [ht.length, lets_len]; exact hj)]
  exact bad w hw'
set_option maxHeartbeats 8000000 in
theorem law_ex {prog : Program} {w : World} {A : Around} {nm : Str} {L fa : Addr} {cd : Value} {B : Heap} {o : Obj} {fd : FuncData} {ss : List Stmt} (hfd : (hK w.params).lookup 147 = some o) (hod : o.data = .func fd) (hb : fd.body = .stmts ss) {F cl : Addr} {vs : List Value} {ns : List Int}
    (hn : IntsAre vs ns) (hz : ns.length ≤ 60) (hm : (F == sysModules) = false) (ne : cl ≠ F) (ok : ((lawCx prog w A nm fd.scope L fa cd B).fed F cl vs).Ok) (room : Room ((lawCx prog w A nm fd.scope L fa cd B).fed F cl vs) 20) :
    EX ((lawCx prog w A nm fd.scope L fa cd B).fed F cl vs) [(Str.ofString "feed", .ref F)] (⟨0, 0, -1⟩ : Feed) (ss.drop 1) RT := by
  cases hfd; cases hod; cases hb
  let fc := fcOf ok hn hz hm ne
  refine EX_cons (EX_assign ok (.inl rfl) (EV_BinOp ok (EV_int (EV_callF ok g_dip rfl rfl rfl rfl (EVs_cons ok (EV_int (EVs_nil ((dip_def ok fc (Room.ble room rfl) (by decide) (⟨0, 0, -1⟩ : Feed) (show (0 : Int) ≤ 0 from Int.le_refl _) (show (0 : Int) ≤ 100000 by decide) _ fun y hy0 hy1 => (OP_add ?_))))) (star1 rfl))))))
  generalize hmany : 3 + y = many
  refine EX_cons (EX_for ok (SRCT_name ok (.inl rfl) (SRC_range ok rfl n_range b_range (EV_int ⟨_, rfl, by decide, by decide, ?_⟩))))
  refine ⟨fun k ρ' φ' => Less [(Str.ofString "many", .int many), (Str.ofString "feed", .ref F)] ρ' ∧ 0 ≤ Feed.place φ' ∧ Feed.place φ' ≤ 1 + 3000 * k, ⟨.refl _, by show (0 : Int) ≤ 0 + 1; decide, by show (0 : Int) + 1 ≤ 1 + 3000 * 0; decide⟩, fun k d ρ' φ' hk ⟨hl, h0, h1⟩ ρ'' hρ => ?_, fun ρ' φ' _ => EX_cons (EX_return ok (EV_bool rfl))⟩
  cases hρ
  have hk3 : k < 3 := (List.getElem?_eq_some_iff.mp hk).1
  refine EX_less (ρ := [(Str.ofString "lap", d), (Str.ofString "many", .int many), (Str.ofString "feed", .ref F)]) ?_ (.cons _ _ hl)
  refine EX_cons (EX_feed2 ok fc ((EVP_Tuple ok (EVsP_cons ok rfl (EVP_name ok rfl rfl) (EVsP_cons ok rfl (EVP_neg EVP_int) EVsP_nil)) (by (first | exact len_ok rfl | exact le_ok (by assumption) (by rfl) | exact lt_ok (by assumption) (by rfl) | exact add_ok (by assumption) (by rfl) (by rfl) | exact add_ok' rfl (by assumption) (by rfl) | omega))) _ ⟨_, _, rfl, EVP_name ok rfl rfl _ ⟨rfl, _, rfl, EVP_name ok rfl rfl _ ⟨rfl, _, rfl, ?_⟩⟩⟩))
  show EX ((lawCx prog w A nm _ L fa cd B).fed F cl vs) _ (⟨Feed.place φ', many, -1⟩ : Feed) _ _
  generalize Feed.place φ' = p0 at h0 h1
  have hp5 : p0 ≤ 50000 := by omega
  have g : Good fc (⟨p0, many, -1⟩ : Feed) := ⟨h0, show p0 ≤ 60000 by omega, show 0 < many by omega⟩
  refine EX_cons (EX_unpack ok (xs := [Str.ofString "told", Str.ofString "letters"]) rfl (fun y hy => by simp only [List.mem_cons, List.not_mem_nil, or_false] at hy; rcases hy with rfl | rfl <;> first | exact .inl rfl | exact .inr ⟨rfl, rfl⟩) (EV_callF ok g_told rfl rfl rfl rfl (EVs_nil ((told_law ok fc (Room.ble room rfl) g hp5 _ fun p wide ps m φ1 hp hw ht a1 => ⟨_, rfl, rfl, ?_⟩)))))
  obtain ⟨pl, rfl, hp1, hp2⟩ := a1
  have hp1 : p0 ≤ pl := hp1
  have hp2 : pl ≤ p0 + ((3000 : Nat) : Int) := hp2
  have ht : ToldR many wide [.str p.1] (-1) (lets p.2) ps m := ht
  have hps := (told_fine hp hw ht).2
  have hb2 : 0 ≤ pl ∧ pl ≤ 1 + 3000 * ((k + 1 : Nat) : Int) := by omega
  clear hk hl h0 h1 hp1 hp2 hp5 g hk3
  show EX ((lawCx prog w A nm _ L fa cd B).fed F cl vs) (lapEnv F many d p ps) (⟨pl, many, m⟩ : Feed) _ _
  have hmm : many + 1 < 2 ^ 60 ∧ -(2 ^ 60) < many + 1 := by omega
  refine EX_cons (EX_for ok (SRCT_name ok (.inl rfl) (SRC_range ok rfl n_range b_range ((EVP_add ok (EVP_name ok rfl rfl) EVP_int) _ ⟨_, rfl, hmm.1, hmm.2, ?_⟩))))
  refine ⟨fun k2 ρ' φ' => Less (lapEnv F many d p ps) ρ' ∧ φ' = (⟨pl, many, m⟩ : Feed), ⟨.refl _, rfl⟩, fun k2 d2 ρ' φ' hk2 ⟨hl2, e⟩ ρ'' hρ => ?_, fun ρ' φ' ⟨hl2, e⟩ => ?_⟩
  · cases hρ
    subst e
    obtain ⟨rfl, _⟩ := upto_at hk2
    obtain ⟨o1, o2, o3⟩ := told_good (few := (k2 : Int)) hp hw ht (Int.natCast_nonneg _)
    refine EX_less (ρ := (Str.ofString "few", .int k2) :: lapEnv F many d p ps) ?_ (.cons _ _ hl2)
    refine EX_cons (EX_if ok (TR_compare ok (EV_Compare ok (EV_call_def ok g_told_fault rfl rfl (EVs_cons ok (EVP_name ok rfl rfl _ (EVs_cons ok (EVP_name ok rfl rfl _ (EVs_nil (((told_def ok (Room.ble room rfl) o2 o3) _ _ fun r hr => (EV_str (OP_eqs (EV_Compare ok (EV_feed ok fc (EVP_name ok rfl rfl _ ⟨rfl, _, rfl, (EVP_name ok rfl rfl _ (OP_lti (OP_neb ⟨_, rfl, ?_⟩)))⟩))))))))) (star1 rfl))) (star1 rfl))))))
    have e1 : (r == Str.ofString "") = decide (m < (k2 : Int)) := Eq.trans hr o1
    rw [e1, if_neg (by show ¬ (decide (m < (k2 : Int)) != decide (m < (k2 : Int))) = true; rw [bne_self_eq_false]; exact Bool.false_ne_true)]
    exact EX_nil (EX_nil ⟨.drop _ _ (.refl _) rfl, rfl⟩)
  subst e
  refine EX_less (ρ := lapEnv F many d p ps) ?_ hl2
  have hpl : ps.length = p.2.length := by rw [ht.length, lets_len]; rfl
  have zl : p.2.length ≤ 6 := hpl ▸ hps
  have zt : (D.str p.1 :: ps).length ≤ 7 := Nat.succ_le_succ hps
  have zd : ((D.str p.1 :: ps).drop 1).length ≤ 7 := Nat.le_succ_of_le hps
  refine EX_grow ok (.inl rfl) (.inr ⟨rfl, rfl⟩) (by decide) rfl rfl (.inl rfl) ((EVsP_cons ok rfl (EVP_listT ok rfl rfl (EVP_name ok rfl rfl) (by (first | exact len_ok rfl | exact le_ok (by assumption) (by rfl) | exact lt_ok (by assumption) (by rfl) | exact add_ok (by assumption) (by rfl) (by rfl) | exact add_ok' rfl (by assumption) (by rfl) | omega)) (fun _ => rfl)) (EVsP_cons ok rfl (EVP_last ok (EVP_name ok rfl rfl) (by (first | exact len_ok rfl | exact le_ok (by assumption) (by rfl) | exact lt_ok (by assumption) (by rfl) | exact add_ok (by assumption) (by rfl) (by rfl) | exact add_ok' rfl (by assumption) (by rfl) | omega)) (EVP_neg EVP_int)) (EVsP_cons ok rfl (EVP_addT ok (EVP_name ok rfl rfl) (EVP_Tuple ok (EVsP_cons ok rfl EVP_int EVsP_nil) (by (first | exact len_ok rfl | exact le_ok (by assumption) (by rfl) | exact lt_ok (by assumption) (by rfl) | exact add_ok (by assumption) (by rfl) (by rfl) | exact add_ok' rfl (by assumption) (by rfl) | omega))) (by (first | exact len_ok rfl | exact le_ok (by assumption) (by rfl) | exact lt_ok (by assumption) (by rfl) | exact add_ok (by assumption) (by rfl) (by rfl) | exact add_ok' rfl (by assumption) (by rfl) | omega))) (EVsP_cons ok rfl (EVP_addT ok (EVP_Tuple ok (EVsP_cons ok rfl EVP_str EVsP_nil) (by (first | exact len_ok rfl | exact le_ok (by assumption) (by rfl) | exact lt_ok (by assumption) (by rfl) | exact add_ok (by assumption) (by rfl) (by rfl) | exact add_ok' rfl (by assumption) (by rfl) | omega))) (EVP_from (k := 1) ok (EVP_name ok rfl rfl) (by (first | exact len_ok rfl | exact le_ok (by assumption) (by rfl) | exact lt_ok (by assumption) (by rfl) | exact add_ok (by assumption) (by rfl) (by rfl) | exact add_ok' rfl (by assumption) (by rfl) | omega)) EVP_int) (by (first | exact len_ok rfl | exact le_ok (by assumption) (by rfl) | exact lt_ok (by assumption) (by rfl) | exact add_ok (by assumption) (by rfl) (by rfl) | exact add_ok' rfl (by assumption) (by rfl) | omega))) (EVsP_cons ok rfl (EVP_addT ok (EVP_Tuple ok (EVsP_cons ok rfl EVP_int EVsP_nil) (by (first | exact len_ok rfl | exact le_ok (by assumption) (by rfl) | exact lt_ok (by assumption) (by rfl) | exact add_ok (by assumption) (by rfl) (by rfl) | exact add_ok' rfl (by assumption) (by rfl) | omega))) (EVP_from (k := 1) ok (EVP_name ok rfl rfl) (by (first | exact len_ok rfl | exact le_ok (by assumption) (by rfl) | exact lt_ok (by assumption) (by rfl) | exact add_ok (by assumption) (by rfl) (by rfl) | exact add_ok' rfl (by assumption) (by rfl) | omega)) EVP_int) (by (first | exact len_ok rfl | exact le_ok (by assumption) (by rfl) | exact lt_ok (by assumption) (by rfl) | exact add_ok (by assumption) (by rfl) (by rfl) | exact add_ok' rfl (by assumption) (by rfl) | omega))) (EVsP_cons ok rfl (EVP_Tuple ok EVsP_nil (by (first | exact len_ok rfl | exact le_ok (by assumption) (by rfl) | exact lt_ok (by assumption) (by rfl) | exact add_ok (by assumption) (by rfl) (by rfl) | exact add_ok' rfl (by assumption) (by rfl) | omega))) (EVsP_cons ok rfl (EVP_at (k := 0) ok (EVP_name ok rfl rfl) rfl (by (first | rfl | assumption))) (EVsP_cons ok rfl EVP_none EVsP_nil)))))))) _ ⟨Nat.le_of_ble_eq_true rfl, fun bl ok' => SRC_range ok' rfl n_range b_range (?_)⟩)
  have zi : ((p.2.length : Nat) : Int) < 2 ^ 60 ∧ -(2 ^ 60) < ((p.2.length : Nat) : Int) := by omega
  refine (EVP_lenS ok' rfl rfl (EVP_name ok' rfl rfl) (by (first | exact len_ok rfl | exact le_ok (by assumption) (by rfl) | exact lt_ok (by assumption) (by rfl) | exact add_ok (by assumption) (by rfl) (by rfl) | exact add_ok' rfl (by assumption) (by rfl) | omega)) (fun _ => rfl)) _ ⟨_, rfl, zi.1, zi.2, ?_⟩
  refine ⟨fun j outs φ'' => φ'' = (⟨pl, many, m⟩ : Feed) ∧ outs.length ≤ 10 + 20 * j ∧ ∀ w ∈ outs, Bad many w, ⟨rfl, Nat.le_of_ble_eq_true rfl, whole_bad hp hw ht⟩, fun j kd outs φ'' hkd ⟨e, hz, hb⟩ => ?_, fun outs φ'' ⟨e, hz, hb⟩ => ?_⟩
  · subst e
    obtain ⟨rfl, hj⟩ := upto_at hkd
    have hj' : j < p.2.cps.size := Int.ofNat_lt.mp hj
    obtain ⟨c, part, out, hc', hx, bend, bad⟩ := item_at hp hw ht hj'
    have ez := bend_sizes bend
    have zj : 0 ≤ ((j : Nat) : Int) + 1 ∧ ((j : Nat) : Int) + 1 < 2 ^ 62 ∧ 0 ≤ ((j : Nat) : Int) ∧ ((j : Nat) : Int) < 2 ^ 62 := by omega
    refine EV_map ok' (compScope rfl rfl rfl rfl rfl rfl rfl) (SRC_lst ok' (EV_call_def ok' g_bends rfl rfl (EVs_cons ok' (EV_itemS ok' (EVP_name ok' rfl rfl _ ⟨_, rfl, EVP_name ok' rfl rfl _ ⟨_, _, rfl, zj.2.2.1, zj.2.2.2, hc', EVs_cons ok' ((EVP_itemT ok' (EVP_name ok' rfl rfl) (EVP_add ok' (EVP_name ok' rfl rfl) EVP_int) zj.1 zj.2.1 hx (fun _ _ => rfl)) _ ((EVsP_cons ok' rfl (EVP_name ok' rfl rfl) (EVsP_cons ok' rfl (EVP_name ok' rfl rfl) EVsP_nil)) _ ((bends_def ok' (Room.ble (room_acc (bl := bl) room) rfl) bend) _ _ ⟨_, rfl, Nat.le_trans ez (by decide), (fun w => .tup (((D.str p.1 :: ps).take (j + 1) ++ [w]) ++ (D.str p.1 :: ps).drop (j + 2))), fun dd hdd ca aa R' ok'' r' => ?_, ?_⟩))) (star1 rfl)⟩⟩)) (star1 rfl)) rfl (star1 rfl)))
    · exact (EVP_addT ok'' (EVP_addT ok'' (EVP_upto (k := j + 1) ok'' (EVP_name ok'' rfl rfl) (le_ok zt rfl) (EVP_add (x := (j : Int)) (y := 1) ok'' (EVP_name ok'' rfl rfl) EVP_int)) (EVP_Tuple ok'' (EVsP_cons ok'' rfl (EVP_name ok'' rfl rfl) EVsP_nil) (len_ok rfl)) (add_ok (take_z hps) rfl rfl)) (EVP_from (k := j + 2) ok'' (EVP_name ok'' rfl rfl) (le_ok zt rfl) (EVP_add (x := (j : Int)) (y := 2) ok'' (EVP_name ok'' rfl rfl) EVP_int)) (sum_ok (Nat.le_trans (snoc_z hps) (by decide)) (Nat.le_trans (drop_z hps) (by decide)))) _ r'
    · refine ⟨_, rfl, by rw [List.length_map]; omega, rfl, by rw [List.length_append, List.length_map]; omega, fun x hx => ?_⟩
      rcases List.mem_append.mp hx with hx | hx
      · exact hb x hx
      · obtain ⟨y, hy, rfl⟩ := List.mem_map.mp hx
        exact bad y hy
  subst e
  refine EX_cons (EX_for ok (SRCT_name ok (.inl rfl) (SRC_lst ok (EVP_name ok rfl rfl _ ⟨_, rfl, ?_⟩))))
  refine ⟨fun j ρ' φ' => Less ((Str.ofString "bent", .lst outs) :: lapEnv F many d p ps) ρ' ∧ φ' = (⟨pl, many, m⟩ : Feed), ⟨.refl _, rfl⟩, fun j d2 ρ' φ' hk2 ⟨hl2, e⟩ ρ'' hρ => ?_, fun ρ' φ' ⟨hl2, e⟩ => ?_⟩
  · cases hρ
    subst e
    obtain ⟨o1, o2, o3⟩ := hb d2 (List.mem_of_getElem? hk2)
    refine EX_less (ρ := (Str.ofString "one", d2) :: (Str.ofString "bent", .lst outs) :: lapEnv F many d p ps) ?_ (.cons _ _ hl2)
    refine EX_cons (EX_if ok (TR_compare ok (EV_call_def ok g_told_fault rfl rfl (EVs_cons ok (EVP_name ok rfl rfl _ (EVs_cons ok (EVP_name ok rfl rfl _ (EVs_nil (((told_def ok (Room.ble room rfl) o2 o3) _ _ fun r hr => (EV_str (OP_eqs ⟨_, rfl, ?_⟩)))))) (star1 rfl))) (star1 rfl)))))
    rw [show (r == Str.ofString "") = false from Eq.trans hr o1, if_neg Bool.false_ne_true]
    exact EX_nil (EX_nil ⟨.drop _ _ (.refl _) rfl, rfl⟩)
  · subst e
    exact EX_nil ⟨fun x dd hx => hl2 x dd (Less.drop _ _ (.drop _ _ (.drop _ _ (.drop _ _ (.refl _) rfl) rfl) rfl) rfl x dd hx), hb2.1, hb2.2⟩
end Mine
end
section
open PySem PySem.W PyProof.Rows PySem.Calls
set_option maxRecDepth 100000
namespace Mine
theorem ints_is {W : Addr → Prop} {h : Heap} : ∀ {vs : List Value} {ns : List Int}, IntsAre vs ns → IsAll W h vs (ns.map D.int)
  | _, _, .nil => .nil
  | _, _, .cons n t r => .cons (.int n t) (ints_is r)
set_option maxHeartbeats 4000000 in
theorem law_walk {prog : Program} {w : World} {A : Around} {nm : Str} {L fa : Addr} {cd : Value} {B : Heap} {o : Obj} {fd : FuncData} {ss : List Stmt} (hfd : (hK w.params).lookup 147 = some o) (hod : o.data = .func fd) (hb : fd.body = .stmts ss) {ns : List Int}
    (ok : (lawCx prog w A nm fd.scope L fa cd B).Ok) (room : Room (lawCx prog w A nm fd.scope L fa cd B) 20) (hz : ns.length ≤ 63) {s : Shared} {Q : Flow → Shared → Prop} {E : Value → Shared → Prop}
    (st : St (lawCx prog w A nm fd.scope L fa cd B) [(Str.ofString "script", .lst (ns.map .int))] s.heap) (big : sysModules < s.heap.objs.size)
    (q : ∀ h' tk, (∀ b o, B.get? b = some o → h'.get? b = some o) → Q (.ret (.bool true)) { s with heap := h', toks := tk }) :
    wpAny (model prog w) A (execs ss (envOfC nm fd.scope L fa cd)) Q E s := by
  have key := fun F cl vs ns hn hz hm ne ok' => law_ex (prog := prog) (A := A) (nm := nm) (L := L) (fa := fa) (cd := cd) (B := B) (F := F) (cl := cl) (vs := vs) (ns := ns) hfd hod hb hn hz hm ne ok' room
  cases hfd; cases hod; cases hb
  have hsl := line_eq
  refine run_newfeed (C := lawCx prog w A nm _ L fa cd B) (φ := ()) ok (fun a h => h) (.inl rfl) (NEWL_list ok rfl (EV_uptoL ok (EV_name ok rfl (.inl rfl) ⟨rfl, _, rfl, by rw [List.length_map]; omega, EV_int ⟨rfl, 60, rfl, rfl⟩, ?_⟩))) st trivial big (fun F cl vs ns' h' tk hn hz' hm ne ok' st' fi => ?_)
  · refine ⟨_, rfl, by rw [List.length_take, List.length_map]; omega, ns.take 60, by rw [List.map_take], by rw [List.length_take]; omega, EV_int ⟨rfl, EV_int ⟨rfl, EV_neg (EV_int ⟨_, rfl, rfl⟩)⟩⟩⟩
  · exact key F cl vs ns' hn hz' hm ne ok' { s with heap := h', toks := tk } Q E st' fi (fun ρ' φ' h tk r => r.elim) (fun d φ' v h'' tk r k l i x => by
      have r : d = .bool true := r
      subst r
      cases x
      exact q h'' tk l.base)
set_option maxHeartbeats 4000000 in
theorem law_top {prog : Program} {w : World} {nm : Str} {fa a : Addr} {cd : Value} {B h₁ : Heap} {o o1 o2 : Obj} {v1 v2 : Option Value} {fd : FuncData} {ss : List Stmt} (hfd : (hK w.params).lookup 147 = some o) (hod : o.data = .func fd) (hb : fd.body = .stmts ss)
    (KX : (hK w.params).In B) {mg mb : Str → Option Value} (hg : B.Ns mainGlobals mg) (hbn : B.Ns builtinsNs mb) (hbb : ∀ x : Str, x ≠ "__name__" → mb x = bootBuiltins x) (lim : B.NoLimit) {vs : List Value} {ns : List Int}
    (hL : B.IsList a vs.toArray) (hI : IntsAre vs ns) (hz : ¬ (63 : Int) < ns.length) {m : Str → Option Value} (F : Fr B B.objs.size h₁ m) (hm : m (Str.ofString "script") = some (.ref a))
    (N0 : News B B.objs.size h₁ [(B.objs.size + 1 + 1, o1), (B.objs.size + 1, o2)]) (d1 : o1.data = .cell v1) (d2 : o2.data = .cell v2) {gens : Array GenState} {drawn : Drawn} {toks : Nat} {os : OsState} {Q : Flow → Shared → Prop} {E : Value → Shared → Prop}
    (q : ∀ h' tk, (∀ b o, B.get? b = some o → h'.get? b = some o) → Q (.ret (.bool true)) { heap := h', gens := gens, drawn := drawn, toks := tk, os := os }) :
    wpAny (model prog w) (callerA.deeper (envOfC nm fd.scope B.objs.size fa cd)) (execs ss (envOfC nm fd.scope B.objs.size fa cd)) Q E { heap := h₁, gens := gens, drawn := drawn, toks := toks, os := os } := by
  have lw := @law_walk prog w (callerA.deeper (envOfC nm fd.scope B.objs.size fa cd)) nm B.objs.size fa cd B o fd ss hfd hod hb ns
  have h147 : 147 < B.objs.size := Heap.lt_size (KX _ _ hfd)
  have hL1 : B.objs.size < h₁.objs.size := by
    obtain ⟨_, _, _, e, _⟩ := F.ns
    exact Heap.lt_size e
  obtain ⟨a1, a2, a3⟩ := N0 _ (List.mem_cons_self ..)
  obtain ⟨b1, b2, b3⟩ := N0 _ (List.mem_cons_of_mem _ (List.mem_cons_self ..))
  cases hfd; cases hod; cases hb
  have two : ∀ {n : Str} {c : Addr}, List.lookup n [(Str.ofString "k", B.objs.size + 1 + 1), (Str.ofString "told", B.objs.size + 1)] = some c → (n = Str.ofString "k" ∧ c = B.objs.size + 1 + 1) ∨ (n = Str.ofString "told" ∧ c = B.objs.size + 1) := fun {n c} h => by
    rw [lookup_cons] at h
    split at h
    · rename_i e; cases h; exact .inl ⟨e, rfl⟩
    · rw [lookup_cons] at h
      split at h
      · rename_i e; cases h; exact .inr ⟨e, rfl⟩
      · cases h
  refine lw ?_ ⟨Nat.le_of_ble_eq_true rfl, Nat.le_of_ble_eq_true rfl⟩ (by omega) ?_ (by show 1 < h₁.objs.size; omega) q
  · exact {
      base := ⟨KX, ⟨mg, hg⟩, ⟨mb, hbn, hbb⟩, lim⟩
      hh := rfl, kind := rfl, eg := rfl, eb := rfl
      mow := fun _ m => m, wb := fun _ _ m _ => m
      locB := get_size B
      celB := fun n c h => by rcases two h with ⟨_, rfl⟩ | ⟨_, rfl⟩ <;> assumption
      locM := fun m => m, celM := fun _ _ _ m => m
      celL := fun n c h => by rcases two h with ⟨_, rfl⟩ | ⟨_, rfl⟩ <;> assumption
      apart := fun n n' c h h' => by rcases two h with ⟨rfl, e⟩ | ⟨rfl, e⟩ <;> rcases two h' with ⟨rfl, e'⟩ | ⟨rfl, e'⟩ <;> first | rfl | exact absurd (e.symm.trans e') (Nat.succ_ne_self _) | exact absurd (e'.symm.trans e) (Nat.succ_ne_self _)
      ikeep := fun _ _ _ _ _ => trivial
      ilive := fun _ _ _ _ m => m.elim }
  · have isv : Is (fun _ => False) h₁ (.ref a) (.lst (ns.map .int)) := .lst (by
      obtain ⟨o, e, r⟩ := hL
      exact ⟨o, F.keep _ _ e, r⟩) (fun m => m) (ints_is hI)
    exact {
      toLive := ⟨F.keep, fun a m => m.elim⟩
      loc := ⟨m, F.ns, fun x d hx hk => by
        rw [lookup_cons] at hx
        split at hx
        · rename_i e; subst e; cases hx; exact ⟨_, hm, isv⟩
        · cases hx⟩
      cel := fun x d hx hk => by
        rw [lookup_cons] at hx
        split at hx
        · rename_i e; subst e; rcases hk with hk | hk <;> cases hk
        · cases hx
      cex := fun x c h => by
        rcases two h with ⟨_, rfl⟩ | ⟨_, rfl⟩
        · exact ⟨_, _, a1, d1⟩
        · exact ⟨_, _, b1, d2⟩ }
end Mine
end
open PySem PySem.W PyProof.Rows PySem.Calls
set_option maxRecDepth 100000
set_option maxHeartbeats 8000000 in
theorem PySem.Challenge.cw_qd0005_01_holds : PySem.Challenge.rw_qd0005_01.Holds := by
  w_on
  o_law
  refine holds_open (q := Mine.hq) (loose := Mine.hl) (Xt := Mine.hXt) (XP := XL Mine.hq []) (Yf := Hook.obs Mine.hH) (Ya := Hook.val Mine.hH) (YP := Hook.says Mine.hH) (N := 2706) Mine.left (Hook.of Mine.hH) (Hook.keeps Mine.hH) (fun s e => xl_of s (Bool.and_eq_true_iff.mp e).1) XL.keeps (by rfl) (by rfl) (by rfl) (fun s e => recFacts_of (Bool.and_eq_true_iff.mp e).2) (by rfl) (by assumption) (by decide +kernel) ⟨rfl, rfl, rfl, rfl, rfl, by decide +kernel⟩ ?hw ?hc
  (case hw => w_witness2)
  w_strict (
    k_go0
    (all_goals try k_fold)
    refine Mine.law_top rfl rfl rfl (by assumption) (topRead_of (by assumption)).g (topRead_of (by assumption)).b (topRead_of (by assumption)).builtins (topRead_of (by assumption)).nolimit (by assumption) (by assumption) (by assumption) (by assumption) ?_ (by assumption) (by assumption) (by assumption) (fun h' tk hk => ?_)
    · rfl
    · refine ⟨.inl ⟨_, _, [], rfl, fun _ => rfl, .bool _, by wrow_post, unshared_nil⟩, hk, rfl, by assumption⟩)
