import PyProof.Rows.All
import Wide.All
import OpenK.AllK
import Wide.FinOn
import KE.KLcPair
import PySem.Challenge.RW_xm0336_01
open PySem PySem.W PyProof.Rows PySem.Calls
set_option Elab.async false
set_option maxRecDepth 100000
set_option linter.unusedVariables false
set_option linter.unusedSimpArgs false
set_option genSizeOf false
namespace Mine

section
set_option maxHeartbeats 0
noncomputable abbrev pE : Program := Challenge.rw_xm0336_01.row.toRowW.1
def nth : List Stmt → Nat → Stmt
  | [], _ => default
  | s :: _, 0 => s
  | _ :: r, n + 1 => nth r n
def inC : Stmt → List Stmt
  | .ClassDef _ _ _ b _ _ _ _ _ _ _ => b
  | _ => []
noncomputable def sA (i : Nat) : Stmt := nth pE.main.body i
noncomputable def sB (i j : Nat) : Stmt := nth (inC (sA i)) j
def es (P : Params) (x : Str) (t : Nat) (v : Value) : DictEntry := ⟨PyData.keyHash P x, .str x t, v⟩
def er' (P : Params) (x : Str) (t : Nat) (a : Addr) : DictEntry := ⟨PyData.keyHash P x, .str x t, .ref a⟩
def tP (xs : List Value) : Obj := { cls := .type "tuple", data := .seq xs.toArray }
def cD (xs : List Value) : Obj := { cls := .type "code", data := .fields xs.toArray }
def dI (n : Nat) (es : List DictEntry) : Obj := { cls := .type "dict", data := .dict es.toArray n }
def cL (k : ClassData) (sl : List (Option Value)) : Obj := { cls := .type "type", data := .cls k, slots := sl.toArray }
def fN (s : Stmt) (q : Str) (dV kV doc pm : Value) (an : Option Addr) (cdv ct : Value) : Obj := match s with
  | .FunctionDef n a b _ _ _ sc _ _ _ => ⟨.type "function", none, .func (fnOf n q a b sc dV kV doc pm an cdv ct), #[]⟩
  | _ => default
def fU (s : Stmt) (q : Str) : Obj := match s with
  | .FunctionDef n a b _ _ _ sc _ _ _ => ⟨.none, none, .func { name := n, qualname := q, params := a, body := .stmts b, scope := sc, globals := 0, closure := [], defaults := .none, kwdefaults := .none }, #[]⟩
  | _ => default
namespace hd
noncomputable def q3_1 (P : Params) : Obj := dI 33 [es P "__name__" 165 (.str "framerune.kinds" 194), es P "__doc__" 166 (.none), es P "__package__" 167 (.none), es P "__loader__" 168 (.builtin "__main__.__loader__#opaque"), es P "__spec__" 169 (.none), er' P "__annotations__" 170 6, er' P "__builtins__" 171 4, es P "__file__" 173 (.str "/claim/cut.py" 172), es P "__cached__" 174 (.none), er' P "_wall" 193 21, es P "VOID" 197 (.int (0) 196), es P "BOOL" 199 (.int (1) 198), es P "CHAR" 201 (.int (2) 200), es P "I1" 203 (.int (3) 202), es P "U1" 205 (.int (4) 204), es P "I2" 207 (.int (5) 206), es P "U2" 209 (.int (6) 208), es P "I4" 211 (.int (7) 210), es P "U4" 213 (.int (8) 212), es P "I8" 215 (.int (9) 214), es P "U8" 217 (.int (10) 216), es P "NINT" 219 (.int (11) 218), es P "OBJECT" 221 (.int (12) 220), es P "STRING" 223 (.int (13) 222), es P "R_PRIM" 225 (.int (1) 224), es P "R_CLASS" 227 (.int (2) 226), es P "R_VALUE" 229 (.int (3) 228), es P "R_ARRAY" 231 (.int (4) 230), es P "R_BYREF" 233 (.int (5) 232), es P "R_BOXED" 235 (.int (8) 234), es P "R_ROREF" 237 (.int (9) 236), er' P "PRIM_TID" 266 22, es P "ARRAY_TID" 268 (.int (5) 267)]
noncomputable def q12 : Obj := ⟨.none, none, .fields #[.int (1) 0, .int (0) 0, .ref 20], #[]⟩
noncomputable def q13 : Obj := cD [.str "<module>" 182, .str "<module>" 183, .str "/claim/cut.py" 184, .int (1) 0, .int (0) 0, .int (0) 0, .int (0) 0, .int (0) 0, .ref 11, .bool false, .int (181) 0, .ref 12, .none, .none, .none, .none, .int (185) 0, .int (1) 0, .str "/claim/cut.py" 186]
noncomputable def q14 : Obj := ⟨.type "frame", none, .plain, #[some (.ref 13), some (.ref 3), some (.ref 3), none, some (.str "__main__" 164), none, some (.ref 0)]⟩
noncomputable def q20 : Obj := cD [.str "_wall" 187, .str "_wall" 188, .str "/claim/cut.py" 189, .int (1) 0, .int (1) 0, .int (0) 0, .int (0) 0, .int (3) 0, .ref 15, .bool true, .int (181) 0, .ref 16, .none, .ref 17, .ref 18, .ref 19, .int (191) 0, .int (1) 0, .str "/claim/cut.py" 192]
noncomputable def q21 : Obj := fN (sA 0) "_wall" (.none) (.none) (.none) (.str "__main__" 164) none (.ref 20) (.none)
noncomputable def q22 : Obj := dI 14 [⟨0, .int (0) 196, .int (20) 238⟩, ⟨1, .int (1) 198, .int (9) 239⟩, ⟨2, .int (2) 200, .int (10) 240⟩, ⟨3, .int (3) 202, .int (11) 241⟩, ⟨4, .int (4) 204, .int (12) 242⟩, ⟨5, .int (5) 206, .int (13) 243⟩, ⟨6, .int (6) 208, .int (14) 244⟩, ⟨7, .int (7) 210, .int (15) 245⟩, ⟨8, .int (8) 212, .int (16) 246⟩, ⟨9, .int (9) 214, .int (17) 247⟩, ⟨10, .int (10) 216, .int (18) 248⟩, ⟨11, .int (11) 218, .int (19) 249⟩, ⟨12, .int (12) 220, .int (1) 250⟩, ⟨13, .int (13) 222, .int (4) 251⟩]
noncomputable def q3_2 (P : Params) : Obj := dI 75 (es P "__name__" 165 (.str "framerune.mbase" 489) :: es P "__doc__" 166 (.none) :: es P "__package__" 167 (.none) :: es P "__loader__" 168 (.builtin "__main__.__loader__#opaque") :: es P "__spec__" 169 (.none) :: er' P "__annotations__" 170 6 :: er' P "__builtins__" 171 4 :: es P "__file__" 173 (.str "/claim/cut.py" 172) :: es P "__cached__" 174 (.none) :: er' P "_wall" 193 21 :: es P "VOID" 197 (.int (0) 196) :: es P "BOOL" 199 (.int (1) 198) :: es P "CHAR" 201 (.int (2) 200) :: es P "I1" 203 (.int (3) 202) :: es P "U1" 205 (.int (4) 204) :: es P "I2" 207 (.int (5) 206) :: es P "U2" 209 (.int (6) 208) :: es P "I4" 211 (.int (7) 210) :: es P "U4" 213 (.int (8) 212) :: es P "I8" 215 (.int (9) 214) :: es P "U8" 217 (.int (10) 216) :: es P "NINT" 219 (.int (11) 218) :: es P "OBJECT" 221 (.int (12) 220) :: es P "STRING" 223 (.int (13) 222) :: es P "R_PRIM" 225 (.int (1) 224) :: es P "R_CLASS" 227 (.int (2) 226) :: es P "R_VALUE" 229 (.int (3) 228) :: es P "R_ARRAY" 231 (.int (4) 230) :: es P "R_BYREF" 233 (.int (5) 232) :: es P "R_BOXED" 235 (.int (8) 234) :: es P "R_ROREF" 237 (.int (9) 236) :: er' P "PRIM_TID" 266 22 :: es P "ARRAY_TID" 268 (.int (5) 267) :: er' P "kind_sort" 276 29 :: er' P "elem_of" 285 36 :: er' P "tid_of" 294 43 :: er' P "is_value" 302 50 :: es P "T_NULLREF" 304 (.int (21) 303) :: es P "T_INDEX" 306 (.int (22) 305) :: es P "T_OOM" 308 (.int (30) 307) :: es P "T_ARG" 310 (.int (31) 309) :: es P "T_ARGRANGE" 312 (.int (32) 311) :: es P "V_I4" 316 (.int (1) 315) :: es P "V_I8" 318 (.int (2) 317) :: es P "V_NINT" 320 (.int (3) 319) :: es P "V_REF" 322 (.int (4) 321) :: es P "V_TEXT" 324 (.int (8) 323) :: er' P "NULLV" 327 51 :: er' P "wrap_bits" 335 58 :: er' P "wrap32" 342 65 :: er' P "plain_default" 349 72 :: es P "W_KIND" 351 (.int (5) 350) :: es P "FIRST_ADDRESS" 355 (.int (16) 354) :: es P "HEAD_WORDS" 357 (.int (2) 356) :: es P "LEAST_SIZE" 359 (.int (3) 358) :: er' P "words_for" 366 79 :: er' P "Thing" 402 96 :: er' P "Heap" 443 117 :: er' P "heap_alloc" 453 128 :: er' P "PlaceHost" 488 145 :: es P "JP_STAY" 493 (.int (-2) 492) :: es P "ST_RUN" 495 (.int (0) 494) :: es P "ST_WRONG" 497 (.int (3) 496) :: es P "NT_VOID" 500 (.int (-1) 499) :: es P "NT_STAY" 503 (.int (-2) 502) :: es P "TEXT_NULL" 505 (.str "Object reference not set to an instance of an object." 504) :: er' P "Native" 535 166 :: er' P "Starter" 584 201 :: er' P "Sweeper" 612 222 :: er' P "KindCloser" 652 250 :: er' P "Tray" 830 376 :: er' P "Shelf" 948 446 :: er' P "note_thrown" 956 455 :: er' P "told_row" 965 462 :: er' P "told_default" 974 469 :: [])
noncomputable def q12_1 : Obj := ⟨.none, none, .fields #[.int (1) 0, .int (0) 0, .ref 20, .int (28) 0, .int (0) 0, .ref 28, .int (30) 0, .int (0) 0, .ref 35, .int (35) 0, .int (0) 0, .ref 42, .int (44) 0, .int (0) 0, .ref 49, .int (60) 0, .int (0) 0, .ref 57, .int (65) 0, .int (0) 0, .ref 64, .int (67) 0, .int (0) 0, .ref 71, .int (80) 0, .int (0) 0, .ref 78, .int (84) 0, .int (0) 0, .ref 85, .int (93) 0, .int (0) 0, .ref 106, .int (108) 0, .int (0) 0, .ref 127, .int (118) 0, .int (0) 0, .ref 134, .int (131) 0, .int (0) 0, .ref 155, .int (135) 0, .int (0) 0, .ref 176, .int (145) 0, .int (0) 0, .ref 211, .int (149) 0, .int (0) 0, .ref 232, .int (156) 0, .int (0) 0, .ref 260, .int (225) 0, .int (0) 0, .ref 386, .int (282) 0, .int (0) 0, .ref 454, .int (286) 0, .int (0) 0, .ref 461, .int (291) 0, .int (0) 0, .ref 468], #[]⟩
noncomputable def q28 : Obj := cD [.str "kind_sort" 269, .str "kind_sort" 270, .str "/claim/cut.py" 271, .int (28) 0, .int (2) 0, .int (0) 0, .int (0) 0, .int (3) 0, .ref 23, .bool true, .int (181) 0, .ref 24, .none, .ref 25, .ref 26, .ref 27, .int (274) 0, .int (28) 0, .str "/claim/cut.py" 275]
noncomputable def q29 : Obj := fN (sA 25) "kind_sort" (.none) (.none) (.none) (.str "framerune.kinds" 194) none (.ref 28) (.none)
noncomputable def q35 : Obj := cD [.str "elem_of" 277, .str "elem_of" 278, .str "/claim/cut.py" 279, .int (30) 0, .int (2) 0, .int (0) 0, .int (0) 0, .int (3) 0, .ref 30, .bool true, .int (181) 0, .ref 31, .none, .ref 32, .ref 33, .ref 34, .int (283) 0, .int (30) 0, .str "/claim/cut.py" 284]
noncomputable def q36 : Obj := fN (sA 26) "elem_of" (.none) (.none) (.none) (.str "framerune.kinds" 194) none (.ref 35) (.none)
noncomputable def q42 : Obj := cD [.str "tid_of" 286, .str "tid_of" 287, .str "/claim/cut.py" 288, .int (35) 0, .int (2) 0, .int (0) 0, .int (0) 0, .int (3) 0, .ref 37, .bool true, .int (181) 0, .ref 38, .none, .ref 39, .ref 40, .ref 41, .int (292) 0, .int (35) 0, .str "/claim/cut.py" 293]
noncomputable def q43 : Obj := fN (sA 27) "tid_of" (.none) (.none) (.none) (.str "framerune.kinds" 194) none (.ref 42) (.none)
noncomputable def q49 : Obj := cD [.str "is_value" 295, .str "is_value" 296, .str "/claim/cut.py" 297, .int (44) 0, .int (2) 0, .int (0) 0, .int (0) 0, .int (3) 0, .ref 44, .bool true, .int (181) 0, .ref 45, .none, .ref 46, .ref 47, .ref 48, .int (300) 0, .int (44) 0, .str "/claim/cut.py" 301]
noncomputable def q50 : Obj := fN (sA 28) "is_value" (.none) (.none) (.none) (.str "framerune.kinds" 194) none (.ref 49) (.none)
noncomputable def q57 : Obj := cD [.str "wrap_bits" 328, .str "wrap_bits" 329, .str "/claim/cut.py" 330, .int (60) 0, .int (2) 0, .int (0) 0, .int (0) 0, .int (3) 0, .ref 52, .bool true, .int (181) 0, .ref 53, .none, .ref 54, .ref 55, .ref 56, .int (333) 0, .int (60) 0, .str "/claim/cut.py" 334]
noncomputable def q58 : Obj := fN (sA 41) "wrap_bits" (.none) (.none) (.none) (.str "framerune.values" 313) none (.ref 57) (.none)
noncomputable def q64 : Obj := cD [.str "wrap32" 336, .str "wrap32" 337, .str "/claim/cut.py" 338, .int (65) 0, .int (1) 0, .int (0) 0, .int (0) 0, .int (3) 0, .ref 59, .bool true, .int (181) 0, .ref 60, .none, .ref 61, .ref 62, .ref 63, .int (340) 0, .int (65) 0, .str "/claim/cut.py" 341]
noncomputable def q65 : Obj := fN (sA 42) "wrap32" (.none) (.none) (.none) (.str "framerune.values" 313) none (.ref 64) (.none)
noncomputable def q71 : Obj := cD [.str "plain_default" 343, .str "plain_default" 344, .str "/claim/cut.py" 345, .int (67) 0, .int (1) 0, .int (0) 0, .int (0) 0, .int (3) 0, .ref 66, .bool true, .int (181) 0, .ref 67, .none, .ref 68, .ref 69, .ref 70, .int (347) 0, .int (67) 0, .str "/claim/cut.py" 348]
noncomputable def q72 : Obj := fN (sA 43) "plain_default" (.none) (.none) (.none) (.str "framerune.values" 313) none (.ref 71) (.none)
noncomputable def q78 : Obj := cD [.str "words_for" 360, .str "words_for" 361, .str "/claim/cut.py" 362, .int (80) 0, .int (1) 0, .int (0) 0, .int (0) 0, .int (3) 0, .ref 73, .bool true, .int (181) 0, .ref 74, .none, .ref 75, .ref 76, .ref 77, .int (364) 0, .int (80) 0, .str "/claim/cut.py" 365]
noncomputable def q79 : Obj := fN (sA 49) "words_for" (.none) (.none) (.none) (.str "framerune.heap" 352) none (.ref 78) (.none)
noncomputable def q81 : Obj := ⟨.type "builtin_function_or_method", none, .fields #[.builtin "type.__prepare__", .type "type"], #[]⟩
noncomputable def q82 (P : Params) : Obj := dI 5 [es P "__module__" 374 (.str "framerune.heap" 352), es P "__qualname__" 376 (.str "Thing" 375), es P "__firstlineno__" 378 (.int (84) 377), er' P "__init__" 388 93, er' P "__static_attributes__" 395 94]
noncomputable def q84 : Obj := ⟨.none, none, .fields #[.int (86) 0, .int (4) 0, .ref 92], #[]⟩
noncomputable def q85 : Obj := cD [.str "Thing" 369, .str "Thing" 370, .str "/claim/cut.py" 371, .int (84) 0, .int (0) 0, .int (0) 0, .int (0) 0, .int (0) 0, .ref 83, .bool false, .int (181) 0, .ref 84, .none, .none, .none, .none, .int (372) 0, .int (84) 0, .str "/claim/cut.py" 373]
noncomputable def q86 : Obj := ⟨.type "frame", none, .plain, #[some (.ref 85), some (.ref 3), some (.ref 82), none, some (.str "framerune.heap" 352), none, some (.ref 0)]⟩
noncomputable def q89 : Obj := tP [.str "self" 382, .str "addr" 383, .str "kind" 384, .str "slots" 385]
noncomputable def q92 : Obj := cD [.str "__init__" 379, .str "Thing.__init__" 380, .str "/claim/cut.py" 381, .int (86) 0, .int (4) 0, .int (0) 0, .int (0) 0, .int (3) 0, .ref 87, .bool true, .int (181) 0, .ref 88, .none, .ref 89, .ref 90, .ref 91, .int (386) 0, .int (86) 0, .str "/claim/cut.py" 387]
noncomputable def q93 : Obj := fN (sB 50 0) "Thing.__init__" (.none) (.none) (.none) (.str "framerune.heap" 352) none (.ref 92) (.none)
noncomputable def q94 : Obj := tP [.str "addr" 389, .str "gen" 390, .str "kind" 391, .str "serial" 392, .str "size" 393, .str "slots" 394]
noncomputable def q95 (P : Params) : Obj := dI 4 [es P "__module__" 374 (.str "framerune.heap" 352), es P "__firstlineno__" 378 (.int (84) 377), er' P "__init__" 388 93, er' P "__static_attributes__" 395 94, er' P "__dict__" 397 97, er' P "__weakref__" 399 98, es P "__doc__" 400 (.none)]
noncomputable def q96 : Obj := cL ⟨"Thing", [.type "object"], [.ref 96, .type "object"], 95, "Thing", true, [], [], false, none, false⟩ [none, none, some (.str "Thing" 367), some (.str "Thing" 375), some (.builtin "object.__new__"), some (.bool true)]
noncomputable def q97 : Obj := ⟨.type "getset_descriptor", none, .fields #[.str "__dict__" 396, .ref 96, .builtin "function.__dict__", .builtin "function.__dict__#set"], #[]⟩
noncomputable def q98 : Obj := ⟨.type "getset_descriptor", none, .fields #[.str "__weakref__" 398, .ref 96, .builtin "ExceptionGroup.__weakref__", .none], #[]⟩
noncomputable def q99 : Obj := ⟨.type "super", none, .fields #[.ref 96, .ref 96, .ref 96], #[]⟩
noncomputable def q100 : Obj := ⟨.type "builtin_function_or_method", none, .fields #[.builtin "object.__init_subclass__", .ref 96], #[]⟩
noncomputable def q102 : Obj := ⟨.type "builtin_function_or_method", none, .fields #[.builtin "type.__prepare__", .type "type"], #[]⟩
noncomputable def q103 (P : Params) : Obj := dI 5 [es P "__module__" 410 (.str "framerune.heap" 352), es P "__qualname__" 412 (.str "Heap" 411), es P "__firstlineno__" 414 (.int (93) 413), er' P "__init__" 423 114, er' P "__static_attributes__" 436 115]
noncomputable def q105 : Obj := ⟨.none, none, .fields #[.int (95) 0, .int (4) 0, .ref 113], #[]⟩
noncomputable def q106 : Obj := cD [.str "Heap" 405, .str "Heap" 406, .str "/claim/cut.py" 407, .int (93) 0, .int (0) 0, .int (0) 0, .int (0) 0, .int (0) 0, .ref 104, .bool false, .int (181) 0, .ref 105, .none, .none, .none, .none, .int (408) 0, .int (93) 0, .str "/claim/cut.py" 409]
noncomputable def q107 : Obj := ⟨.type "frame", none, .plain, #[some (.ref 106), some (.ref 3), some (.ref 103), none, some (.str "framerune.heap" 352), none, some (.ref 0)]⟩
noncomputable def q110 : Obj := tP [.str "self" 418, .str "limit" 419, .str "card_bits" 420]
noncomputable def q113 : Obj := cD [.str "__init__" 415, .str "Heap.__init__" 416, .str "/claim/cut.py" 417, .int (95) 0, .int (3) 0, .int (0) 0, .int (0) 0, .int (3) 0, .ref 108, .bool true, .int (181) 0, .ref 109, .none, .ref 110, .ref 111, .ref 112, .int (421) 0, .int (95) 0, .str "/claim/cut.py" 422]
noncomputable def q114 : Obj := fN (sB 51 0) "Heap.__init__" (.none) (.none) (.none) (.str "framerune.heap" 352) none (.ref 113) (.none)
noncomputable def q115 : Obj := tP [.str "at" 424, .str "card_bits" 425, .str "cards" 426, .str "finals" 427, .str "fresh" 428, .str "limit" 429, .str "made" 430, .str "moved" 431, .str "ready" 432, .str "things" 433, .str "top" 434, .str "young_limit" 435]
noncomputable def q116 (P : Params) : Obj := dI 4 [es P "__module__" 410 (.str "framerune.heap" 352), es P "__firstlineno__" 414 (.int (93) 413), er' P "__init__" 423 114, er' P "__static_attributes__" 436 115, er' P "__dict__" 438 118, er' P "__weakref__" 440 119, es P "__doc__" 441 (.none)]
noncomputable def q117 : Obj := cL ⟨"Heap", [.type "object"], [.ref 117, .type "object"], 116, "Heap", true, [], [], false, none, false⟩ [none, none, some (.str "Heap" 403), some (.str "Heap" 411), some (.builtin "object.__new__"), some (.bool true)]
noncomputable def q118 : Obj := ⟨.type "getset_descriptor", none, .fields #[.str "__dict__" 437, .ref 117, .builtin "function.__dict__", .builtin "function.__dict__#set"], #[]⟩
noncomputable def q119 : Obj := ⟨.type "getset_descriptor", none, .fields #[.str "__weakref__" 439, .ref 117, .builtin "ExceptionGroup.__weakref__", .none], #[]⟩
noncomputable def q120 : Obj := ⟨.type "super", none, .fields #[.ref 117, .ref 117, .ref 117], #[]⟩
noncomputable def q121 : Obj := ⟨.type "builtin_function_or_method", none, .fields #[.builtin "object.__init_subclass__", .ref 117], #[]⟩
noncomputable def q124 : Obj := tP [.str "heap" 447, .str "kind" 448, .str "slots" 449, .str "thing" 450]
noncomputable def q127 : Obj := cD [.str "heap_alloc" 444, .str "heap_alloc" 445, .str "/claim/cut.py" 446, .int (108) 0, .int (3) 0, .int (0) 0, .int (0) 0, .int (3) 0, .ref 122, .bool true, .int (181) 0, .ref 123, .none, .ref 124, .ref 125, .ref 126, .int (451) 0, .int (108) 0, .str "/claim/cut.py" 452]
noncomputable def q128 : Obj := fN (sA 52) "heap_alloc" (.none) (.none) (.none) (.str "framerune.heap" 352) none (.ref 127) (.none)
noncomputable def q130 : Obj := ⟨.type "builtin_function_or_method", none, .fields #[.builtin "type.__prepare__", .type "type"], #[]⟩
noncomputable def q131 (P : Params) : Obj := dI 5 [es P "__module__" 463 (.str "framerune.places" 454), es P "__qualname__" 465 (.str "PlaceHost" 464), es P "__firstlineno__" 467 (.int (118) 466), er' P "__init__" 477 142, er' P "__static_attributes__" 481 143]
noncomputable def q133 : Obj := ⟨.none, none, .fields #[.int (120) 0, .int (4) 0, .ref 141], #[]⟩
noncomputable def q134 : Obj := cD [.str "PlaceHost" 458, .str "PlaceHost" 459, .str "/claim/cut.py" 460, .int (118) 0, .int (0) 0, .int (0) 0, .int (0) 0, .int (0) 0, .ref 132, .bool false, .int (181) 0, .ref 133, .none, .none, .none, .none, .int (461) 0, .int (118) 0, .str "/claim/cut.py" 462]
noncomputable def q135 : Obj := ⟨.type "frame", none, .plain, #[some (.ref 134), some (.ref 3), some (.ref 131), none, some (.str "framerune.places" 454), none, some (.ref 0)]⟩
noncomputable def q138 : Obj := tP [.str "self" 471, .str "heap" 472, .str "frames" 473, .str "statics" 474]
noncomputable def q141 : Obj := cD [.str "__init__" 468, .str "PlaceHost.__init__" 469, .str "/claim/cut.py" 470, .int (120) 0, .int (4) 0, .int (0) 0, .int (0) 0, .int (3) 0, .ref 136, .bool true, .int (181) 0, .ref 137, .none, .ref 138, .ref 139, .ref 140, .int (475) 0, .int (120) 0, .str "/claim/cut.py" 476]
noncomputable def q142 : Obj := fN (sB 54 0) "PlaceHost.__init__" (.none) (.none) (.none) (.str "framerune.places" 454) none (.ref 141) (.none)
noncomputable def q143 : Obj := tP [.str "frames" 478, .str "heap" 479, .str "statics" 480]
noncomputable def q144 (P : Params) : Obj := dI 4 [es P "__module__" 463 (.str "framerune.places" 454), es P "__firstlineno__" 467 (.int (118) 466), er' P "__init__" 477 142, er' P "__static_attributes__" 481 143, er' P "__dict__" 483 146, er' P "__weakref__" 485 147, es P "__doc__" 486 (.none)]
noncomputable def q145 : Obj := cL ⟨"PlaceHost", [.type "object"], [.ref 145, .type "object"], 144, "PlaceHost", true, [], [], false, none, false⟩ [none, none, some (.str "PlaceHost" 456), some (.str "PlaceHost" 464), some (.builtin "object.__new__"), some (.bool true)]
noncomputable def q146 : Obj := ⟨.type "getset_descriptor", none, .fields #[.str "__dict__" 482, .ref 145, .builtin "function.__dict__", .builtin "function.__dict__#set"], #[]⟩
noncomputable def q147 : Obj := ⟨.type "getset_descriptor", none, .fields #[.str "__weakref__" 484, .ref 145, .builtin "ExceptionGroup.__weakref__", .none], #[]⟩
noncomputable def q148 : Obj := ⟨.type "super", none, .fields #[.ref 145, .ref 145, .ref 145], #[]⟩
noncomputable def q149 : Obj := ⟨.type "builtin_function_or_method", none, .fields #[.builtin "object.__init_subclass__", .ref 145], #[]⟩
noncomputable def q151 : Obj := ⟨.type "builtin_function_or_method", none, .fields #[.builtin "type.__prepare__", .type "type"], #[]⟩
noncomputable def q152 (P : Params) : Obj := dI 5 [es P "__module__" 513 (.str "framerune.mbase" 489), es P "__qualname__" 515 (.str "Native" 514), es P "__firstlineno__" 517 (.int (131) 516), er' P "call" 527 163, er' P "__static_attributes__" 528 164]
noncomputable def q154 : Obj := ⟨.none, none, .fields #[.int (133) 0, .int (4) 0, .ref 162], #[]⟩
noncomputable def q155 : Obj := cD [.str "Native" 508, .str "Native" 509, .str "/claim/cut.py" 510, .int (131) 0, .int (0) 0, .int (0) 0, .int (0) 0, .int (0) 0, .ref 153, .bool false, .int (181) 0, .ref 154, .none, .none, .none, .none, .int (511) 0, .int (131) 0, .str "/claim/cut.py" 512]
noncomputable def q156 : Obj := ⟨.type "frame", none, .plain, #[some (.ref 155), some (.ref 3), some (.ref 152), none, some (.str "framerune.mbase" 489), none, some (.ref 0)]⟩
noncomputable def q159 : Obj := tP [.str "self" 521, .str "m" 522, .str "f" 523, .str "args" 524]
noncomputable def q162 : Obj := cD [.str "call" 518, .str "Native.call" 519, .str "/claim/cut.py" 520, .int (133) 0, .int (4) 0, .int (0) 0, .int (0) 0, .int (3) 0, .ref 157, .bool true, .int (181) 0, .ref 158, .none, .ref 159, .ref 160, .ref 161, .int (525) 0, .int (133) 0, .str "/claim/cut.py" 526]
noncomputable def q163 : Obj := fN (sB 62 0) "Native.call" (.none) (.none) (.none) (.str "framerune.mbase" 489) none (.ref 162) (.none)
noncomputable def q165 (P : Params) : Obj := dI 4 [es P "__module__" 513 (.str "framerune.mbase" 489), es P "__firstlineno__" 517 (.int (131) 516), er' P "call" 527 163, er' P "__static_attributes__" 528 164, er' P "__dict__" 530 167, er' P "__weakref__" 532 168, es P "__doc__" 533 (.none)]
noncomputable def q166 : Obj := cL ⟨"Native", [.type "object"], [.ref 166, .type "object"], 165, "Native", true, [], [], false, none, false⟩ [none, none, some (.str "Native" 506), some (.str "Native" 514), some (.builtin "object.__new__"), some (.bool true)]
noncomputable def q167 : Obj := ⟨.type "getset_descriptor", none, .fields #[.str "__dict__" 529, .ref 166, .builtin "function.__dict__", .builtin "function.__dict__#set"], #[]⟩
noncomputable def q168 : Obj := ⟨.type "getset_descriptor", none, .fields #[.str "__weakref__" 531, .ref 166, .builtin "ExceptionGroup.__weakref__", .none], #[]⟩
noncomputable def q169 : Obj := ⟨.type "super", none, .fields #[.ref 166, .ref 166, .ref 166], #[]⟩
noncomputable def q170 : Obj := ⟨.type "builtin_function_or_method", none, .fields #[.builtin "object.__init_subclass__", .ref 166], #[]⟩
noncomputable def q172 : Obj := ⟨.type "builtin_function_or_method", none, .fields #[.builtin "type.__prepare__", .type "type"], #[]⟩
noncomputable def q173 (P : Params) : Obj := dI 7 [es P "__module__" 543 (.str "framerune.mbase" 489), es P "__qualname__" 545 (.str "Starter" 544), es P "__firstlineno__" 547 (.int (135) 546), er' P "need" 557 184, er' P "done" 566 191, er' P "failed" 576 198, er' P "__static_attributes__" 577 199]
noncomputable def q175 : Obj := ⟨.none, none, .fields #[.int (137) 0, .int (4) 0, .ref 183, .int (140) 0, .int (4) 0, .ref 190, .int (143) 0, .int (4) 0, .ref 197], #[]⟩
noncomputable def q176 : Obj := cD [.str "Starter" 538, .str "Starter" 539, .str "/claim/cut.py" 540, .int (135) 0, .int (0) 0, .int (0) 0, .int (0) 0, .int (0) 0, .ref 174, .bool false, .int (181) 0, .ref 175, .none, .none, .none, .none, .int (541) 0, .int (135) 0, .str "/claim/cut.py" 542]
noncomputable def q177 : Obj := ⟨.type "frame", none, .plain, #[some (.ref 176), some (.ref 3), some (.ref 173), none, some (.str "framerune.mbase" 489), none, some (.ref 0)]⟩
noncomputable def q180 : Obj := tP [.str "self" 551, .str "m" 552, .str "kind" 553, .str "why" 554]
noncomputable def q183 : Obj := cD [.str "need" 548, .str "Starter.need" 549, .str "/claim/cut.py" 550, .int (137) 0, .int (4) 0, .int (0) 0, .int (0) 0, .int (3) 0, .ref 178, .bool true, .int (181) 0, .ref 179, .none, .ref 180, .ref 181, .ref 182, .int (555) 0, .int (137) 0, .str "/claim/cut.py" 556]
noncomputable def q184 : Obj := fN (sB 63 0) "Starter.need" (.none) (.none) (.none) (.str "framerune.mbase" 489) none (.ref 183) (.none)
noncomputable def q187 : Obj := tP [.str "self" 561, .str "m" 562, .str "kind" 563]
noncomputable def q190 : Obj := cD [.str "done" 558, .str "Starter.done" 559, .str "/claim/cut.py" 560, .int (140) 0, .int (3) 0, .int (0) 0, .int (0) 0, .int (3) 0, .ref 185, .bool true, .int (181) 0, .ref 186, .none, .ref 187, .ref 188, .ref 189, .int (564) 0, .int (140) 0, .str "/claim/cut.py" 565]
noncomputable def q191 : Obj := fN (sB 63 1) "Starter.done" (.none) (.none) (.none) (.str "framerune.mbase" 489) none (.ref 190) (.none)
noncomputable def q194 : Obj := tP [.str "self" 570, .str "m" 571, .str "kind" 572, .str "addr" 573]
noncomputable def q197 : Obj := cD [.str "failed" 567, .str "Starter.failed" 568, .str "/claim/cut.py" 569, .int (143) 0, .int (4) 0, .int (0) 0, .int (0) 0, .int (3) 0, .ref 192, .bool true, .int (181) 0, .ref 193, .none, .ref 194, .ref 195, .ref 196, .int (574) 0, .int (143) 0, .str "/claim/cut.py" 575]
noncomputable def q198 : Obj := fN (sB 63 2) "Starter.failed" (.none) (.none) (.none) (.str "framerune.mbase" 489) none (.ref 197) (.none)
noncomputable def q200 (P : Params) : Obj := dI 4 [es P "__module__" 543 (.str "framerune.mbase" 489), es P "__firstlineno__" 547 (.int (135) 546), er' P "need" 557 184, er' P "done" 566 191, er' P "failed" 576 198, er' P "__static_attributes__" 577 199, er' P "__dict__" 579 202, er' P "__weakref__" 581 203, es P "__doc__" 582 (.none)]
noncomputable def q201 : Obj := cL ⟨"Starter", [.type "object"], [.ref 201, .type "object"], 200, "Starter", true, [], [], false, none, false⟩ [none, none, some (.str "Starter" 536), some (.str "Starter" 544), some (.builtin "object.__new__"), some (.bool true)]
noncomputable def q202 : Obj := ⟨.type "getset_descriptor", none, .fields #[.str "__dict__" 578, .ref 201, .builtin "function.__dict__", .builtin "function.__dict__#set"], #[]⟩
noncomputable def q203 : Obj := ⟨.type "getset_descriptor", none, .fields #[.str "__weakref__" 580, .ref 201, .builtin "ExceptionGroup.__weakref__", .none], #[]⟩
noncomputable def q204 : Obj := ⟨.type "super", none, .fields #[.ref 201, .ref 201, .ref 201], #[]⟩
noncomputable def q205 : Obj := ⟨.type "builtin_function_or_method", none, .fields #[.builtin "object.__init_subclass__", .ref 201], #[]⟩
noncomputable def q207 : Obj := ⟨.type "builtin_function_or_method", none, .fields #[.builtin "type.__prepare__", .type "type"], #[]⟩
noncomputable def q208 (P : Params) : Obj := dI 5 [es P "__module__" 592 (.str "framerune.mbase" 489), es P "__qualname__" 594 (.str "Sweeper" 593), es P "__firstlineno__" 596 (.int (145) 595), er' P "before" 604 219, er' P "__static_attributes__" 605 220]
noncomputable def q210 : Obj := ⟨.none, none, .fields #[.int (147) 0, .int (4) 0, .ref 218], #[]⟩
noncomputable def q211 : Obj := cD [.str "Sweeper" 587, .str "Sweeper" 588, .str "/claim/cut.py" 589, .int (145) 0, .int (0) 0, .int (0) 0, .int (0) 0, .int (0) 0, .ref 209, .bool false, .int (181) 0, .ref 210, .none, .none, .none, .none, .int (590) 0, .int (145) 0, .str "/claim/cut.py" 591]
noncomputable def q212 : Obj := ⟨.type "frame", none, .plain, #[some (.ref 211), some (.ref 3), some (.ref 208), none, some (.str "framerune.mbase" 489), none, some (.ref 0)]⟩
noncomputable def q218 : Obj := cD [.str "before" 597, .str "Sweeper.before" 598, .str "/claim/cut.py" 599, .int (147) 0, .int (2) 0, .int (0) 0, .int (0) 0, .int (3) 0, .ref 213, .bool true, .int (181) 0, .ref 214, .none, .ref 215, .ref 216, .ref 217, .int (602) 0, .int (147) 0, .str "/claim/cut.py" 603]
noncomputable def q219 : Obj := fN (sB 64 0) "Sweeper.before" (.none) (.none) (.none) (.str "framerune.mbase" 489) none (.ref 218) (.none)
noncomputable def q221 (P : Params) : Obj := dI 4 [es P "__module__" 592 (.str "framerune.mbase" 489), es P "__firstlineno__" 596 (.int (145) 595), er' P "before" 604 219, er' P "__static_attributes__" 605 220, er' P "__dict__" 607 223, er' P "__weakref__" 609 224, es P "__doc__" 610 (.none)]
noncomputable def q222 : Obj := cL ⟨"Sweeper", [.type "object"], [.ref 222, .type "object"], 221, "Sweeper", true, [], [], false, none, false⟩ [none, none, some (.str "Sweeper" 585), some (.str "Sweeper" 593), some (.builtin "object.__new__"), some (.bool true)]
noncomputable def q223 : Obj := ⟨.type "getset_descriptor", none, .fields #[.str "__dict__" 606, .ref 222, .builtin "function.__dict__", .builtin "function.__dict__#set"], #[]⟩
noncomputable def q224 : Obj := ⟨.type "getset_descriptor", none, .fields #[.str "__weakref__" 608, .ref 222, .builtin "ExceptionGroup.__weakref__", .none], #[]⟩
noncomputable def q225 : Obj := ⟨.type "super", none, .fields #[.ref 222, .ref 222, .ref 222], #[]⟩
noncomputable def q226 : Obj := ⟨.type "builtin_function_or_method", none, .fields #[.builtin "object.__init_subclass__", .ref 222], #[]⟩
noncomputable def q228 : Obj := ⟨.type "builtin_function_or_method", none, .fields #[.builtin "type.__prepare__", .type "type"], #[]⟩
noncomputable def q229 (P : Params) : Obj := dI 6 [es P "__module__" 620 (.str "framerune.mbase" 489), es P "__qualname__" 622 (.str "KindCloser" 621), es P "__firstlineno__" 624 (.int (149) 623), er' P "kind" 634 240, er' P "ref" 644 247, er' P "__static_attributes__" 645 248]
noncomputable def q231 : Obj := ⟨.none, none, .fields #[.int (151) 0, .int (4) 0, .ref 239, .int (154) 0, .int (4) 0, .ref 246], #[]⟩
noncomputable def q232 : Obj := cD [.str "KindCloser" 615, .str "KindCloser" 616, .str "/claim/cut.py" 617, .int (149) 0, .int (0) 0, .int (0) 0, .int (0) 0, .int (0) 0, .ref 230, .bool false, .int (181) 0, .ref 231, .none, .none, .none, .none, .int (618) 0, .int (149) 0, .str "/claim/cut.py" 619]
noncomputable def q233 : Obj := ⟨.type "frame", none, .plain, #[some (.ref 232), some (.ref 3), some (.ref 229), none, some (.str "framerune.mbase" 489), none, some (.ref 0)]⟩
noncomputable def q236 : Obj := tP [.str "self" 628, .str "m" 629, .str "f" 630, .str "k" 631]
noncomputable def q239 : Obj := cD [.str "kind" 625, .str "KindCloser.kind" 626, .str "/claim/cut.py" 627, .int (151) 0, .int (4) 0, .int (0) 0, .int (0) 0, .int (3) 0, .ref 234, .bool true, .int (181) 0, .ref 235, .none, .ref 236, .ref 237, .ref 238, .int (632) 0, .int (151) 0, .str "/claim/cut.py" 633]
noncomputable def q240 : Obj := fN (sB 65 0) "KindCloser.kind" (.none) (.none) (.none) (.str "framerune.mbase" 489) none (.ref 239) (.none)
noncomputable def q243 : Obj := tP [.str "self" 638, .str "m" 639, .str "f" 640, .str "fref" 641]
noncomputable def q246 : Obj := cD [.str "ref" 635, .str "KindCloser.ref" 636, .str "/claim/cut.py" 637, .int (154) 0, .int (4) 0, .int (0) 0, .int (0) 0, .int (3) 0, .ref 241, .bool true, .int (181) 0, .ref 242, .none, .ref 243, .ref 244, .ref 245, .int (642) 0, .int (154) 0, .str "/claim/cut.py" 643]
noncomputable def q247 : Obj := fN (sB 65 1) "KindCloser.ref" (.none) (.none) (.none) (.str "framerune.mbase" 489) none (.ref 246) (.none)
noncomputable def q249 (P : Params) : Obj := dI 4 [es P "__module__" 620 (.str "framerune.mbase" 489), es P "__firstlineno__" 624 (.int (149) 623), er' P "kind" 634 240, er' P "ref" 644 247, er' P "__static_attributes__" 645 248, er' P "__dict__" 647 251, er' P "__weakref__" 649 252, es P "__doc__" 650 (.none)]
noncomputable def q250 : Obj := cL ⟨"KindCloser", [.type "object"], [.ref 250, .type "object"], 249, "KindCloser", true, [], [], false, none, false⟩ [none, none, some (.str "KindCloser" 613), some (.str "KindCloser" 621), some (.builtin "object.__new__"), some (.bool true)]
noncomputable def q251 : Obj := ⟨.type "getset_descriptor", none, .fields #[.str "__dict__" 646, .ref 250, .builtin "function.__dict__", .builtin "function.__dict__#set"], #[]⟩
noncomputable def q252 : Obj := ⟨.type "getset_descriptor", none, .fields #[.str "__weakref__" 648, .ref 250, .builtin "ExceptionGroup.__weakref__", .none], #[]⟩
noncomputable def q253 : Obj := ⟨.type "super", none, .fields #[.ref 250, .ref 250, .ref 250], #[]⟩
noncomputable def q254 : Obj := ⟨.type "builtin_function_or_method", none, .fields #[.builtin "object.__init_subclass__", .ref 250], #[]⟩
noncomputable def q256 : Obj := ⟨.type "builtin_function_or_method", none, .fields #[.builtin "type.__prepare__", .type "type"], #[]⟩
noncomputable def q257 (P : Params) : Obj := dI 20 [es P "__module__" 660 (.str "framerune.mbase" 489), es P "__qualname__" 662 (.str "Tray" 661), es P "__firstlineno__" 664 (.int (156) 663), er' P "__init__" 673 268, er' P "is_a" 682 275, er' P "slots_of" 690 282, er' P "kinds_of" 698 289, er' P "skinds_of" 706 296, er' P "slot_place" 714 303, er' P "target" 723 310, er' P "default" 731 317, er' P "plain" 739 324, er' P "closed" 748 331, er' P "closed_ref" 757 338, er' P "alloc" 766 345, er' P "wrong" 774 352, er' P "pop" 782 359, er' P "throw_new" 791 366, er' P "push_call" 801 373, er' P "__static_attributes__" 823 374]
noncomputable def q259 : Obj := ⟨.none, none, .fields #[.int (158) 0, .int (4) 0, .ref 267, .int (181) 0, .int (4) 0, .ref 274, .int (184) 0, .int (4) 0, .ref 281, .int (187) 0, .int (4) 0, .ref 288, .int (190) 0, .int (4) 0, .ref 295, .int (193) 0, .int (4) 0, .ref 302, .int (196) 0, .int (4) 0, .ref 309, .int (199) 0, .int (4) 0, .ref 316, .int (202) 0, .int (4) 0, .ref 323, .int (205) 0, .int (4) 0, .ref 330, .int (208) 0, .int (4) 0, .ref 337, .int (211) 0, .int (4) 0, .ref 344, .int (214) 0, .int (4) 0, .ref 351, .int (217) 0, .int (4) 0, .ref 358, .int (220) 0, .int (4) 0, .ref 365, .int (223) 0, .int (4) 0, .ref 372], #[]⟩
noncomputable def q260 : Obj := cD [.str "Tray" 655, .str "Tray" 656, .str "/claim/cut.py" 657, .int (156) 0, .int (0) 0, .int (0) 0, .int (0) 0, .int (0) 0, .ref 258, .bool false, .int (181) 0, .ref 259, .none, .none, .none, .none, .int (658) 0, .int (156) 0, .str "/claim/cut.py" 659]
noncomputable def q261 : Obj := ⟨.type "frame", none, .plain, #[some (.ref 260), some (.ref 3), some (.ref 257), none, some (.str "framerune.mbase" 489), none, some (.ref 0)]⟩
noncomputable def q264 : Obj := tP [.str "self" 668, .str "store" 669, .str "heap" 670]
noncomputable def q267 : Obj := cD [.str "__init__" 665, .str "Tray.__init__" 666, .str "/claim/cut.py" 667, .int (158) 0, .int (3) 0, .int (0) 0, .int (0) 0, .int (3) 0, .ref 262, .bool true, .int (181) 0, .ref 263, .none, .ref 264, .ref 265, .ref 266, .int (671) 0, .int (158) 0, .str "/claim/cut.py" 672]
noncomputable def q268 : Obj := fN (sB 66 0) "Tray.__init__" (.none) (.none) (.none) (.str "framerune.mbase" 489) none (.ref 267) (.none)
noncomputable def q271 : Obj := tP [.str "self" 677, .str "exact" 678, .str "k" 679]
noncomputable def q274 : Obj := cD [.str "is_a" 674, .str "Tray.is_a" 675, .str "/claim/cut.py" 676, .int (181) 0, .int (3) 0, .int (0) 0, .int (0) 0, .int (3) 0, .ref 269, .bool true, .int (181) 0, .ref 270, .none, .ref 271, .ref 272, .ref 273, .int (680) 0, .int (181) 0, .str "/claim/cut.py" 681]
noncomputable def q275 : Obj := fN (sB 66 1) "Tray.is_a" (.none) (.none) (.none) (.str "framerune.mbase" 489) none (.ref 274) (.none)
noncomputable def q281 : Obj := cD [.str "slots_of" 683, .str "Tray.slots_of" 684, .str "/claim/cut.py" 685, .int (184) 0, .int (2) 0, .int (0) 0, .int (0) 0, .int (3) 0, .ref 276, .bool true, .int (181) 0, .ref 277, .none, .ref 278, .ref 279, .ref 280, .int (688) 0, .int (184) 0, .str "/claim/cut.py" 689]
noncomputable def q282 : Obj := fN (sB 66 2) "Tray.slots_of" (.none) (.none) (.none) (.str "framerune.mbase" 489) none (.ref 281) (.none)
noncomputable def q288 : Obj := cD [.str "kinds_of" 691, .str "Tray.kinds_of" 692, .str "/claim/cut.py" 693, .int (187) 0, .int (2) 0, .int (0) 0, .int (0) 0, .int (3) 0, .ref 283, .bool true, .int (181) 0, .ref 284, .none, .ref 285, .ref 286, .ref 287, .int (696) 0, .int (187) 0, .str "/claim/cut.py" 697]
noncomputable def q289 : Obj := fN (sB 66 3) "Tray.kinds_of" (.none) (.none) (.none) (.str "framerune.mbase" 489) none (.ref 288) (.none)
noncomputable def q295 : Obj := cD [.str "skinds_of" 699, .str "Tray.skinds_of" 700, .str "/claim/cut.py" 701, .int (190) 0, .int (2) 0, .int (0) 0, .int (0) 0, .int (3) 0, .ref 290, .bool true, .int (181) 0, .ref 291, .none, .ref 292, .ref 293, .ref 294, .int (704) 0, .int (190) 0, .str "/claim/cut.py" 705]
noncomputable def q296 : Obj := fN (sB 66 4) "Tray.skinds_of" (.none) (.none) (.none) (.str "framerune.mbase" 489) none (.ref 295) (.none)
noncomputable def q302 : Obj := cD [.str "slot_place" 707, .str "Tray.slot_place" 708, .str "/claim/cut.py" 709, .int (193) 0, .int (2) 0, .int (0) 0, .int (0) 0, .int (3) 0, .ref 297, .bool true, .int (181) 0, .ref 298, .none, .ref 299, .ref 300, .ref 301, .int (712) 0, .int (193) 0, .str "/claim/cut.py" 713]
noncomputable def q303 : Obj := fN (sB 66 5) "Tray.slot_place" (.none) (.none) (.none) (.str "framerune.mbase" 489) none (.ref 302) (.none)
noncomputable def q306 : Obj := tP [.str "self" 718, .str "exact" 719, .str "mref" 720]
noncomputable def q309 : Obj := cD [.str "target" 715, .str "Tray.target" 716, .str "/claim/cut.py" 717, .int (196) 0, .int (3) 0, .int (0) 0, .int (0) 0, .int (3) 0, .ref 304, .bool true, .int (181) 0, .ref 305, .none, .ref 306, .ref 307, .ref 308, .int (721) 0, .int (196) 0, .str "/claim/cut.py" 722]
noncomputable def q310 : Obj := fN (sB 66 6) "Tray.target" (.none) (.none) (.none) (.str "framerune.mbase" 489) none (.ref 309) (.none)
noncomputable def q316 : Obj := cD [.str "default" 724, .str "Tray.default" 725, .str "/claim/cut.py" 726, .int (199) 0, .int (2) 0, .int (0) 0, .int (0) 0, .int (3) 0, .ref 311, .bool true, .int (181) 0, .ref 312, .none, .ref 313, .ref 314, .ref 315, .int (729) 0, .int (199) 0, .str "/claim/cut.py" 730]
noncomputable def q317 : Obj := fN (sB 66 7) "Tray.default" (.none) (.none) (.none) (.str "framerune.mbase" 489) none (.ref 316) (.none)
noncomputable def q323 : Obj := cD [.str "plain" 732, .str "Tray.plain" 733, .str "/claim/cut.py" 734, .int (202) 0, .int (2) 0, .int (0) 0, .int (0) 0, .int (3) 0, .ref 318, .bool true, .int (181) 0, .ref 319, .none, .ref 320, .ref 321, .ref 322, .int (737) 0, .int (202) 0, .str "/claim/cut.py" 738]
noncomputable def q324 : Obj := fN (sB 66 8) "Tray.plain" (.none) (.none) (.none) (.str "framerune.mbase" 489) none (.ref 323) (.none)
noncomputable def q330 : Obj := cD [.str "closed" 740, .str "Tray.closed" 741, .str "/claim/cut.py" 742, .int (205) 0, .int (3) 0, .int (0) 0, .int (0) 0, .int (3) 0, .ref 325, .bool true, .int (181) 0, .ref 326, .none, .ref 327, .ref 328, .ref 329, .int (746) 0, .int (205) 0, .str "/claim/cut.py" 747]
noncomputable def q331 : Obj := fN (sB 66 9) "Tray.closed" (.none) (.none) (.none) (.str "framerune.mbase" 489) none (.ref 330) (.none)
noncomputable def q334 : Obj := tP [.str "self" 752, .str "f" 753, .str "fref" 754]
noncomputable def q337 : Obj := cD [.str "closed_ref" 749, .str "Tray.closed_ref" 750, .str "/claim/cut.py" 751, .int (208) 0, .int (3) 0, .int (0) 0, .int (0) 0, .int (3) 0, .ref 332, .bool true, .int (181) 0, .ref 333, .none, .ref 334, .ref 335, .ref 336, .int (755) 0, .int (208) 0, .str "/claim/cut.py" 756]
noncomputable def q338 : Obj := fN (sB 66 10) "Tray.closed_ref" (.none) (.none) (.none) (.str "framerune.mbase" 489) none (.ref 337) (.none)
noncomputable def q341 : Obj := tP [.str "self" 761, .str "kind" 762, .str "count" 763]
noncomputable def q344 : Obj := cD [.str "alloc" 758, .str "Tray.alloc" 759, .str "/claim/cut.py" 760, .int (211) 0, .int (3) 0, .int (0) 0, .int (0) 0, .int (3) 0, .ref 339, .bool true, .int (181) 0, .ref 340, .none, .ref 341, .ref 342, .ref 343, .int (764) 0, .int (211) 0, .str "/claim/cut.py" 765]
noncomputable def q345 : Obj := fN (sB 66 11) "Tray.alloc" (.none) (.none) (.none) (.str "framerune.mbase" 489) none (.ref 344) (.none)
noncomputable def q351 : Obj := cD [.str "wrong" 767, .str "Tray.wrong" 768, .str "/claim/cut.py" 769, .int (214) 0, .int (2) 0, .int (0) 0, .int (0) 0, .int (3) 0, .ref 346, .bool true, .int (181) 0, .ref 347, .none, .ref 348, .ref 349, .ref 350, .int (772) 0, .int (214) 0, .str "/claim/cut.py" 773]
noncomputable def q352 : Obj := fN (sB 66 12) "Tray.wrong" (.none) (.none) (.none) (.str "framerune.mbase" 489) none (.ref 351) (.none)
noncomputable def q358 : Obj := cD [.str "pop" 775, .str "Tray.pop" 776, .str "/claim/cut.py" 777, .int (217) 0, .int (2) 0, .int (0) 0, .int (0) 0, .int (3) 0, .ref 353, .bool true, .int (181) 0, .ref 354, .none, .ref 355, .ref 356, .ref 357, .int (780) 0, .int (217) 0, .str "/claim/cut.py" 781]
noncomputable def q359 : Obj := fN (sB 66 13) "Tray.pop" (.none) (.none) (.none) (.str "framerune.mbase" 489) none (.ref 358) (.none)
noncomputable def q362 : Obj := tP [.str "self" 786, .str "tid" 787, .str "text" 788]
noncomputable def q365 : Obj := cD [.str "throw_new" 783, .str "Tray.throw_new" 784, .str "/claim/cut.py" 785, .int (220) 0, .int (3) 0, .int (0) 0, .int (0) 0, .int (3) 0, .ref 360, .bool true, .int (181) 0, .ref 361, .none, .ref 362, .ref 363, .ref 364, .int (789) 0, .int (220) 0, .str "/claim/cut.py" 790]
noncomputable def q366 : Obj := fN (sB 66 14) "Tray.throw_new" (.none) (.none) (.none) (.str "framerune.mbase" 489) none (.ref 365) (.none)
noncomputable def q369 : Obj := tP [.str "self" 795, .str "mref" 796, .str "args" 797, .str "sort" 798]
noncomputable def q372 : Obj := cD [.str "push_call" 792, .str "Tray.push_call" 793, .str "/claim/cut.py" 794, .int (223) 0, .int (4) 0, .int (0) 0, .int (0) 0, .int (3) 0, .ref 367, .bool true, .int (181) 0, .ref 368, .none, .ref 369, .ref 370, .ref 371, .int (799) 0, .int (223) 0, .str "/claim/cut.py" 800]
noncomputable def q373 : Obj := fN (sB 66 15) "Tray.push_call" (.none) (.none) (.none) (.str "framerune.mbase" 489) none (.ref 372) (.none)
noncomputable def q374 : Obj := tP [.str "by_number" 802, .str "calls" 803, .str "closer" 804, .str "defaults" 805, .str "frames" 806, .str "heap" 807, .str "held" 808, .str "inits" 809, .str "kin" 810, .str "kt" 811, .str "ops" 812, .str "places" 813, .str "rows" 814, .str "starter" 815, .str "state" 816, .str "statics" 817, .str "store" 818, .str "targets" 819, .str "thrown" 820, .str "told" 821, .str "unders" 822]
noncomputable def q375 (P : Params) : Obj := dI 4 [es P "__module__" 660 (.str "framerune.mbase" 489), es P "__firstlineno__" 664 (.int (156) 663), er' P "__init__" 673 268, er' P "is_a" 682 275, er' P "slots_of" 690 282, er' P "kinds_of" 698 289, er' P "skinds_of" 706 296, er' P "slot_place" 714 303, er' P "target" 723 310, er' P "default" 731 317, er' P "plain" 739 324, er' P "closed" 748 331, er' P "closed_ref" 757 338, er' P "alloc" 766 345, er' P "wrong" 774 352, er' P "pop" 782 359, er' P "throw_new" 791 366, er' P "push_call" 801 373, er' P "__static_attributes__" 823 374, er' P "__dict__" 825 377, er' P "__weakref__" 827 378, es P "__doc__" 828 (.none)]
noncomputable def q376 : Obj := cL ⟨"Tray", [.type "object"], [.ref 376, .type "object"], 375, "Tray", true, [], [.ref 446], false, none, false⟩ [none, none, some (.str "Tray" 653), some (.str "Tray" 661), some (.builtin "object.__new__"), some (.bool true)]
noncomputable def q377 : Obj := ⟨.type "getset_descriptor", none, .fields #[.str "__dict__" 824, .ref 376, .builtin "function.__dict__", .builtin "function.__dict__#set"], #[]⟩
noncomputable def q378 : Obj := ⟨.type "getset_descriptor", none, .fields #[.str "__weakref__" 826, .ref 376, .builtin "ExceptionGroup.__weakref__", .none], #[]⟩
noncomputable def q379 : Obj := ⟨.type "super", none, .fields #[.ref 376, .ref 376, .ref 376], #[]⟩
noncomputable def q380 : Obj := ⟨.type "builtin_function_or_method", none, .fields #[.builtin "object.__init_subclass__", .ref 376], #[]⟩
noncomputable def q382 : Obj := ⟨.type "builtin_function_or_method", none, .fields #[.builtin "type.__prepare__", .type "type"], #[]⟩
noncomputable def q383 (P : Params) : Obj := dI 12 [es P "__module__" 838 (.str "framerune.mbase" 489), es P "__qualname__" 840 (.str "Shelf" 839), es P "__firstlineno__" 842 (.int (225) 841), er' P "__init__" 851 394, er' P "goes" 860 401, er' P "finalised" 868 408, er' P "alloc" 877 415, er' P "push_call" 887 422, er' P "text_of" 895 429, er' P "text_ref" 903 436, er' P "new_text" 911 443, er' P "__static_attributes__" 945 444]
noncomputable def q385 : Obj := ⟨.none, none, .fields #[.int (227) 0, .int (4) 0, .ref 393, .int (262) 0, .int (4) 0, .ref 400, .int (265) 0, .int (4) 0, .ref 407, .int (268) 0, .int (4) 0, .ref 414, .int (271) 0, .int (4) 0, .ref 421, .int (274) 0, .int (4) 0, .ref 428, .int (277) 0, .int (4) 0, .ref 435, .int (280) 0, .int (4) 0, .ref 442], #[]⟩
noncomputable def q386 : Obj := cD [.str "Shelf" 833, .str "Shelf" 834, .str "/claim/cut.py" 835, .int (225) 0, .int (0) 0, .int (0) 0, .int (0) 0, .int (0) 0, .ref 384, .bool false, .int (181) 0, .ref 385, .none, .none, .none, .none, .int (836) 0, .int (225) 0, .str "/claim/cut.py" 837]
noncomputable def q387 : Obj := ⟨.type "frame", none, .plain, #[some (.ref 386), some (.ref 3), some (.ref 383), none, some (.str "framerune.mbase" 489), none, some (.ref 0)]⟩
noncomputable def q390 : Obj := tP [.str "self" 846, .str "store" 847, .str "heap" 848]
noncomputable def q393 : Obj := cD [.str "__init__" 843, .str "Shelf.__init__" 844, .str "/claim/cut.py" 845, .int (227) 0, .int (3) 0, .int (0) 0, .int (0) 0, .int (3) 0, .ref 388, .bool true, .int (181) 0, .ref 389, .none, .ref 390, .ref 391, .ref 392, .int (849) 0, .int (227) 0, .str "/claim/cut.py" 850]
noncomputable def q394 : Obj := fN (sB 67 0) "Shelf.__init__" (.none) (.none) (.none) (.str "framerune.mbase" 489) none (.ref 393) (.none)
noncomputable def q400 : Obj := cD [.str "goes" 852, .str "Shelf.goes" 853, .str "/claim/cut.py" 854, .int (262) 0, .int (3) 0, .int (0) 0, .int (0) 0, .int (3) 0, .ref 395, .bool true, .int (181) 0, .ref 396, .none, .ref 397, .ref 398, .ref 399, .int (858) 0, .int (262) 0, .str "/claim/cut.py" 859]
noncomputable def q401 : Obj := fN (sB 67 1) "Shelf.goes" (.none) (.none) (.none) (.str "framerune.mbase" 489) none (.ref 400) (.none)
noncomputable def q407 : Obj := cD [.str "finalised" 861, .str "Shelf.finalised" 862, .str "/claim/cut.py" 863, .int (265) 0, .int (2) 0, .int (0) 0, .int (0) 0, .int (3) 0, .ref 402, .bool true, .int (181) 0, .ref 403, .none, .ref 404, .ref 405, .ref 406, .int (866) 0, .int (265) 0, .str "/claim/cut.py" 867]
noncomputable def q408 : Obj := fN (sB 67 2) "Shelf.finalised" (.none) (.none) (.none) (.str "framerune.mbase" 489) none (.ref 407) (.none)
noncomputable def q411 : Obj := tP [.str "self" 872, .str "kind" 873, .str "count" 874]
noncomputable def q414 : Obj := cD [.str "alloc" 869, .str "Shelf.alloc" 870, .str "/claim/cut.py" 871, .int (268) 0, .int (3) 0, .int (0) 0, .int (0) 0, .int (3) 0, .ref 409, .bool true, .int (181) 0, .ref 410, .none, .ref 411, .ref 412, .ref 413, .int (875) 0, .int (268) 0, .str "/claim/cut.py" 876]
noncomputable def q415 : Obj := fN (sB 67 3) "Shelf.alloc" (.none) (.none) (.none) (.str "framerune.mbase" 489) none (.ref 414) (.none)
noncomputable def q418 : Obj := tP [.str "self" 881, .str "mref" 882, .str "args" 883, .str "sort" 884]
noncomputable def q421 : Obj := cD [.str "push_call" 878, .str "Shelf.push_call" 879, .str "/claim/cut.py" 880, .int (271) 0, .int (4) 0, .int (0) 0, .int (0) 0, .int (3) 0, .ref 416, .bool true, .int (181) 0, .ref 417, .none, .ref 418, .ref 419, .ref 420, .int (885) 0, .int (271) 0, .str "/claim/cut.py" 886]
noncomputable def q422 : Obj := fN (sB 67 4) "Shelf.push_call" (.none) (.none) (.none) (.str "framerune.mbase" 489) none (.ref 421) (.none)
noncomputable def q428 : Obj := cD [.str "text_of" 888, .str "Shelf.text_of" 889, .str "/claim/cut.py" 890, .int (274) 0, .int (2) 0, .int (0) 0, .int (0) 0, .int (3) 0, .ref 423, .bool true, .int (181) 0, .ref 424, .none, .ref 425, .ref 426, .ref 427, .int (893) 0, .int (274) 0, .str "/claim/cut.py" 894]
noncomputable def q429 : Obj := fN (sB 67 5) "Shelf.text_of" (.none) (.none) (.none) (.str "framerune.mbase" 489) none (.ref 428) (.none)
noncomputable def q435 : Obj := cD [.str "text_ref" 896, .str "Shelf.text_ref" 897, .str "/claim/cut.py" 898, .int (277) 0, .int (2) 0, .int (0) 0, .int (0) 0, .int (3) 0, .ref 430, .bool true, .int (181) 0, .ref 431, .none, .ref 432, .ref 433, .ref 434, .int (901) 0, .int (277) 0, .str "/claim/cut.py" 902]
noncomputable def q436 : Obj := fN (sB 67 6) "Shelf.text_ref" (.none) (.none) (.none) (.str "framerune.mbase" 489) none (.ref 435) (.none)
noncomputable def q442 : Obj := cD [.str "new_text" 904, .str "Shelf.new_text" 905, .str "/claim/cut.py" 906, .int (280) 0, .int (2) 0, .int (0) 0, .int (0) 0, .int (3) 0, .ref 437, .bool true, .int (181) 0, .ref 438, .none, .ref 439, .ref 440, .ref 441, .int (909) 0, .int (280) 0, .str "/claim/cut.py" 910]
noncomputable def q443 : Obj := fN (sB 67 7) "Shelf.new_text" (.none) (.none) (.none) (.str "framerune.mbase" 489) none (.ref 442) (.none)
noncomputable def q444 : Obj := tP [.str "by_number" 912, .str "calls" 913, .str "chases" 914, .str "closer" 915, .str "defaults" 916, .str "fails" 917, .str "finals" 918, .str "frames" 919, .str "handles" 920, .str "heap" 921, .str "held" 922, .str "inits" 923, .str "interned" 924, .str "internv" 925, .str "kin" 926, .str "kt" 927, .str "last" 928, .str "natives" 929, .str "ops" 930, .str "places" 931, .str "pushed" 932, .str "result" 933, .str "rows" 934, .str "starter" 935, .str "state" 936, .str "statics" 937, .str "store" 938, .str "sweeper" 939, .str "targets" 940, .str "thrown" 941, .str "told" 942, .str "unders" 943, .str "unhandled" 944]
noncomputable def q445 (P : Params) : Obj := dI 2 [es P "__module__" 838 (.str "framerune.mbase" 489), es P "__firstlineno__" 842 (.int (225) 841), er' P "__init__" 851 394, er' P "goes" 860 401, er' P "finalised" 868 408, er' P "alloc" 877 415, er' P "push_call" 887 422, er' P "text_of" 895 429, er' P "text_ref" 903 436, er' P "new_text" 911 443, er' P "__static_attributes__" 945 444, es P "__doc__" 946 (.none)]
noncomputable def q446 : Obj := cL ⟨"Shelf", [.ref 376], [.ref 446, .ref 376, .type "object"], 445, "Shelf", true, [], [], false, none, false⟩ [some (.ref 381), none, some (.str "Shelf" 831), some (.str "Shelf" 839), some (.builtin "object.__new__"), some (.bool true)]
noncomputable def q447 : Obj := ⟨.type "super", none, .fields #[.ref 446, .ref 446, .ref 446], #[]⟩
noncomputable def q448 : Obj := ⟨.type "builtin_function_or_method", none, .fields #[.builtin "object.__init_subclass__", .ref 446], #[]⟩
noncomputable def q454 : Obj := cD [.str "note_thrown" 949, .str "note_thrown" 950, .str "/claim/cut.py" 951, .int (282) 0, .int (2) 0, .int (0) 0, .int (0) 0, .int (3) 0, .ref 449, .bool true, .int (181) 0, .ref 450, .none, .ref 451, .ref 452, .ref 453, .int (954) 0, .int (282) 0, .str "/claim/cut.py" 955]
noncomputable def q455 : Obj := fN (sA 68) "note_thrown" (.none) (.none) (.none) (.str "framerune.mbase" 489) none (.ref 454) (.none)
noncomputable def q461 : Obj := cD [.str "told_row" 957, .str "told_row" 958, .str "/claim/cut.py" 959, .int (286) 0, .int (2) 0, .int (0) 0, .int (0) 0, .int (3) 0, .ref 456, .bool true, .int (181) 0, .ref 457, .none, .ref 458, .ref 459, .ref 460, .int (963) 0, .int (286) 0, .str "/claim/cut.py" 964]
noncomputable def q462 : Obj := fN (sA 69) "told_row" (.none) (.none) (.none) (.str "framerune.mbase" 489) none (.ref 461) (.none)
noncomputable def q465 : Obj := tP [.str "m" 969, .str "k" 970, .str "found" 971]
noncomputable def q468 : Obj := cD [.str "told_default" 966, .str "told_default" 967, .str "/claim/cut.py" 968, .int (291) 0, .int (2) 0, .int (0) 0, .int (0) 0, .int (3) 0, .ref 463, .bool true, .int (181) 0, .ref 464, .none, .ref 465, .ref 466, .ref 467, .int (972) 0, .int (291) 0, .str "/claim/cut.py" 973]
noncomputable def q469 : Obj := fN (sA 70) "told_default" (.none) (.none) (.none) (.str "framerune.mbase" 489) none (.ref 468) (.none)
noncomputable def q3_3 (P : Params) : Obj := dI 141 (es P "__name__" 165 (.str "law_xm0336_01" 1454) :: es P "__doc__" 166 (.none) :: es P "__package__" 167 (.none) :: es P "__loader__" 168 (.builtin "__main__.__loader__#opaque") :: es P "__spec__" 169 (.none) :: er' P "__annotations__" 170 6 :: er' P "__builtins__" 171 4 :: es P "__file__" 173 (.str "/claim/cut.py" 172) :: es P "__cached__" 174 (.none) :: er' P "_wall" 193 21 :: es P "VOID" 197 (.int (0) 196) :: es P "BOOL" 199 (.int (1) 198) :: es P "CHAR" 201 (.int (2) 200) :: es P "I1" 203 (.int (3) 202) :: es P "U1" 205 (.int (4) 204) :: es P "I2" 207 (.int (5) 206) :: es P "U2" 209 (.int (6) 208) :: es P "I4" 211 (.int (7) 210) :: es P "U4" 213 (.int (8) 212) :: es P "I8" 215 (.int (9) 214) :: es P "U8" 217 (.int (10) 216) :: es P "NINT" 219 (.int (11) 218) :: es P "OBJECT" 221 (.int (12) 220) :: es P "STRING" 223 (.int (13) 222) :: es P "R_PRIM" 225 (.int (1) 224) :: es P "R_CLASS" 227 (.int (2) 226) :: es P "R_VALUE" 229 (.int (3) 228) :: es P "R_ARRAY" 231 (.int (4) 230) :: es P "R_BYREF" 233 (.int (5) 232) :: es P "R_BOXED" 235 (.int (8) 234) :: es P "R_ROREF" 237 (.int (9) 236) :: er' P "PRIM_TID" 266 22 :: es P "ARRAY_TID" 268 (.int (5) 267) :: er' P "kind_sort" 276 29 :: er' P "elem_of" 285 36 :: er' P "tid_of" 294 43 :: er' P "is_value" 302 50 :: es P "T_NULLREF" 304 (.int (21) 303) :: es P "T_INDEX" 306 (.int (22) 305) :: es P "T_OOM" 308 (.int (30) 307) :: es P "T_ARG" 310 (.int (31) 309) :: es P "T_ARGRANGE" 312 (.int (32) 311) :: es P "V_I4" 316 (.int (1) 315) :: es P "V_I8" 318 (.int (2) 317) :: es P "V_NINT" 320 (.int (3) 319) :: es P "V_REF" 322 (.int (4) 321) :: es P "V_TEXT" 324 (.int (8) 323) :: er' P "NULLV" 327 51 :: er' P "wrap_bits" 335 58 :: er' P "wrap32" 342 65 :: er' P "plain_default" 349 72 :: es P "W_KIND" 351 (.int (5) 350) :: es P "FIRST_ADDRESS" 355 (.int (16) 354) :: es P "HEAD_WORDS" 357 (.int (2) 356) :: es P "LEAST_SIZE" 359 (.int (3) 358) :: er' P "words_for" 366 79 :: er' P "Thing" 402 96 :: er' P "Heap" 443 117 :: er' P "heap_alloc" 453 128 :: er' P "PlaceHost" 488 145 :: es P "JP_STAY" 493 (.int (-2) 492) :: es P "ST_RUN" 495 (.int (0) 494) :: es P "ST_WRONG" 497 (.int (3) 496) :: es P "NT_VOID" 500 (.int (-1) 499) :: es P "NT_STAY" 503 (.int (-2) 502) :: es P "TEXT_NULL" 505 (.str "Object reference not set to an instance of an object." 504) :: er' P "Native" 535 166 :: er' P "Starter" 584 201 :: er' P "Sweeper" 612 222 :: er' P "KindCloser" 652 250 :: er' P "Tray" 830 376 :: er' P "Shelf" 948 446 :: er' P "note_thrown" 956 455 :: er' P "told_row" 965 462 :: er' P "told_default" 974 469 :: er' P "tell_wrong" 985 476 :: er' P "first_slots" 997 483 :: er' P "alloc_thing" 1006 490 :: er' P "text_held" 1015 497 :: er' P "made_text" 1024 504 :: er' P "interned_text" 1034 511 :: es P "N_CONCAT" 1038 (.int (1) 1037) :: es P "N_STR_LENGTH" 1040 (.int (2) 1039) :: es P "N_STR_CHARS" 1042 (.int (3) 1041) :: es P "N_STR_EQ" 1044 (.int (4) 1043) :: es P "N_STR_EQUALS" 1046 (.int (5) 1045) :: es P "N_STR_HASH" 1048 (.int (6) 1047) :: es P "N_SUBSTRING" 1050 (.int (7) 1049) :: es P "N_INDEXOF" 1052 (.int (8) 1051) :: es P "N_STR_COMPARE" 1054 (.int (9) 1053) :: es P "MOST_UNITS" 1056 (.int (1048576) 1055) :: es P "LONG_TEXT" 1058 (.str "Insufficient memory to continue the execution of the program." 1057) :: es P "EMPTY_RANGE" 1060 (.str "Index and length must refer to a location within the string." 1059) :: er' P "bool_value" 1067 518 :: er' P "thing_named" 1075 525 :: er' P "text_at" 1083 532 :: er' P "no_object" 1090 539 :: er' P "bad_argument" 1099 546 :: er' P "text_hash" 1108 553 :: er' P "TextConcat" 1136 570 :: er' P "TextLength" 1163 589 :: er' P "TextChars" 1191 608 :: er' P "TextSame" 1219 627 :: er' P "TextEquals" 1247 646 :: er' P "TextHash" 1274 665 :: er' P "TextPart" 1303 684 :: er' P "TextIndex" 1331 703 :: er' P "TextCompare" 1359 722 :: er' P "install_native_text" 1366 731 :: er' P "BareHost" 1453 790 :: es P "_law_most" 1457 (.int (1048576) 1456) :: er' P "_law_units" 1462 795 :: er' P "_law_shorts" 1473 801 :: er' P "_law_joins" 1518 824 :: er' P "_law_looks" 1537 831 :: er' P "_law_text" 1547 838 :: er' P "_law_long" 1553 843 :: er' P "_law_glue" 1563 850 :: er' P "_law_cut" 1575 857 :: er' P "_law_unit" 1585 864 :: er' P "_law_order" 1598 871 :: er' P "_law_seek" 1610 878 :: er' P "_law_bool" 1617 885 :: er' P "_law_lay" 1626 892 :: er' P "_law_call" 1636 899 :: er' P "_law_still" 1644 906 :: er' P "_law_refused" 1655 913 :: er' P "_law_holds" 1669 920 :: er' P "_law_new" 1680 927 :: er' P "_law_void" 1688 934 :: er' P "_law_join" 1700 941 :: er' P "_law_part" 1714 948 :: er' P "_law_letter" 1725 955 :: er' P "_law_look" 1745 962 :: er' P "_law_idle" 1752 969 :: er' P "_law_scene" 1764 976 :: er' P "_law_step" 1778 983 :: er' P "_law_border" 1789 990 :: er' P "_law_fixed" 1799 997 :: er' P "_law_stand" 1808 1004 :: er' P "law" 1814 1009 :: [])
noncomputable def q12_2 : Obj := ⟨.none, none, .fields #[.int (1) 0, .int (0) 0, .ref 20, .int (28) 0, .int (0) 0, .ref 28, .int (30) 0, .int (0) 0, .ref 35, .int (35) 0, .int (0) 0, .ref 42, .int (44) 0, .int (0) 0, .ref 49, .int (60) 0, .int (0) 0, .ref 57, .int (65) 0, .int (0) 0, .ref 64, .int (67) 0, .int (0) 0, .ref 71, .int (80) 0, .int (0) 0, .ref 78, .int (84) 0, .int (0) 0, .ref 85, .int (93) 0, .int (0) 0, .ref 106, .int (108) 0, .int (0) 0, .ref 127, .int (118) 0, .int (0) 0, .ref 134, .int (131) 0, .int (0) 0, .ref 155, .int (135) 0, .int (0) 0, .ref 176, .int (145) 0, .int (0) 0, .ref 211, .int (149) 0, .int (0) 0, .ref 232, .int (156) 0, .int (0) 0, .ref 260, .int (225) 0, .int (0) 0, .ref 386, .int (282) 0, .int (0) 0, .ref 454, .int (286) 0, .int (0) 0, .ref 461, .int (291) 0, .int (0) 0, .ref 468, .int (296) 0, .int (0) 0, .ref 475, .int (307) 0, .int (0) 0, .ref 482, .int (322) 0, .int (0) 0, .ref 489, .int (325) 0, .int (0) 0, .ref 496, .int (331) 0, .int (0) 0, .ref 503, .int (335) 0, .int (0) 0, .ref 510, .int (356) 0, .int (0) 0, .ref 517, .int (360) 0, .int (0) 0, .ref 524, .int (362) 0, .int (0) 0, .ref 531, .int (366) 0, .int (0) 0, .ref 538, .int (369) 0, .int (0) 0, .ref 545, .int (372) 0, .int (0) 0, .ref 552, .int (377) 0, .int (0) 0, .ref 559, .int (391) 0, .int (0) 0, .ref 578, .int (398) 0, .int (0) 0, .ref 597, .int (408) 0, .int (0) 0, .ref 616, .int (416) 0, .int (0) 0, .ref 635, .int (426) 0, .int (0) 0, .ref 654, .int (433) 0, .int (0) 0, .ref 673, .int (448) 0, .int (0) 0, .ref 692, .int (458) 0, .int (0) 0, .ref 711, .int (470) 0, .int (0) 0, .ref 730, .int (481) 0, .int (0) 0, .ref 737, .int (517) 0, .int (0) 0, .ref 837, .int (522) 0, .int (0) 0, .ref 842, .int (524) 0, .int (0) 0, .ref 849, .int (532) 0, .int (0) 0, .ref 856, .int (538) 0, .int (0) 0, .ref 863, .int (544) 0, .int (0) 0, .ref 870, .int (568) 0, .int (0) 0, .ref 877, .int (575) 0, .int (0) 0, .ref 884, .int (579) 0, .int (0) 0, .ref 891, .int (582) 0, .int (0) 0, .ref 898, .int (586) 0, .int (0) 0, .ref 905, .int (589) 0, .int (0) 0, .ref 912, .int (594) 0, .int (0) 0, .ref 919, .int (608) 0, .int (0) 0, .ref 926, .int (617) 0, .int (0) 0, .ref 933, .int (624) 0, .int (0) 0, .ref 940, .int (637) 0, .int (0) 0, .ref 947, .int (647) 0, .int (0) 0, .ref 954, .int (652) 0, .int (0) 0, .ref 961, .int (677) 0, .int (0) 0, .ref 968, .int (679) 0, .int (0) 0, .ref 975, .int (687) 0, .int (0) 0, .ref 982, .int (701) 0, .int (0) 0, .ref 989, .int (713) 0, .int (0) 0, .ref 996, .int (722) 0, .int (0) 0, .ref 1003, .int (727) 0, .int (0) 0, .ref 1008], #[]⟩
noncomputable def q166_1 : Obj := cL ⟨"Native", [.type "object"], [.ref 166, .type "object"], 165, "Native", true, [], [.ref 570, .ref 589, .ref 608, .ref 627, .ref 646, .ref 665, .ref 684, .ref 703, .ref 722], false, none, false⟩ [none, none, some (.str "Native" 506), some (.str "Native" 514), some (.builtin "object.__new__"), some (.bool true)]
noncomputable def q472 : Obj := tP [.str "m" 978, .str "code" 979, .str "mid" 980, .str "ip" 981, .str "f" 982]
noncomputable def q475 : Obj := cD [.str "tell_wrong" 975, .str "tell_wrong" 976, .str "/claim/cut.py" 977, .int (296) 0, .int (2) 0, .int (0) 0, .int (0) 0, .int (3) 0, .ref 470, .bool true, .int (181) 0, .ref 471, .none, .ref 472, .ref 473, .ref 474, .int (983) 0, .int (296) 0, .str "/claim/cut.py" 984]
noncomputable def q476 : Obj := fN (sA 71) "tell_wrong" (.none) (.none) (.none) (.str "framerune.mbase" 489) none (.ref 475) (.none)
noncomputable def q479 : Obj := tP [.str "m" 989, .str "kind" 990, .str "count" 991, .str "sort" 992, .str "out" 993, .str "k" 994]
noncomputable def q482 : Obj := cD [.str "first_slots" 986, .str "first_slots" 987, .str "/claim/cut.py" 988, .int (307) 0, .int (3) 0, .int (0) 0, .int (0) 0, .int (3) 0, .ref 477, .bool true, .int (181) 0, .ref 478, .none, .ref 479, .ref 480, .ref 481, .int (995) 0, .int (307) 0, .str "/claim/cut.py" 996]
noncomputable def q483 : Obj := fN (sA 72) "first_slots" (.none) (.none) (.none) (.str "framerune.mbase" 489) none (.ref 482) (.none)
noncomputable def q486 : Obj := tP [.str "m" 1001, .str "kind" 1002, .str "count" 1003]
noncomputable def q489 : Obj := cD [.str "alloc_thing" 998, .str "alloc_thing" 999, .str "/claim/cut.py" 1000, .int (322) 0, .int (3) 0, .int (0) 0, .int (0) 0, .int (3) 0, .ref 484, .bool true, .int (181) 0, .ref 485, .none, .ref 486, .ref 487, .ref 488, .int (1004) 0, .int (322) 0, .str "/claim/cut.py" 1005]
noncomputable def q490 : Obj := fN (sA 73) "alloc_thing" (.none) (.none) (.none) (.str "framerune.mbase" 489) none (.ref 489) (.none)
noncomputable def q493 : Obj := tP [.str "m" 1010, .str "addr" 1011, .str "thing" 1012]
noncomputable def q496 : Obj := cD [.str "text_held" 1007, .str "text_held" 1008, .str "/claim/cut.py" 1009, .int (325) 0, .int (2) 0, .int (0) 0, .int (0) 0, .int (3) 0, .ref 491, .bool true, .int (181) 0, .ref 492, .none, .ref 493, .ref 494, .ref 495, .int (1013) 0, .int (325) 0, .str "/claim/cut.py" 1014]
noncomputable def q497 : Obj := fN (sA 74) "text_held" (.none) (.none) (.none) (.str "framerune.mbase" 489) none (.ref 496) (.none)
noncomputable def q500 : Obj := tP [.str "m" 1019, .str "text" 1020, .str "thing" 1021]
noncomputable def q503 : Obj := cD [.str "made_text" 1016, .str "made_text" 1017, .str "/claim/cut.py" 1018, .int (331) 0, .int (2) 0, .int (0) 0, .int (0) 0, .int (3) 0, .ref 498, .bool true, .int (181) 0, .ref 499, .none, .ref 500, .ref 501, .ref 502, .int (1022) 0, .int (331) 0, .str "/claim/cut.py" 1023]
noncomputable def q504 : Obj := fN (sA 75) "made_text" (.none) (.none) (.none) (.str "framerune.mbase" 489) none (.ref 503) (.none)
noncomputable def q507 : Obj := tP [.str "m" 1028, .str "text" 1029, .str "place" 1030, .str "value" 1031]
noncomputable def q510 : Obj := cD [.str "interned_text" 1025, .str "interned_text" 1026, .str "/claim/cut.py" 1027, .int (335) 0, .int (2) 0, .int (0) 0, .int (0) 0, .int (3) 0, .ref 505, .bool true, .int (181) 0, .ref 506, .none, .ref 507, .ref 508, .ref 509, .int (1032) 0, .int (335) 0, .str "/claim/cut.py" 1033]
noncomputable def q511 : Obj := fN (sA 76) "interned_text" (.none) (.none) (.none) (.str "framerune.mbase" 489) none (.ref 510) (.none)
noncomputable def q517 : Obj := cD [.str "bool_value" 1061, .str "bool_value" 1062, .str "/claim/cut.py" 1063, .int (356) 0, .int (1) 0, .int (0) 0, .int (0) 0, .int (3) 0, .ref 512, .bool true, .int (181) 0, .ref 513, .none, .ref 514, .ref 515, .ref 516, .int (1065) 0, .int (356) 0, .str "/claim/cut.py" 1066]
noncomputable def q518 : Obj := fN (sA 90) "bool_value" (.none) (.none) (.none) (.str "framerune.natives" 1035) none (.ref 517) (.none)
noncomputable def q524 : Obj := cD [.str "thing_named" 1068, .str "thing_named" 1069, .str "/claim/cut.py" 1070, .int (360) 0, .int (2) 0, .int (0) 0, .int (0) 0, .int (3) 0, .ref 519, .bool true, .int (181) 0, .ref 520, .none, .ref 521, .ref 522, .ref 523, .int (1073) 0, .int (360) 0, .str "/claim/cut.py" 1074]
noncomputable def q525 : Obj := fN (sA 91) "thing_named" (.none) (.none) (.none) (.str "framerune.natives" 1035) none (.ref 524) (.none)
noncomputable def q531 : Obj := cD [.str "text_at" 1076, .str "text_at" 1077, .str "/claim/cut.py" 1078, .int (362) 0, .int (2) 0, .int (0) 0, .int (0) 0, .int (3) 0, .ref 526, .bool true, .int (181) 0, .ref 527, .none, .ref 528, .ref 529, .ref 530, .int (1081) 0, .int (362) 0, .str "/claim/cut.py" 1082]
noncomputable def q532 : Obj := fN (sA 92) "text_at" (.none) (.none) (.none) (.str "framerune.natives" 1035) none (.ref 531) (.none)
noncomputable def q538 : Obj := cD [.str "no_object" 1084, .str "no_object" 1085, .str "/claim/cut.py" 1086, .int (366) 0, .int (1) 0, .int (0) 0, .int (0) 0, .int (3) 0, .ref 533, .bool true, .int (181) 0, .ref 534, .none, .ref 535, .ref 536, .ref 537, .int (1088) 0, .int (366) 0, .str "/claim/cut.py" 1089]
noncomputable def q539 : Obj := fN (sA 93) "no_object" (.none) (.none) (.none) (.str "framerune.natives" 1035) none (.ref 538) (.none)
noncomputable def q542 : Obj := tP [.str "m" 1094, .str "tid" 1095, .str "text" 1096]
noncomputable def q545 : Obj := cD [.str "bad_argument" 1091, .str "bad_argument" 1092, .str "/claim/cut.py" 1093, .int (369) 0, .int (3) 0, .int (0) 0, .int (0) 0, .int (3) 0, .ref 540, .bool true, .int (181) 0, .ref 541, .none, .ref 542, .ref 543, .ref 544, .int (1097) 0, .int (369) 0, .str "/claim/cut.py" 1098]
noncomputable def q546 : Obj := fN (sA 94) "bad_argument" (.none) (.none) (.none) (.str "framerune.natives" 1035) none (.ref 545) (.none)
noncomputable def q549 : Obj := tP [.str "text" 1103, .str "h" 1104, .str "letter" 1105]
noncomputable def q552 : Obj := cD [.str "text_hash" 1100, .str "text_hash" 1101, .str "/claim/cut.py" 1102, .int (372) 0, .int (1) 0, .int (0) 0, .int (0) 0, .int (3) 0, .ref 547, .bool true, .int (181) 0, .ref 548, .none, .ref 549, .ref 550, .ref 551, .int (1106) 0, .int (372) 0, .str "/claim/cut.py" 1107]
noncomputable def q553 : Obj := fN (sA 95) "text_hash" (.none) (.none) (.none) (.str "framerune.natives" 1035) none (.ref 552) (.none)
noncomputable def q555 : Obj := ⟨.type "builtin_function_or_method", none, .fields #[.builtin "type.__prepare__", .type "type"], #[]⟩
noncomputable def q556 (P : Params) : Obj := dI 5 [es P "__module__" 1116 (.str "framerune.natives" 1035), es P "__qualname__" 1118 (.str "TextConcat" 1117), es P "__firstlineno__" 1120 (.int (377) 1119), er' P "call" 1132 567, er' P "__static_attributes__" 1133 568]
noncomputable def q558 : Obj := ⟨.none, none, .fields #[.int (379) 0, .int (4) 0, .ref 566], #[]⟩
noncomputable def q559 : Obj := cD [.str "TextConcat" 1111, .str "TextConcat" 1112, .str "/claim/cut.py" 1113, .int (377) 0, .int (0) 0, .int (0) 0, .int (0) 0, .int (0) 0, .ref 557, .bool false, .int (181) 0, .ref 558, .none, .none, .none, .none, .int (1114) 0, .int (377) 0, .str "/claim/cut.py" 1115]
noncomputable def q560 : Obj := ⟨.type "frame", none, .plain, #[some (.ref 559), some (.ref 3), some (.ref 556), none, some (.str "framerune.natives" 1035), none, some (.ref 0)]⟩
noncomputable def q563 : Obj := tP [.str "self" 1124, .str "m" 1125, .str "f" 1126, .str "args" 1127, .str "a" 1128, .str "b" 1129]
noncomputable def q566 : Obj := cD [.str "call" 1121, .str "TextConcat.call" 1122, .str "/claim/cut.py" 1123, .int (379) 0, .int (4) 0, .int (0) 0, .int (0) 0, .int (3) 0, .ref 561, .bool true, .int (181) 0, .ref 562, .none, .ref 563, .ref 564, .ref 565, .int (1130) 0, .int (379) 0, .str "/claim/cut.py" 1131]
noncomputable def q567 : Obj := fN (sB 96 0) "TextConcat.call" (.none) (.none) (.none) (.str "framerune.natives" 1035) none (.ref 566) (.none)
noncomputable def q569 (P : Params) : Obj := dI 2 [es P "__module__" 1116 (.str "framerune.natives" 1035), es P "__firstlineno__" 1120 (.int (377) 1119), er' P "call" 1132 567, er' P "__static_attributes__" 1133 568, es P "__doc__" 1134 (.none)]
noncomputable def q570 : Obj := cL ⟨"TextConcat", [.ref 166], [.ref 570, .ref 166, .type "object"], 569, "TextConcat", true, [], [], false, none, false⟩ [some (.ref 554), none, some (.str "TextConcat" 1109), some (.str "TextConcat" 1117), some (.builtin "object.__new__"), some (.bool true)]
noncomputable def q571 : Obj := ⟨.type "super", none, .fields #[.ref 570, .ref 570, .ref 570], #[]⟩
noncomputable def q572 : Obj := ⟨.type "builtin_function_or_method", none, .fields #[.builtin "object.__init_subclass__", .ref 570], #[]⟩
noncomputable def q574 : Obj := ⟨.type "builtin_function_or_method", none, .fields #[.builtin "type.__prepare__", .type "type"], #[]⟩
noncomputable def q575 (P : Params) : Obj := dI 5 [es P "__module__" 1144 (.str "framerune.natives" 1035), es P "__qualname__" 1146 (.str "TextLength" 1145), es P "__firstlineno__" 1148 (.int (391) 1147), er' P "call" 1159 586, er' P "__static_attributes__" 1160 587]
noncomputable def q577 : Obj := ⟨.none, none, .fields #[.int (393) 0, .int (4) 0, .ref 585], #[]⟩
noncomputable def q578 : Obj := cD [.str "TextLength" 1139, .str "TextLength" 1140, .str "/claim/cut.py" 1141, .int (391) 0, .int (0) 0, .int (0) 0, .int (0) 0, .int (0) 0, .ref 576, .bool false, .int (181) 0, .ref 577, .none, .none, .none, .none, .int (1142) 0, .int (391) 0, .str "/claim/cut.py" 1143]
noncomputable def q579 : Obj := ⟨.type "frame", none, .plain, #[some (.ref 578), some (.ref 3), some (.ref 575), none, some (.str "framerune.natives" 1035), none, some (.ref 0)]⟩
noncomputable def q582 : Obj := tP [.str "self" 1152, .str "m" 1153, .str "f" 1154, .str "args" 1155, .str "text" 1156]
noncomputable def q585 : Obj := cD [.str "call" 1149, .str "TextLength.call" 1150, .str "/claim/cut.py" 1151, .int (393) 0, .int (4) 0, .int (0) 0, .int (0) 0, .int (3) 0, .ref 580, .bool true, .int (181) 0, .ref 581, .none, .ref 582, .ref 583, .ref 584, .int (1157) 0, .int (393) 0, .str "/claim/cut.py" 1158]
noncomputable def q586 : Obj := fN (sB 97 0) "TextLength.call" (.none) (.none) (.none) (.str "framerune.natives" 1035) none (.ref 585) (.none)
noncomputable def q588 (P : Params) : Obj := dI 2 [es P "__module__" 1144 (.str "framerune.natives" 1035), es P "__firstlineno__" 1148 (.int (391) 1147), er' P "call" 1159 586, er' P "__static_attributes__" 1160 587, es P "__doc__" 1161 (.none)]
noncomputable def q589 : Obj := cL ⟨"TextLength", [.ref 166], [.ref 589, .ref 166, .type "object"], 588, "TextLength", true, [], [], false, none, false⟩ [some (.ref 573), none, some (.str "TextLength" 1137), some (.str "TextLength" 1145), some (.builtin "object.__new__"), some (.bool true)]
noncomputable def q590 : Obj := ⟨.type "super", none, .fields #[.ref 589, .ref 589, .ref 589], #[]⟩
noncomputable def q591 : Obj := ⟨.type "builtin_function_or_method", none, .fields #[.builtin "object.__init_subclass__", .ref 589], #[]⟩
noncomputable def q593 : Obj := ⟨.type "builtin_function_or_method", none, .fields #[.builtin "type.__prepare__", .type "type"], #[]⟩
noncomputable def q594 (P : Params) : Obj := dI 5 [es P "__module__" 1171 (.str "framerune.natives" 1035), es P "__qualname__" 1173 (.str "TextChars" 1172), es P "__firstlineno__" 1175 (.int (398) 1174), er' P "call" 1187 605, er' P "__static_attributes__" 1188 606]
noncomputable def q596 : Obj := ⟨.none, none, .fields #[.int (400) 0, .int (4) 0, .ref 604], #[]⟩
noncomputable def q597 : Obj := cD [.str "TextChars" 1166, .str "TextChars" 1167, .str "/claim/cut.py" 1168, .int (398) 0, .int (0) 0, .int (0) 0, .int (0) 0, .int (0) 0, .ref 595, .bool false, .int (181) 0, .ref 596, .none, .none, .none, .none, .int (1169) 0, .int (398) 0, .str "/claim/cut.py" 1170]
noncomputable def q598 : Obj := ⟨.type "frame", none, .plain, #[some (.ref 597), some (.ref 3), some (.ref 594), none, some (.str "framerune.natives" 1035), none, some (.ref 0)]⟩
noncomputable def q601 : Obj := tP [.str "self" 1179, .str "m" 1180, .str "f" 1181, .str "args" 1182, .str "text" 1183, .str "place" 1184]
noncomputable def q604 : Obj := cD [.str "call" 1176, .str "TextChars.call" 1177, .str "/claim/cut.py" 1178, .int (400) 0, .int (4) 0, .int (0) 0, .int (0) 0, .int (3) 0, .ref 599, .bool true, .int (181) 0, .ref 600, .none, .ref 601, .ref 602, .ref 603, .int (1185) 0, .int (400) 0, .str "/claim/cut.py" 1186]
noncomputable def q605 : Obj := fN (sB 98 0) "TextChars.call" (.none) (.none) (.none) (.str "framerune.natives" 1035) none (.ref 604) (.none)
noncomputable def q607 (P : Params) : Obj := dI 2 [es P "__module__" 1171 (.str "framerune.natives" 1035), es P "__firstlineno__" 1175 (.int (398) 1174), er' P "call" 1187 605, er' P "__static_attributes__" 1188 606, es P "__doc__" 1189 (.none)]
noncomputable def q608 : Obj := cL ⟨"TextChars", [.ref 166], [.ref 608, .ref 166, .type "object"], 607, "TextChars", true, [], [], false, none, false⟩ [some (.ref 592), none, some (.str "TextChars" 1164), some (.str "TextChars" 1172), some (.builtin "object.__new__"), some (.bool true)]
noncomputable def q609 : Obj := ⟨.type "super", none, .fields #[.ref 608, .ref 608, .ref 608], #[]⟩
noncomputable def q610 : Obj := ⟨.type "builtin_function_or_method", none, .fields #[.builtin "object.__init_subclass__", .ref 608], #[]⟩
noncomputable def q612 : Obj := ⟨.type "builtin_function_or_method", none, .fields #[.builtin "type.__prepare__", .type "type"], #[]⟩
noncomputable def q613 (P : Params) : Obj := dI 5 [es P "__module__" 1199 (.str "framerune.natives" 1035), es P "__qualname__" 1201 (.str "TextSame" 1200), es P "__firstlineno__" 1203 (.int (408) 1202), er' P "call" 1215 624, er' P "__static_attributes__" 1216 625]
noncomputable def q615 : Obj := ⟨.none, none, .fields #[.int (410) 0, .int (4) 0, .ref 623], #[]⟩
noncomputable def q616 : Obj := cD [.str "TextSame" 1194, .str "TextSame" 1195, .str "/claim/cut.py" 1196, .int (408) 0, .int (0) 0, .int (0) 0, .int (0) 0, .int (0) 0, .ref 614, .bool false, .int (181) 0, .ref 615, .none, .none, .none, .none, .int (1197) 0, .int (408) 0, .str "/claim/cut.py" 1198]
noncomputable def q617 : Obj := ⟨.type "frame", none, .plain, #[some (.ref 616), some (.ref 3), some (.ref 613), none, some (.str "framerune.natives" 1035), none, some (.ref 0)]⟩
noncomputable def q620 : Obj := tP [.str "self" 1207, .str "m" 1208, .str "f" 1209, .str "args" 1210, .str "a" 1211, .str "b" 1212]
noncomputable def q623 : Obj := cD [.str "call" 1204, .str "TextSame.call" 1205, .str "/claim/cut.py" 1206, .int (410) 0, .int (4) 0, .int (0) 0, .int (0) 0, .int (3) 0, .ref 618, .bool true, .int (181) 0, .ref 619, .none, .ref 620, .ref 621, .ref 622, .int (1213) 0, .int (410) 0, .str "/claim/cut.py" 1214]
noncomputable def q624 : Obj := fN (sB 99 0) "TextSame.call" (.none) (.none) (.none) (.str "framerune.natives" 1035) none (.ref 623) (.none)
noncomputable def q626 (P : Params) : Obj := dI 2 [es P "__module__" 1199 (.str "framerune.natives" 1035), es P "__firstlineno__" 1203 (.int (408) 1202), er' P "call" 1215 624, er' P "__static_attributes__" 1216 625, es P "__doc__" 1217 (.none)]
noncomputable def q627 : Obj := cL ⟨"TextSame", [.ref 166], [.ref 627, .ref 166, .type "object"], 626, "TextSame", true, [], [], false, none, false⟩ [some (.ref 611), none, some (.str "TextSame" 1192), some (.str "TextSame" 1200), some (.builtin "object.__new__"), some (.bool true)]
noncomputable def q628 : Obj := ⟨.type "super", none, .fields #[.ref 627, .ref 627, .ref 627], #[]⟩
noncomputable def q629 : Obj := ⟨.type "builtin_function_or_method", none, .fields #[.builtin "object.__init_subclass__", .ref 627], #[]⟩
noncomputable def q631 : Obj := ⟨.type "builtin_function_or_method", none, .fields #[.builtin "type.__prepare__", .type "type"], #[]⟩
noncomputable def q632 (P : Params) : Obj := dI 5 [es P "__module__" 1227 (.str "framerune.natives" 1035), es P "__qualname__" 1229 (.str "TextEquals" 1228), es P "__firstlineno__" 1231 (.int (416) 1230), er' P "call" 1243 643, er' P "__static_attributes__" 1244 644]
noncomputable def q634 : Obj := ⟨.none, none, .fields #[.int (418) 0, .int (4) 0, .ref 642], #[]⟩
noncomputable def q635 : Obj := cD [.str "TextEquals" 1222, .str "TextEquals" 1223, .str "/claim/cut.py" 1224, .int (416) 0, .int (0) 0, .int (0) 0, .int (0) 0, .int (0) 0, .ref 633, .bool false, .int (181) 0, .ref 634, .none, .none, .none, .none, .int (1225) 0, .int (416) 0, .str "/claim/cut.py" 1226]
noncomputable def q636 : Obj := ⟨.type "frame", none, .plain, #[some (.ref 635), some (.ref 3), some (.ref 632), none, some (.str "framerune.natives" 1035), none, some (.ref 0)]⟩
noncomputable def q639 : Obj := tP [.str "self" 1235, .str "m" 1236, .str "f" 1237, .str "args" 1238, .str "text" 1239, .str "other" 1240]
noncomputable def q642 : Obj := cD [.str "call" 1232, .str "TextEquals.call" 1233, .str "/claim/cut.py" 1234, .int (418) 0, .int (4) 0, .int (0) 0, .int (0) 0, .int (3) 0, .ref 637, .bool true, .int (181) 0, .ref 638, .none, .ref 639, .ref 640, .ref 641, .int (1241) 0, .int (418) 0, .str "/claim/cut.py" 1242]
noncomputable def q643 : Obj := fN (sB 100 0) "TextEquals.call" (.none) (.none) (.none) (.str "framerune.natives" 1035) none (.ref 642) (.none)
noncomputable def q645 (P : Params) : Obj := dI 2 [es P "__module__" 1227 (.str "framerune.natives" 1035), es P "__firstlineno__" 1231 (.int (416) 1230), er' P "call" 1243 643, er' P "__static_attributes__" 1244 644, es P "__doc__" 1245 (.none)]
noncomputable def q646 : Obj := cL ⟨"TextEquals", [.ref 166], [.ref 646, .ref 166, .type "object"], 645, "TextEquals", true, [], [], false, none, false⟩ [some (.ref 630), none, some (.str "TextEquals" 1220), some (.str "TextEquals" 1228), some (.builtin "object.__new__"), some (.bool true)]
noncomputable def q647 : Obj := ⟨.type "super", none, .fields #[.ref 646, .ref 646, .ref 646], #[]⟩
noncomputable def q648 : Obj := ⟨.type "builtin_function_or_method", none, .fields #[.builtin "object.__init_subclass__", .ref 646], #[]⟩
noncomputable def q650 : Obj := ⟨.type "builtin_function_or_method", none, .fields #[.builtin "type.__prepare__", .type "type"], #[]⟩
noncomputable def q651 (P : Params) : Obj := dI 5 [es P "__module__" 1255 (.str "framerune.natives" 1035), es P "__qualname__" 1257 (.str "TextHash" 1256), es P "__firstlineno__" 1259 (.int (426) 1258), er' P "call" 1270 662, er' P "__static_attributes__" 1271 663]
noncomputable def q653 : Obj := ⟨.none, none, .fields #[.int (428) 0, .int (4) 0, .ref 661], #[]⟩
noncomputable def q654 : Obj := cD [.str "TextHash" 1250, .str "TextHash" 1251, .str "/claim/cut.py" 1252, .int (426) 0, .int (0) 0, .int (0) 0, .int (0) 0, .int (0) 0, .ref 652, .bool false, .int (181) 0, .ref 653, .none, .none, .none, .none, .int (1253) 0, .int (426) 0, .str "/claim/cut.py" 1254]
noncomputable def q655 : Obj := ⟨.type "frame", none, .plain, #[some (.ref 654), some (.ref 3), some (.ref 651), none, some (.str "framerune.natives" 1035), none, some (.ref 0)]⟩
noncomputable def q658 : Obj := tP [.str "self" 1263, .str "m" 1264, .str "f" 1265, .str "args" 1266, .str "text" 1267]
noncomputable def q661 : Obj := cD [.str "call" 1260, .str "TextHash.call" 1261, .str "/claim/cut.py" 1262, .int (428) 0, .int (4) 0, .int (0) 0, .int (0) 0, .int (3) 0, .ref 656, .bool true, .int (181) 0, .ref 657, .none, .ref 658, .ref 659, .ref 660, .int (1268) 0, .int (428) 0, .str "/claim/cut.py" 1269]
noncomputable def q662 : Obj := fN (sB 101 0) "TextHash.call" (.none) (.none) (.none) (.str "framerune.natives" 1035) none (.ref 661) (.none)
noncomputable def q664 (P : Params) : Obj := dI 2 [es P "__module__" 1255 (.str "framerune.natives" 1035), es P "__firstlineno__" 1259 (.int (426) 1258), er' P "call" 1270 662, er' P "__static_attributes__" 1271 663, es P "__doc__" 1272 (.none)]
noncomputable def q665 : Obj := cL ⟨"TextHash", [.ref 166], [.ref 665, .ref 166, .type "object"], 664, "TextHash", true, [], [], false, none, false⟩ [some (.ref 649), none, some (.str "TextHash" 1248), some (.str "TextHash" 1256), some (.builtin "object.__new__"), some (.bool true)]
noncomputable def q666 : Obj := ⟨.type "super", none, .fields #[.ref 665, .ref 665, .ref 665], #[]⟩
noncomputable def q667 : Obj := ⟨.type "builtin_function_or_method", none, .fields #[.builtin "object.__init_subclass__", .ref 665], #[]⟩
noncomputable def q669 : Obj := ⟨.type "builtin_function_or_method", none, .fields #[.builtin "type.__prepare__", .type "type"], #[]⟩
noncomputable def q670 (P : Params) : Obj := dI 5 [es P "__module__" 1282 (.str "framerune.natives" 1035), es P "__qualname__" 1284 (.str "TextPart" 1283), es P "__firstlineno__" 1286 (.int (433) 1285), er' P "call" 1299 681, er' P "__static_attributes__" 1300 682]
noncomputable def q672 : Obj := ⟨.none, none, .fields #[.int (435) 0, .int (4) 0, .ref 680], #[]⟩
noncomputable def q673 : Obj := cD [.str "TextPart" 1277, .str "TextPart" 1278, .str "/claim/cut.py" 1279, .int (433) 0, .int (0) 0, .int (0) 0, .int (0) 0, .int (0) 0, .ref 671, .bool false, .int (181) 0, .ref 672, .none, .none, .none, .none, .int (1280) 0, .int (433) 0, .str "/claim/cut.py" 1281]
noncomputable def q674 : Obj := ⟨.type "frame", none, .plain, #[some (.ref 673), some (.ref 3), some (.ref 670), none, some (.str "framerune.natives" 1035), none, some (.ref 0)]⟩
noncomputable def q677 : Obj := tP [.str "self" 1290, .str "m" 1291, .str "f" 1292, .str "args" 1293, .str "text" 1294, .str "first" 1295, .str "count" 1296]
noncomputable def q680 : Obj := cD [.str "call" 1287, .str "TextPart.call" 1288, .str "/claim/cut.py" 1289, .int (435) 0, .int (4) 0, .int (0) 0, .int (0) 0, .int (3) 0, .ref 675, .bool true, .int (181) 0, .ref 676, .none, .ref 677, .ref 678, .ref 679, .int (1297) 0, .int (435) 0, .str "/claim/cut.py" 1298]
noncomputable def q681 : Obj := fN (sB 102 0) "TextPart.call" (.none) (.none) (.none) (.str "framerune.natives" 1035) none (.ref 680) (.none)
noncomputable def q683 (P : Params) : Obj := dI 2 [es P "__module__" 1282 (.str "framerune.natives" 1035), es P "__firstlineno__" 1286 (.int (433) 1285), er' P "call" 1299 681, er' P "__static_attributes__" 1300 682, es P "__doc__" 1301 (.none)]
noncomputable def q684 : Obj := cL ⟨"TextPart", [.ref 166], [.ref 684, .ref 166, .type "object"], 683, "TextPart", true, [], [], false, none, false⟩ [some (.ref 668), none, some (.str "TextPart" 1275), some (.str "TextPart" 1283), some (.builtin "object.__new__"), some (.bool true)]
noncomputable def q685 : Obj := ⟨.type "super", none, .fields #[.ref 684, .ref 684, .ref 684], #[]⟩
noncomputable def q686 : Obj := ⟨.type "builtin_function_or_method", none, .fields #[.builtin "object.__init_subclass__", .ref 684], #[]⟩
noncomputable def q688 : Obj := ⟨.type "builtin_function_or_method", none, .fields #[.builtin "type.__prepare__", .type "type"], #[]⟩
noncomputable def q689 (P : Params) : Obj := dI 5 [es P "__module__" 1311 (.str "framerune.natives" 1035), es P "__qualname__" 1313 (.str "TextIndex" 1312), es P "__firstlineno__" 1315 (.int (448) 1314), er' P "call" 1327 700, er' P "__static_attributes__" 1328 701]
noncomputable def q691 : Obj := ⟨.none, none, .fields #[.int (450) 0, .int (4) 0, .ref 699], #[]⟩
noncomputable def q692 : Obj := cD [.str "TextIndex" 1306, .str "TextIndex" 1307, .str "/claim/cut.py" 1308, .int (448) 0, .int (0) 0, .int (0) 0, .int (0) 0, .int (0) 0, .ref 690, .bool false, .int (181) 0, .ref 691, .none, .none, .none, .none, .int (1309) 0, .int (448) 0, .str "/claim/cut.py" 1310]
noncomputable def q693 : Obj := ⟨.type "frame", none, .plain, #[some (.ref 692), some (.ref 3), some (.ref 689), none, some (.str "framerune.natives" 1035), none, some (.ref 0)]⟩
noncomputable def q696 : Obj := tP [.str "self" 1319, .str "m" 1320, .str "f" 1321, .str "args" 1322, .str "text" 1323, .str "other" 1324]
noncomputable def q699 : Obj := cD [.str "call" 1316, .str "TextIndex.call" 1317, .str "/claim/cut.py" 1318, .int (450) 0, .int (4) 0, .int (0) 0, .int (0) 0, .int (3) 0, .ref 694, .bool true, .int (181) 0, .ref 695, .none, .ref 696, .ref 697, .ref 698, .int (1325) 0, .int (450) 0, .str "/claim/cut.py" 1326]
noncomputable def q700 : Obj := fN (sB 103 0) "TextIndex.call" (.none) (.none) (.none) (.str "framerune.natives" 1035) none (.ref 699) (.none)
noncomputable def q702 (P : Params) : Obj := dI 2 [es P "__module__" 1311 (.str "framerune.natives" 1035), es P "__firstlineno__" 1315 (.int (448) 1314), er' P "call" 1327 700, er' P "__static_attributes__" 1328 701, es P "__doc__" 1329 (.none)]
noncomputable def q703 : Obj := cL ⟨"TextIndex", [.ref 166], [.ref 703, .ref 166, .type "object"], 702, "TextIndex", true, [], [], false, none, false⟩ [some (.ref 687), none, some (.str "TextIndex" 1304), some (.str "TextIndex" 1312), some (.builtin "object.__new__"), some (.bool true)]
noncomputable def q704 : Obj := ⟨.type "super", none, .fields #[.ref 703, .ref 703, .ref 703], #[]⟩
noncomputable def q705 : Obj := ⟨.type "builtin_function_or_method", none, .fields #[.builtin "object.__init_subclass__", .ref 703], #[]⟩
noncomputable def q707 : Obj := ⟨.type "builtin_function_or_method", none, .fields #[.builtin "type.__prepare__", .type "type"], #[]⟩
noncomputable def q708 (P : Params) : Obj := dI 5 [es P "__module__" 1339 (.str "framerune.natives" 1035), es P "__qualname__" 1341 (.str "TextCompare" 1340), es P "__firstlineno__" 1343 (.int (458) 1342), er' P "call" 1355 719, er' P "__static_attributes__" 1356 720]
noncomputable def q710 : Obj := ⟨.none, none, .fields #[.int (460) 0, .int (4) 0, .ref 718], #[]⟩
noncomputable def q711 : Obj := cD [.str "TextCompare" 1334, .str "TextCompare" 1335, .str "/claim/cut.py" 1336, .int (458) 0, .int (0) 0, .int (0) 0, .int (0) 0, .int (0) 0, .ref 709, .bool false, .int (181) 0, .ref 710, .none, .none, .none, .none, .int (1337) 0, .int (458) 0, .str "/claim/cut.py" 1338]
noncomputable def q712 : Obj := ⟨.type "frame", none, .plain, #[some (.ref 711), some (.ref 3), some (.ref 708), none, some (.str "framerune.natives" 1035), none, some (.ref 0)]⟩
noncomputable def q715 : Obj := tP [.str "self" 1347, .str "m" 1348, .str "f" 1349, .str "args" 1350, .str "text" 1351, .str "other" 1352]
noncomputable def q718 : Obj := cD [.str "call" 1344, .str "TextCompare.call" 1345, .str "/claim/cut.py" 1346, .int (460) 0, .int (4) 0, .int (0) 0, .int (0) 0, .int (3) 0, .ref 713, .bool true, .int (181) 0, .ref 714, .none, .ref 715, .ref 716, .ref 717, .int (1353) 0, .int (460) 0, .str "/claim/cut.py" 1354]
noncomputable def q719 : Obj := fN (sB 104 0) "TextCompare.call" (.none) (.none) (.none) (.str "framerune.natives" 1035) none (.ref 718) (.none)
noncomputable def q721 (P : Params) : Obj := dI 2 [es P "__module__" 1339 (.str "framerune.natives" 1035), es P "__firstlineno__" 1343 (.int (458) 1342), er' P "call" 1355 719, er' P "__static_attributes__" 1356 720, es P "__doc__" 1357 (.none)]
noncomputable def q722 : Obj := cL ⟨"TextCompare", [.ref 166], [.ref 722, .ref 166, .type "object"], 721, "TextCompare", true, [], [], false, none, false⟩ [some (.ref 706), none, some (.str "TextCompare" 1332), some (.str "TextCompare" 1340), some (.builtin "object.__new__"), some (.bool true)]
noncomputable def q723 : Obj := ⟨.type "super", none, .fields #[.ref 722, .ref 722, .ref 722], #[]⟩
noncomputable def q724 : Obj := ⟨.type "builtin_function_or_method", none, .fields #[.builtin "object.__init_subclass__", .ref 722], #[]⟩
noncomputable def q730 : Obj := cD [.str "install_native_text" 1360, .str "install_native_text" 1361, .str "/claim/cut.py" 1362, .int (470) 0, .int (1) 0, .int (0) 0, .int (0) 0, .int (3) 0, .ref 725, .bool true, .int (181) 0, .ref 726, .none, .ref 727, .ref 728, .ref 729, .int (1364) 0, .int (470) 0, .str "/claim/cut.py" 1365]
noncomputable def q731 : Obj := fN (sA 105) "install_native_text" (.none) (.none) (.none) (.str "framerune.natives" 1035) none (.ref 730) (.none)
noncomputable def q733 : Obj := ⟨.type "builtin_function_or_method", none, .fields #[.builtin "type.__prepare__", .type "type"], #[]⟩
noncomputable def q734 (P : Params) : Obj := dI 11 [es P "__module__" 1376 (.str "framerune.kindrel" 1367), es P "__qualname__" 1378 (.str "BareHost" 1377), es P "__firstlineno__" 1380 (.int (481) 1379), er' P "__init__" 1388 745, er' P "base" 1396 752, er' P "ifaces_at" 1404 759, er' P "sort" 1412 766, er' P "variance" 1420 773, er' P "under" 1428 780, er' P "has_new" 1436 787, er' P "__static_attributes__" 1446 788]
noncomputable def q736 : Obj := ⟨.none, none, .fields #[.int (483) 0, .int (4) 0, .ref 744, .int (494) 0, .int (4) 0, .ref 751, .int (497) 0, .int (4) 0, .ref 758, .int (500) 0, .int (4) 0, .ref 765, .int (503) 0, .int (4) 0, .ref 772, .int (506) 0, .int (4) 0, .ref 779, .int (509) 0, .int (4) 0, .ref 786], #[]⟩
noncomputable def q737 : Obj := cD [.str "BareHost" 1371, .str "BareHost" 1372, .str "/claim/cut.py" 1373, .int (481) 0, .int (0) 0, .int (0) 0, .int (0) 0, .int (0) 0, .ref 735, .bool false, .int (181) 0, .ref 736, .none, .none, .none, .none, .int (1374) 0, .int (481) 0, .str "/claim/cut.py" 1375]
noncomputable def q738 : Obj := ⟨.type "frame", none, .plain, #[some (.ref 737), some (.ref 3), some (.ref 734), none, some (.str "framerune.kindrel" 1367), none, some (.ref 0)]⟩
noncomputable def q744 : Obj := cD [.str "__init__" 1381, .str "BareHost.__init__" 1382, .str "/claim/cut.py" 1383, .int (483) 0, .int (2) 0, .int (0) 0, .int (0) 0, .int (3) 0, .ref 739, .bool true, .int (181) 0, .ref 740, .none, .ref 741, .ref 742, .ref 743, .int (1386) 0, .int (483) 0, .str "/claim/cut.py" 1387]
noncomputable def q745 : Obj := fN (sB 107 0) "BareHost.__init__" (.none) (.none) (.none) (.str "framerune.kindrel" 1367) none (.ref 744) (.none)
noncomputable def q751 : Obj := cD [.str "base" 1389, .str "BareHost.base" 1390, .str "/claim/cut.py" 1391, .int (494) 0, .int (2) 0, .int (0) 0, .int (0) 0, .int (3) 0, .ref 746, .bool true, .int (181) 0, .ref 747, .none, .ref 748, .ref 749, .ref 750, .int (1394) 0, .int (494) 0, .str "/claim/cut.py" 1395]
noncomputable def q752 : Obj := fN (sB 107 1) "BareHost.base" (.none) (.none) (.none) (.str "framerune.kindrel" 1367) none (.ref 751) (.none)
noncomputable def q758 : Obj := cD [.str "ifaces_at" 1397, .str "BareHost.ifaces_at" 1398, .str "/claim/cut.py" 1399, .int (497) 0, .int (2) 0, .int (0) 0, .int (0) 0, .int (3) 0, .ref 753, .bool true, .int (181) 0, .ref 754, .none, .ref 755, .ref 756, .ref 757, .int (1402) 0, .int (497) 0, .str "/claim/cut.py" 1403]
noncomputable def q759 : Obj := fN (sB 107 2) "BareHost.ifaces_at" (.none) (.none) (.none) (.str "framerune.kindrel" 1367) none (.ref 758) (.none)
noncomputable def q765 : Obj := cD [.str "sort" 1405, .str "BareHost.sort" 1406, .str "/claim/cut.py" 1407, .int (500) 0, .int (2) 0, .int (0) 0, .int (0) 0, .int (3) 0, .ref 760, .bool true, .int (181) 0, .ref 761, .none, .ref 762, .ref 763, .ref 764, .int (1410) 0, .int (500) 0, .str "/claim/cut.py" 1411]
noncomputable def q766 : Obj := fN (sB 107 3) "BareHost.sort" (.none) (.none) (.none) (.str "framerune.kindrel" 1367) none (.ref 765) (.none)
noncomputable def q772 : Obj := cD [.str "variance" 1413, .str "BareHost.variance" 1414, .str "/claim/cut.py" 1415, .int (503) 0, .int (2) 0, .int (0) 0, .int (0) 0, .int (3) 0, .ref 767, .bool true, .int (181) 0, .ref 768, .none, .ref 769, .ref 770, .ref 771, .int (1418) 0, .int (503) 0, .str "/claim/cut.py" 1419]
noncomputable def q773 : Obj := fN (sB 107 4) "BareHost.variance" (.none) (.none) (.none) (.str "framerune.kindrel" 1367) none (.ref 772) (.none)
noncomputable def q779 : Obj := cD [.str "under" 1421, .str "BareHost.under" 1422, .str "/claim/cut.py" 1423, .int (506) 0, .int (2) 0, .int (0) 0, .int (0) 0, .int (3) 0, .ref 774, .bool true, .int (181) 0, .ref 775, .none, .ref 776, .ref 777, .ref 778, .int (1426) 0, .int (506) 0, .str "/claim/cut.py" 1427]
noncomputable def q780 : Obj := fN (sB 107 5) "BareHost.under" (.none) (.none) (.none) (.str "framerune.kindrel" 1367) none (.ref 779) (.none)
noncomputable def q786 : Obj := cD [.str "has_new" 1429, .str "BareHost.has_new" 1430, .str "/claim/cut.py" 1431, .int (509) 0, .int (2) 0, .int (0) 0, .int (0) 0, .int (3) 0, .ref 781, .bool true, .int (181) 0, .ref 782, .none, .ref 783, .ref 784, .ref 785, .int (1434) 0, .int (509) 0, .str "/claim/cut.py" 1435]
noncomputable def q787 : Obj := fN (sB 107 6) "BareHost.has_new" (.none) (.none) (.none) (.str "framerune.kindrel" 1367) none (.ref 786) (.none)
noncomputable def q788 : Obj := tP [.str "bases" 1437, .str "bounds" 1438, .str "gflags" 1439, .str "ifaces" 1440, .str "kt" 1441, .str "news" 1442, .str "sorts" 1443, .str "unders" 1444, .str "variances" 1445]
noncomputable def q789 (P : Params) : Obj := dI 4 [es P "__module__" 1376 (.str "framerune.kindrel" 1367), es P "__firstlineno__" 1380 (.int (481) 1379), er' P "__init__" 1388 745, er' P "base" 1396 752, er' P "ifaces_at" 1404 759, er' P "sort" 1412 766, er' P "variance" 1420 773, er' P "under" 1428 780, er' P "has_new" 1436 787, er' P "__static_attributes__" 1446 788, er' P "__dict__" 1448 791, er' P "__weakref__" 1450 792, es P "__doc__" 1451 (.none)]
noncomputable def q790 : Obj := cL ⟨"BareHost", [.type "object"], [.ref 790, .type "object"], 789, "BareHost", true, [], [], false, none, false⟩ [none, none, some (.str "BareHost" 1369), some (.str "BareHost" 1377), some (.builtin "object.__new__"), some (.bool true)]
noncomputable def q791 : Obj := ⟨.type "getset_descriptor", none, .fields #[.str "__dict__" 1447, .ref 790, .builtin "function.__dict__", .builtin "function.__dict__#set"], #[]⟩
noncomputable def q792 : Obj := ⟨.type "getset_descriptor", none, .fields #[.str "__weakref__" 1449, .ref 790, .builtin "ExceptionGroup.__weakref__", .none], #[]⟩
noncomputable def q793 : Obj := ⟨.type "super", none, .fields #[.ref 790, .ref 790, .ref 790], #[]⟩
noncomputable def q794 : Obj := ⟨.type "builtin_function_or_method", none, .fields #[.builtin "object.__init_subclass__", .ref 790], #[]⟩
noncomputable def q795 : Obj := tP [.int (98) 1458, .int (0) 1459, .int (65) 1460, .int (65535) 1461]
noncomputable def q801 : Obj := tP [.ref 796, .ref 797, .ref 798, .ref 799, .ref 800]
noncomputable def q824 : Obj := tP [.ref 802, .ref 803, .ref 804, .ref 805, .ref 806, .ref 807, .ref 808, .ref 809, .ref 810, .ref 811, .ref 812, .ref 813, .ref 814, .ref 815, .ref 816, .ref 817, .ref 818, .ref 819, .ref 820, .ref 821, .ref 822, .ref 823]
noncomputable def q827 : Obj := tP [.int (8) 1525, .int (0) 1526, .int (10) 1527]
noncomputable def q831 : Obj := tP [.ref 825, .ref 826, .ref 827, .ref 828, .ref 829, .ref 830]
noncomputable def q834 : Obj := tP [.str "runs" 1541, .str "text" 1542, .str "unit" 1543, .str "count" 1544]
noncomputable def q837 : Obj := cD [.str "_law_text" 1538, .str "_law_text" 1539, .str "/claim/cut.py" 1540, .int (517) 0, .int (1) 0, .int (0) 0, .int (0) 0, .int (3) 0, .ref 832, .bool true, .int (181) 0, .ref 833, .none, .ref 834, .ref 835, .ref 836, .int (1545) 0, .int (517) 0, .str "/claim/cut.py" 1546]
noncomputable def q838 : Obj := fN (sA 114) "_law_text" (.none) (.none) (.none) (.str "law_xm0336_01" 1454) none (.ref 837) (.none)
noncomputable def q842 : Obj := cD [.str "_law_long" 1548, .str "_law_long" 1549, .str "/claim/cut.py" 1550, .int (522) 0, .int (1) 0, .int (0) 0, .int (0) 0, .int (3) 0, .ref 839, .bool true, .int (181) 0, .ref 840, .none, .none, .none, .ref 841, .int (1551) 0, .int (522) 0, .str "/claim/cut.py" 1552]
noncomputable def q843 : Obj := fN (sA 115) "_law_long" (.none) (.none) (.none) (.str "law_xm0336_01" 1454) none (.ref 842) (.none)
noncomputable def q846 : Obj := tP [.str "runs" 1557, .str "out" 1558, .str "unit" 1559, .str "count" 1560]
noncomputable def q849 : Obj := cD [.str "_law_glue" 1554, .str "_law_glue" 1555, .str "/claim/cut.py" 1556, .int (524) 0, .int (1) 0, .int (0) 0, .int (0) 0, .int (3) 0, .ref 844, .bool true, .int (181) 0, .ref 845, .none, .ref 846, .ref 847, .ref 848, .int (1561) 0, .int (524) 0, .str "/claim/cut.py" 1562]
noncomputable def q850 : Obj := fN (sA 116) "_law_glue" (.none) (.none) (.none) (.str "law_xm0336_01" 1454) none (.ref 849) (.none)
noncomputable def q853 : Obj := tP [.str "runs" 1567, .str "begin" 1568, .str "count" 1569, .str "out" 1570, .str "unit" 1571, .str "many" 1572]
noncomputable def q856 : Obj := cD [.str "_law_cut" 1564, .str "_law_cut" 1565, .str "/claim/cut.py" 1566, .int (532) 0, .int (3) 0, .int (0) 0, .int (0) 0, .int (3) 0, .ref 851, .bool true, .int (181) 0, .ref 852, .none, .ref 853, .ref 854, .ref 855, .int (1573) 0, .int (532) 0, .str "/claim/cut.py" 1574]
noncomputable def q857 : Obj := fN (sA 117) "_law_cut" (.none) (.none) (.none) (.str "law_xm0336_01" 1454) none (.ref 856) (.none)
noncomputable def q860 : Obj := tP [.str "runs" 1579, .str "place" 1580, .str "unit" 1581, .str "count" 1582]
noncomputable def q863 : Obj := cD [.str "_law_unit" 1576, .str "_law_unit" 1577, .str "/claim/cut.py" 1578, .int (538) 0, .int (2) 0, .int (0) 0, .int (0) 0, .int (3) 0, .ref 858, .bool true, .int (181) 0, .ref 859, .none, .ref 860, .ref 861, .ref 862, .int (1583) 0, .int (538) 0, .str "/claim/cut.py" 1584]
noncomputable def q864 : Obj := fN (sA 118) "_law_unit" (.none) (.none) (.none) (.str "law_xm0336_01" 1454) none (.ref 863) (.none)
noncomputable def q867 : Obj := tP [.str "one" 1589, .str "two" 1590, .str "i" 1591, .str "j" 1592, .str "left" 1593, .str "right" 1594, .str "many" 1595]
noncomputable def q870 : Obj := cD [.str "_law_order" 1586, .str "_law_order" 1587, .str "/claim/cut.py" 1588, .int (544) 0, .int (2) 0, .int (0) 0, .int (0) 0, .int (3) 0, .ref 865, .bool true, .int (181) 0, .ref 866, .none, .ref 867, .ref 868, .ref 869, .int (1596) 0, .int (544) 0, .str "/claim/cut.py" 1597]
noncomputable def q871 : Obj := fN (sA 119) "_law_order" (.none) (.none) (.none) (.str "law_xm0336_01" 1454) none (.ref 870) (.none)
noncomputable def q874 : Obj := tP [.str "runs" 1602, .str "unit" 1603, .str "count" 1604, .str "place" 1605, .str "other" 1606, .str "many" 1607]
noncomputable def q877 : Obj := cD [.str "_law_seek" 1599, .str "_law_seek" 1600, .str "/claim/cut.py" 1601, .int (568) 0, .int (3) 0, .int (0) 0, .int (0) 0, .int (3) 0, .ref 872, .bool true, .int (181) 0, .ref 873, .none, .ref 874, .ref 875, .ref 876, .int (1608) 0, .int (568) 0, .str "/claim/cut.py" 1609]
noncomputable def q878 : Obj := fN (sA 120) "_law_seek" (.none) (.none) (.none) (.str "law_xm0336_01" 1454) none (.ref 877) (.none)
noncomputable def q884 : Obj := cD [.str "_law_bool" 1611, .str "_law_bool" 1612, .str "/claim/cut.py" 1613, .int (575) 0, .int (1) 0, .int (0) 0, .int (0) 0, .int (3) 0, .ref 879, .bool true, .int (181) 0, .ref 880, .none, .ref 881, .ref 882, .ref 883, .int (1615) 0, .int (575) 0, .str "/claim/cut.py" 1616]
noncomputable def q885 : Obj := fN (sA 121) "_law_bool" (.none) (.none) (.none) (.str "law_xm0336_01" 1454) none (.ref 884) (.none)
noncomputable def q888 : Obj := tP [.str "w" 1621, .str "runs" 1622, .str "value" 1623]
noncomputable def q891 : Obj := cD [.str "_law_lay" 1618, .str "_law_lay" 1619, .str "/claim/cut.py" 1620, .int (579) 0, .int (2) 0, .int (0) 0, .int (0) 0, .int (3) 0, .ref 886, .bool true, .int (181) 0, .ref 887, .none, .ref 888, .ref 889, .ref 890, .int (1624) 0, .int (579) 0, .str "/claim/cut.py" 1625]
noncomputable def q892 : Obj := fN (sA 122) "_law_lay" (.none) (.none) (.none) (.str "law_xm0336_01" 1454) none (.ref 891) (.none)
noncomputable def q895 : Obj := tP [.str "w" 1630, .str "number" 1631, .str "args" 1632, .str "m" 1633]
noncomputable def q898 : Obj := cD [.str "_law_call" 1627, .str "_law_call" 1628, .str "/claim/cut.py" 1629, .int (582) 0, .int (3) 0, .int (0) 0, .int (0) 0, .int (3) 0, .ref 893, .bool true, .int (181) 0, .ref 894, .none, .ref 895, .ref 896, .ref 897, .int (1634) 0, .int (582) 0, .str "/claim/cut.py" 1635]
noncomputable def q899 : Obj := fN (sA 123) "_law_call" (.none) (.none) (.none) (.str "law_xm0336_01" 1454) none (.ref 898) (.none)
noncomputable def q905 : Obj := cD [.str "_law_still" 1637, .str "_law_still" 1638, .str "/claim/cut.py" 1639, .int (586) 0, .int (1) 0, .int (0) 0, .int (0) 0, .int (3) 0, .ref 900, .bool true, .int (181) 0, .ref 901, .none, .ref 902, .ref 903, .ref 904, .int (1642) 0, .int (586) 0, .str "/claim/cut.py" 1643]
noncomputable def q906 : Obj := fN (sA 124) "_law_still" (.none) (.none) (.none) (.str "law_xm0336_01" 1454) none (.ref 905) (.none)
noncomputable def q909 : Obj := tP [.str "w" 1648, .str "gave" 1649, .str "tid" 1650, .str "m" 1651, .str "good" 1652]
noncomputable def q912 : Obj := cD [.str "_law_refused" 1645, .str "_law_refused" 1646, .str "/claim/cut.py" 1647, .int (589) 0, .int (3) 0, .int (0) 0, .int (0) 0, .int (3) 0, .ref 907, .bool true, .int (181) 0, .ref 908, .none, .ref 909, .ref 910, .ref 911, .int (1653) 0, .int (589) 0, .str "/claim/cut.py" 1654]
noncomputable def q913 : Obj := fN (sA 125) "_law_refused" (.none) (.none) (.none) (.str "law_xm0336_01" 1454) none (.ref 912) (.none)
noncomputable def q916 : Obj := tP [.str "thing" 1659, .str "runs" 1660, .str "text" 1661, .str "place" 1662, .str "unit" 1663, .str "count" 1664, .str "few" 1665, .str "want" 1666]
noncomputable def q919 : Obj := cD [.str "_law_holds" 1656, .str "_law_holds" 1657, .str "/claim/cut.py" 1658, .int (594) 0, .int (2) 0, .int (0) 0, .int (0) 0, .int (3) 0, .ref 914, .bool true, .int (181) 0, .ref 915, .none, .ref 916, .ref 917, .ref 918, .int (1667) 0, .int (594) 0, .str "/claim/cut.py" 1668]
noncomputable def q920 : Obj := fN (sA 126) "_law_holds" (.none) (.none) (.none) (.str "law_xm0336_01" 1454) none (.ref 919) (.none)
noncomputable def q923 : Obj := tP [.str "w" 1673, .str "gave" 1674, .str "runs" 1675, .str "m" 1676, .str "row" 1677]
noncomputable def q926 : Obj := cD [.str "_law_new" 1670, .str "_law_new" 1671, .str "/claim/cut.py" 1672, .int (608) 0, .int (3) 0, .int (0) 0, .int (0) 0, .int (3) 0, .ref 921, .bool true, .int (181) 0, .ref 922, .none, .ref 923, .ref 924, .ref 925, .int (1678) 0, .int (608) 0, .str "/claim/cut.py" 1679]
noncomputable def q927 : Obj := fN (sA 127) "_law_new" (.none) (.none) (.none) (.str "law_xm0336_01" 1454) none (.ref 926) (.none)
noncomputable def q933 : Obj := cD [.str "_law_void" 1681, .str "_law_void" 1682, .str "/claim/cut.py" 1683, .int (617) 0, .int (2) 0, .int (0) 0, .int (0) 0, .int (3) 0, .ref 928, .bool true, .int (181) 0, .ref 929, .none, .ref 930, .ref 931, .ref 932, .int (1686) 0, .int (617) 0, .str "/claim/cut.py" 1687]
noncomputable def q934 : Obj := fN (sA 128) "_law_void" (.none) (.none) (.none) (.str "law_xm0336_01" 1454) none (.ref 933) (.none)
noncomputable def q937 : Obj := tP [.str "w" 1692, .str "a" 1693, .str "b" 1694, .str "gave" 1695, .str "one" 1696, .str "two" 1697]
noncomputable def q940 : Obj := cD [.str "_law_join" 1689, .str "_law_join" 1690, .str "/claim/cut.py" 1691, .int (624) 0, .int (3) 0, .int (0) 0, .int (0) 0, .int (3) 0, .ref 935, .bool true, .int (181) 0, .ref 936, .none, .ref 937, .ref 938, .ref 939, .int (1698) 0, .int (624) 0, .str "/claim/cut.py" 1699]
noncomputable def q941 : Obj := fN (sA 129) "_law_join" (.none) (.none) (.none) (.str "law_xm0336_01" 1454) none (.ref 940) (.none)
noncomputable def q944 : Obj := tP [.str "w" 1704, .str "a" 1705, .str "seam" 1706, .str "size" 1707, .str "z" 1708, .str "begin" 1709, .str "count" 1710, .str "gave" 1711]
noncomputable def q947 : Obj := cD [.str "_law_part" 1701, .str "_law_part" 1702, .str "/claim/cut.py" 1703, .int (637) 0, .int (5) 0, .int (0) 0, .int (0) 0, .int (3) 0, .ref 942, .bool true, .int (181) 0, .ref 943, .none, .ref 944, .ref 945, .ref 946, .int (1712) 0, .int (637) 0, .str "/claim/cut.py" 1713]
noncomputable def q948 : Obj := fN (sA 130) "_law_part" (.none) (.none) (.none) (.str "law_xm0336_01" 1454) none (.ref 947) (.none)
noncomputable def q951 : Obj := tP [.str "w" 1718, .str "a" 1719, .str "place" 1720, .str "size" 1721, .str "gave" 1722]
noncomputable def q954 : Obj := cD [.str "_law_letter" 1715, .str "_law_letter" 1716, .str "/claim/cut.py" 1717, .int (647) 0, .int (4) 0, .int (0) 0, .int (0) 0, .int (3) 0, .ref 949, .bool true, .int (181) 0, .ref 950, .none, .ref 951, .ref 952, .ref 953, .int (1723) 0, .int (647) 0, .str "/claim/cut.py" 1724]
noncomputable def q955 : Obj := fN (sA 131) "_law_letter" (.none) (.none) (.none) (.str "law_xm0336_01" 1454) none (.ref 954) (.none)
noncomputable def q958 : Obj := tP [.str "w" 1729, .str "a" 1730, .str "b" 1731, .str "z" 1732, .str "size" 1733, .str "seam" 1734, .str "this" 1735, .str "pair" 1736, .str "place" 1737, .str "same" 1738, .str "want" 1739, .str "unit" 1740, .str "count" 1741, .str "gave" 1742]
noncomputable def q961 : Obj := cD [.str "_law_look" 1726, .str "_law_look" 1727, .str "/claim/cut.py" 1728, .int (652) 0, .int (4) 0, .int (0) 0, .int (0) 0, .int (3) 0, .ref 956, .bool true, .int (181) 0, .ref 957, .none, .ref 958, .ref 959, .ref 960, .int (1743) 0, .int (652) 0, .str "/claim/cut.py" 1744]
noncomputable def q962 : Obj := fN (sA 132) "_law_look" (.none) (.none) (.none) (.str "law_xm0336_01" 1454) none (.ref 961) (.none)
noncomputable def q968 : Obj := cD [.str "_law_idle" 1746, .str "_law_idle" 1747, .str "/claim/cut.py" 1748, .int (677) 0, .int (1) 0, .int (0) 0, .int (0) 0, .int (3) 0, .ref 963, .bool true, .int (181) 0, .ref 964, .none, .ref 965, .ref 966, .ref 967, .int (1750) 0, .int (677) 0, .str "/claim/cut.py" 1751]
noncomputable def q969 : Obj := fN (sA 133) "_law_idle" (.none) (.none) (.none) (.str "law_xm0336_01" 1454) none (.ref 968) (.none)
noncomputable def q972 : Obj := tP [.str "size" 1756, .str "unit" 1757, .str "m" 1758, .str "w" 1759, .str "letter" 1760, .str "count" 1761]
noncomputable def q975 : Obj := cD [.str "_law_scene" 1753, .str "_law_scene" 1754, .str "/claim/cut.py" 1755, .int (679) 0, .int (2) 0, .int (0) 0, .int (0) 0, .int (3) 0, .ref 970, .bool true, .int (181) 0, .ref 971, .none, .ref 972, .ref 973, .ref 974, .int (1762) 0, .int (679) 0, .str "/claim/cut.py" 1763]
noncomputable def q976 : Obj := fN (sA 134) "_law_scene" (.none) (.none) (.none) (.str "law_xm0336_01" 1454) none (.ref 975) (.none)
noncomputable def q979 : Obj := tP [.str "w" 1768, .str "x" 1769, .str "rows" 1770, .str "many" 1771, .str "a" 1772, .str "b" 1773, .str "one" 1774, .str "two" 1775]
noncomputable def q982 : Obj := cD [.str "_law_step" 1765, .str "_law_step" 1766, .str "/claim/cut.py" 1767, .int (687) 0, .int (2) 0, .int (0) 0, .int (0) 0, .int (3) 0, .ref 977, .bool true, .int (181) 0, .ref 978, .none, .ref 979, .ref 980, .ref 981, .int (1776) 0, .int (687) 0, .str "/claim/cut.py" 1777]
noncomputable def q983 : Obj := fN (sA 135) "_law_step" (.none) (.none) (.none) (.str "law_xm0336_01" 1454) none (.ref 982) (.none)
noncomputable def q986 : Obj := tP [.str "w" 1782, .str "x" 1783, .str "lack" 1784, .str "rows" 1785, .str "more" 1786]
noncomputable def q989 : Obj := cD [.str "_law_border" 1779, .str "_law_border" 1780, .str "/claim/cut.py" 1781, .int (701) 0, .int (3) 0, .int (0) 0, .int (0) 0, .int (3) 0, .ref 984, .bool true, .int (181) 0, .ref 985, .none, .ref 986, .ref 987, .ref 988, .int (1787) 0, .int (701) 0, .str "/claim/cut.py" 1788]
noncomputable def q990 : Obj := fN (sA 136) "_law_border" (.none) (.none) (.none) (.str "law_xm0336_01" 1454) none (.ref 989) (.none)
noncomputable def q993 : Obj := tP [.str "w" 1793, .str "i" 1794, .str "j" 1795, .str "z" 1796]
noncomputable def q996 : Obj := cD [.str "_law_fixed" 1790, .str "_law_fixed" 1791, .str "/claim/cut.py" 1792, .int (713) 0, .int (0) 0, .int (0) 0, .int (0) 0, .int (3) 0, .ref 991, .bool true, .int (181) 0, .ref 992, .none, .ref 993, .ref 994, .ref 995, .int (1797) 0, .int (713) 0, .str "/claim/cut.py" 1798]
noncomputable def q997 : Obj := fN (sA 137) "_law_fixed" (.none) (.none) (.none) (.str "law_xm0336_01" 1454) none (.ref 996) (.none)
noncomputable def q1000 : Obj := tP [.str "w" 1803, .str "addr" 1804, .str "runs" 1805]
noncomputable def q1003 : Obj := cD [.str "_law_stand" 1800, .str "_law_stand" 1801, .str "/claim/cut.py" 1802, .int (722) 0, .int (1) 0, .int (0) 0, .int (0) 0, .int (3) 0, .ref 998, .bool true, .int (181) 0, .ref 999, .none, .ref 1000, .ref 1001, .ref 1002, .int (1806) 0, .int (722) 0, .str "/claim/cut.py" 1807]
noncomputable def q1004 : Obj := fN (sA 138) "_law_stand" (.none) (.none) (.none) (.str "law_xm0336_01" 1454) none (.ref 1003) (.none)
noncomputable def q1008 : Obj := cD [.str "law" 1809, .str "law" 1810, .str "/claim/cut.py" 1811, .int (727) 0, .int (1) 0, .int (0) 0, .int (0) 0, .int (3) 0, .ref 1005, .bool true, .int (181) 0, .ref 1006, .none, .none, .none, .ref 1007, .int (1812) 0, .int (727) 0, .str "/claim/cut.py" 1813]
noncomputable def q1009 : Obj := fN (sA 139) "law" (.none) (.none) (.none) (.str "law_xm0336_01" 1454) none (.ref 1008) (.none)
noncomputable def heap_39 : Params → Frag := fun P =>
(nat_lit 3, (q3_3 P)) :: (nat_lit 20, q20) :: (nat_lit 21, q21) :: (nat_lit 22, q22) :: (nat_lit 28, q28) :: (nat_lit 29, q29) :: (nat_lit 35, q35) :: (nat_lit 36, q36) :: (nat_lit 42, q42) :: (nat_lit 43, q43) :: (nat_lit 49, q49) :: (nat_lit 50, q50) :: (nat_lit 51, (tP [.int (4) 325, .int (0) 326])) :: (nat_lit 57, q57) :: (nat_lit 58, q58) :: (nat_lit 64, q64) :: (nat_lit 65, q65) :: (nat_lit 71, q71) :: (nat_lit 72, q72) :: (nat_lit 78, q78) :: (nat_lit 79, q79) :: (nat_lit 92, q92) :: (nat_lit 93, q93) :: (nat_lit 94, q94) :: (nat_lit 95, (q95 P)) :: (nat_lit 96, q96) :: (nat_lit 113, q113) :: (nat_lit 114, q114) :: (nat_lit 115, q115) :: (nat_lit 116, (q116 P)) :: (nat_lit 117, q117) :: (nat_lit 127, q127) :: (nat_lit 128, q128) :: (nat_lit 141, q141) :: (nat_lit 142, q142) :: (nat_lit 143, q143) :: (nat_lit 144, (q144 P)) :: (nat_lit 145, q145) :: (nat_lit 162, q162) :: (nat_lit 163, q163) :: (nat_lit 164, (tP [])) :: (nat_lit 165, (q165 P)) :: (nat_lit 166, q166_1) :: (nat_lit 183, q183) :: (nat_lit 184, q184) :: (nat_lit 190, q190) :: (nat_lit 191, q191) :: (nat_lit 197, q197) :: (nat_lit 198, q198) :: (nat_lit 199, (tP [])) :: (nat_lit 200, (q200 P)) :: (nat_lit 201, q201) :: (nat_lit 218, q218) :: (nat_lit 219, q219) :: (nat_lit 220, (tP [])) :: (nat_lit 221, (q221 P)) :: (nat_lit 222, q222) :: (nat_lit 239, q239) :: (nat_lit 240, q240) :: (nat_lit 246, q246) :: (nat_lit 247, q247) :: (nat_lit 248, (tP [])) :: (nat_lit 249, (q249 P)) :: (nat_lit 250, q250) :: (nat_lit 267, q267) :: (nat_lit 268, q268) :: (nat_lit 274, q274) :: (nat_lit 275, q275) :: (nat_lit 281, q281) :: (nat_lit 282, q282) :: (nat_lit 288, q288) :: (nat_lit 289, q289) :: (nat_lit 295, q295) :: (nat_lit 296, q296) :: (nat_lit 302, q302) :: (nat_lit 303, q303) :: (nat_lit 309, q309) :: (nat_lit 310, q310) :: (nat_lit 316, q316) :: (nat_lit 317, q317) :: (nat_lit 323, q323) :: (nat_lit 324, q324) :: (nat_lit 330, q330) :: (nat_lit 331, q331) :: (nat_lit 337, q337) :: (nat_lit 338, q338) :: (nat_lit 344, q344) :: (nat_lit 345, q345) :: (nat_lit 351, q351) :: (nat_lit 352, q352) :: (nat_lit 358, q358) :: (nat_lit 359, q359) :: (nat_lit 365, q365) :: (nat_lit 366, q366) :: (nat_lit 372, q372) :: (nat_lit 373, q373) :: (nat_lit 374, q374) :: (nat_lit 375, (q375 P)) :: (nat_lit 376, q376) :: (nat_lit 381, (tP [.ref 376])) :: (nat_lit 393, q393) :: (nat_lit 394, q394) :: (nat_lit 400, q400) :: (nat_lit 401, q401) :: (nat_lit 407, q407) :: (nat_lit 408, q408) :: (nat_lit 414, q414) :: (nat_lit 415, q415) :: (nat_lit 421, q421) :: (nat_lit 422, q422) :: (nat_lit 428, q428) :: (nat_lit 429, q429) :: (nat_lit 435, q435) :: (nat_lit 436, q436) :: (nat_lit 442, q442) :: (nat_lit 443, q443) :: (nat_lit 444, q444) :: (nat_lit 445, (q445 P)) :: (nat_lit 446, q446) :: (nat_lit 454, q454) :: (nat_lit 455, q455) :: (nat_lit 461, q461) :: (nat_lit 462, q462) :: (nat_lit 468, q468) :: (nat_lit 469, q469) :: (nat_lit 475, q475) :: (nat_lit 476, q476) :: (nat_lit 482, q482) :: (nat_lit 483, q483) :: (nat_lit 489, q489) :: (nat_lit 490, q490) :: (nat_lit 496, q496) :: (nat_lit 497, q497) :: (nat_lit 503, q503) :: (nat_lit 504, q504) :: (nat_lit 510, q510) :: (nat_lit 511, q511) :: (nat_lit 517, q517) :: (nat_lit 518, q518) :: (nat_lit 524, q524) :: (nat_lit 525, q525) :: (nat_lit 531, q531) :: (nat_lit 532, q532) :: (nat_lit 538, q538) :: (nat_lit 539, q539) :: (nat_lit 545, q545) :: (nat_lit 546, q546) :: (nat_lit 552, q552) :: (nat_lit 553, q553) :: (nat_lit 554, (tP [.ref 166])) :: (nat_lit 566, q566) :: (nat_lit 567, q567) :: (nat_lit 568, (tP [])) :: (nat_lit 569, (q569 P)) :: (nat_lit 570, q570) :: (nat_lit 573, (tP [.ref 166])) :: (nat_lit 585, q585) :: (nat_lit 586, q586) :: (nat_lit 587, (tP [])) :: (nat_lit 588, (q588 P)) :: (nat_lit 589, q589) :: (nat_lit 592, (tP [.ref 166])) :: (nat_lit 604, q604) :: (nat_lit 605, q605) :: (nat_lit 606, (tP [])) :: (nat_lit 607, (q607 P)) :: (nat_lit 608, q608) :: (nat_lit 611, (tP [.ref 166])) :: (nat_lit 623, q623) :: (nat_lit 624, q624) :: (nat_lit 625, (tP [])) :: (nat_lit 626, (q626 P)) :: (nat_lit 627, q627) :: (nat_lit 630, (tP [.ref 166])) :: (nat_lit 642, q642) :: (nat_lit 643, q643) :: (nat_lit 644, (tP [])) :: (nat_lit 645, (q645 P)) :: (nat_lit 646, q646) :: (nat_lit 649, (tP [.ref 166])) :: (nat_lit 661, q661) :: (nat_lit 662, q662) :: (nat_lit 663, (tP [])) :: (nat_lit 664, (q664 P)) :: (nat_lit 665, q665) :: (nat_lit 668, (tP [.ref 166])) :: (nat_lit 680, q680) :: (nat_lit 681, q681) :: (nat_lit 682, (tP [])) :: (nat_lit 683, (q683 P)) :: (nat_lit 684, q684) :: (nat_lit 687, (tP [.ref 166])) :: (nat_lit 699, q699) :: (nat_lit 700, q700) :: (nat_lit 701, (tP [])) :: (nat_lit 702, (q702 P)) :: (nat_lit 703, q703) :: (nat_lit 706, (tP [.ref 166])) :: (nat_lit 718, q718) :: (nat_lit 719, q719) :: (nat_lit 720, (tP [])) :: (nat_lit 721, (q721 P)) :: (nat_lit 722, q722) :: (nat_lit 730, q730) :: (nat_lit 731, q731) :: (nat_lit 744, q744) :: (nat_lit 745, q745) :: (nat_lit 751, q751) :: (nat_lit 752, q752) :: (nat_lit 758, q758) :: (nat_lit 759, q759) :: (nat_lit 765, q765) :: (nat_lit 766, q766) :: (nat_lit 772, q772) :: (nat_lit 773, q773) :: (nat_lit 779, q779) :: (nat_lit 780, q780) :: (nat_lit 786, q786) :: (nat_lit 787, q787) :: (nat_lit 788, q788) :: (nat_lit 789, (q789 P)) :: (nat_lit 790, q790) :: (nat_lit 795, q795) :: (nat_lit 796, (tP [.int (97) 1463, .int (0) 1464])) :: (nat_lit 797, (tP [.int (97) 1465, .int (1) 1466])) :: (nat_lit 798, (tP [.int (65535) 1467, .int (1) 1468])) :: (nat_lit 799, (tP [.int (0) 1469, .int (2) 1470])) :: (nat_lit 800, (tP [.int (55357) 1471, .int (3) 1472])) :: (nat_lit 801, q801) :: (nat_lit 802, (tP [.int (0) 1474, .int (0) 1475])) :: (nat_lit 803, (tP [.int (6) 1476, .int (2) 1477])) :: (nat_lit 804, (tP [.int (6) 1478, .int (4) 1479])) :: (nat_lit 805, (tP [.int (4) 1480, .int (6) 1481])) :: (nat_lit 806, (tP [.int (8) 1482, .int (2) 1483])) :: (nat_lit 807, (tP [.int (2) 1484, .int (8) 1485])) :: (nat_lit 808, (tP [.int (6) 1486, .int (6) 1487])) :: (nat_lit 809, (tP [.int (8) 1488, .int (8) 1489])) :: (nat_lit 810, (tP [.int (8) 1490, .int (6) 1491])) :: (nat_lit 811, (tP [.int (6) 1492, .int (8) 1493])) :: (nat_lit 812, (tP [.int (8) 1494, .int (0) 1495])) :: (nat_lit 813, (tP [.int (0) 1496, .int (8) 1497])) :: (nat_lit 814, (tP [.int (8) 1498, .int (1) 1499])) :: (nat_lit 815, (tP [.int (1) 1500, .int (8) 1501])) :: (nat_lit 816, (tP [.int (8) 1502, .int (7) 1503])) :: (nat_lit 817, (tP [.int (7) 1504, .int (8) 1505])) :: (nat_lit 818, (tP [.int (6) 1506, .int (1) 1507])) :: (nat_lit 819, (tP [.int (0) 1508, .int (6) 1509])) :: (nat_lit 820, (tP [.int (6) 1510, .int (5) 1511])) :: (nat_lit 821, (tP [.int (2) 1512, .int (4) 1513])) :: (nat_lit 822, (tP [.int (1) 1514, .int (7) 1515])) :: (nat_lit 823, (tP [.int (5) 1516, .int (3) 1517])) :: (nat_lit 824, q824) :: (nat_lit 825, (tP [.int (8) 1519, .int (6) 1520, .int (1) 1521])) :: (nat_lit 826, (tP [.int (6) 1522, .int (8) 1523, .int (0) 1524])) :: (nat_lit 827, q827) :: (nat_lit 828, (tP [.int (9) 1528, .int (8) 1529, .int (3) 1530])) :: (nat_lit 829, (tP [.int (1) 1531, .int (7) 1532, .int (9) 1533])) :: (nat_lit 830, (tP [.int (6) 1534, .int (4) 1535, .int (4) 1536])) :: (nat_lit 831, q831) :: (nat_lit 837, q837) :: (nat_lit 838, q838) :: (nat_lit 842, q842) :: (nat_lit 843, q843) :: (nat_lit 849, q849) :: (nat_lit 850, q850) :: (nat_lit 856, q856) :: (nat_lit 857, q857) :: (nat_lit 863, q863) :: (nat_lit 864, q864) :: (nat_lit 870, q870) :: (nat_lit 871, q871) :: (nat_lit 877, q877) :: (nat_lit 878, q878) :: (nat_lit 884, q884) :: (nat_lit 885, q885) :: (nat_lit 891, q891) :: (nat_lit 892, q892) :: (nat_lit 898, q898) :: (nat_lit 899, q899) :: (nat_lit 905, q905) :: (nat_lit 906, q906) :: (nat_lit 912, q912) :: (nat_lit 913, q913) :: (nat_lit 919, q919) :: (nat_lit 920, q920) :: (nat_lit 926, q926) :: (nat_lit 927, q927) :: (nat_lit 933, q933) :: (nat_lit 934, q934) :: (nat_lit 940, q940) :: (nat_lit 941, q941) :: (nat_lit 947, q947) :: (nat_lit 948, q948) :: (nat_lit 954, q954) :: (nat_lit 955, q955) :: (nat_lit 961, q961) :: (nat_lit 962, q962) :: (nat_lit 968, q968) :: (nat_lit 969, q969) :: (nat_lit 975, q975) :: (nat_lit 976, q976) :: (nat_lit 982, q982) :: (nat_lit 983, q983) :: (nat_lit 989, q989) :: (nat_lit 990, q990) :: (nat_lit 996, q996) :: (nat_lit 997, q997) :: (nat_lit 1003, q1003) :: (nat_lit 1004, q1004) :: (nat_lit 1008, q1008) :: (nat_lit 1009, q1009) :: []
end hd
theorem k_filled : (∀ P, Mine.hd.heap_39 P = Mine.hd.heap_39 P) ∧ PySem.Challenge.rw_xm0336_01 = PySem.Challenge.rw_xm0336_01 := by
  k_fill
  exact ⟨fun _ => rfl, rfl⟩
noncomputable def hd.kA : List Addr := 3 :: 20 :: 21 :: 22 :: 28 :: 29 :: 35 :: 36 :: 42 :: 43 :: 49 :: 50 :: 51 :: 57 :: 58 :: 64 :: 65 :: 71 :: 72 :: 78 :: 79 :: 92 :: 93 :: 94 :: 95 :: 96 :: 113 :: 114 :: 115 :: 116 :: 117 :: 127 :: 128 :: 141 :: 142 :: 143 :: 144 :: 145 :: 162 :: 163 :: 164 :: 165 :: 166 :: 183 :: 184 :: 190 :: 191 :: 197 :: 198 :: 199 :: 200 :: 201 :: 218 :: 219 :: 220 :: 221 :: 222 :: 239 :: 240 :: 246 :: 247 :: 248 :: 249 :: 250 :: 267 :: 268 :: 274 :: 275 :: 281 :: 282 :: 288 :: 289 :: 295 :: 296 :: 302 :: 303 :: 309 :: 310 :: 316 :: 317 :: 323 :: 324 :: 330 :: 331 :: 337 :: 338 :: 344 :: 345 :: 351 :: 352 :: 358 :: 359 :: 365 :: 366 :: 372 :: 373 :: 374 :: 375 :: 376 :: 381 :: 393 :: 394 :: 400 :: 401 :: 407 :: 408 :: 414 :: 415 :: 421 :: 422 :: 428 :: 429 :: 435 :: 436 :: 442 :: 443 :: 444 :: 445 :: 446 :: 454 :: 455 :: 461 :: 462 :: 468 :: 469 :: 475 :: 476 :: 482 :: 483 :: 489 :: 490 :: 496 :: 497 :: 503 :: 504 :: 510 :: 511 :: 517 :: 518 :: 524 :: 525 :: 531 :: 532 :: 538 :: 539 :: 545 :: 546 :: 552 :: 553 :: 554 :: 566 :: 567 :: 568 :: 569 :: 570 :: 573 :: 585 :: 586 :: 587 :: 588 :: 589 :: 592 :: 604 :: 605 :: 606 :: 607 :: 608 :: 611 :: 623 :: 624 :: 625 :: 626 :: 627 :: 630 :: 642 :: 643 :: 644 :: 645 :: 646 :: 649 :: 661 :: 662 :: 663 :: 664 :: 665 :: 668 :: 680 :: 681 :: 682 :: 683 :: 684 :: 687 :: 699 :: 700 :: 701 :: 702 :: 703 :: 706 :: 718 :: 719 :: 720 :: 721 :: 722 :: 730 :: 731 :: 744 :: 745 :: 751 :: 752 :: 758 :: 759 :: 765 :: 766 :: 772 :: 773 :: 779 :: 780 :: 786 :: 787 :: 788 :: 789 :: 790 :: 795 :: 796 :: 797 :: 798 :: 799 :: 800 :: 801 :: 802 :: 803 :: 804 :: 805 :: 806 :: 807 :: 808 :: 809 :: 810 :: 811 :: 812 :: 813 :: 814 :: 815 :: 816 :: 817 :: 818 :: 819 :: 820 :: 821 :: 822 :: 823 :: 824 :: 825 :: 826 :: 827 :: 828 :: 829 :: 830 :: 831 :: 837 :: 838 :: 842 :: 843 :: 849 :: 850 :: 856 :: 857 :: 863 :: 864 :: 870 :: 871 :: 877 :: 878 :: 884 :: 885 :: 891 :: 892 :: 898 :: 899 :: 905 :: 906 :: 912 :: 913 :: 919 :: 920 :: 926 :: 927 :: 933 :: 934 :: 940 :: 941 :: 947 :: 948 :: 954 :: 955 :: 961 :: 962 :: 968 :: 969 :: 975 :: 976 :: 982 :: 983 :: 989 :: 990 :: 996 :: 997 :: 1003 :: 1004 :: 1008 :: 1009 :: []
theorem hd.kA_eq : ∀ P, hd.kA = (hd.heap_39 P).map (·.1) := fun _ => by kernel_rfl
noncomputable def hd.env : Env := { scope := pE.main.scope, locals := mainNs, globals := mainNs, cells := [], code := .ref 13, frame := some 14 }
abbrev P0 : Pos := ⟨0, 0, 0, 0⟩
noncomputable abbrev hd.cE : Code := .body (behindTheImports pE) hd.env
def hd.o12 : Obj := { cls := .none, data := .fields #[] }
def hd.o13 : Obj := cD [.str "<module>" 182, .str "<module>" 183, .str "/claim/cut.py" 184, .int 1 0, .int 0 0, .int 0 0, .int 0 0, .int 0 0, .ref 11, .bool false, .int 181 0, .ref 12, .none, .none, .none, .none, .int 185 0, .int 1 0, .str "/claim/cut.py" 186]
def hd.o14 : Obj := { cls := .type "frame", slots := #[some (.ref 13), some (.ref 3), some (.ref 3), none, some (.str "__main__" 164), none, some (.ref 0)] }
noncomputable def hd.H0 (P : Params) : Heap := ⟨#[boot_o_0 P, boot_o_1 P, boot_o_2 P, boot_o_3 P, boot_o_4 P, boot_o_5 P, boot_o_6 P, boot_o_7 P, boot_o_8 P, boot_o_9 P, boot_o_10 P, tP [], hd.o12, hd.o13, hd.o14], {}⟩
noncomputable def hd.T0 (P : Params) : BT := .node (boot_o_0 P)
  (.node (boot_o_1 P) (.node (boot_o_3 P) (.node (boot_o_7 P) .nil .nil) (.node (tP []) .nil .nil)) (.node (boot_o_5 P) (.node (boot_o_9 P) .nil .nil) (.node hd.o13 .nil .nil)))
  (.node (boot_o_2 P) (.node (boot_o_4 P) (.node (boot_o_8 P) .nil .nil) (.node hd.o12 .nil .nil)) (.node (boot_o_6 P) (.node (boot_o_10 P) .nil .nil) (.node hd.o14 .nil .nil)))
noncomputable abbrev hd.S0 (w : World) (os : OsState) : SharedT := { tree := hd.T0 w.params, n := 15, life := {}, gens := #[], drawn := {}, toks := 187, os := os }
theorem hd.pre : ∀ w : World, (fun os => topGo treeTable pE w 11 (some (.ref 6)) 12 ⟨boot_heap w.params, #[], boot_drawn, boot_toks, os⟩ (topStub pE)) =
    fun os => some (⟨hd.H0 w.params, #[], {}, 187, os⟩, ⟨denote treeTable hd.cE, hd.cE, P0, [topFrame P0]⟩) := by
  rw [Fast.te15667345088766844465, Fast.te14364793385576792824, Fast.te11892475500146522536]
  intro w; kernel_rfl
theorem hd.block : ∀ w : World, (fun os => segRun treeTable pE w 11 (some (.ref 6)) 1 1 ⟨hd.H0 w.params, #[], {}, 187, os⟩ (blockOf (behindTheImports pE) hd.env hd.cE P0 [topFrame P0])) =
    fun os => some (.next, (hd.S0 w os).abs, hd.cE, P0) := by
  rw [Fast.te14374325043358763698, Fast.te14364793385576792824]
  intro w; kernel_rfl
theorem hd.opening : W.opening pE = plainProg pE.main.scope.names := by kernel_rfl
theorem hd.fence : ∀ s, fenceModules? pE s = some s := fun s => by kernel_rfl
theorem hd.size : ∀ w : World, ((boot_heap w.params).isNs mainGlobals && (#[] : Array GenState).size == 0, (boot_heap w.params).objs.size, (boot_heap w.params).nsMap mainGlobals "__annotations__") = (true, 11, some (.ref 6)) := fun w => by kernel_rfl
noncomputable def hd.view_39 : Program := { pE with main := { pE.main with body := [sA 139] } }
noncomputable def hd.loose : List Str := pE.boundNames.filter fun n => !(n == ("law" : Str))
noncomputable abbrev hd.hook : Hook := kHook hd.heap_39 hd.kA hd.kA_eq
noncomputable abbrev hd.Xt (s : Shared) : Bool := xlAt hd.view_39 [] s && recOk (RowW.records Challenge.rw_xm0336_01.row.toRowW) s
abbrev nd := BT.node
abbrev nl := BT.nil
noncomputable abbrev hd.go (N : Nat) (l : List Stmt) (p : Pos) (w : World) (s : SharedT) : Option (Flow × SharedT × Code × Pos) :=
  segRunT treeTable pE w 11 (some (.ref 6)) 1 N s (piecesOf l hd.env hd.cE p [topFrame P0])
noncomputable abbrev hd.gt (N : Nat) (l : List Stmt) (p : Pos) (w : World) (s : SharedT) : Option (Flow × SharedT × Code × Pos) :=
  Fast.tw10110043849684766642 Fast.tw14364793385576792824 pE w 11 (some (.ref 6)) 1 N s (piecesOf l hd.env hd.cE p [topFrame P0])
theorem hd.go_eq : hd.go = hd.gt := by
  unfold hd.go
  rw [Fast.te10110043849684766642, Fast.te14364793385576792824]
namespace hd
abbrev st (t : BT) (n k : Nat) (os : OsState) : SharedT := { tree := t, n := n, life := {}, gens := #[], drawn := {}, toks := k, os := os }
noncomputable def U0 (P : Params) : BT := (nd (boot_o_0 P) (nd (boot_o_1 P) (nd (q3_1 P) (nd (boot_o_7 P) (nd (tP []) nl nl) nl) (nd (tP []) (nd (fU (sA 0) "_wall") nl nl) nl)) (nd (boot_o_5 P) (nd (boot_o_9 P) (nd (tP [.str "k" 190]) nl nl) nl) (nd q13 (nd q21 nl nl) nl))) (nd (boot_o_2 P) (nd (boot_o_4 P) (nd (boot_o_8 P) (nd (⟨.none, none, .fields #[], #[]⟩) nl nl) nl) (nd q12 (nd q20 nl nl) nl)) (nd (boot_o_6 P) (nd (boot_o_10 P) (nd (tP []) nl nl) nl) (nd q14 (nd q22 nl nl) nl))))
noncomputable def U1 (P : Params) : BT := (nd (boot_o_0 P) (nd (boot_o_1 P) (nd (q3_2 P) (nd (boot_o_7 P) (nd (tP []) (nd (⟨.none, none, .fields #[], #[]⟩) (nd (fU (sA 42) "wrap32") (nd q127 (nd (tP []) nl nl) (nd (q383 P) nl nl)) (nd q191 (nd (⟨.none, none, .fields #[], #[]⟩) nl nl) (nd q447 nl nl))) (nd (q95 P) (nd q159 (nd (fU (sB 66 3) "Tray.kinds_of") nl nl) (nd q415 nl nl)) (nd q223 (nd q351 nl nl) nl))) (nd (tP []) (nd q79 (nd q143 (nd q271 nl nl) (nd (fU (sB 67 1) "Shelf.goes") nl nl)) (nd q207 (nd (tP []) nl nl) (nd (tP []) nl nl))) (nd (tP []) (nd q175 (nd q303 nl nl) (nd (⟨.none, none, .fields #[], #[]⟩) nl nl)) (nd q239 (nd (tP []) nl nl) nl)))) (nd (tP []) (nd (tP [.str "kt" 289, .str "k" 290, .str "row" 291]) (nd q71 (nd q135 (nd (⟨.none, none, .fields #[], #[]⟩) nl nl) (nd (tP []) nl nl)) (nd (tP []) (nd (tP [.str "self" 743, .str "f" 744, .str "k" 745]) nl nl) (nd q455 nl nl))) (nd (q103 P) (nd q167 (nd q295 nl nl) (nd (tP []) nl nl)) (nd q231 (nd q359 nl nl) nl))) (nd (tP []) (nd (tP []) (nd q151 (nd (tP []) nl nl) (nd q407 nl nl)) (nd (tP [.str "self" 600, .str "m" 601]) (nd (fU (sB 66 11) "Tray.alloc") nl nl) nl)) (nd q119 (nd q183 (nd (tP []) nl nl) (nd (tP [.str "self" 907, .str "text" 908]) nl nl)) (nd q247 (nd (q375 P) nl nl) nl))))) (nd (tP []) (nd (fU (sA 0) "_wall") (nd q35 (nd (⟨.none, none, .fields #[], #[]⟩) (nd (q131 P) (nd q259 nl nl) (nd q387 nl nl)) (nd (tP []) (nd q323 nl nl) (nd (tP [.str "m" 952, .str "tid" 953]) nl nl))) (nd q99 (nd q163 (nd (⟨.none, none, .fields #[], #[]⟩) nl nl) (nd (tP []) nl nl)) (nd (tP []) (nd (tP [.str "self" 778, .str "f" 779]) nl nl) nl))) (nd (tP [.int (4) 325, .int (0) 326]) (nd (tP []) (nd q147 (nd q275 nl nl) (nd (⟨.none, none, .fields #[], #[]⟩) nl nl)) (nd q211 (nd (tP []) nl nl) (nd (fU (sA 70) "told_default") nl nl))) (nd q115 (nd (⟨.none, none, .fields #[], #[]⟩) (nd (tP []) nl nl) (nd q435 nl nl)) (nd q243 (nd (fU (sB 66 15) "Tray.push_call") nl nl) nl)))) (nd (fU (sA 25) "kind_sort") (nd q43 (nd (tP [.str "count" 363]) (nd (tP []) (nd q267 nl nl) (nd (tP []) nl nl)) (nd q203 (nd q331 nl nl) (nd (tP []) nl nl))) (nd q107 (nd (tP []) (nd (tP [.str "self" 710, .str "fref" 711]) nl nl) (nd (fU (sB 67 5) "Shelf.text_of") nl nl)) (nd (⟨.none, none, .fields #[], #[]⟩) (nd (tP []) nl nl) nl))) (nd (tP []) (nd (fU (sB 50 0) "Thing.__init__") (nd q155 (nd (tP []) nl nl) (nd q411 nl nl)) (nd q219 (nd (⟨.none, none, .fields #[], #[]⟩) nl nl) nl)) (nd (⟨.none, none, .fields #[], #[]⟩) (nd q187 (nd (fU (sB 66 7) "Tray.default") nl nl) (nd q443 nl nl)) (nd q251 (nd q379 nl nl) nl)))))) (nd (boot_o_5 P) (nd (boot_o_9 P) (nd (tP [.str "k" 190]) (nd (tP []) (nd q65 (nd (tP []) (nd (q257 P) nl nl) (nd q385 nl nl)) (nd (⟨.none, none, .fields #[], #[]⟩) (nd (tP []) nl nl) (nd (tP []) nl nl))) (nd q97 (nd (fU (sB 62 0) "Native.call") (nd q289 nl nl) (nd (⟨.none, none, .fields #[], #[]⟩) nl nl)) (nd q225 (nd (tP []) nl nl) nl))) (nd q49 (nd q81 (nd q145 (nd (fU (sB 66 1) "Tray.is_a") nl nl) (nd q401 nl nl)) (nd (tP []) (nd q337 nl nl) (nd q465 nl nl))) (nd q113 (nd q177 (nd (⟨.none, none, .fields #[], #[]⟩) nl nl) (nd (tP []) nl nl)) (nd (tP []) (nd q369 nl nl) nl)))) (nd (tP [.str "kt" 272, .str "k" 273]) (nd (fU (sA 27) "tid_of") (nd (tP []) (nd (⟨.none, none, .fields #[], #[]⟩) (nd (tP []) nl nl) (nd q393 nl nl)) (nd q201 (nd (fU (sB 66 9) "Tray.closed") nl nl) (nd (⟨.none, none, .fields #[], #[]⟩) nl nl))) (nd q105 (nd q169 (nd (tP []) nl nl) (nd (tP [.str "self" 891, .str "addr" 892]) nl nl)) (nd q233 (nd (⟨.none, none, .fields #[], #[]⟩) nl nl) nl))) (nd q57 (nd q89 (nd (tP []) (nd q281 nl nl) (nd (tP []) nl nl)) (nd (fU (sB 64 0) "Sweeper.before") (nd q345 nl nl) nl)) (nd q121 (nd (tP []) (nd (tP [.str "self" 727, .str "k" 728]) nl nl) (nd (fU (sB 67 7) "Shelf.new_text") nl nl)) (nd (q249 P) (nd q377 nl nl) nl))))) (nd q13 (nd q21 (nd (tP []) (nd (tP []) (nd q133 (nd q261 nl nl) (nd (⟨.none, none, .fields #[], #[]⟩) nl nl)) (nd q197 (nd (tP []) nl nl) (nd (fU (sA 68) "note_thrown") nl nl))) (nd (tP []) (nd (q165 P) (nd (tP []) nl nl) (nd q421 nl nl)) (nd (q229 P) (nd (fU (sB 66 13) "Tray.pop") nl nl) nl))) (nd (⟨.none, none, .fields #[], #[]⟩) (nd q85 (nd q149 (nd (⟨.none, none, .fields #[], #[]⟩) nl nl) (nd (tP []) nl nl)) (nd (tP []) (nd q341 nl nl) (nd q469 nl nl))) (nd q117 (nd (tP []) (nd q309 nl nl) (nd (tP []) nl nl)) (nd (fU (sB 65 1) "KindCloser.ref") (nd q373 nl nl) nl)))) (nd q29 (nd (⟨.none, none, .fields #[], #[]⟩) (nd (fU (sA 49) "words_for") (nd q141 (nd (tP []) nl nl) (nd (tP [.str "self" 855, .str "s" 856, .str "t" 857]) nl nl)) (nd q205 (nd (⟨.none, none, .fields #[], #[]⟩) nl nl) (nd q461 nl nl))) (nd (⟨.none, none, .fields #[], #[]⟩) (nd (q173 P) (nd (fU (sB 66 5) "Tray.slot_place") nl nl) (nd q429 nl nl)) (nd (tP []) (nd q365 nl nl) nl))) (nd (tP [.str "n" 339]) (nd q93 (nd (tP []) (nd (tP [.str "self" 694, .str "k" 695]) nl nl) (nd (fU (sB 67 3) "Shelf.alloc") nl nl)) (nd (q221 P) (nd (tP []) nl nl) nl)) (nd (tP []) (nd (fU (sB 63 1) "Starter.done") (nd q317 nl nl) (nd (q445 P) nl nl)) (nd q253 (nd (tP [.ref 376]) nl nl) nl))))))) (nd (boot_o_2 P) (nd (boot_o_4 P) (nd (boot_o_8 P) (nd (⟨.none, none, .fields #[], #[]⟩) (nd (tP [.str "kt" 280, .str "k" 281, .str "row" 282]) (nd q64 (nd q128 (nd q256 nl nl) (nd (tP []) nl nl)) (nd (tP []) (nd (tP [.str "self" 735, .str "k" 736]) nl nl) (nd q448 nl nl))) (nd q96 (nd (tP []) (nd q288 nl nl) (nd (tP []) nl nl)) (nd q224 (nd q352 nl nl) nl))) (nd (fU (sA 28) "is_value") (nd (tP []) (nd (q144 P) (nd (tP []) nl nl) (nd q400 nl nl)) (nd (q208 P) (nd (fU (sB 66 10) "Tray.closed_ref") nl nl) (nd (⟨.none, none, .fields #[], #[]⟩) nl nl))) (nd (fU (sB 51 0) "Heap.__init__") (nd q176 (nd (tP []) nl nl) (nd (tP [.str "self" 899, .str "text" 900]) nl nl)) (nd q240 (nd (⟨.none, none, .fields #[], #[]⟩) nl nl) nl)))) (nd (⟨.none, none, .fields #[], #[]⟩) (nd (tP []) (nd q72 (nd (tP []) (nd q264 nl nl) (nd (fU (sB 67 0) "Shelf.__init__") nl nl)) (nd (q200 P) (nd (tP []) nl nl) (nd (tP []) nl nl))) (nd (tP []) (nd q168 (nd q296 nl nl) (nd (⟨.none, none, .fields #[], #[]⟩) nl nl)) (nd q232 (nd (tP []) nl nl) nl))) (nd (fU (sA 41) "wrap_bits") (nd (⟨.none, none, .fields #[], #[]⟩) (nd (q152 P) (nd (fU (sB 66 2) "Tray.slots_of") nl nl) (nd q408 nl nl)) (nd (tP []) (nd q344 nl nl) nl)) (nd q120 (nd q184 (nd (⟨.none, none, .fields #[], #[]⟩) nl nl) (nd (tP []) nl nl)) (nd (tP []) (nd q376 nl nl) nl))))) (nd q12_1 (nd q20 (nd q36 (nd (tP [.str "k" 346]) (nd (tP []) (nd q260 nl nl) (nd (tP []) nl nl)) (nd (fU (sB 63 2) "Starter.failed") (nd q324 nl nl) (nd (tP []) nl nl))) (nd q100 (nd (tP []) (nd (tP [.str "self" 702, .str "k" 703]) nl nl) (nd (fU (sB 67 4) "Shelf.push_call") nl nl)) (nd q228 (nd (tP []) nl nl) nl))) (nd (tP []) (nd q84 (nd q148 (nd (tP []) nl nl) (nd (tP [.str "self" 864, .str "k" 865]) nl nl)) (nd q212 (nd (⟨.none, none, .fields #[], #[]⟩) nl nl) (nd q468 nl nl))) (nd (q116 P) (nd q180 (nd (fU (sB 66 6) "Tray.target") nl nl) (nd q436 nl nl)) (nd (tP []) (nd q372 nl nl) nl)))) (nd q28 (nd (tP []) (nd (tP []) (nd (fU (sB 54 0) "PlaceHost.__init__") (nd q268 nl nl) (nd (⟨.none, none, .fields #[], #[]⟩) nl nl)) (nd q204 (nd (tP []) nl nl) (nd (fU (sA 69) "told_row") nl nl))) (nd (tP []) (nd q172 (nd (tP []) nl nl) (nd q428 nl nl)) (nd q236 (nd (fU (sB 66 14) "Tray.throw_new") nl nl) nl))) (nd (⟨.none, none, .fields #[], #[]⟩) (nd q92 (nd q156 (nd (⟨.none, none, .fields #[], #[]⟩) nl nl) (nd (tP []) nl nl)) (nd (tP []) (nd (tP [.str "self" 770, .str "code" 771]) nl nl) nl)) (nd q124 (nd (tP []) (nd q316 nl nl) (nd q444 nl nl)) (nd q252 (nd q380 nl nl) nl)))))) (nd (boot_o_6 P) (nd (boot_o_10 P) (nd (tP []) (nd (fU (sA 26) "elem_of") (nd (tP []) (nd q130 (nd (tP []) nl nl) (nd q386 nl nl)) (nd q194 (nd (fU (sB 66 8) "Tray.plain") nl nl) (nd (⟨.none, none, .fields #[], #[]⟩) nl nl))) (nd q98 (nd q162 (nd (tP []) nl nl) (nd q418 nl nl)) (nd q226 (nd (⟨.none, none, .fields #[], #[]⟩) nl nl) nl))) (nd q50 (nd (q82 P) (nd q146 (nd q274 nl nl) (nd (tP []) nl nl)) (nd q210 (nd q338 nl nl) (nd (tP []) nl nl))) (nd q114 (nd (tP []) (nd q306 nl nl) (nd (fU (sB 67 6) "Shelf.text_ref") nl nl)) (nd (⟨.none, none, .fields #[], #[]⟩) (nd (tP []) nl nl) nl)))) (nd (tP []) (nd q42 (nd (⟨.none, none, .fields #[], #[]⟩) (nd q138 (nd (fU (sB 66 0) "Tray.__init__") nl nl) (nd q394 nl nl)) (nd q202 (nd q330 nl nl) (nd (tP [.str "m" 960, .str "k" 961, .str "row" 962]) nl nl))) (nd q106 (nd q170 (nd (⟨.none, none, .fields #[], #[]⟩) nl nl) (nd (tP []) nl nl)) (nd (tP []) (nd q362 nl nl) nl))) (nd q58 (nd (tP []) (nd q154 (nd q282 nl nl) (nd (⟨.none, none, .fields #[], #[]⟩) nl nl)) (nd q218 (nd (tP []) nl nl) nl)) (nd (tP []) (nd (⟨.none, none, .fields #[], #[]⟩) (nd (tP []) nl nl) (nd q442 nl nl)) (nd q250 (nd q378 nl nl) nl))))) (nd q14 (nd q22 (nd (⟨.none, none, .fields #[], #[]⟩) (nd (fU (sA 43) "plain_default") (nd q134 (nd (tP []) nl nl) (nd q390 nl nl)) (nd q198 (nd (⟨.none, none, .fields #[], #[]⟩) nl nl) (nd q454 nl nl))) (nd q102 (nd q166 (nd (fU (sB 66 4) "Tray.skinds_of") nl nl) (nd q422 nl nl)) (nd (tP []) (nd q358 nl nl) nl))) (nd (tP [.str "n" 331, .str "bits" 332]) (nd q86 (nd (tP []) (nd (tP [.str "self" 686, .str "k" 687]) nl nl) (nd (fU (sB 67 2) "Shelf.finalised") nl nl)) (nd (⟨.none, none, .fields #[], #[]⟩) (nd (tP []) nl nl) nl)) (nd q118 (nd (fU (sB 63 0) "Starter.need") (nd q310 nl nl) (nd (⟨.none, none, .fields #[], #[]⟩) nl nl)) (nd q246 (nd q374 nl nl) nl)))) (nd (tP []) (nd (tP [.str "kt" 298, .str "k" 299]) (nd q78 (nd q142 (nd (⟨.none, none, .fields #[], #[]⟩) nl nl) (nd (tP []) nl nl)) (nd (tP []) (nd q334 nl nl) (nd q462 nl nl))) (nd q110 (nd (tP []) (nd q302 nl nl) (nd (tP []) nl nl)) (nd (fU (sB 65 0) "KindCloser.kind") (nd q366 nl nl) nl))) (nd (tP []) (nd q94 (nd (⟨.none, none, .fields #[], #[]⟩) (nd (tP []) nl nl) (nd q414 nl nl)) (nd q222 (nd (fU (sB 66 12) "Tray.wrong") nl nl) nl)) (nd (fU (sA 52) "heap_alloc") (nd q190 (nd (tP []) nl nl) (nd q446 nl nl)) (nd q254 (nd q382 nl nl) nl))))))))
noncomputable def U2 (P : Params) : BT := (nd (boot_o_0 P) (nd (boot_o_1 P) (nd (q3_3 P) (nd (boot_o_7 P) (nd (tP []) (nd (⟨.none, none, .fields #[], #[]⟩) (nd (fU (sA 42) "wrap32") (nd q127 (nd (tP []) (nd q511 nl nl) (nd (tP []) nl nl)) (nd (q383 P) (nd q639 nl nl) (nd q895 nl nl))) (nd q191 (nd (⟨.none, none, .fields #[], #[]⟩) (nd (q575 P) nl nl) (nd q831 nl nl)) (nd q447 (nd q703 nl nl) (nd (tP []) nl nl)))) (nd (q95 P) (nd q159 (nd (fU (sB 66 3) "Tray.kinds_of") (nd (tP []) nl nl) (nd (tP [.int (0) 1469, .int (2) 1470]) nl nl)) (nd q415 (nd (tP []) nl nl) (nd q927 nl nl))) (nd q223 (nd q351 (nd (q607 P) nl nl) (nd q863 nl nl)) (nd q479 (nd (tP []) nl nl) (nd (tP []) nl nl))))) (nd (tP []) (nd q79 (nd q143 (nd q271 (nd (⟨.none, none, .fields #[], #[]⟩) nl nl) (nd (tP [.str "self" 1432, .str "k" 1433]) nl nl)) (nd (fU (sB 67 1) "Shelf.goes") (nd q655 nl nl) (nd (fU (sA 125) "_law_refused") nl nl))) (nd q207 (nd (tP []) (nd q591 nl nl) (nd (tP []) nl nl)) (nd (tP []) (nd q719 nl nl) (nd q975 nl nl)))) (nd (tP []) (nd q175 (nd q303 (nd q559 nl nl) (nd (tP [.int (1) 1500, .int (8) 1501]) nl nl)) (nd (⟨.none, none, .fields #[], #[]⟩) (nd (tP [.ref 166]) nl nl) (nd (⟨.none, none, .fields #[], #[]⟩) nl nl))) (nd q239 (nd (tP []) (nd q623 nl nl) (nd (tP []) nl nl)) (nd (fU (sA 74) "text_held") (nd q751 nl nl) (nd (fU (sA 139) "law") nl nl)))))) (nd (tP []) (nd (tP [.str "kt" 289, .str "k" 290, .str "row" 291]) (nd q71 (nd q135 (nd (⟨.none, none, .fields #[], #[]⟩) (nd (tP []) nl nl) (nd (⟨.none, none, .fields #[], #[]⟩) nl nl)) (nd (tP []) (nd q647 nl nl) (nd (tP []) nl nl))) (nd (tP []) (nd (tP [.str "self" 743, .str "f" 744, .str "k" 745]) (nd (tP []) nl nl) (nd (tP []) nl nl)) (nd q455 (nd q711 nl nl) (nd (fU (sA 133) "_law_idle") nl nl)))) (nd (q103 P) (nd q167 (nd q295 (nd (fU (sA 95) "text_hash") nl nl) (nd (tP [.int (2) 1484, .int (8) 1485]) nl nl)) (nd (tP []) (nd (fU (sB 102 0) "TextPart.call") nl nl) (nd (tP []) nl nl))) (nd q231 (nd q359 (nd q615 nl nl) (nd q871 nl nl)) (nd (tP []) (nd (fU (sB 107 0) "BareHost.__init__") nl nl) (nd (⟨.none, none, .fields #[], #[]⟩) nl nl))))) (nd (tP []) (nd (tP []) (nd q151 (nd (tP []) (nd (tP [.str "m" 1087]) nl nl) (nd q791 nl nl)) (nd q407 (nd (tP []) nl nl) (nd q919 nl nl))) (nd (tP [.str "self" 600, .str "m" 601]) (nd (fU (sB 66 11) "Tray.alloc") (nd (tP []) nl nl) (nd (fU (sA 117) "_law_cut") nl nl)) (nd (⟨.none, none, .fields #[], #[]⟩) (nd (tP [.str "m" 1363]) nl nl) (nd q983 nl nl)))) (nd q119 (nd q183 (nd (tP []) (nd q567 nl nl) (nd (tP [.int (5) 1516, .int (3) 1517]) nl nl)) (nd (tP [.str "self" 907, .str "text" 908]) (nd (⟨.none, none, .fields #[], #[]⟩) nl nl) (nd q951 nl nl))) (nd q247 (nd (q375 P) (nd q631 nl nl) (nd (⟨.none, none, .fields #[], #[]⟩) nl nl)) (nd q503 (nd q759 nl nl) nl)))))) (nd (tP []) (nd (fU (sA 0) "_wall") (nd q35 (nd (⟨.none, none, .fields #[], #[]⟩) (nd (q131 P) (nd q259 (nd (tP []) nl nl) (nd (fU (sB 107 4) "BareHost.variance") nl nl)) (nd q387 (nd q643 nl nl) (nd q899 nl nl))) (nd (tP []) (nd q323 (nd q579 nl nl) (nd (tP []) nl nl)) (nd (tP [.str "m" 952, .str "tid" 953]) (nd q707 nl nl) (nd (tP []) nl nl)))) (nd q99 (nd q163 (nd (⟨.none, none, .fields #[], #[]⟩) (nd (tP []) nl nl) (nd (tP [.int (6) 1476, .int (2) 1477]) nl nl)) (nd (tP []) (nd (tP []) nl nl) (nd (tP []) nl nl))) (nd (tP []) (nd (tP [.str "self" 778, .str "f" 779]) (nd (tP [.ref 166]) nl nl) (nd q867 nl nl)) (nd q483 (nd (tP []) nl nl) (nd (fU (sA 137) "_law_fixed") nl nl))))) (nd (tP [.int (4) 325, .int (0) 326]) (nd (tP []) (nd q147 (nd q275 (nd q531 nl nl) (nd q787 nl nl)) (nd (⟨.none, none, .fields #[], #[]⟩) (nd (tP []) nl nl) (nd (⟨.none, none, .fields #[], #[]⟩) nl nl))) (nd q211 (nd (tP []) (nd (tP []) nl nl) (nd (tP []) nl nl)) (nd (fU (sA 70) "told_default") (nd q723 nl nl) (nd q979 nl nl)))) (nd q115 (nd (⟨.none, none, .fields #[], #[]⟩) (nd (tP []) (nd q563 nl nl) (nd (tP [.int (0) 1508, .int (6) 1509]) nl nl)) (nd q435 (nd q691 nl nl) (nd q947 nl nl))) (nd q243 (nd (fU (sB 66 15) "Tray.push_call") (nd q627 nl nl) (nd (fU (sA 121) "_law_bool") nl nl)) (nd (⟨.none, none, .fields #[], #[]⟩) (nd (tP [.str "self" 1400, .str "k" 1401]) nl nl) nl))))) (nd (fU (sA 25) "kind_sort") (nd q43 (nd (tP [.str "count" 363]) (nd (tP []) (nd q267 (nd (fU (sA 91) "thing_named") nl nl) (nd q779 nl nl)) (nd (tP []) (nd (q651 P) nl nl) (nd (tP []) nl nl))) (nd q203 (nd q331 (nd (tP []) nl nl) (nd q843 nl nl)) (nd (tP []) (nd q715 nl nl) (nd (⟨.none, none, .fields #[], #[]⟩) nl nl)))) (nd q107 (nd (tP []) (nd (tP [.str "self" 710, .str "fref" 711]) (nd q555 nl nl) (nd (tP [.int (6) 1492, .int (8) 1493]) nl nl)) (nd (fU (sB 67 5) "Shelf.text_of") (nd (q683 P) nl nl) (nd (fU (sA 129) "_law_join") nl nl))) (nd (⟨.none, none, .fields #[], #[]⟩) (nd (tP []) (nd (⟨.none, none, .fields #[], #[]⟩) nl nl) (nd (tP []) nl nl)) (nd (tP []) (nd (⟨.none, none, .fields #[], #[]⟩) nl nl) (nd q1003 nl nl))))) (nd (tP []) (nd (fU (sB 50 0) "Thing.__init__") (nd q155 (nd (tP []) (nd q539 nl nl) (nd q795 nl nl)) (nd q411 (nd q667 nl nl) (nd q923 nl nl))) (nd q219 (nd (⟨.none, none, .fields #[], #[]⟩) (nd (fU (sB 98 0) "TextChars.call") nl nl) (nd (⟨.none, none, .fields #[], #[]⟩) nl nl)) (nd q475 (nd q731 nl nl) (nd (tP []) nl nl)))) (nd (⟨.none, none, .fields #[], #[]⟩) (nd q187 (nd (fU (sB 66 7) "Tray.default") (nd q571 nl nl) (nd q827 nl nl)) (nd q443 (nd q699 nl nl) (nd q955 nl nl))) (nd q251 (nd q379 (nd q635 nl nl) (nd q891 nl nl)) (nd q507 (nd (tP []) nl nl) nl))))))) (nd (boot_o_5 P) (nd (boot_o_9 P) (nd (tP [.str "k" 190]) (nd (tP []) (nd q65 (nd (tP []) (nd (q257 P) (nd (⟨.none, none, .fields #[], #[]⟩) nl nl) (nd (tP [.str "self" 1416, .str "tid" 1417]) nl nl)) (nd q385 (nd (fU (sB 100 0) "TextEquals.call") nl nl) (nd (fU (sA 123) "_law_call") nl nl))) (nd (⟨.none, none, .fields #[], #[]⟩) (nd (tP []) (nd q577 nl nl) (nd (⟨.none, none, .fields #[], #[]⟩) nl nl)) (nd (tP []) (nd q705 nl nl) (nd q961 nl nl)))) (nd q97 (nd (fU (sB 62 0) "Native.call") (nd q289 (nd q545 nl nl) (nd q801 nl nl)) (nd (⟨.none, none, .fields #[], #[]⟩) (nd q673 nl nl) (nd (⟨.none, none, .fields #[], #[]⟩) nl nl))) (nd q225 (nd (tP []) (nd q609 nl nl) (nd (tP []) nl nl)) (nd (fU (sA 72) "first_slots") (nd q737 nl nl) (nd q993 nl nl))))) (nd q49 (nd q81 (nd q145 (nd (fU (sB 66 1) "Tray.is_a") (nd (tP []) nl nl) (nd (fU (sB 107 6) "BareHost.has_new") nl nl)) (nd q401 (nd (⟨.none, none, .fields #[], #[]⟩) nl nl) (nd q913 nl nl))) (nd (tP []) (nd q337 (nd q593 nl nl) (nd q849 nl nl)) (nd q465 (nd (q721 P) nl nl) (nd (tP []) nl nl)))) (nd q113 (nd q177 (nd (⟨.none, none, .fields #[], #[]⟩) (nd (tP []) nl nl) (nd (tP [.int (7) 1504, .int (8) 1505]) nl nl)) (nd (tP []) (nd (q689 P) nl nl) (nd (tP []) nl nl))) (nd (tP []) (nd q369 (nd (tP []) nl nl) (nd (tP [.str "yes" 1614]) nl nl)) (nd q497 (nd (tP []) nl nl) (nd q1009 nl nl)))))) (nd (tP [.str "kt" 272, .str "k" 273]) (nd (fU (sA 27) "tid_of") (nd (tP []) (nd (⟨.none, none, .fields #[], #[]⟩) (nd (tP []) (nd (tP [.str "m" 1071, .str "value" 1072]) nl nl) (nd (tP []) nl nl)) (nd q393 (nd (tP [.ref 166]) nl nl) (nd q905 nl nl))) (nd q201 (nd (fU (sB 66 9) "Tray.closed") (nd q585 nl nl) (nd (fU (sA 115) "_law_long") nl nl)) (nd (⟨.none, none, .fields #[], #[]⟩) (nd (tP []) nl nl) (nd q969 nl nl)))) (nd q105 (nd q169 (nd (tP []) (nd q553 nl nl) (nd (tP [.int (8) 1488, .int (8) 1489]) nl nl)) (nd (tP [.str "self" 891, .str "addr" 892]) (nd q681 nl nl) (nd q937 nl nl))) (nd q233 (nd (⟨.none, none, .fields #[], #[]⟩) (nd q617 nl nl) (nd (⟨.none, none, .fields #[], #[]⟩) nl nl)) (nd q489 (nd q745 nl nl) (nd (tP []) nl nl))))) (nd q57 (nd q89 (nd (tP []) (nd q281 (nd (fU (sA 93) "no_object") nl nl) (nd q793 nl nl)) (nd (tP []) (nd q665 nl nl) (nd (tP []) nl nl))) (nd (fU (sB 64 0) "Sweeper.before") (nd q345 (nd q601 nl nl) (nd q857 nl nl)) (nd (tP []) (nd (fU (sA 105) "install_native_text") nl nl) (nd (⟨.none, none, .fields #[], #[]⟩) nl nl)))) (nd q121 (nd (tP []) (nd (tP [.str "self" 727, .str "k" 728]) (nd (q569 P) nl nl) (nd (tP [.int (8) 1519, .int (6) 1520, .int (1) 1521]) nl nl)) (nd (fU (sB 67 7) "Shelf.new_text") (nd (tP []) nl nl) (nd (fU (sA 131) "_law_letter") nl nl))) (nd (q249 P) (nd q377 (nd (tP []) nl nl) (nd (tP []) nl nl)) (nd (tP []) (nd (⟨.none, none, .fields #[], #[]⟩) nl nl) nl)))))) (nd q13 (nd q21 (nd (tP []) (nd (tP []) (nd q133 (nd q261 (nd q517 nl nl) (nd q773 nl nl)) (nd (⟨.none, none, .fields #[], #[]⟩) (nd (q645 P) nl nl) (nd (⟨.none, none, .fields #[], #[]⟩) nl nl))) (nd q197 (nd (tP []) (nd (⟨.none, none, .fields #[], #[]⟩) nl nl) (nd q837 nl nl)) (nd (fU (sA 68) "note_thrown") (nd (tP []) nl nl) (nd (tP [.str "m" 1749]) nl nl)))) (nd (tP []) (nd (q165 P) (nd (tP []) (nd q549 nl nl) (nd (tP [.int (4) 1480, .int (6) 1481]) nl nl)) (nd q421 (nd q677 nl nl) (nd q933 nl nl))) (nd (q229 P) (nd (fU (sB 66 13) "Tray.pop") (nd (q613 P) nl nl) (nd (fU (sA 119) "_law_order") nl nl)) (nd (⟨.none, none, .fields #[], #[]⟩) (nd (tP [.str "self" 1384, .str "kt" 1385]) nl nl) (nd q997 nl nl))))) (nd (⟨.none, none, .fields #[], #[]⟩) (nd q85 (nd q149 (nd (⟨.none, none, .fields #[], #[]⟩) (nd (tP []) nl nl) (nd (q789 P) nl nl)) (nd (tP []) (nd q661 nl nl) (nd (tP []) nl nl))) (nd (tP []) (nd q341 (nd q597 nl nl) (nd q853 nl nl)) (nd q469 (nd (tP []) nl nl) (nd (fU (sA 135) "_law_step") nl nl)))) (nd q117 (nd (tP []) (nd q309 (nd (fU (sB 96 0) "TextConcat.call") nl nl) (nd (tP [.int (2) 1512, .int (4) 1513]) nl nl)) (nd (tP []) (nd q693 nl nl) (nd (tP []) nl nl))) (nd (fU (sB 65 1) "KindCloser.ref") (nd q373 (nd q629 nl nl) (nd q885 nl nl)) (nd (tP []) (nd (fU (sB 107 2) "BareHost.ifaces_at") nl nl) nl))))) (nd q29 (nd (⟨.none, none, .fields #[], #[]⟩) (nd (fU (sA 49) "words_for") (nd q141 (nd (tP []) (nd q525 nl nl) (nd (tP []) nl nl)) (nd (tP [.str "self" 855, .str "s" 856, .str "t" 857]) (nd q653 nl nl) (nd q909 nl nl))) (nd q205 (nd (⟨.none, none, .fields #[], #[]⟩) (nd q589 nl nl) (nd (⟨.none, none, .fields #[], #[]⟩) nl nl)) (nd q461 (nd (fU (sB 104 0) "TextCompare.call") nl nl) (nd (tP []) nl nl)))) (nd (⟨.none, none, .fields #[], #[]⟩) (nd (q173 P) (nd (fU (sB 66 5) "Tray.slot_place") (nd (tP []) nl nl) (nd (tP [.int (0) 1496, .int (8) 1497]) nl nl)) (nd q429 (nd q685 nl nl) (nd q941 nl nl))) (nd (tP []) (nd q365 (nd (tP []) nl nl) (nd q877 nl nl)) (nd q493 (nd (tP []) nl nl) (nd (tP []) nl nl))))) (nd (tP [.str "n" 339]) (nd q93 (nd (tP []) (nd (tP [.str "self" 694, .str "k" 695]) (nd (⟨.none, none, .fields #[], #[]⟩) nl nl) (nd (tP [.int (97) 1465, .int (1) 1466]) nl nl)) (nd (fU (sB 67 3) "Shelf.alloc") (nd q669 nl nl) (nd (fU (sA 127) "_law_new") nl nl))) (nd (q221 P) (nd (tP []) (nd q605 nl nl) (nd (tP []) nl nl)) (nd (tP []) (nd q733 nl nl) (nd q989 nl nl)))) (nd (tP []) (nd (fU (sB 63 1) "Starter.done") (nd q317 (nd (tP [.ref 166]) nl nl) (nd (tP [.int (1) 1531, .int (7) 1532, .int (9) 1533]) nl nl)) (nd (q445 P) (nd (tP []) nl nl) (nd (⟨.none, none, .fields #[], #[]⟩) nl nl))) (nd q253 (nd (tP [.ref 376]) (nd (tP []) nl nl) (nd (tP []) nl nl)) (nd (fU (sA 76) "interned_text") (nd q765 nl nl) nl)))))))) (nd (boot_o_2 P) (nd (boot_o_4 P) (nd (boot_o_8 P) (nd (⟨.none, none, .fields #[], #[]⟩) (nd (tP [.str "kt" 280, .str "k" 281, .str "row" 282]) (nd q64 (nd q128 (nd q256 (nd (tP []) nl nl) (nd (⟨.none, none, .fields #[], #[]⟩) nl nl)) (nd (tP []) (nd (tP []) nl nl) (nd (tP []) nl nl))) (nd (tP []) (nd (tP [.str "self" 735, .str "k" 736]) (nd (tP []) nl nl) (nd (tP []) nl nl)) (nd q448 (nd q704 nl nl) (nd (fU (sA 132) "_law_look") nl nl)))) (nd q96 (nd (tP []) (nd q288 (nd (fU (sA 94) "bad_argument") nl nl) (nd (tP [.int (55357) 1471, .int (3) 1472]) nl nl)) (nd (tP []) (nd q672 nl nl) (nd (tP []) nl nl))) (nd q224 (nd q352 (nd q608 nl nl) (nd q864 nl nl)) (nd (tP []) (nd q736 nl nl) (nd (⟨.none, none, .fields #[], #[]⟩) nl nl))))) (nd (fU (sA 28) "is_value") (nd (tP []) (nd (q144 P) (nd (tP []) (nd (tP [.str "m" 1079, .str "value" 1080]) nl nl) (nd (tP []) nl nl)) (nd q400 (nd (tP []) nl nl) (nd q912 nl nl))) (nd (q208 P) (nd (fU (sB 66 10) "Tray.closed_ref") (nd (tP [.ref 166]) nl nl) (nd (fU (sA 116) "_law_glue") nl nl)) (nd (⟨.none, none, .fields #[], #[]⟩) (nd (tP []) nl nl) (nd q976 nl nl)))) (nd (fU (sB 51 0) "Heap.__init__") (nd q176 (nd (tP []) (nd q560 nl nl) (nd (tP [.int (8) 1502, .int (7) 1503]) nl nl)) (nd (tP [.str "self" 899, .str "text" 900]) (nd q688 nl nl) (nd q944 nl nl))) (nd q240 (nd (⟨.none, none, .fields #[], #[]⟩) (nd q624 nl nl) (nd (⟨.none, none, .fields #[], #[]⟩) nl nl)) (nd q496 (nd q752 nl nl) (nd q1008 nl nl)))))) (nd (⟨.none, none, .fields #[], #[]⟩) (nd (tP []) (nd q72 (nd (tP []) (nd q264 (nd (⟨.none, none, .fields #[], #[]⟩) nl nl) (nd (tP [.str "self" 1424, .str "k" 1425]) nl nl)) (nd (fU (sB 67 0) "Shelf.__init__") (nd q648 nl nl) (nd (fU (sA 124) "_law_still") nl nl))) (nd (q200 P) (nd (tP []) (nd (fU (sB 97 0) "TextLength.call") nl nl) (nd (⟨.none, none, .fields #[], #[]⟩) nl nl)) (nd (tP []) (nd q712 nl nl) (nd q968 nl nl)))) (nd (tP []) (nd q168 (nd q296 (nd q552 nl nl) (nd (tP [.int (6) 1486, .int (6) 1487]) nl nl)) (nd (⟨.none, none, .fields #[], #[]⟩) (nd q680 nl nl) (nd (⟨.none, none, .fields #[], #[]⟩) nl nl))) (nd q232 (nd (tP []) (nd q616 nl nl) (nd (tP []) nl nl)) (nd (fU (sA 73) "alloc_thing") (nd q744 nl nl) (nd q1000 nl nl))))) (nd (fU (sA 41) "wrap_bits") (nd (⟨.none, none, .fields #[], #[]⟩) (nd (q152 P) (nd (fU (sB 66 2) "Tray.slots_of") (nd (tP []) nl nl) (nd q792 nl nl)) (nd q408 (nd (q664 P) nl nl) (nd q920 nl nl))) (nd (tP []) (nd q344 (nd (⟨.none, none, .fields #[], #[]⟩) nl nl) (nd q856 nl nl)) (nd q472 (nd (tP []) nl nl) (nd (tP []) nl nl)))) (nd q120 (nd q184 (nd (⟨.none, none, .fields #[], #[]⟩) (nd (tP []) nl nl) (nd q824 nl nl)) (nd (tP []) (nd q696 nl nl) (nd (tP []) nl nl))) (nd (tP []) (nd q376 (nd (q632 P) nl nl) (nd q888 nl nl)) (nd q504 (nd (tP []) nl nl) nl)))))) (nd q12_2 (nd q20 (nd q36 (nd (tP [.str "k" 346]) (nd (tP []) (nd q260 (nd (fU (sA 90) "bool_value") nl nl) (nd q772 nl nl)) (nd (tP []) (nd (tP []) nl nl) (nd (tP []) nl nl))) (nd (fU (sB 63 2) "Starter.failed") (nd q324 (nd (tP []) nl nl) (nd (fU (sA 114) "_law_text") nl nl)) (nd (tP []) (nd (q708 P) nl nl) (nd (⟨.none, none, .fields #[], #[]⟩) nl nl)))) (nd q100 (nd (tP []) (nd (tP [.str "self" 702, .str "k" 703]) (nd (⟨.none, none, .fields #[], #[]⟩) nl nl) (nd (tP [.int (6) 1478, .int (4) 1479]) nl nl)) (nd (fU (sB 67 4) "Shelf.push_call") (nd (⟨.none, none, .fields #[], #[]⟩) nl nl) (nd (fU (sA 128) "_law_void") nl nl))) (nd q228 (nd (tP []) (nd q612 nl nl) (nd (tP []) nl nl)) (nd (tP []) (nd (⟨.none, none, .fields #[], #[]⟩) nl nl) (nd q996 nl nl))))) (nd (tP []) (nd q84 (nd q148 (nd (tP []) (nd q532 nl nl) (nd q788 nl nl)) (nd (tP [.str "self" 864, .str "k" 865]) (nd (fU (sB 101 0) "TextHash.call") nl nl) (nd q916 nl nl))) (nd q212 (nd (⟨.none, none, .fields #[], #[]⟩) (nd q596 nl nl) (nd (⟨.none, none, .fields #[], #[]⟩) nl nl)) (nd q468 (nd q724 nl nl) (nd (tP []) nl nl)))) (nd (q116 P) (nd q180 (nd (fU (sB 66 6) "Tray.target") (nd (tP []) nl nl) (nd (tP [.int (6) 1510, .int (5) 1511]) nl nl)) (nd q436 (nd q692 nl nl) (nd q948 nl nl))) (nd (tP []) (nd q372 (nd q628 nl nl) (nd q884 nl nl)) (nd q500 (nd (tP []) nl nl) nl))))) (nd q28 (nd (tP []) (nd (tP []) (nd (fU (sB 54 0) "PlaceHost.__init__") (nd q268 (nd q524 nl nl) (nd q780 nl nl)) (nd (⟨.none, none, .fields #[], #[]⟩) (nd (tP []) nl nl) (nd (⟨.none, none, .fields #[], #[]⟩) nl nl))) (nd q204 (nd (tP []) (nd (q588 P) nl nl) (nd (tP []) nl nl)) (nd (fU (sA 69) "told_row") (nd (tP []) nl nl) (nd q972 nl nl)))) (nd (tP []) (nd q172 (nd (tP []) (nd (q556 P) nl nl) (nd (tP [.int (8) 1494, .int (0) 1495]) nl nl)) (nd q428 (nd q684 nl nl) (nd q940 nl nl))) (nd q236 (nd (fU (sB 66 14) "Tray.throw_new") (nd q620 nl nl) (nd (fU (sA 120) "_law_seek") nl nl)) (nd (⟨.none, none, .fields #[], #[]⟩) (nd (tP [.str "self" 1392, .str "k" 1393]) nl nl) (nd q1004 nl nl))))) (nd (⟨.none, none, .fields #[], #[]⟩) (nd q92 (nd q156 (nd (⟨.none, none, .fields #[], #[]⟩) (nd (tP []) nl nl) (nd (tP [.int (97) 1463, .int (0) 1464]) nl nl)) (nd (tP []) (nd (tP [.ref 166]) nl nl) (nd (tP []) nl nl))) (nd (tP []) (nd (tP [.str "self" 770, .str "code" 771]) (nd q604 nl nl) (nd q860 nl nl)) (nd q476 (nd (tP []) nl nl) (nd (fU (sA 136) "_law_border") nl nl)))) (nd q124 (nd (tP []) (nd q316 (nd q572 nl nl) (nd (tP [.int (9) 1528, .int (8) 1529, .int (3) 1530]) nl nl)) (nd q444 (nd q700 nl nl) (nd (tP []) nl nl))) (nd q252 (nd q380 (nd q636 nl nl) (nd q892 nl nl)) (nd (tP []) (nd (fU (sB 107 3) "BareHost.sort") nl nl) nl))))))) (nd (boot_o_6 P) (nd (boot_o_10 P) (nd (tP []) (nd (fU (sA 26) "elem_of") (nd (tP []) (nd q130 (nd (tP []) (nd (tP [.str "yes" 1064]) nl nl) (nd (tP []) nl nl)) (nd q386 (nd q642 nl nl) (nd q898 nl nl))) (nd q194 (nd (fU (sB 66 8) "Tray.plain") (nd q578 nl nl) (nd q834 nl nl)) (nd (⟨.none, none, .fields #[], #[]⟩) (nd (tP [.ref 166]) nl nl) (nd q962 nl nl)))) (nd q98 (nd q162 (nd (tP []) (nd q546 nl nl) (nd (tP [.int (0) 1474, .int (0) 1475]) nl nl)) (nd q418 (nd q674 nl nl) (nd (tP [.str "w" 1684, .str "gave" 1685]) nl nl))) (nd q226 (nd (⟨.none, none, .fields #[], #[]⟩) (nd q610 nl nl) (nd (⟨.none, none, .fields #[], #[]⟩) nl nl)) (nd q482 (nd q738 nl nl) (nd (tP []) nl nl))))) (nd q50 (nd (q82 P) (nd q146 (nd q274 (nd (fU (sA 92) "text_at") nl nl) (nd q786 nl nl)) (nd (tP []) (nd q658 nl nl) (nd (tP []) nl nl))) (nd q210 (nd q338 (nd (q594 P) nl nl) (nd q850 nl nl)) (nd (tP []) (nd q722 nl nl) (nd (⟨.none, none, .fields #[], #[]⟩) nl nl)))) (nd q114 (nd (tP []) (nd q306 (nd (⟨.none, none, .fields #[], #[]⟩) nl nl) (nd (tP [.int (6) 1506, .int (1) 1507]) nl nl)) (nd (fU (sB 67 6) "Shelf.text_ref") (nd (tP []) nl nl) (nd (fU (sA 130) "_law_part") nl nl))) (nd (⟨.none, none, .fields #[], #[]⟩) (nd (tP []) (nd (q626 P) nl nl) (nd (tP []) nl nl)) (nd (tP []) (nd (⟨.none, none, .fields #[], #[]⟩) nl nl) nl))))) (nd (tP []) (nd q42 (nd (⟨.none, none, .fields #[], #[]⟩) (nd q138 (nd (fU (sB 66 0) "Tray.__init__") (nd (tP []) nl nl) (nd (fU (sB 107 5) "BareHost.under") nl nl)) (nd q394 (nd q650 nl nl) (nd q906 nl nl))) (nd q202 (nd q330 (nd q586 nl nl) (nd q842 nl nl)) (nd (tP [.str "m" 960, .str "k" 961, .str "row" 962]) (nd (⟨.none, none, .fields #[], #[]⟩) nl nl) (nd (tP []) nl nl)))) (nd q106 (nd q170 (nd (⟨.none, none, .fields #[], #[]⟩) (nd (tP [.ref 166]) nl nl) (nd (tP [.int (8) 1490, .int (6) 1491]) nl nl)) (nd (tP []) (nd (tP []) nl nl) (nd (tP []) nl nl))) (nd (tP []) (nd q362 (nd (tP []) nl nl) (nd q874 nl nl)) (nd q490 (nd (tP []) nl nl) (nd (fU (sA 138) "_law_stand") nl nl))))) (nd q58 (nd (tP []) (nd q154 (nd q282 (nd q538 nl nl) (nd q794 nl nl)) (nd (⟨.none, none, .fields #[], #[]⟩) (nd q666 nl nl) (nd (⟨.none, none, .fields #[], #[]⟩) nl nl))) (nd q218 (nd (tP []) (nd (tP []) nl nl) (nd (tP []) nl nl)) (nd (fU (sA 71) "tell_wrong") (nd q730 nl nl) (nd q986 nl nl)))) (nd (tP []) (nd (⟨.none, none, .fields #[], #[]⟩) (nd (tP []) (nd q570 nl nl) (nd (tP [.int (6) 1522, .int (8) 1523, .int (0) 1524]) nl nl)) (nd q442 (nd (fU (sB 103 0) "TextIndex.call") nl nl) (nd q954 nl nl))) (nd q250 (nd q378 (nd q634 nl nl) (nd (fU (sA 122) "_law_lay") nl nl)) (nd (⟨.none, none, .fields #[], #[]⟩) (nd (tP [.str "self" 1408, .str "k" 1409]) nl nl) nl)))))) (nd q14 (nd q22 (nd (⟨.none, none, .fields #[], #[]⟩) (nd (fU (sA 43) "plain_default") (nd q134 (nd (tP []) (nd q518 nl nl) (nd (tP []) nl nl)) (nd q390 (nd q646 nl nl) (nd (tP [.str "w" 1640, .str "m" 1641]) nl nl))) (nd q198 (nd (⟨.none, none, .fields #[], #[]⟩) (nd q582 nl nl) (nd q838 nl nl)) (nd q454 (nd q710 nl nl) (nd (tP []) nl nl)))) (nd q102 (nd q166_1 (nd (fU (sB 66 4) "Tray.skinds_of") (nd (tP []) nl nl) (nd (tP [.int (8) 1482, .int (2) 1483]) nl nl)) (nd q422 (nd (tP []) nl nl) (nd q934 nl nl))) (nd (tP []) (nd q358 (nd (tP []) nl nl) (nd q870 nl nl)) (nd q486 (nd (tP []) nl nl) (nd (tP []) nl nl))))) (nd (tP [.str "n" 331, .str "bits" 332]) (nd q86 (nd (tP []) (nd (tP [.str "self" 686, .str "k" 687]) (nd (⟨.none, none, .fields #[], #[]⟩) nl nl) (nd q790 nl nl)) (nd (fU (sB 67 2) "Shelf.finalised") (nd q662 nl nl) (nd (fU (sA 126) "_law_holds") nl nl))) (nd (⟨.none, none, .fields #[], #[]⟩) (nd (tP []) (nd q598 nl nl) (nd (tP []) nl nl)) (nd (tP []) (nd (⟨.none, none, .fields #[], #[]⟩) nl nl) (nd q982 nl nl)))) (nd q118 (nd (fU (sB 63 0) "Starter.need") (nd q310 (nd q566 nl nl) (nd (tP [.int (1) 1514, .int (7) 1515]) nl nl)) (nd (⟨.none, none, .fields #[], #[]⟩) (nd (tP []) nl nl) (nd (⟨.none, none, .fields #[], #[]⟩) nl nl))) (nd q246 (nd q374 (nd (tP [.ref 166]) nl nl) (nd (tP []) nl nl)) (nd (fU (sA 75) "made_text") (nd q758 nl nl) nl))))) (nd (tP []) (nd (tP [.str "kt" 298, .str "k" 299]) (nd q78 (nd q142 (nd (⟨.none, none, .fields #[], #[]⟩) (nd (tP []) nl nl) (nd (⟨.none, none, .fields #[], #[]⟩) nl nl)) (nd (tP []) (nd q654 nl nl) (nd (tP []) nl nl))) (nd (tP []) (nd q334 (nd q590 nl nl) (nd q846 nl nl)) (nd q462 (nd q718 nl nl) (nd (fU (sA 134) "_law_scene") nl nl)))) (nd q110 (nd (tP []) (nd q302 (nd q558 nl nl) (nd (tP [.int (8) 1498, .int (1) 1499]) nl nl)) (nd (tP []) (nd q686 nl nl) (nd (tP []) nl nl))) (nd (fU (sB 65 0) "KindCloser.kind") (nd q366 (nd (fU (sB 99 0) "TextSame.call") nl nl) (nd q878 nl nl)) (nd (tP []) (nd (fU (sB 107 1) "BareHost.base") nl nl) (nd (⟨.none, none, .fields #[], #[]⟩) nl nl))))) (nd (tP []) (nd q94 (nd (⟨.none, none, .fields #[], #[]⟩) (nd (tP []) (nd q542 nl nl) (nd (tP [.int (65535) 1467, .int (1) 1468]) nl nl)) (nd q414 (nd (q670 P) nl nl) (nd q926 nl nl))) (nd q222 (nd (fU (sB 66 12) "Tray.wrong") (nd (tP []) nl nl) (nd (fU (sA 118) "_law_unit") nl nl)) (nd (⟨.none, none, .fields #[], #[]⟩) (nd (q734 P) nl nl) (nd q990 nl nl)))) (nd (fU (sA 52) "heap_alloc") (nd q190 (nd (tP []) (nd q574 nl nl) (nd (tP [.int (6) 1534, .int (4) 1535, .int (4) 1536]) nl nl)) (nd q446 (nd (q702 P) nl nl) (nd q958 nl nl))) (nd q254 (nd q382 (nd (⟨.none, none, .fields #[], #[]⟩) nl nl) (nd (⟨.none, none, .fields #[], #[]⟩) nl nl)) (nd q510 (nd q766 nl nl) nl)))))))))
noncomputable def b0 : List Stmt := ((behindTheImports pE).drop 0).take 25
theorem r0_f : ∀ w : World, (fun w : World => (fun os => gt 443 b0 P0 w (S0 w os)) = fun os => some (.next, st (U0 w.params) 23 269 os, cE, ⟨27, 0, 27, 9⟩)) (w.withFollow "special-get-raises" false) := fun w => by
  show (fun os => gt 443 b0 P0 (w.withFollow "special-get-raises" false) (S0 (w.withFollow "special-get-raises" false) os)) = fun os => some (.next, st (U0 (w.withFollow "special-get-raises" false).params) 23 269 os, cE, ⟨27, 0, 27, 9⟩)
  kernel_rfl
theorem r0_t : ∀ w : World, (fun w : World => (fun os => gt 443 b0 P0 w (S0 w os)) = fun os => some (.next, st (U0 w.params) 23 269 os, cE, ⟨27, 0, 27, 9⟩)) (w.withFollow "special-get-raises" true) := fun w => by
  show (fun os => gt 443 b0 P0 (w.withFollow "special-get-raises" true) (S0 (w.withFollow "special-get-raises" true) os)) = fun os => some (.next, st (U0 (w.withFollow "special-get-raises" true).params) 23 269 os, cE, ⟨27, 0, 27, 9⟩)
  kernel_rfl
theorem r0 : ∀ w : World, (fun os => gt 443 b0 P0 w (S0 w os)) = fun os => some (.next, st (U0 w.params) 23 269 os, cE, ⟨27, 0, 27, 9⟩) := fun w => byRow2 "special-get-raises" (P := fun w : World => (fun os => gt 443 b0 P0 w (S0 w os)) = fun os => some (.next, st (U0 w.params) 23 269 os, cE, ⟨27, 0, 27, 9⟩)) r0_f r0_t w
noncomputable def b1 : List Stmt := ((behindTheImports pE).drop 25).take 46
theorem r1 : ∀ w : World, (fun os => gt 3524 b1 ⟨27, 0, 27, 9⟩ w (st (U0 w.params) 23 269 os)) = fun os => some (.next, st (U1 w.params) 470 975 os, cE, ⟨291, 0, 295, 36⟩) := fun w => by kernel_rfl
noncomputable def b2 : List Stmt := ((behindTheImports pE).drop 71).take 69
theorem r2 : ∀ w : World, (fun os => gt 4285 b2 ⟨291, 0, 295, 36⟩ w (st (U1 w.params) 470 975 os)) = fun os => some (.next, st (U2 w.params) 1010 1815 os, cE, ⟨727, 0, 745, 96⟩) := fun w => by kernel_rfl
noncomputable def H1 (P : Params) : Heap := ⟨⟨(boot_o_0 P) :: (boot_o_1 P) :: (boot_o_2 P) :: (q3_3 P) :: (boot_o_4 P) :: (boot_o_5 P) :: (boot_o_6 P) :: (boot_o_7 P) :: (boot_o_8 P) :: (boot_o_9 P) :: (boot_o_10 P) :: (tP []) :: q12_2 :: q13 :: q14 :: (tP []) :: (⟨.none, none, .fields #[], #[]⟩) :: (tP [.str "k" 190]) :: (tP []) :: (fU (sA 0) "_wall") :: q20 :: q21 :: q22 :: (tP []) :: (⟨.none, none, .fields #[], #[]⟩) :: (tP [.str "kt" 272, .str "k" 273]) :: (tP []) :: (fU (sA 25) "kind_sort") :: q28 :: q29 :: (tP []) :: (⟨.none, none, .fields #[], #[]⟩) :: (tP [.str "kt" 280, .str "k" 281, .str "row" 282]) :: (tP []) :: (fU (sA 26) "elem_of") :: q35 :: q36 :: (tP []) :: (⟨.none, none, .fields #[], #[]⟩) :: (tP [.str "kt" 289, .str "k" 290, .str "row" 291]) :: (tP []) :: (fU (sA 27) "tid_of") :: q42 :: q43 :: (tP []) :: (⟨.none, none, .fields #[], #[]⟩) :: (tP [.str "kt" 298, .str "k" 299]) :: (tP []) :: (fU (sA 28) "is_value") :: q49 :: q50 :: (tP [.int (4) 325, .int (0) 326]) :: (tP []) :: (⟨.none, none, .fields #[], #[]⟩) :: (tP [.str "n" 331, .str "bits" 332]) :: (tP []) :: (fU (sA 41) "wrap_bits") :: q57 :: q58 :: (tP []) :: (⟨.none, none, .fields #[], #[]⟩) :: (tP [.str "n" 339]) :: (tP []) :: (fU (sA 42) "wrap32") :: q64 :: q65 :: (tP []) :: (⟨.none, none, .fields #[], #[]⟩) :: (tP [.str "k" 346]) :: (tP []) :: (fU (sA 43) "plain_default") :: q71 :: q72 :: (tP []) :: (⟨.none, none, .fields #[], #[]⟩) :: (tP [.str "count" 363]) :: (tP []) :: (fU (sA 49) "words_for") :: q78 :: q79 :: (tP []) :: q81 :: (q82 P) :: (tP []) :: q84 :: q85 :: q86 :: (tP []) :: (⟨.none, none, .fields #[], #[]⟩) :: q89 :: (tP []) :: (fU (sB 50 0) "Thing.__init__") :: q92 :: q93 :: q94 :: (q95 P) :: q96 :: q97 :: q98 :: q99 :: q100 :: (tP []) :: q102 :: (q103 P) :: (tP []) :: q105 :: q106 :: q107 :: (tP []) :: (⟨.none, none, .fields #[], #[]⟩) :: q110 :: (tP []) :: (fU (sB 51 0) "Heap.__init__") :: q113 :: q114 :: q115 :: (q116 P) :: q117 :: q118 :: q119 :: q120 :: q121 :: (tP []) :: (⟨.none, none, .fields #[], #[]⟩) :: q124 :: (tP []) :: (fU (sA 52) "heap_alloc") :: q127 :: q128 :: (tP []) :: q130 :: (q131 P) :: (tP []) :: q133 :: q134 :: q135 :: (tP []) :: (⟨.none, none, .fields #[], #[]⟩) :: q138 :: (tP []) :: (fU (sB 54 0) "PlaceHost.__init__") :: q141 :: q142 :: q143 :: (q144 P) :: q145 :: q146 :: q147 :: q148 :: q149 :: (tP []) :: q151 :: (q152 P) :: (tP []) :: q154 :: q155 :: q156 :: (tP []) :: (⟨.none, none, .fields #[], #[]⟩) :: q159 :: (tP []) :: (fU (sB 62 0) "Native.call") :: q162 :: q163 :: (tP []) :: (q165 P) :: q166_1 :: q167 :: q168 :: q169 :: q170 :: (tP []) :: q172 :: (q173 P) :: (tP []) :: q175 :: q176 :: q177 :: (tP []) :: (⟨.none, none, .fields #[], #[]⟩) :: q180 :: (tP []) :: (fU (sB 63 0) "Starter.need") :: q183 :: q184 :: (tP []) :: (⟨.none, none, .fields #[], #[]⟩) :: q187 :: (tP []) :: (fU (sB 63 1) "Starter.done") :: q190 :: q191 :: (tP []) :: (⟨.none, none, .fields #[], #[]⟩) :: q194 :: (tP []) :: (fU (sB 63 2) "Starter.failed") :: q197 :: q198 :: (tP []) :: (q200 P) :: q201 :: q202 :: q203 :: q204 :: q205 :: (tP []) :: q207 :: (q208 P) :: (tP []) :: q210 :: q211 :: q212 :: (tP []) :: (⟨.none, none, .fields #[], #[]⟩) :: (tP [.str "self" 600, .str "m" 601]) :: (tP []) :: (fU (sB 64 0) "Sweeper.before") :: q218 :: q219 :: (tP []) :: (q221 P) :: q222 :: q223 :: q224 :: q225 :: q226 :: (tP []) :: q228 :: (q229 P) :: (tP []) :: q231 :: q232 :: q233 :: (tP []) :: (⟨.none, none, .fields #[], #[]⟩) :: q236 :: (tP []) :: (fU (sB 65 0) "KindCloser.kind") :: q239 :: q240 :: (tP []) :: (⟨.none, none, .fields #[], #[]⟩) :: q243 :: (tP []) :: (fU (sB 65 1) "KindCloser.ref") :: q246 :: q247 :: (tP []) :: (q249 P) :: q250 :: q251 :: q252 :: q253 :: q254 :: (tP []) :: q256 :: (q257 P) :: (tP []) :: q259 :: q260 :: q261 :: (tP []) :: (⟨.none, none, .fields #[], #[]⟩) :: q264 :: (tP []) :: (fU (sB 66 0) "Tray.__init__") :: q267 :: q268 :: (tP []) :: (⟨.none, none, .fields #[], #[]⟩) :: q271 :: (tP []) :: (fU (sB 66 1) "Tray.is_a") :: q274 :: q275 :: (tP []) :: (⟨.none, none, .fields #[], #[]⟩) :: (tP [.str "self" 686, .str "k" 687]) :: (tP []) :: (fU (sB 66 2) "Tray.slots_of") :: q281 :: q282 :: (tP []) :: (⟨.none, none, .fields #[], #[]⟩) :: (tP [.str "self" 694, .str "k" 695]) :: (tP []) :: (fU (sB 66 3) "Tray.kinds_of") :: q288 :: q289 :: (tP []) :: (⟨.none, none, .fields #[], #[]⟩) :: (tP [.str "self" 702, .str "k" 703]) :: (tP []) :: (fU (sB 66 4) "Tray.skinds_of") :: q295 :: q296 :: (tP []) :: (⟨.none, none, .fields #[], #[]⟩) :: (tP [.str "self" 710, .str "fref" 711]) :: (tP []) :: (fU (sB 66 5) "Tray.slot_place") :: q302 :: q303 :: (tP []) :: (⟨.none, none, .fields #[], #[]⟩) :: q306 :: (tP []) :: (fU (sB 66 6) "Tray.target") :: q309 :: q310 :: (tP []) :: (⟨.none, none, .fields #[], #[]⟩) :: (tP [.str "self" 727, .str "k" 728]) :: (tP []) :: (fU (sB 66 7) "Tray.default") :: q316 :: q317 :: (tP []) :: (⟨.none, none, .fields #[], #[]⟩) :: (tP [.str "self" 735, .str "k" 736]) :: (tP []) :: (fU (sB 66 8) "Tray.plain") :: q323 :: q324 :: (tP []) :: (⟨.none, none, .fields #[], #[]⟩) :: (tP [.str "self" 743, .str "f" 744, .str "k" 745]) :: (tP []) :: (fU (sB 66 9) "Tray.closed") :: q330 :: q331 :: (tP []) :: (⟨.none, none, .fields #[], #[]⟩) :: q334 :: (tP []) :: (fU (sB 66 10) "Tray.closed_ref") :: q337 :: q338 :: (tP []) :: (⟨.none, none, .fields #[], #[]⟩) :: q341 :: (tP []) :: (fU (sB 66 11) "Tray.alloc") :: q344 :: q345 :: (tP []) :: (⟨.none, none, .fields #[], #[]⟩) :: (tP [.str "self" 770, .str "code" 771]) :: (tP []) :: (fU (sB 66 12) "Tray.wrong") :: q351 :: q352 :: (tP []) :: (⟨.none, none, .fields #[], #[]⟩) :: (tP [.str "self" 778, .str "f" 779]) :: (tP []) :: (fU (sB 66 13) "Tray.pop") :: q358 :: q359 :: (tP []) :: (⟨.none, none, .fields #[], #[]⟩) :: q362 :: (tP []) :: (fU (sB 66 14) "Tray.throw_new") :: q365 :: q366 :: (tP []) :: (⟨.none, none, .fields #[], #[]⟩) :: q369 :: (tP []) :: (fU (sB 66 15) "Tray.push_call") :: q372 :: q373 :: q374 :: (q375 P) :: q376 :: q377 :: q378 :: q379 :: q380 :: (tP [.ref 376]) :: q382 :: (q383 P) :: (tP []) :: q385 :: q386 :: q387 :: (tP []) :: (⟨.none, none, .fields #[], #[]⟩) :: q390 :: (tP []) :: (fU (sB 67 0) "Shelf.__init__") :: q393 :: q394 :: (tP []) :: (⟨.none, none, .fields #[], #[]⟩) :: (tP [.str "self" 855, .str "s" 856, .str "t" 857]) :: (tP []) :: (fU (sB 67 1) "Shelf.goes") :: q400 :: q401 :: (tP []) :: (⟨.none, none, .fields #[], #[]⟩) :: (tP [.str "self" 864, .str "k" 865]) :: (tP []) :: (fU (sB 67 2) "Shelf.finalised") :: q407 :: q408 :: (tP []) :: (⟨.none, none, .fields #[], #[]⟩) :: q411 :: (tP []) :: (fU (sB 67 3) "Shelf.alloc") :: q414 :: q415 :: (tP []) :: (⟨.none, none, .fields #[], #[]⟩) :: q418 :: (tP []) :: (fU (sB 67 4) "Shelf.push_call") :: q421 :: q422 :: (tP []) :: (⟨.none, none, .fields #[], #[]⟩) :: (tP [.str "self" 891, .str "addr" 892]) :: (tP []) :: (fU (sB 67 5) "Shelf.text_of") :: q428 :: q429 :: (tP []) :: (⟨.none, none, .fields #[], #[]⟩) :: (tP [.str "self" 899, .str "text" 900]) :: (tP []) :: (fU (sB 67 6) "Shelf.text_ref") :: q435 :: q436 :: (tP []) :: (⟨.none, none, .fields #[], #[]⟩) :: (tP [.str "self" 907, .str "text" 908]) :: (tP []) :: (fU (sB 67 7) "Shelf.new_text") :: q442 :: q443 :: q444 :: (q445 P) :: q446 :: q447 :: q448 :: (tP []) :: (⟨.none, none, .fields #[], #[]⟩) :: (tP [.str "m" 952, .str "tid" 953]) :: (tP []) :: (fU (sA 68) "note_thrown") :: q454 :: q455 :: (tP []) :: (⟨.none, none, .fields #[], #[]⟩) :: (tP [.str "m" 960, .str "k" 961, .str "row" 962]) :: (tP []) :: (fU (sA 69) "told_row") :: q461 :: q462 :: (tP []) :: (⟨.none, none, .fields #[], #[]⟩) :: q465 :: (tP []) :: (fU (sA 70) "told_default") :: q468 :: q469 :: (tP []) :: (⟨.none, none, .fields #[], #[]⟩) :: q472 :: (tP []) :: (fU (sA 71) "tell_wrong") :: q475 :: q476 :: (tP []) :: (⟨.none, none, .fields #[], #[]⟩) :: q479 :: (tP []) :: (fU (sA 72) "first_slots") :: q482 :: q483 :: (tP []) :: (⟨.none, none, .fields #[], #[]⟩) :: q486 :: (tP []) :: (fU (sA 73) "alloc_thing") :: q489 :: q490 :: (tP []) :: (⟨.none, none, .fields #[], #[]⟩) :: q493 :: (tP []) :: (fU (sA 74) "text_held") :: q496 :: q497 :: (tP []) :: (⟨.none, none, .fields #[], #[]⟩) :: q500 :: (tP []) :: (fU (sA 75) "made_text") :: q503 :: q504 :: (tP []) :: (⟨.none, none, .fields #[], #[]⟩) :: q507 :: (tP []) :: (fU (sA 76) "interned_text") :: q510 :: q511 :: (tP []) :: (⟨.none, none, .fields #[], #[]⟩) :: (tP [.str "yes" 1064]) :: (tP []) :: (fU (sA 90) "bool_value") :: q517 :: q518 :: (tP []) :: (⟨.none, none, .fields #[], #[]⟩) :: (tP [.str "m" 1071, .str "value" 1072]) :: (tP []) :: (fU (sA 91) "thing_named") :: q524 :: q525 :: (tP []) :: (⟨.none, none, .fields #[], #[]⟩) :: (tP [.str "m" 1079, .str "value" 1080]) :: (tP []) :: (fU (sA 92) "text_at") :: q531 :: q532 :: (tP []) :: (⟨.none, none, .fields #[], #[]⟩) :: (tP [.str "m" 1087]) :: (tP []) :: (fU (sA 93) "no_object") :: q538 :: q539 :: (tP []) :: (⟨.none, none, .fields #[], #[]⟩) :: q542 :: (tP []) :: (fU (sA 94) "bad_argument") :: q545 :: q546 :: (tP []) :: (⟨.none, none, .fields #[], #[]⟩) :: q549 :: (tP []) :: (fU (sA 95) "text_hash") :: q552 :: q553 :: (tP [.ref 166]) :: q555 :: (q556 P) :: (tP []) :: q558 :: q559 :: q560 :: (tP []) :: (⟨.none, none, .fields #[], #[]⟩) :: q563 :: (tP []) :: (fU (sB 96 0) "TextConcat.call") :: q566 :: q567 :: (tP []) :: (q569 P) :: q570 :: q571 :: q572 :: (tP [.ref 166]) :: q574 :: (q575 P) :: (tP []) :: q577 :: q578 :: q579 :: (tP []) :: (⟨.none, none, .fields #[], #[]⟩) :: q582 :: (tP []) :: (fU (sB 97 0) "TextLength.call") :: q585 :: q586 :: (tP []) :: (q588 P) :: q589 :: q590 :: q591 :: (tP [.ref 166]) :: q593 :: (q594 P) :: (tP []) :: q596 :: q597 :: q598 :: (tP []) :: (⟨.none, none, .fields #[], #[]⟩) :: q601 :: (tP []) :: (fU (sB 98 0) "TextChars.call") :: q604 :: q605 :: (tP []) :: (q607 P) :: q608 :: q609 :: q610 :: (tP [.ref 166]) :: q612 :: (q613 P) :: (tP []) :: q615 :: q616 :: q617 :: (tP []) :: (⟨.none, none, .fields #[], #[]⟩) :: q620 :: (tP []) :: (fU (sB 99 0) "TextSame.call") :: q623 :: q624 :: (tP []) :: (q626 P) :: q627 :: q628 :: q629 :: (tP [.ref 166]) :: q631 :: (q632 P) :: (tP []) :: q634 :: q635 :: q636 :: (tP []) :: (⟨.none, none, .fields #[], #[]⟩) :: q639 :: (tP []) :: (fU (sB 100 0) "TextEquals.call") :: q642 :: q643 :: (tP []) :: (q645 P) :: q646 :: q647 :: q648 :: (tP [.ref 166]) :: q650 :: (q651 P) :: (tP []) :: q653 :: q654 :: q655 :: (tP []) :: (⟨.none, none, .fields #[], #[]⟩) :: q658 :: (tP []) :: (fU (sB 101 0) "TextHash.call") :: q661 :: q662 :: (tP []) :: (q664 P) :: q665 :: q666 :: q667 :: (tP [.ref 166]) :: q669 :: (q670 P) :: (tP []) :: q672 :: q673 :: q674 :: (tP []) :: (⟨.none, none, .fields #[], #[]⟩) :: q677 :: (tP []) :: (fU (sB 102 0) "TextPart.call") :: q680 :: q681 :: (tP []) :: (q683 P) :: q684 :: q685 :: q686 :: (tP [.ref 166]) :: q688 :: (q689 P) :: (tP []) :: q691 :: q692 :: q693 :: (tP []) :: (⟨.none, none, .fields #[], #[]⟩) :: q696 :: (tP []) :: (fU (sB 103 0) "TextIndex.call") :: q699 :: q700 :: (tP []) :: (q702 P) :: q703 :: q704 :: q705 :: (tP [.ref 166]) :: q707 :: (q708 P) :: (tP []) :: q710 :: q711 :: q712 :: (tP []) :: (⟨.none, none, .fields #[], #[]⟩) :: q715 :: (tP []) :: (fU (sB 104 0) "TextCompare.call") :: q718 :: q719 :: (tP []) :: (q721 P) :: q722 :: q723 :: q724 :: (tP []) :: (⟨.none, none, .fields #[], #[]⟩) :: (tP [.str "m" 1363]) :: (tP []) :: (fU (sA 105) "install_native_text") :: q730 :: q731 :: (tP []) :: q733 :: (q734 P) :: (tP []) :: q736 :: q737 :: q738 :: (tP []) :: (⟨.none, none, .fields #[], #[]⟩) :: (tP [.str "self" 1384, .str "kt" 1385]) :: (tP []) :: (fU (sB 107 0) "BareHost.__init__") :: q744 :: q745 :: (tP []) :: (⟨.none, none, .fields #[], #[]⟩) :: (tP [.str "self" 1392, .str "k" 1393]) :: (tP []) :: (fU (sB 107 1) "BareHost.base") :: q751 :: q752 :: (tP []) :: (⟨.none, none, .fields #[], #[]⟩) :: (tP [.str "self" 1400, .str "k" 1401]) :: (tP []) :: (fU (sB 107 2) "BareHost.ifaces_at") :: q758 :: q759 :: (tP []) :: (⟨.none, none, .fields #[], #[]⟩) :: (tP [.str "self" 1408, .str "k" 1409]) :: (tP []) :: (fU (sB 107 3) "BareHost.sort") :: q765 :: q766 :: (tP []) :: (⟨.none, none, .fields #[], #[]⟩) :: (tP [.str "self" 1416, .str "tid" 1417]) :: (tP []) :: (fU (sB 107 4) "BareHost.variance") :: q772 :: q773 :: (tP []) :: (⟨.none, none, .fields #[], #[]⟩) :: (tP [.str "self" 1424, .str "k" 1425]) :: (tP []) :: (fU (sB 107 5) "BareHost.under") :: q779 :: q780 :: (tP []) :: (⟨.none, none, .fields #[], #[]⟩) :: (tP [.str "self" 1432, .str "k" 1433]) :: (tP []) :: (fU (sB 107 6) "BareHost.has_new") :: q786 :: q787 :: q788 :: (q789 P) :: q790 :: q791 :: q792 :: q793 :: q794 :: q795 :: (tP [.int (97) 1463, .int (0) 1464]) :: (tP [.int (97) 1465, .int (1) 1466]) :: (tP [.int (65535) 1467, .int (1) 1468]) :: (tP [.int (0) 1469, .int (2) 1470]) :: (tP [.int (55357) 1471, .int (3) 1472]) :: q801 :: (tP [.int (0) 1474, .int (0) 1475]) :: (tP [.int (6) 1476, .int (2) 1477]) :: (tP [.int (6) 1478, .int (4) 1479]) :: (tP [.int (4) 1480, .int (6) 1481]) :: (tP [.int (8) 1482, .int (2) 1483]) :: (tP [.int (2) 1484, .int (8) 1485]) :: (tP [.int (6) 1486, .int (6) 1487]) :: (tP [.int (8) 1488, .int (8) 1489]) :: (tP [.int (8) 1490, .int (6) 1491]) :: (tP [.int (6) 1492, .int (8) 1493]) :: (tP [.int (8) 1494, .int (0) 1495]) :: (tP [.int (0) 1496, .int (8) 1497]) :: (tP [.int (8) 1498, .int (1) 1499]) :: (tP [.int (1) 1500, .int (8) 1501]) :: (tP [.int (8) 1502, .int (7) 1503]) :: (tP [.int (7) 1504, .int (8) 1505]) :: (tP [.int (6) 1506, .int (1) 1507]) :: (tP [.int (0) 1508, .int (6) 1509]) :: (tP [.int (6) 1510, .int (5) 1511]) :: (tP [.int (2) 1512, .int (4) 1513]) :: (tP [.int (1) 1514, .int (7) 1515]) :: (tP [.int (5) 1516, .int (3) 1517]) :: q824 :: (tP [.int (8) 1519, .int (6) 1520, .int (1) 1521]) :: (tP [.int (6) 1522, .int (8) 1523, .int (0) 1524]) :: q827 :: (tP [.int (9) 1528, .int (8) 1529, .int (3) 1530]) :: (tP [.int (1) 1531, .int (7) 1532, .int (9) 1533]) :: (tP [.int (6) 1534, .int (4) 1535, .int (4) 1536]) :: q831 :: (tP []) :: (⟨.none, none, .fields #[], #[]⟩) :: q834 :: (tP []) :: (fU (sA 114) "_law_text") :: q837 :: q838 :: (tP []) :: (⟨.none, none, .fields #[], #[]⟩) :: (fU (sA 115) "_law_long") :: q842 :: q843 :: (tP []) :: (⟨.none, none, .fields #[], #[]⟩) :: q846 :: (tP []) :: (fU (sA 116) "_law_glue") :: q849 :: q850 :: (tP []) :: (⟨.none, none, .fields #[], #[]⟩) :: q853 :: (tP []) :: (fU (sA 117) "_law_cut") :: q856 :: q857 :: (tP []) :: (⟨.none, none, .fields #[], #[]⟩) :: q860 :: (tP []) :: (fU (sA 118) "_law_unit") :: q863 :: q864 :: (tP []) :: (⟨.none, none, .fields #[], #[]⟩) :: q867 :: (tP []) :: (fU (sA 119) "_law_order") :: q870 :: q871 :: (tP []) :: (⟨.none, none, .fields #[], #[]⟩) :: q874 :: (tP []) :: (fU (sA 120) "_law_seek") :: q877 :: q878 :: (tP []) :: (⟨.none, none, .fields #[], #[]⟩) :: (tP [.str "yes" 1614]) :: (tP []) :: (fU (sA 121) "_law_bool") :: q884 :: q885 :: (tP []) :: (⟨.none, none, .fields #[], #[]⟩) :: q888 :: (tP []) :: (fU (sA 122) "_law_lay") :: q891 :: q892 :: (tP []) :: (⟨.none, none, .fields #[], #[]⟩) :: q895 :: (tP []) :: (fU (sA 123) "_law_call") :: q898 :: q899 :: (tP []) :: (⟨.none, none, .fields #[], #[]⟩) :: (tP [.str "w" 1640, .str "m" 1641]) :: (tP []) :: (fU (sA 124) "_law_still") :: q905 :: q906 :: (tP []) :: (⟨.none, none, .fields #[], #[]⟩) :: q909 :: (tP []) :: (fU (sA 125) "_law_refused") :: q912 :: q913 :: (tP []) :: (⟨.none, none, .fields #[], #[]⟩) :: q916 :: (tP []) :: (fU (sA 126) "_law_holds") :: q919 :: q920 :: (tP []) :: (⟨.none, none, .fields #[], #[]⟩) :: q923 :: (tP []) :: (fU (sA 127) "_law_new") :: q926 :: q927 :: (tP []) :: (⟨.none, none, .fields #[], #[]⟩) :: (tP [.str "w" 1684, .str "gave" 1685]) :: (tP []) :: (fU (sA 128) "_law_void") :: q933 :: q934 :: (tP []) :: (⟨.none, none, .fields #[], #[]⟩) :: q937 :: (tP []) :: (fU (sA 129) "_law_join") :: q940 :: q941 :: (tP []) :: (⟨.none, none, .fields #[], #[]⟩) :: q944 :: (tP []) :: (fU (sA 130) "_law_part") :: q947 :: q948 :: (tP []) :: (⟨.none, none, .fields #[], #[]⟩) :: q951 :: (tP []) :: (fU (sA 131) "_law_letter") :: q954 :: q955 :: (tP []) :: (⟨.none, none, .fields #[], #[]⟩) :: q958 :: (tP []) :: (fU (sA 132) "_law_look") :: q961 :: q962 :: (tP []) :: (⟨.none, none, .fields #[], #[]⟩) :: (tP [.str "m" 1749]) :: (tP []) :: (fU (sA 133) "_law_idle") :: q968 :: q969 :: (tP []) :: (⟨.none, none, .fields #[], #[]⟩) :: q972 :: (tP []) :: (fU (sA 134) "_law_scene") :: q975 :: q976 :: (tP []) :: (⟨.none, none, .fields #[], #[]⟩) :: q979 :: (tP []) :: (fU (sA 135) "_law_step") :: q982 :: q983 :: (tP []) :: (⟨.none, none, .fields #[], #[]⟩) :: q986 :: (tP []) :: (fU (sA 136) "_law_border") :: q989 :: q990 :: (tP []) :: (⟨.none, none, .fields #[], #[]⟩) :: q993 :: (tP []) :: (fU (sA 137) "_law_fixed") :: q996 :: q997 :: (tP []) :: (⟨.none, none, .fields #[], #[]⟩) :: q1000 :: (tP []) :: (fU (sA 138) "_law_stand") :: q1003 :: q1004 :: (tP []) :: (⟨.none, none, .fields #[], #[]⟩) :: (fU (sA 139) "law") :: q1008 :: q1009 :: []⟩, {}⟩
noncomputable abbrev s1 (w : World) (os : OsState) : Shared := ⟨H1 w.params, #[], {}, 1815, os⟩
theorem abs1 : ∀ w : World, (fun os => (st (U2 w.params) 1010 1815 os).abs) = fun os => s1 w os := fun w => by kernel_rfl
theorem k1 : ∀ w : World, (fun os => staticsOk (importedModules pE.main.body) (boot_heap w.params) (s1 w os).heap && namesBound pE (s1 w os).heap && gensDone (s1 w os) && laidKept (boot_heap w.params) (s1 w os).heap) = fun _ => true := fun w => by kernel_rfl
noncomputable abbrev sn (w : World) (os : OsState) := openSeen view_39 loose (importedModules pE.main.body) Xt true (s1 w os)
noncomputable abbrev gd := openGood view_39 loose
theorem o1 : ∀ w : World, (fun os => (sn w os).1) = fun _ => gd.1 := fun w => by kernel_rfl
theorem o2 : ∀ w : World, (fun os => (sn w os).2.1) = fun _ => gd.2.1 := fun w => by kernel_rfl
theorem o3 : ∀ w : World, (fun os => (sn w os).2.2.1) = fun _ => gd.2.2.1 := fun w => by kernel_rfl
theorem o4 : ∀ w : World, (fun os => (sn w os).2.2.2) = fun _ => gd.2.2.2 := fun w => by kernel_rfl
theorem k8 : ∀ w : World, (fun os => hook.obs (s1 w os)) = fun _ => hook.val w := fun w => by kernel_rfl
theorem fin (w : World) (s : Shared) (q : Pos) : topRun treeTable pE w 11 (some (.ref 6)) 2 s ⟨doneF .next, cE, q, [topFrame P0]⟩ = some s := rfl
theorem cat : behindTheImports pE = b0 ++ (b1 ++ (b2 ++ [])) := by kernel_rfl
theorem sg {N : Nat} {l : List Stmt} {p : Pos} {w : World} {s s' : SharedT} {q : Pos} (h : gt N l p w s = some (.next, s', cE, q)) :
    segRun treeTable pE w 11 (some (.ref 6)) 1 N s.abs (piecesOf l env cE p [topFrame P0]) = some (.next, s'.abs, cE, q) := by
  rw [← go_eq] at h
  exact segRun_of h
theorem whole (w : World) (os : OsState) : topRun treeTable pE w 11 (some (.ref 6)) (12 + (1 + (443 + (3524 + (4285 + 2))))) ⟨boot_heap w.params, #[], boot_drawn, boot_toks, os⟩ (topStub pE) = some (s1 w os) := by
  refine go_top (congrFun (pre w) os) (piece_block (congrFun (block w) os) ?_)
  rw [cat]
  refine piece_app (sg (congrFun (r0 w) os)) ?_
  refine piece_app (sg (congrFun (r1 w) os)) ?_
  refine piece_app (sg (congrFun (r2 w) os)) ?_
  rw [← congrFun (abs1 w) os]
  exact piece_nil (fin w _ _)
theorem left : LeftO pE view_39 loose Xt hook.obs hook.val 9400 := fun w => by
  obtain ⟨⟨h, gs, d, k, os⟩, e, e'⟩ := Option.map_eq_some_iff.mp (boot_open (N := 9400) opening rfl fence w)
  obtain ⟨rfl, rfl, rfl, rfl⟩ : h = boot_heap w.params ∧ gs = #[] ∧ d = boot_drawn ∧ k = boot_toks := by simpa using e'
  have t3 := topRun_mono 1133 _ _ _ _ (whole w os)
  obtain ⟨z1, z2, z3⟩ : _ ∧ _ ∧ _ := by simpa only [Prod.mk.injEq] using size w
  have t : topFrom treeTable pE w 9400 ⟨boot_heap w.params, #[], boot_drawn, boot_toks, os⟩ = some (s1 w os) := by
    unfold topFrom
    dsimp only
    rw [z1, z2, z3]
    dsimp only
    rw [show (9400 : Nat) = 12 + (1 + (443 + (3524 + (4285 + 2)))) + 1133 from rfl, t3]
    dsimp only [Option.bind_some]
    rw [congrFun (k1 w) os]
  unfold openEnds
  rw [e]
  show (topFrom treeTable pE w 9400 _).map _ = _
  rw [t]
  exact congrArg some (Prod.ext (Prod.ext (congrFun (o1 w) os) (Prod.ext (congrFun (o2 w) os) (Prod.ext (congrFun (o3 w) os) (congrFun (o4 w) os)))) (congrFun (k8 w) os))
end hd
theorem hd.said : Challenge.rw_xm0336_01.wellSaid = true := by
  repeat' first | with_reducible refine look_both ?_ ?_ | unfold OpenLaw.wellSaid | unfold OpenRow.wellSaid | unfold OpenRow.partSaid | unfold looksOpen
  · rw [Fast.te11788848310118352699, Fast.te2368527892694137696]; as_aux_lemma => kernel_rfl
  · rw [Fast.te9807087744658564304, Fast.te2368527892694137696, Fast.te12862048085361865435]; as_aux_lemma => kernel_rfl
  · rw [Fast.te8377067652309620493, Fast.te2368527892694137696]; as_aux_lemma => kernel_rfl
  · rw [R.allR_eq, Fast.te18344453789297297638, Fast.te2368527892694137696, Fast.te3471404346716756564, Fast.sDec_eq, Fast.te14412699480532031325]; as_aux_lemma => kernel_rfl
  · rw [Fast.te8326940854005059898, R.allR_eq, Fast.te5923862056798008813, Fast.te2368527892694137696, Fast.te3471404346716756564, Fast.sDec_eq, Fast.te17691160309236699985, R.filterR_eq, Fast.te13343964577679436407]; as_aux_lemma => kernel_rfl
  · rw [Fast.te17119622794617984870, Fast.te2368527892694137696, Fast.te17868728402115742887]; as_aux_lemma => kernel_rfl
  · rw [Fast.te2368527892694137696]; as_aux_lemma => kernel_rfl
  · rw [Fast.te2368527892694137696]; as_aux_lemma => kernel_rfl
  · rw [Fast.te2368527892694137696, R.allR_eq, Fast.te9706382859710513879]; as_aux_lemma => kernel_rfl
  · rw [R.allR_eq, Fast.te2368527892694137696, Fast.te3471404346716756564, Fast.sDec_eq, Fast.te18344453789297297638, S.strDecS_eq, Fast.te2357444279172408678]; as_aux_lemma => kernel_rfl
  · rw [R.mapR_eq, Fast.te2368527892694137696, Fast.sDec_eq]; as_aux_lemma => kernel_rfl
  · rw [R.allR_eq, Fast.te2368527892694137696, Fast.te4857012375875476094, Fast.named_eq, Fast.te3471404346716756564, Fast.sDec_eq, Fast.te18344453789297297638]; as_aux_lemma => kernel_rfl
  · rw [Fast.te13582783067957832011, Fast.te2368527892694137696]; as_aux_lemma => kernel_rfl
  · rw [Fast.te5318747976498570220, Fast.te2368527892694137696]; as_aux_lemma => kernel_rfl
  · rw [Fast.te5318747976498570220, Fast.te2368527892694137696]; as_aux_lemma => kernel_rfl
  · rw [R.allR_eq, Fast.te2368527892694137696, Fast.te5318747976498570220]; as_aux_lemma => kernel_rfl
  · rw [R.allR_eq, Fast.te2368527892694137696, Fast.te4579403493507170074, R.anyR_eq, Fast.te4274047373036748609]; as_aux_lemma => kernel_rfl
  · rw [R.allR_eq, Fast.te2368527892694137696]; as_aux_lemma => kernel_rfl
  · rw [Fast.te2368527892694137696]; as_aux_lemma => kernel_rfl
  · rw [Fast.te3471404346716756564, Fast.sDec_eq, Fast.te18344453789297297638, Fast.te2368527892694137696]; as_aux_lemma => kernel_rfl
  · rw [Fast.te3471404346716756564, Fast.sDec_eq, Fast.te12749700546528644094, Fast.te2368527892694137696]; as_aux_lemma => kernel_rfl
  · as_aux_lemma => kernel_rfl
  · rw [R.allR_eq, Fast.te10501279942588096481]; as_aux_lemma => kernel_rfl
  · rw [Fast.te8179353310426384613]; as_aux_lemma => kernel_rfl
  · as_aux_lemma => kernel_rfl
  · as_aux_lemma => kernel_rfl
  · rw [Fast.te8326940854005059898, Fast.te797321630700447069, Fast.te9572597257264208301]; as_aux_lemma => kernel_rfl
  · rw [Fast.te9558739934217749035]; as_aux_lemma => kernel_rfl
  · rw [Fast.te16286561074155671207]; as_aux_lemma => kernel_rfl
  · rw [R.allR_eq, Fast.sDec_eq]; as_aux_lemma => kernel_rfl
  · rw [R.allR_eq, Fast.te797321630700447069, Fast.named_eq, Fast.sDec_eq, Fast.te6984425678791042302]; as_aux_lemma => kernel_rfl
  · rw [R.allR_eq, Fast.te17095254045102204799, Fast.te12879404354523853263, Fast.te6984425678791042302]; as_aux_lemma => kernel_rfl
  · rw [R.allR_eq, Fast.te17095254045102204799, Fast.te12879404354523853263, Fast.te6984425678791042302, Fast.te482687673346738481, Fast.sDec_eq]; as_aux_lemma => kernel_rfl
  · rw [Fast.te17119622794617984870, Fast.te3471404346716756564, Fast.sDec_eq, Fast.te9572597257264208301]; as_aux_lemma => kernel_rfl
  · rw [Fast.te3471404346716756564, Fast.sDec_eq, Fast.te10792542408131684335]; as_aux_lemma => kernel_rfl
  · rw [Fast.te7723801398212525404, Fast.sDec_eq, Fast.te10792542408131684335]; as_aux_lemma => kernel_rfl
  · rw [R.allR_eq, Fast.te10792542408131684335, Fast.named_eq]; as_aux_lemma => kernel_rfl
  · rw [Fast.te17119622794617984870, Fast.te3471404346716756564, Fast.sDec_eq, Fast.te10792542408131684335]; as_aux_lemma => kernel_rfl
  · rw [Fast.te17119622794617984870, Fast.sDec_eq]; as_aux_lemma => kernel_rfl
theorem hd.ok : (chainsOk hd.view_39 && opensWell pE && (frees Challenge.rw_xm0336_01.row.toRowW && Challenge.rw_xm0336_01.row.toRowW.within.isEmpty)) = true := by kernel_rfl
end


inductive V where
  | none | bool (b : Bool) | int (i : Int) | str (s : Str) | ref (a : Addr) | oth (v : Value)

def er : Value → V
  | .none => .none
  | .bool b => .bool b
  | .int i _ => .int i
  | .str s _ => .str s
  | .ref a => .ref a
  | v => .oth v

theorem er_none {v : Value} (h : er v = .none) : v = .none := by cases v <;> simp_all [er]
theorem er_bool {v : Value} {b : Bool} (h : er v = .bool b) : v = .bool b := by cases v <;> simp_all [er]
theorem er_int {v : Value} {i : Int} (h : er v = .int i) : ∃ t, v = .int i t := by cases v <;> simp_all [er]
theorem er_str {v : Value} {x : Str} (h : er v = .str x) : ∃ t, v = .str x t := by cases v <;> simp_all [er]
theorem er_ref {v : Value} {a : Addr} (h : er v = .ref a) : v = .ref a := by cases v <;> simp_all [er]
theorem er_oth {v u : Value} (h : er v = .oth u) : v = u := by cases v <;> simp_all [er]

inductive MO where
  | tup (vs : List V)
  | lst (vs : List V)
  | ins (C dx : Addr)
  | ns (fs : List (Str × V))
  | dcI (n : Nat) (f : Int → Option V)
  | dcS (n : Nat) (f : Str → Option V)

abbrev MH := Addr → Option MO
def MH.set (σ : MH) (a : Addr) (o : MO) : MH := fun b => if b = a then some o else σ b

set_option genInjectivity false in
set_option genSizeOf false in
structure Gd where
  p : Program
  pt : Program
  w : World
  B : Heap
  mg : Str → Option Value
  mb : Str → Option Value
  loose : List Str
  X : (Mine.hd.heap_39 w.params).In B
  T : TopRead pt loose mg mb B
  os : OsState

noncomputable def Gd.K (Γ : Gd) : Frag := Mine.hd.heap_39 Γ.w.params

def NsR (es : List DictEntry) (fs : List (Str × V)) : Prop :=
  es.map (fun e => (er e.key, er e.val)) = fs.map fun q => (V.str q.1, q.2)

def MOk (Γ : Gd) : MO → Obj → Prop
  | .tup vs, ob => ob.cls = .type "tuple" ∧ ∃ xs n, ob.data = .seq xs n ∧ xs.toList.map er = vs
  | .lst vs, ob => ∃ xs n, ob = W.listOf xs n ∧ xs.toList.map er = vs
  | .ins C dx, ob => ob = instObj C dx
  | .ns fs, ob => ∃ es n, ob = dictOf es n ∧ NsR es fs
  | .dcI n f, ob => ∃ kvs, ob.IsDictOf (PySem.intKind Γ.p Γ.w) kvs ∧ kvs.length ≤ n ∧ ∀ k, (valueAt kvs k).map er = f k
  | .dcS n f, ob => ∃ kvs, ob.IsDictOf (PySem.strKind Γ.p Γ.w) kvs ∧ kvs.length ≤ n ∧ ∀ k, (valueAt kvs k).map er = f k

abbrev Lc := List (Str × V)

structure Led (Γ : Gd) (fz : List (Addr × Obj)) (σ : MH) (news : List (Addr × Obj)) : Prop where
  nd : (news.map (·.1)).Nodup
  ok : ∀ a o, σ a = some o → ∃ ob, (a, ob) ∈ news ∧ MOk Γ o ob
  fr : ∀ p ∈ fz, p ∈ news ∧ σ p.1 = none
  fn : (fz.map (·.1)).Nodup

structure St (Γ : Gd) (fz : List (Addr × Obj)) (g : Heap) (L : Addr) (σ : MH) (m : Lc) (s : Shared) : Prop where
  ex : ∃ mm news, Fr g L s.heap mm ∧ News g L s.heap news ∧ Led Γ fz σ news ∧ (∀ x v, m.lookup x = some v → ∃ rv, mm x = some rv ∧ er rv = v)
  base : Γ.B.StaysIn g
  gens : s.gens = #[]
  os : s.os = Γ.os

set_option genInjectivity false in
set_option genSizeOf false in
structure Cx where
  Γ : Gd
  fz : List (Addr × Obj)
  A : Around
  g : Heap
  q : Str
  sc : Scope
  L : Addr
  a : Addr
  cd : Value
def Cx.env (c : Cx) : Env := envOf c.q c.sc c.L c.a c.cd
def Cx.M (c : Cx) : Model := model c.Γ.p c.Γ.w
def Cx.St (c : Cx) (σ : MH) (m : Lc) (s : Shared) : Prop := Mine.St c.Γ c.fz c.g c.L σ m s

def wG {α : Type} (c : Cx) (t : Sem α) (m : Lc) (σ : MH) (Q : α → MH → Prop) : Prop :=
  ∀ s, c.St σ m s → wpAny c.M c.A t (fun v s' => ∃ σ', c.St σ' m s' ∧ Q v σ') (fun _ _ => False) s

def wE (c : Cx) (e : Expr) (m : Lc) (σ : MH) (Q : V → MH → Prop) : Prop := wG c (eval e c.env) m σ fun v σ' => Q (er v) σ'
def wEs (c : Cx) (es : List Expr) (m : Lc) (σ : MH) (Q : List V → MH → Prop) : Prop :=
  ∀ pos, wG c (spliced (backTo pos (starEach es c.env))) m σ fun vs σ' => Q (vs.map er) σ'
def wT (c : Cx) (e : Expr) (m : Lc) (σ : MH) (Q : Bool → MH → Prop) : Prop := wG c (isTrue e c.env (eval e c.env)) m σ Q

inductive Fl where | next | brk | cont | ret (v : V)
def erF : Flow → Fl
  | .next => .next
  | .brk => .brk
  | .cont => .cont
  | .ret v => .ret (er v)

def wF (c : Cx) (t : Sem Flow) (m : Lc) (σ : MH) (Q : Fl → Lc → MH → Prop) : Prop :=
  ∀ s, c.St σ m s → wpAny c.M c.A t (fun f s' => ∃ σ' m', c.St σ' m' s' ∧ Q (erF f) m' σ') (fun _ _ => False) s
def wS (c : Cx) (b : List Stmt) (m : Lc) (σ : MH) (Q : Fl → Lc → MH → Prop) : Prop := wF c (execs b c.env) m σ Q
def w1 (c : Cx) (st : Stmt) (m : Lc) (σ : MH) (Q : Fl → Lc → MH → Prop) : Prop := wF c (exec st c.env) m σ Q

/-- the continuation of a block -/
def sq (c : Cx) (rest : List Stmt) (Q : Fl → Lc → MH → Prop) (f : Fl) (m : Lc) (σ : MH) : Prop :=
  match f with
  | .next => wS c rest m σ Q
  | f => Q f m σ
theorem sq_next {c : Cx} {rest : List Stmt} {Q : Fl → Lc → MH → Prop} {m : Lc} {σ : MH} (h : wS c rest m σ Q) : sq c rest Q .next m σ := h
theorem sq_ret {c : Cx} {rest : List Stmt} {Q : Fl → Lc → MH → Prop} {m : Lc} {σ : MH} {v : V} (h : Q (.ret v) m σ) : sq c rest Q (.ret v) m σ := h
theorem sq_brk {c : Cx} {rest : List Stmt} {Q : Fl → Lc → MH → Prop} {m : Lc} {σ : MH} (h : Q .brk m σ) : sq c rest Q .brk m σ := h
theorem sq_cont {c : Cx} {rest : List Stmt} {Q : Fl → Lc → MH → Prop} {m : Lc} {σ : MH} (h : Q .cont m σ) : sq c rest Q .cont m σ := h

section
variable {c : Cx} {m : Lc} {σ : MH}

theorem wG_mono {α : Type} {t : Sem α} {Q Q' : α → MH → Prop} (h : wG c t m σ Q) (k : ∀ v σ', Q v σ' → Q' v σ') : wG c t m σ Q' :=
  fun s hs => wpAny_mono (h s hs) (fun v s' ⟨σ', a, b⟩ => ⟨σ', a, k _ _ b⟩) fun _ _ x => x
theorem wE_mono {e : Expr} {Q Q' : V → MH → Prop} (h : wE c e m σ Q) (k : ∀ v σ', Q v σ' → Q' v σ') : wE c e m σ Q' := wG_mono h fun _ _ => k _ _
theorem wF_mono {t : Sem Flow} {Q Q' : Fl → Lc → MH → Prop} (h : wF c t m σ Q) (k : ∀ f m' σ', Q f m' σ' → Q' f m' σ') : wF c t m σ Q' :=
  fun s hs => wpAny_mono (h s hs) (fun v s' ⟨σ', m', a, b⟩ => ⟨σ', m', a, k _ _ _ b⟩) fun _ _ x => x

theorem wS_nil {Q : Fl → Lc → MH → Prop} (h : Q .next m σ) : wS c [] m σ Q := fun _ hs => wpAny_execs_nil ⟨σ, m, hs, h⟩
theorem wS_cons {st : Stmt} {rest : List Stmt} {Q : Fl → Lc → MH → Prop} (h : w1 c st m σ (sq c rest Q)) : wS c (st :: rest) m σ Q := fun s hs => by
  refine wpAny_execs_cons (wpAny_mono (h s hs) (fun f s' h' => ?_) fun _ _ x => x)
  obtain ⟨σ', m', a, b⟩ := h'
  cases f with
  | next => exact b s' a
  | brk => exact ⟨σ', m', a, b⟩
  | cont => exact ⟨σ', m', a, b⟩
  | ret v => exact ⟨σ', m', a, b⟩

theorem w1_ret {e : Expr} {pos : Pos} {Q : Fl → Lc → MH → Prop} (h : wE c e m σ fun v σ' => Q (.ret v) m σ') : w1 c (.Return (some e) pos) m σ Q := fun s hs =>
  wpAny_Return_some (wpAny_mono (h s hs) (fun _ _ ⟨σ', a, b⟩ => ⟨σ', m, a, b⟩) fun _ _ x => x)
theorem w1_if {test : Expr} {body orelse : List Stmt} {pos : Pos} {Q : Fl → Lc → MH → Prop}
    (h : wT c test m σ fun b σ' => if b = true then wS c body m σ' Q else wS c orelse m σ' Q) : w1 c (.If test body orelse pos) m σ Q := fun s hs => by
  refine wpAny_If (wpAny_mono (h s hs) (fun b s' h' => ?_) fun _ _ x => x)
  obtain ⟨σ', a, b'⟩ := h'
  split at b' <;> rename_i hb
  · rw [if_pos hb]; exact b' s' a
  · rw [if_neg hb]; exact b' s' a

theorem wT_plain {e : Expr} {Q : Bool → MH → Prop} (h : wE c e m σ fun v σ' => ∀ rv, er rv = v → wG c (truthy rv) m σ' Q)
    (hs : isTrue e c.env (eval e c.env) = (do let v ← eval e c.env; standAt e.pos; holding [v] (truthy v)) := by with_unfolding_all rfl) : wT c e m σ Q := fun s hst =>
  isTrue_plain (wpAny_mono (h s hst) (fun v s' ⟨σ', a, b⟩ => b v rfl s' a) fun _ _ x => x) hs

theorem wE_none {k : Nat} {pos : Pos} {Q : V → MH → Prop} (h : Q .none σ) : wE c (.Constant .none k pos) m σ Q := fun _ hs => wpAny_Constant_none ⟨σ, hs, h⟩
theorem St.toks {s : Shared} (hs : c.St σ m s) (tk : Nat) : c.St σ m { s with toks := tk } := ⟨hs.ex, hs.base, hs.gens, hs.os⟩
theorem wE_int {i : Int} {k : Nat} {pos : Pos} {Q : V → MH → Prop} (h : Q (.int i) σ) : wE c (.Constant (.int i) k pos) m σ Q := fun _ hs => wpAny_Constant_int ⟨σ, St.toks hs _, h⟩
theorem wE_str {x : Str} {k : Nat} {pos : Pos} {Q : V → MH → Prop} (h : Q (.str x) σ) : wE c (.Constant (.str x) k pos) m σ Q := fun _ hs => Calls.Constant_str ⟨σ, St.toks hs _, h⟩
end


theorem MH.set_self {σ : MH} {a : Addr} {o : MO} : σ.set a o a = some o := by simp [MH.set]
theorem MH.set_ne {σ : MH} {a b : Addr} {o : MO} (h : b ≠ a) : σ.set a o b = σ b := by simp [MH.set, h]
theorem MH.set_new {σ : MH} {a b : Addr} {o x : MO} (h : σ b = some x) (ha : σ a = none) : σ.set a o b = some x := by
  rw [MH.set_ne]; exact h; rintro rfl; rw [h] at ha; cases ha

def Rd (Γ : Gd) (σ : MH) (a : Addr) (o : MO) : Prop := σ a = some o ∨ ∃ ob, Γ.B.get? a = some ob ∧ MOk Γ o ob

section
variable {Γ : Gd} {fz : List (Addr × Obj)} {σ : MH} {news : List (Addr × Obj)} {g h : Heap} {L : Addr} {mm : Str → Option Value}

theorem Led.nil : Led Γ [] (fun _ => none) [] := ⟨List.nodup_nil, (fun _ _ h => nomatch h), (fun _ h => nomatch h), List.nodup_nil⟩
theorem Led.fresh {a : Addr} (l : Led Γ fz σ news) (h : ∀ p ∈ news, p.1 ≠ a) : σ a = none := by
  cases e : σ a with
  | none => rfl
  | some o => obtain ⟨ob, hm, _⟩ := l.ok a o e; exact absurd rfl (h _ hm)
theorem Led.push {a : Addr} {o : MO} {ob : Obj} (l : Led Γ fz σ news) (h : ∀ p ∈ news, p.1 ≠ a) (k : MOk Γ o ob) : Led Γ fz (σ.set a o) ((a, ob) :: news) := by
  refine ⟨?_, fun b x e => ?_, fun p hp => ⟨.tail _ (l.fr p hp).1, ?_⟩, l.fn⟩
  · rw [List.map_cons, List.nodup_cons]
    refine ⟨fun q => ?_, l.nd⟩
    obtain ⟨p, hp, e⟩ := List.mem_map.mp q
    exact h p hp e
  · by_cases hb : b = a
    · subst hb; rw [MH.set_self] at e; cases e; exact ⟨ob, .head _, k⟩
    · rw [MH.set_ne hb] at e
      obtain ⟨ob', hm, k'⟩ := l.ok b x e
      exact ⟨ob', .tail _ hm, k'⟩
  · rw [MH.set_ne (h p (l.fr p hp).1)]; exact (l.fr p hp).2
theorem upd_of {a : Addr} {ob ob' : Obj} : ∀ {news : List (Addr × Obj)}, (news.map (·.1)).Nodup → (a, ob) ∈ news →
    Upd a ob ob' news (news.map fun p => if p.1 = a then (a, ob') else p)
  | (b, x) :: r, hn, hm => by
    rw [List.map_cons, List.nodup_cons] at hn
    by_cases hb : b = a
    · subst hb
      have hr : ∀ p ∈ r, p.1 ≠ b := fun p hp e => hn.1 (e ▸ List.mem_map_of_mem (f := (·.1)) hp)
      have hx : x = ob := by
        rcases List.mem_cons.mp hm with e | e
        · cases e; rfl
        · exact absurd rfl (hr _ e)
      subst hx
      have : r.map (fun p => if p.1 = b then (b, ob') else p) = r := by
        conv => rhs; rw [← List.map_id r]
        exact List.map_congr_left fun p hp => by rw [if_neg (hr p hp)]; rfl
      rw [List.map_cons, if_pos rfl, this]
      exact .head hr
    · have hm' : (a, ob) ∈ r := by
        rcases List.mem_cons.mp hm with e | e
        · cases e; exact absurd rfl hb
        · exact e
      rw [List.map_cons, if_neg hb]
      exact .tail hb (upd_of hn.2 hm')
theorem Led.upd {a : Addr} {o' : MO} {ob ob' : Obj} (l : Led Γ fz σ news) {o : MO} (hσ : σ a = some o) (hm : (a, ob) ∈ news) (k : MOk Γ o' ob') :
    ∃ news', Upd a ob ob' news news' ∧ Led Γ fz (σ.set a o') news' := by
  refine ⟨_, upd_of l.nd hm, ?_, fun b x e => ?_, fun p hp => ?_, l.fn⟩
  · have : (news.map fun p => if p.1 = a then (a, ob') else p).map (·.1) = news.map (·.1) := by
      rw [List.map_map]
      exact List.map_congr_left fun p _ => by
        show (if p.1 = a then (a, ob') else p).1 = p.1
        split
        · rename_i e; exact e.symm
        · rfl
    rw [this]; exact l.nd
  · by_cases hb : b = a
    · subst hb; rw [MH.set_self] at e; cases e
      exact ⟨ob', List.mem_map.mpr ⟨_, hm, by rw [if_pos rfl]⟩, k⟩
    · rw [MH.set_ne hb] at e
      obtain ⟨ob₁, hm₁, k₁⟩ := l.ok b x e
      exact ⟨ob₁, List.mem_map.mpr ⟨_, hm₁, by rw [if_neg hb]⟩, k₁⟩
  · have hne : p.1 ≠ a := fun e => by have := (l.fr p hp).2; rw [e, hσ] at this; cases this
    exact ⟨List.mem_map.mpr ⟨_, (l.fr p hp).1, by rw [if_neg hne]⟩, by rw [MH.set_ne hne]; exact (l.fr p hp).2⟩

theorem St.rd {σ : MH} {m : Lc} {s : Shared} {a : Addr} {o : MO} (hs : St Γ fz g L σ m s) (r : Rd Γ σ a o) : ∃ ob, s.heap.get? a = some ob ∧ MOk Γ o ob := by
  obtain ⟨mm, news, F, N, l, _⟩ := hs.ex
  rcases r with r | ⟨ob, r, k⟩
  · obtain ⟨ob, hm, k⟩ := l.ok a o r; exact ⟨ob, (N _ hm).1, k⟩
  · exact ⟨ob, F.keep _ _ (hs.base _ _ r), k⟩
theorem St.X {σ : MH} {m : Lc} {s : Shared} (hs : St Γ fz g L σ m s) : Γ.K.In g := Γ.X.keeps hs.base
theorem St.Xs {σ : MH} {m : Lc} {s : Shared} (hs : St Γ fz g L σ m s) : Γ.K.In s.heap := by
  obtain ⟨mm, news, F, N, l, _⟩ := hs.ex
  exact hs.X.keeps F.keep
theorem St.T {σ : MH} {m : Lc} {s : Shared} (hs : St Γ fz g L σ m s) : TopRead Γ.pt Γ.loose Γ.mg Γ.mb g := Γ.T.keeps hs.base
/-- the state behind a step that keeps the frame's names -/
theorem St.of {σ σ' : MH} {m m' : Lc} {s : Shared} {h' : Heap} {news' : List (Addr × Obj)} {mm : Str → Option Value} {d : Drawn} {tk : Nat} (hs : St Γ fz g L σ m s) (F : Fr g L h' mm) (N : News g L h' news') (l : Led Γ fz σ' news')
    (lc : ∀ x v, m'.lookup x = some v → ∃ rv, mm x = some rv ∧ er rv = v) : St Γ fz g L σ' m' { heap := h', gens := s.gens, drawn := d, toks := tk, os := s.os } :=
  ⟨⟨mm, news', F, N, l, lc⟩, hs.base, hs.gens, hs.os⟩
end

section
variable {c : Cx} {m : Lc} {σ : MH}

/-! names -/
theorem wE_local {x : Str} {pos : Pos} {v : V} {Q : V → MH → Prop} (hv : m.lookup x = some v) (h : Q v σ)
    (hk : c.sc.kind = .function := by rfl) (hl : (envOf c.q c.sc c.L c.a c.cd).kindOf x = some .local := by rfl) (hd : (x == ("__debug__" : Str)) = false := by decide) : wE c (.Name x pos) m σ Q := fun s hs => by
  obtain ⟨mm, news, F, N, l, lc⟩ := hs.ex
  obtain ⟨rv, e, rfl⟩ := lc x v hv
  exact ld F e ⟨σ, hs, h⟩ hk hl hd
theorem wE_global {x : Str} {pos : Pos} {v : Value} {Q : V → MH → Prop} (e : nsIn c.Γ.K mainGlobals x = some (some v)) (h : Q (er v) σ)
    (hk : c.sc.kind = .function := by rfl) (hl : (envOf c.q c.sc c.L c.a c.cd).kindOf x = some .globalImplicit := by rfl) (hd : (x == ("__debug__" : Str)) = false := by decide) : wE c (.Name x pos) m σ Q := fun s hs => by
  obtain ⟨mm, news, F, N, l, lc⟩ := hs.ex
  exact name_K F hs.X hs.T e ⟨σ, hs, h⟩ hk hl hd
theorem wE_builtin {x : Str} {pos : Pos} {v : Value} {Q : V → MH → Prop} (e : nsIn c.Γ.K mainGlobals x = some none) (hv : bootBuiltins x = some v) (hn : x ≠ "__name__") (h : Q (er v) σ)
    (hk : c.sc.kind = .function := by rfl) (hl : (envOf c.q c.sc c.L c.a c.cd).kindOf x = some .globalImplicit := by rfl) (hd : (x == ("__debug__" : Str)) = false := by decide) : wE c (.Name x pos) m σ Q := fun s hs => by
  obtain ⟨mm, news, F, N, l, lc⟩ := hs.ex
  exact name_B F hs.X hs.T e hv hn ⟨σ, hs, h⟩ hk hl hd

/-! stores of names -/
theorem wG_store {x : Str} {rv : Value} {Q : Unit → Shared → Prop} {E : Value → Shared → Prop} {s : Shared} (hs : c.St σ m s) (h : ∀ s', c.St σ ((x, er rv) :: m) s' → Q () s')
    (hk : c.sc.kind = .function) (hl : (envOf c.q c.sc c.L c.a c.cd).kindOf x = some .local) : wpAny c.M c.A (storeName c.env x rv) Q E s := by
  obtain ⟨mm, news, F, N, l, lc⟩ := hs.ex
  refine stN F N (fun h' F' N' => h _ (St.of (d := s.drawn) hs F' N' l fun y v e => ?_)) hk hl
  rw [List.lookup_cons] at e
  by_cases hy : y = x
  · subst hy
    rw [show (y == y) = true from beq_self_eq_true y] at e
    cases e
    exact ⟨rv, if_pos rfl, rfl⟩
  · rw [show (y == x) = false from by simpa using hy] at e
    obtain ⟨r, e1, e2⟩ := lc y v e
    exact ⟨r, by rw [if_neg hy]; exact e1, e2⟩

theorem w1_assign {x : Str} {pos' pos : Pos} {e : Expr} {Q : Fl → Lc → MH → Prop} (h : wE c e m σ fun v σ' => Q .next ((x, v) :: m) σ')
    (hs : swapsWith e (some (.Name x pos')) pos.line c.env = pure false := by rfl) (hk : c.sc.kind = .function := by rfl) (hl : (envOf c.q c.sc c.L c.a c.cd).kindOf x = some .local := by rfl) :
    w1 c (.Assign [.Name x pos'] e pos) m σ Q := fun s hst => by
  refine wpAny_Assign_Name (wpAny_mono (h s hst) (fun v s' ⟨σ', a, b⟩ => ?_) fun _ _ x => x.elim) hs
  exact wG_store a (fun s'' hs'' => ⟨σ', _, hs'', b⟩) hk hl

end


section
variable {c : Cx} {m : Lc} {σ : MH}

def wC (c : Cx) (f : V) (vs : List V) (m : Lc) (σ : MH) (Q : V → MH → Prop) : Prop :=
  ∀ fv args, er fv = f → args.map er = vs → wG c (call fv args []) m σ fun v σ' => Q (er v) σ'
def wM (c : Cx) (name : Str) (v : V) (m : Lc) (σ : MH) (Q : V → List V → MH → Prop) : Prop :=
  ∀ rv pl, er rv = v → wG c (getMethod rv name pl) m σ fun fx σ' => Q (er fx.1) (fx.2.map er) σ'
def wA (c : Cx) (name : Str) (v : V) (m : Lc) (σ : MH) (Q : V → MH → Prop) : Prop :=
  ∀ rv b, er rv = v → wG c (getAttr rv name b) m σ fun u σ' => Q (er u) σ'

def CalleeOk (K : Frag) : V → Prop
  | .ref a => keepIn K (.ref a) = true
  | .oth (.builtin _) => True
  | .oth (.type _) => True
  | _ => False

theorem keeps_callee {K : Frag} {f : Value} (hk : CalleeOk K (er f)) (M : Model) (h : Heap) (X : K.In h) : ∃ k, (k = Keeper.frame ∨ k = Keeper.machine ∨ k = Keeper.boundFrame) ∧ Looks M h (keeperOf f) k := by
  cases f with
  | ref a => exact keeps_K hk h X
  | builtin i => exact ⟨.machine, .inr (.inl rfl), Looks.of_pure rfl⟩
  | type i => exact ⟨.machine, .inr (.inl rfl), Looks.of_pure rfl⟩
  | _ => exact hk.elim

theorem evalArgs_list {M : Model} {A : Around} {E : Value → Shared → Prop} {s : Shared} {f : Value} {l : List (Bool × Sem Value)} {Q : Args → Shared → Prop} (hl : l.any (·.1) = false)
    (h : wpAny M A (spliced l) (fun vs s' => Q ⟨vs, []⟩ s') E s) : wpAny M A (evalArgs f true l []) Q E s := by
  cases l with
  | nil =>
    unfold evalArgs
    show wpAny M A (spliced [] >>= _) Q E s
    refine wpAny_bind (wpAny_mono h (fun vs s' h' => wpAny_bind (wpAny_pure ?_)) fun _ _ x => x)
    refine wpAny_holding ?_
    exact wpAny_bind (wpAny_pure (wpAny_bind (wpAny_pure (wpAny_pure h'))))
  | cons x r =>
    obtain ⟨b, x⟩ := x
    cases b with
    | true => simp at hl
    | false => exact evalArgs_plain h

theorem starEach_any {env : Env} : ∀ {es : List Expr}, es.any isStarred = false → ∀ pos, (backTo pos (starEach es env)).any (·.1) = false
  | [], _, _ => rfl
  | e :: r, h, pos => by
    rw [List.any_cons, Bool.or_eq_false_iff] at h
    have ih := starEach_any (env := env) h.2 pos
    cases e
    case Starred => cases h.1
    all_goals exact ih
theorem starEach_cons {env : Env} {e : Expr} {r : List Expr} (h : isStarred e = false) : starEach (e :: r) env = (false, eval e env) :: starEach r env := by
  cases e
  case Starred => cases h
  all_goals rfl

theorem wEs_nil {Q : List V → MH → Prop} (h : Q [] σ) : wEs c [] m σ Q := fun pos s hs => spliced_nil ⟨σ, hs, h⟩
theorem wEs_cons {e : Expr} {r : List Expr} {Q : List V → MH → Prop} (h : wE c e m σ fun v σ₁ => wEs c r m σ₁ fun vs σ₂ => Q (v :: vs) σ₂) (he : isStarred e = false := by rfl) : wEs c (e :: r) m σ Q := fun pos s hs => by
  rw [starEach_cons he]
  exact spliced_cons (wpAny_mono (h s hs) (fun v s' ⟨σ', a, b⟩ => wpAny_mono (b pos s' a) (fun vs s'' ⟨σ'', a', b'⟩ => ⟨σ'', a', b'⟩) fun _ _ x => x) fun _ _ x => x)

theorem callWith_ok {pos : Pos} {f : Value} {first : List Value} {args : List Expr} {Q : V → MH → Prop} (hf : CalleeOk c.Γ.K (er f)) (ha : args.any isStarred = false)
    (h : wEs c args m σ fun vs σ₂ => wC c (er f) (first.map er ++ vs) m σ₂ Q) : wG c (callWith pos f first (backTo pos (starEach args c.env)) []) m σ fun v σ' => Q (er v) σ' := fun s hs => by
  refine callWith_of (P := fun h => c.Γ.K.In h) (by rw [starEach_any ha]; rfl) (fun h X => keeps_callee hf _ h X) (evalArgs_list (starEach_any ha pos) (wpAny_mono (h pos s hs) (fun vs s' ⟨σ', a, b⟩ => ⟨St.Xs a, ?_⟩) fun _ _ x => x))
  exact b f (first ++ vs) rfl (by rw [List.map_append]) s' a

theorem wE_call {f : Str} {p pos : Pos} {args : List Expr} {Q : V → MH → Prop} (h : wE c (.Name f p) m σ fun fv σ₁ => CalleeOk c.Γ.K fv ∧ wEs c args m σ₁ fun vs σ₂ => wC c fv vs m σ₂ Q)
    (ha : args.any isStarred = false := by rfl) : wE c (.Call (.Name f p) args [] pos) m σ Q := fun s hs =>
  wpAny_Call_NameR (wpAny_mono (h s hs) (fun fv s' ⟨σ', a, hc, b⟩ => callWith_ok hc ha (by simpa using b) s' a) fun _ _ x => x)

theorem wE_mcall {o : Expr} {name : Str} {apos pos : Pos} {args : List Expr} {pl : Sem Bool} {Q : V → MH → Prop}
    (h : wE c o m σ fun v σ₁ => wM c name v m σ₁ fun f first σ₂ => CalleeOk c.Γ.K f ∧ wEs c args m σ₂ fun vs σ₃ => wC c f (first ++ vs) m σ₃ Q)
    (ha : args.any isStarred = false := by rfl)
    (he : eval (.Call (.Attribute o name apos) args [] pos) c.env = (do
      let ov ← eval o c.env
      standAt apos.atName
      let (f, first) ← holding [ov] (getMethod ov name pl)
      callWith pos f first (backTo pos (starEach args c.env)) []) := by rfl) : wE c (.Call (.Attribute o name apos) args [] pos) m σ Q := fun s hs =>
  MethodCall_ (wpAny_mono (h s hs) (fun v s' ⟨σ', a, b⟩ => wpAny_mono (b v pl rfl s' a) (fun fx s'' ⟨σ'', a', hc, b'⟩ => callWith_ok hc ha b' s'' a') fun _ _ x => x) fun _ _ x => x) he

theorem wE_attr {o : Expr} {name : Str} {pos : Pos} {Q : V → MH → Prop} (h : wE c o m σ fun v σ₁ => wA c name v m σ₁ Q)
    (he : eval (.Attribute o name pos) c.env = (do
      let o' ← eval o c.env
      standAt pos.atName
      let r ← holding [o'] (getAttr o' name true)
      letTemporaryGo o o' r
      pure r) := by with_unfolding_all rfl) : wE c (.Attribute o name pos) m σ Q := fun s hs =>
  Attribute_any_ (wpAny_mono (h s hs) (fun v s' ⟨σ', a, b⟩ => b v true rfl s' a) fun _ _ x => x) he

/-! instances -/
theorem NsR.get {es : List DictEntry} {fs : List (Str × V)} (h : NsR es fs) {name : Str} {v : V} (e : fs.lookup name = some v) : ∃ rv, getL name es = some (some rv) ∧ er rv = v := by
  unfold NsR at h
  induction es generalizing fs with
  | nil => cases fs <;> simp_all
  | cons x r ih =>
    cases fs with
    | nil => simp at h
    | cons q fs =>
      simp only [List.map_cons, List.cons.injEq, Prod.mk.injEq] at h
      obtain ⟨⟨hk, hv⟩, hr⟩ := h
      obtain ⟨t, hk⟩ := er_str hk
      obtain ⟨qn, qv⟩ := q
      rw [List.lookup_cons] at e
      unfold getL
      rw [List.find?_cons, hk]
      by_cases hn : qn = name
      · subst hn
        rw [show (qn == qn) = true from beq_self_eq_true qn] at e
        cases e
        exact ⟨x.val, by simp [Value.isStr], hv⟩
      · rw [show (name == qn) = false from by simpa using fun e : name = qn => hn e.symm] at e
        obtain ⟨rv, e1, e2⟩ := ih hr e
        refine ⟨rv, ?_, e2⟩
        have : Value.isStr (.str qn t) name = false := by simpa [Value.isStr] using hn
        rw [this]
        unfold getL at e1
        simp only [List.any_cons, DictEntry.refKey, hk, Bool.false_or]
        exact e1
theorem NsR.none {es : List DictEntry} {fs : List (Str × V)} (h : NsR es fs) {name : Str} (e : fs.lookup name = .none) : getL name es = some .none := by
  unfold NsR at h
  induction es generalizing fs with
  | nil => rfl
  | cons x r ih =>
    cases fs with
    | nil => simp at h
    | cons q fs =>
      simp only [List.map_cons, List.cons.injEq, Prod.mk.injEq] at h
      obtain ⟨⟨hk, hv⟩, hr⟩ := h
      obtain ⟨t, hk⟩ := er_str hk
      obtain ⟨qn, qv⟩ := q
      rw [List.lookup_cons] at e
      unfold getL
      rw [List.find?_cons, hk]
      by_cases hn : qn = name
      · subst hn
        rw [show (qn == qn) = true from beq_self_eq_true qn] at e
        cases e
      · rw [show (name == qn) = false from by simpa using fun e : name = qn => hn e.symm] at e
        have e1 := ih hr e
        have : Value.isStr (.str qn t) name = false := by simpa [Value.isStr] using hn
        rw [this]
        unfold getL at e1
        simp only [List.any_cons, DictEntry.refKey, hk, Bool.false_or]
        exact e1
def setF (name : Str) (v : V) : List (Str × V) → List (Str × V)
  | [] => [(name, v)]
  | (k, u) :: r => if k == name then (k, v) :: r else (k, u) :: setF name v r
theorem NsR.put {es : List DictEntry} {fs : List (Str × V)} (h : NsR es fs) {name : Str} {hsh : Int} {t : Tok} {rv : Value} : NsR (putL name hsh (.str name t) rv es) (setF name (er rv) fs) := by
  unfold NsR at h ⊢
  induction es generalizing fs with
  | nil => cases fs with
    | nil => rfl
    | cons q r => simp at h
  | cons x r ih =>
    cases fs with
    | nil => simp at h
    | cons q fs =>
      simp only [List.map_cons, List.cons.injEq, Prod.mk.injEq] at h
      obtain ⟨⟨hk, hv⟩, hr⟩ := h
      obtain ⟨t', hk⟩ := er_str hk
      obtain ⟨qn, qv⟩ := q
      unfold putL setF
      have : x.key.isStr name = (qn == name) := by rw [hk]; rfl
      rw [this]
      by_cases hn : (qn == name) = true
      · rw [if_pos hn, if_pos hn]
        simp only [List.map_cons, hk, hr]
        rfl
      · rw [if_neg hn, if_neg hn]
        simp only [List.map_cons, ih hr, hk, hv]
        rfl
theorem NsR.length {es : List DictEntry} {fs : List (Str × V)} (h : NsR es fs) : es.length = fs.length := by
  have := congrArg List.length h; simpa using this

def nb : V → Bool
  | .oth (.builtin _) => false
  | _ => true
theorem handed_nb {v : Value} (h : nb (er v) = true) : handedIn v = true := by cases v <;> first | rfl | simp [er, nb] at h

theorem St.inst {s : Shared} {x C dx : Addr} {fs : List (Str × V)} (hs : c.St σ m s) (h1 : Rd c.Γ σ x (.ins C dx)) (h2 : Rd c.Γ σ dx (.ns fs)) : ∃ es n, NsR es fs ∧ W.InstAt s.heap x (instObj C dx) C (some (dictOf es n)) := by
  obtain ⟨o1, e1, k1⟩ := St.rd hs h1
  obtain ⟨o2, e2, es, n, k2, k3⟩ := St.rd hs h2
  obtain rfl : o1 = instObj C dx := k1
  subst k2
  exact ⟨es, n, k3, ⟨e1, rfl, rfl, e2⟩⟩

theorem wA_own {name : Str} {x C dx : Addr} {fs : List (Str × V)} {u : V} {attr : Option Value} {Q : V → MH → Prop} (h1 : Rd c.Γ σ x (.ins C dx)) (h2 : Rd c.Γ σ dx (.ns fs)) (hl : fs.lookup name = some u)
    (hg : plainGet c.Γ.K C name = true) (hh : hasDictIn c.Γ.K C = true) (ha : findIn c.Γ.K (.ref C) name = some attr) (hn : noGet c.Γ.K attr = true) (hb : nb u = true) (h : Q u σ) : wA c name (.ref x) m σ Q := by
  intro rv b e s hs
  obtain rfl := er_ref e
  obtain ⟨es, n, k, I⟩ := St.inst hs h1 h2
  obtain ⟨rv, e1, rfl⟩ := k.get hl
  obtain ⟨mm, news, F, N, l, lc⟩ := hs.ex
  exact get_own F hs.X I hg hh ha hn e1 (handed_nb hb) ⟨σ, St.toks hs _, h⟩

theorem wM_inst {name : Str} {x C dx f : Addr} {fs : List (Str × V)} {Q : V → List V → MH → Prop} (h1 : Rd c.Γ σ x (.ins C dx)) (h2 : Rd c.Γ σ dx (.ns fs)) (hl : fs.lookup name = .none)
    (hg : plainGet c.Γ.K C name = true) (hf : findIn c.Γ.K (.ref C) name = some (some (.ref f))) (ht : isFn c.Γ.K (.ref f) = true) (h : Q (.ref f) [.ref x] σ) : wM c name (.ref x) m σ Q := by
  intro rv pl e s hs
  obtain rfl := er_ref e
  obtain ⟨es, n, k, I⟩ := St.inst hs h1 h2
  obtain ⟨mm, news, F, N, l, lc⟩ := hs.ex
  exact method_inst F hs.X I hg hf ht (k.none hl) ⟨σ, hs, h⟩

def wSA (c : Cx) (v : V) (name : Str) (u : V) (m : Lc) (σ : MH) (Q : MH → Prop) : Prop := ∀ rv ru, er rv = v → er ru = u → wG c (setAttr rv name ru) m σ fun _ σ' => Q σ'
theorem wSA_own {name : Str} {x C dx : Addr} {fs : List (Str × V)} {u : V} {Q : MH → Prop} (h1 : Rd c.Γ σ x (.ins C dx)) (h2 : σ dx = some (.ns fs))
    (hs' : findIn c.Γ.K (.ref C) "__setattr__" = some (some (.builtin "object.__setattr__"))) (hp : plainOver c.Γ.K C = true) (ht : takerIn c.Γ.K C name = some none) (hh : hasDictIn c.Γ.K C = true)
    (hz : fs.length < 1000) (h : Q (σ.set dx (.ns (setF name u fs)))) : wSA c (.ref x) name u m σ Q := by
  intro rv ru e eu s hs
  obtain rfl := er_ref e
  subst eu
  obtain ⟨o1, e1, k1⟩ := St.rd hs h1
  obtain rfl : o1 = instObj C dx := k1
  obtain ⟨mm, news, F, N, l, lc⟩ := hs.ex
  obtain ⟨od, hm, es, n, rfl, k⟩ := l.ok _ _ h2
  have I : W.InstAt s.heap x (instObj C dx) C (some (dictOf es n)) := ⟨e1, rfl, rfl, (N _ hm).1⟩
  have kp := k.put (name := name) (hsh := PyData.keyHash c.Γ.w.params name) (t := s.toks + 1) (rv := ru)
  obtain ⟨news', U, l'⟩ := l.upd (o' := .ns (setF name (er ru) fs)) h2 hm (ob' := dictOf (putL name (PyData.keyHash c.Γ.w.params name) (.str name (s.toks + 1)) ru es) (putN name es n)) ⟨_, _, rfl, kp⟩
  have hlen : ∀ (l : List (Str × V)), (setF name (er ru) l).length ≤ l.length + 1 := by
    intro l
    induction l with
    | nil => simp [setF]
    | cons q r ih => obtain ⟨a, b⟩ := q; unfold setF; split <;> simp <;> (first | lia | omega)
  refine set_dict (X₀ := hs.X) F N I rfl hs' hp ht hh ?_ rfl U (by rw [kp.length]; exact Nat.le_trans (hlen fs) hz) fun h' F' N' => ⟨_, St.of (d := s.drawn) hs F' N' l' lc, h⟩
  cases e : fs.lookup name with
  | none => rw [k.none e]; rfl
  | some v => obtain ⟨rv, e1, _⟩ := k.get e; rw [e1]; rfl

theorem w1_setattr {o : Expr} {name : Str} {pos' pos : Pos} {e : Expr} {Q : Fl → Lc → MH → Prop} (h : wE c e m σ fun u σ₁ => wE c o m σ₁ fun v σ₂ => wSA c v name u m σ₂ fun σ₃ => Q .next m σ₃)
    (hs : swapsWith e (some (.Attribute o name pos')) pos.line c.env = pure false := by with_unfolding_all rfl) : w1 c (.Assign [.Attribute o name pos'] e pos) m σ Q := fun s hst =>
  plainObj_wpAny_Assign_Attribute (wpAny_mono (h s hst) (fun u s' ⟨σ', a, b⟩ => wpAny_mono (b s' a) (fun v s'' ⟨σ'', a', b'⟩ => wpAny_mono (b' v u rfl rfl s'' a') (fun _ s₃ ⟨σ₃, a₃, b₃⟩ => ⟨σ₃, m, a₃, b₃⟩) fun _ _ x => x.elim) fun _ _ x => x.elim) fun _ _ x => x.elim) hs

/-! displays -/
theorem wE_tuple {es : List Expr} {k : Nat} {pos : Pos} {Q : V → MH → Prop} (h : wEs c es m σ fun vs σ₁ => vs.length ≤ 1000 ∧ ∀ a, σ₁ a = none → Q (.ref a) (σ₁.set a (.tup vs))) : wE c (.Tuple es k pos) m σ Q := fun s hs =>
  Tuple_ (wpAny_mono (h pos s hs) (fun vs s' ⟨σ', hs', hz, b⟩ => by
    obtain ⟨mm, news, F, N, l, lc⟩ := hs'.ex
    have hne : ∀ p ∈ news, p.1 ≠ s'.heap.objs.size := fun p hp => Nat.ne_of_lt (Heap.lt_size (N p hp).1)
    exact newTuple_N F N (fun h' F' N' => ⟨_, St.of (d := s'.drawn) hs' F' N' (l.push hne (o := .tup (vs.map er)) ⟨rfl, vs.toArray, 0, rfl, rfl⟩) lc, b _ (l.fresh hne)⟩)
      (by rw [List.length_map] at hz; unfold sizeLine; (first | lia | omega))) fun _ _ x => x)
theorem wE_list {es : List Expr} {pos : Pos} {Q : V → MH → Prop} (h : wEs c es m σ fun vs σ₁ => vs.length ≤ 1000 ∧ ∀ a, σ₁ a = none → Q (.ref a) (σ₁.set a (.lst vs))) : wE c (.List es pos) m σ Q := fun s hs =>
  List_ (wpAny_mono (h pos s hs) (fun vs s' ⟨σ', hs', hz, b⟩ => by
    obtain ⟨mm, news, F, N, l, lc⟩ := hs'.ex
    have hne : ∀ p ∈ news, p.1 ≠ s'.heap.objs.size := fun p hp => Nat.ne_of_lt (Heap.lt_size (N p hp).1)
    exact newList_N F N (fun h' F' N' => ⟨_, St.of (d := s'.drawn) hs' F' N' (l.push hne (o := .lst (vs.map er)) ⟨vs.toArray, 0, rfl, rfl⟩) lc, b _ (l.fresh hne)⟩)
      (by rw [List.length_map] at hz; unfold sizeLine; (first | lia | omega))) fun _ _ x => x)
end


def Room (n : Nat) (A : Around) : Prop := A.handled = none ∧ A.depth + n ≤ 900 ∧ A.units + 20 * n ≤ 9000
theorem Room.deeper {n : Nat} {A : Around} (h : Room (n + 1) A) (env : Env) : Room n (A.deeper env) := by
  obtain ⟨a, b, c⟩ := h
  refine ⟨a, ?_, ?_⟩
  · show A.depth + 1 + n ≤ 900; (first | lia | omega)
  · show A.units + 3 + 20 * n ≤ 9000; (first | lia | omega)
theorem Room.less {n k : Nat} {A : Around} (h : Room n A) (hk : k ≤ n) : Room k A := ⟨h.1, by have := h.2.1; (first | lia | omega), by have := h.2.2; (first | lia | omega)⟩
theorem Room.under {n : Nat} {A : Around} (h : Room (n + 1) A) (C : Addr) (vals : List Value) : Room n (A.under (.builtin "type.__call__" ⟨.ref C :: vals, []⟩)) := by
  obtain ⟨a, b, c⟩ := h
  refine ⟨a, ?_, ?_⟩
  · show A.depth + 1 + n ≤ 900; (first | lia | omega)
  · have : (A.under (.builtin "type.__call__" ⟨.ref C :: vals, []⟩)).units = A.units + (Code.builtin "type.__call__" ⟨.ref C :: vals, []⟩).cUnits := rfl
    rw [this]
    have : (Code.builtin "type.__call__" ⟨.ref C :: vals, []⟩).cUnits ≤ 20 := by
      show 1 + 3 * Code.frames _ ≤ 20
      have : Code.frames (Code.builtin "type.__call__" ⟨.ref C :: vals, []⟩) ≤ 2 := Nat.le_of_ble_eq_true rfl
      (first | lia | omega)
    (first | lia | omega)

structure StH (Γ : Gd) (σ : MH) (s : Shared) : Prop where
  ex : ∃ news, Led Γ [] σ news ∧ ∀ p ∈ news, s.heap.get? p.1 = some p.2 ∧ Γ.B.get? p.1 = none
  base : Γ.B.StaysIn s.heap
  gens : s.gens = #[]
  os : s.os = Γ.os
def Ch (σ : MH) (h : Heap) (σ' : MH) (h' : Heap) : Prop := (∀ b o, h.get? b = some o → σ b = none → h'.get? b = some o) ∧ ∀ a o, σ' a = some o → σ a = none → h.get? a = none

def CallOk (Γ : Gd) (n : Nat) (f : Addr) (vs : List V) (σ : MH) (Q : V → MH → Prop) : Prop :=
  ∀ A s args, args.map er = vs → Room n A → StH Γ σ s →
    codeAny (model Γ.p Γ.w) A (.call (.ref f) ⟨args, []⟩) (fun r s' => ∃ v σ', r = .ok (.ret v) ∧ StH Γ σ' s' ∧ Ch σ s.heap σ' s'.heap ∧ Q (er v) σ') s

theorem CallOk.mono {Γ : Gd} {n : Nat} {f : Addr} {vs : List V} {σ : MH} {Q Q' : V → MH → Prop} (h : CallOk Γ n f vs σ Q) (k : ∀ v σ', Q v σ' → Q' v σ') : CallOk Γ n f vs σ Q' :=
  fun A s args e r x => codeAny_mono (h A s args e r x) fun _ _ ⟨v, σ', a, b, d, q⟩ => ⟨v, σ', a, b, d, k _ _ q⟩
theorem CallOk.less {Γ : Gd} {n k : Nat} {f : Addr} {vs : List V} {σ : MH} {Q : V → MH → Prop} (h : CallOk Γ k f vs σ Q) (hk : k ≤ n) : CallOk Γ n f vs σ Q :=
  fun A s args e r x => h A s args e (r.less hk) x

theorem Led.filter {Γ : Gd} {fz : List (Addr × Obj)} {σ : MH} {news : List (Addr × Obj)} (l : Led Γ fz σ news) : Led Γ [] σ (news.filter fun p => (σ p.1).isSome) := by
  refine ⟨(List.filter_sublist.map _).nodup l.nd, fun a o e => ?_, (fun _ h => nomatch h), List.nodup_nil⟩
  obtain ⟨ob, hm, k⟩ := l.ok a o e
  exact ⟨ob, List.mem_filter.mpr ⟨hm, by simp [e]⟩, k⟩
theorem Led.bare {Γ : Gd} {fz : List (Addr × Obj)} {σ : MH} {news : List (Addr × Obj)} (l : Led Γ fz σ news) : Led Γ [] σ news := ⟨l.nd, l.ok, (fun _ h => nomatch h), List.nodup_nil⟩

theorem none_of_some {h h' : Heap} (k : ∀ b o, h.get? b = some o → h'.get? b = some o) {b : Addr} (e : h'.get? b = none) : h.get? b = none := by
  cases q : h.get? b with
  | none => rfl
  | some o => rw [k b o q] at e; cases e

theorem St.toH {Γ : Gd} {fz : List (Addr × Obj)} {g : Heap} {L : Addr} {σ : MH} {m : Lc} {s : Shared} (hs : St Γ fz g L σ m s) : StH Γ σ s := by
  obtain ⟨mm, news, F, N, l, lc⟩ := hs.ex
  exact ⟨⟨news, l.bare, fun p hp => ⟨(N p hp).1, none_of_some hs.base (N p hp).2.2⟩⟩, fun b o e => F.keep b o (hs.base b o e), hs.gens, hs.os⟩

theorem St.back {Γ : Gd} {fz : List (Addr × Obj)} {g : Heap} {L : Addr} {σ σ' : MH} {m : Lc} {s s' : Shared} (hs : St Γ fz g L σ m s) (h' : StH Γ σ' s') (ch : Ch σ s.heap σ' s'.heap) : St Γ fz g L σ' m s' := by
  obtain ⟨mm, news, F, N, l, lc⟩ := hs.ex
  obtain ⟨news', l', N'⟩ := h'.ex
  have hdom : ∀ a o, σ a = some o → a ≠ L ∧ g.get? a = none := fun a o e => by
    obtain ⟨ob, hm, _⟩ := l.ok a o e
    exact (N _ hm).2
  obtain ⟨oL, es, ep, hL, r⟩ := F.ns
  have nL : σ L = none := by
    cases e : σ L with
    | none => rfl
    | some o => exact absurd rfl (hdom L o e).1
  have hfz : ∀ p ∈ fz, σ' p.1 = none := fun p hp => by
    cases q : σ' p.1 with
    | none => rfl
    | some x =>
      have := ch.2 _ x q (l.fr p hp).2
      rw [(N _ (l.fr p hp).1).1] at this; cases this
  have lf := l'.filter
  have L' : Led Γ fz σ' (fz ++ news'.filter fun p => (σ' p.1).isSome) := by
    refine ⟨?_, fun a o e => ?_, fun p hp => ⟨List.mem_append_left _ hp, hfz p hp⟩, l.fn⟩
    · rw [List.map_append, List.nodup_append]
      refine ⟨l.fn, lf.nd, fun a ha b hb e => ?_⟩
      obtain ⟨p, hp, rfl⟩ := List.mem_map.mp ha
      obtain ⟨q, hq, rfl⟩ := List.mem_map.mp hb
      have := (List.mem_filter.mp hq).2
      rw [← e, hfz p hp] at this; cases this
    · obtain ⟨ob, hm, k⟩ := lf.ok a o e
      exact ⟨ob, List.mem_append_right _ hm, k⟩
  refine ⟨⟨mm, _, ⟨⟨oL, es, ep, ch.1 _ _ hL nL, r⟩, fun b o e => ch.1 b o (F.keep b o e) ?_, F.above⟩, ?_, L', lc⟩, hs.base, h'.gens, h'.os⟩
  · cases q : σ b with
    | none => rfl
    | some x => rw [(hdom b x q).2] at e; cases e
  · intro p hp
    rcases List.mem_append.mp hp with hp | hp
    · have z := N _ (l.fr p hp).1
      exact ⟨ch.1 _ _ z.1 (l.fr p hp).2, z.2⟩
    obtain ⟨hp, hq⟩ := List.mem_filter.mp hp
    obtain ⟨x, hx⟩ := Option.isSome_iff_exists.mp hq
    refine ⟨(N' p hp).1, ?_, ?_⟩
    · intro e
      rw [e] at hx
      rw [ch.2 L x hx nL] at hL; cases hL
    · cases q : σ p.1 with
      | some y => exact (hdom _ y q).2
      | none => exact none_of_some F.keep (ch.2 _ x hx q)

theorem wC_fn {c : Cx} {m : Lc} {σ : MH} {n : Nat} {f : Addr} {vs : List V} {Q : V → MH → Prop} (hr : Room n c.A) (h : CallOk c.Γ n f vs σ Q) : wC c (.ref f) vs m σ Q := by
  intro fv args e ea s hs
  obtain rfl := er_ref e
  refine wpAny_call (codeAny_mono (h c.A s args ea hr (St.toH hs)) ?_)
  rintro r s' ⟨v, σ', rfl, h', ch, hq⟩
  exact ⟨σ', St.back hs h' ch, hq⟩

def retQ (Q : V → MH → Prop) (f : Fl) (_ : Lc) (σ : MH) : Prop := match f with
  | .ret v => Q v σ
  | .next => Q .none σ
  | _ => False
theorem retQ_ret {Q : V → MH → Prop} {m : Lc} {σ : MH} {v : V} (h : Q v σ) : retQ Q (.ret v) m σ := h
theorem retQ_next {Q : V → MH → Prop} {m : Lc} {σ : MH} (h : Q .none σ) : retQ Q .next m σ := h

theorem lookup_map_er (l : List (Str × Value)) (x : Str) : (l.map fun p => (p.1, er p.2)).lookup x = (l.lookup x).map er := by
  induction l with
  | nil => rfl
  | cons p r ih =>
    obtain ⟨a, b⟩ := p
    rw [List.map_cons, List.lookup_cons, List.lookup_cons]
    cases h : x == a with
    | true => rfl
    | false => exact ih
theorem zip_map_er (ps : List Str) (args : List Value) : (ps.zip args).map (fun p => (p.1, er p.2)) = ps.zip (args.map er) := by
  induction ps generalizing args with
  | nil => rfl
  | cons p r ih => cases args with
    | nil => rfl
    | cons a t => simp [ih]

theorem callOk_def {Γ : Gd} {n : Nat} {f : Addr} {vs : List V} {σ : MH} {Q : V → MH → Prop} {name qual : Str} {params : Arguments} {body : List Stmt} {scope : Scope} {dV kV doc pm cdv ct oc : Value} {an od : Option Addr} {osl : Array (Option Value)}
    (ho : Γ.K.lookup f = some ⟨oc, od, .func (fnOf name qual params body scope dV kV doc pm an cdv ct), osl⟩) (hcd : codeIn Γ.K cdv qual = true)
    (hlen : vs.length = (params.args.map (·.arg)).length)
    (hbind : ∀ args : List Value, args.length = vs.length → bindArgs (fnOf name qual params body scope dV kV doc pm an cdv ct) ⟨args, []⟩ = pure ((params.args.map (·.arg)).zip args))
    (hloc : ((params.args.map (·.arg)).all fun x => scope.names.lookup x == some .local) = true)
    (h : ∀ A g L, Room n A → wS ⟨Γ, [], A, g, qual, scope, L, f, cdv⟩ body ((params.args.map (·.arg)).zip vs).reverse σ (retQ Q))
    (hcell : (scope.names.all fun x => x.2 != .cell) = true) (hco : scope.isCoroutine = false) (hgen : scope.isGenerator = false) (hk : scope.kind = .function) : CallOk Γ (n + 1) f vs σ Q := by
  intro A s args ea hr hH
  subst ea
  obtain ⟨news, l, N⟩ := hH.ex
  have hX := Γ.X.keeps hH.base
  have lf := l.filter
  have hsome : ∀ b, b ∈ (news.filter fun p => (σ p.1).isSome).map (·.1) → ∃ o, σ b = some o := fun b hb => by
    obtain ⟨p, hp, rfl⟩ := List.mem_map.mp hb
    exact Option.isSome_iff_exists.mp (List.mem_filter.mp hp).2
  have hnone : ∀ b, σ b = none → b ∉ (news.filter fun p => (σ p.1).isSome).map (·.1) := fun b e hb => by
    obtain ⟨o, e'⟩ := hsome b hb
    rw [e] at e'; cases e'
  refine codeAny_call_def (binds := (params.args.map (·.arg)).zip args) (hdata := rfl) (body := body) (by have := hr.2.1; show A.depth < 1000; (first | lia | omega)) (hX _ _ ho) ((Γ.T.nolimit).keeps hH.base) (codeRec_of hX hcd) rfl (BindsTo.of_eq (hbind args (by simp))) ?_ ?_ ?_ hco hgen hk
  · intro x hx
    have := List.all_eq_true.mp hcell x hx
    simpa using this
  · intro x hx
    have := List.all_eq_true.mp hloc x.1 (List.of_mem_zip hx).1
    simpa using this
  · intro h₀ hns hkeep
    have F : Fr (hideAll s.heap ((news.filter fun p => (σ p.1).isSome).map (·.1))) s.heap.objs.size h₀ _ := ⟨hns, fun b o e => hkeep b o (of_hideAll _ e), Nat.le_of_eq (hideAll_size _ _)⟩
    have NN : News (hideAll s.heap ((news.filter fun p => (σ p.1).isSome).map (·.1))) s.heap.objs.size h₀ (news.filter fun p => (σ p.1).isSome) := fun p hp =>
      ⟨hkeep _ _ (N p (List.mem_filter.mp hp).1).1, Nat.ne_of_lt (Heap.lt_size (N p (List.mem_filter.mp hp).1).1), hideAll_none _ (List.mem_map_of_mem hp)⟩
    have hb : Γ.B.StaysIn (hideAll s.heap ((news.filter fun p => (σ p.1).isSome).map (·.1))) := fun b o e => hideAll_get _ (hH.base b o e) fun hm => by
      obtain ⟨p, hp, rfl⟩ := List.mem_map.mp hm
      rw [(N p (List.mem_filter.mp hp).1).2] at e; cases e
    have S : St Γ [] (hideAll s.heap ((news.filter fun p => (σ p.1).isSome).map (·.1))) s.heap.objs.size σ ((params.args.map (·.arg)).zip (args.map er)).reverse { s with heap := h₀, toks := s.toks + ((params.args.map (·.arg)).zip args).length } :=
      ⟨⟨_, _, F, NN, lf, fun x v e => by
        rw [← zip_map_er, ← List.map_reverse, lookup_map_er] at e
        cases q : ((params.args.map (·.arg)).zip args).reverse.lookup x with
        | none => rw [q] at e; cases e
        | some rv => rw [q] at e; cases e; exact ⟨rv, rfl, rfl⟩⟩, hb, hH.gens, hH.os⟩
    refine wpAny_mono (h (A.deeper (envOf qual scope s.heap.objs.size f cdv)) _ _ (hr.deeper _) _ S) ?_ fun _ _ x => x.elim
    rintro fl s' ⟨σ', m', S', hq⟩
    obtain ⟨mm', news', F', N', l', _⟩ := S'.ex
    have ch : Ch σ s.heap σ' s'.heap := ⟨fun b o e hn => F'.keep b o (hideAll_get _ e (hnone b hn)), fun a o e hn => by
      obtain ⟨ob, hm, _⟩ := l'.ok a o e
      cases q : s.heap.get? a with
      | none => rfl
      | some x =>
        have e1 := (N' _ hm).2.2
        rw [hideAll_get _ q (hnone a hn)] at e1; cases e1⟩
    cases fl with
    | next => exact ⟨_, σ', rfl, S'.toH, ch, hq⟩
    | ret v => exact ⟨_, σ', rfl, S'.toH, ch, hq⟩
    | brk => exact hq.elim
    | cont => exact hq.elim

/-! making an instance -/
theorem wC_make {c : Cx} {m : Lc} {σ : MH} {n : Nat} {C fI : Addr} {vs : List V} {Q : V → MH → Prop} (hr : Room (n + 1) c.A) (hm : makesIn c.Γ.K C = true) (hi : findIn c.Γ.K (.ref C) "__init__" = some (some (.ref fI))) (hf : isFn c.Γ.K (.ref fI) = true)
    (h : ∀ x dx, σ dx = none → σ x = none → x ≠ dx → CallOk c.Γ n fI (.ref x :: vs) ((σ.set dx (.ns [])).set x (.ins C dx)) fun v σ' => v = .none ∧ Q (.ref x) σ') : wC c (.ref C) vs m σ Q := by
  intro fv args e ea s hs
  obtain rfl := er_ref e
  obtain ⟨mm, news, F, N, l, lc⟩ := hs.ex
  refine call_cls F hs.X N hm hi hf fun x dx h' F' N' l1 l2 => ?_
  have hdx : ∀ p ∈ news, p.1 ≠ dx := fun p hp => Nat.ne_of_lt (l1 p hp)
  have hx : ∀ p ∈ (dx, dictOf [] 0) :: news, p.1 ≠ x := fun p hp => by
    rcases List.mem_cons.mp hp with rfl | hp
    · exact Nat.ne_of_lt l2
    · exact Nat.ne_of_lt (Nat.lt_trans (l1 p hp) l2)
  have l' := (l.push hdx (o := .ns []) ⟨[], 0, rfl, rfl⟩).push hx (o := .ins C dx) rfl
  have S : St c.Γ c.fz c.g c.L ((σ.set dx (.ns [])).set x (.ins C dx)) m { s with heap := h' } := St.of (d := s.drawn) (tk := s.toks) hs F' N' l' lc
  have f1 := l.fresh hdx
  have f2 : σ x = none := l.fresh fun p hp => hx p (.tail _ hp)
  refine codeAny_mono (h x dx f1 f2 (Nat.ne_of_gt l2) _ _ (.ref x :: args) (by rw [List.map_cons, ea]; rfl) (hr.under _ _) S.toH) ?_
  rintro r s' ⟨v, σ', rfl, h'', ch, hv, hq⟩
  have := er_none hv
  subst this
  exact ⟨rfl, σ', S.back h'' ch, hq⟩
theorem wC_make0 {c : Cx} {m : Lc} {σ : MH} {C : Addr} {Q : V → MH → Prop} (hm : makesIn c.Γ.K C = true) (hi : findIn c.Γ.K (.ref C) "__init__" = some (some (.builtin "object.__init__")))
    (h : ∀ x dx, σ dx = none → σ x = none → x ≠ dx → Q (.ref x) ((σ.set dx (.ns [])).set x (.ins C dx))) : wC c (.ref C) [] m σ Q := by
  intro fv args e ea s hs
  obtain rfl := er_ref e
  obtain rfl : args = [] := by simpa using ea
  obtain ⟨mm, news, F, N, l, lc⟩ := hs.ex
  refine call_cls0 F hs.X N hm hi fun x dx h' F' N' l1 l2 => ?_
  have hdx : ∀ p ∈ news, p.1 ≠ dx := fun p hp => Nat.ne_of_lt (l1 p hp)
  have hx : ∀ p ∈ (dx, dictOf [] 0) :: news, p.1 ≠ x := fun p hp => by
    rcases List.mem_cons.mp hp with rfl | hp
    · exact Nat.ne_of_lt l2
    · exact Nat.ne_of_lt (Nat.lt_trans (l1 p hp) l2)
  have l' := (l.push hdx (o := .ns []) ⟨[], 0, rfl, rfl⟩).push hx (o := .ins C dx) rfl
  exact ⟨_, St.of (d := s.drawn) (tk := s.toks) hs F' N' l' lc, h x dx (l.fresh hdx) (l.fresh fun p hp => hx p (.tail _ hp)) (Nat.ne_of_gt l2)⟩


section
variable {c : Cx} {m : Lc} {σ : MH}

def wB (c : Cx) (op : Operator) (a b : V) (m : Lc) (σ : MH) (Q : V → MH → Prop) : Prop :=
  ∀ ra rb, er ra = a → er rb = b → wG c (binaryOp op ra rb) m σ fun v σ' => Q (er v) σ'
def wCmp (c : Cx) (op : CmpOp) (a b : V) (m : Lc) (σ : MH) (Q : V → MH → Prop) : Prop :=
  ∀ ra rb, er ra = a → er rb = b → wG c (compareOp op ra rb) m σ fun v σ' => Q (er v) σ'
def wTr (c : Cx) (v : V) (m : Lc) (σ : MH) (Q : Bool → MH → Prop) : Prop :=
  ∀ rv, er rv = v → wG c (truthy rv) m σ Q
def isSlc : Expr → Bool
  | .Slice .. => true
  | _ => false
theorem subscripted_plain {slice : Expr} (h : isSlc slice = false) (o i : Value) : subscripted slice false o i = operate [o, i] (getItem o i) := by
  cases slice
  case Slice => cases h
  all_goals rfl
def wI (c : Cx) (o i : V) (m : Lc) (σ : MH) (Q : V → MH → Prop) : Prop :=
  ∀ ro ri value slice, er ro = o → er ri = i → isSlc slice = false → wG c (subscriptTail value slice ro ri) m σ fun v σ' => Q (er v) σ'

theorem wE_bin {l r : Expr} {op : Operator} {pos : Pos} {Q : V → MH → Prop} (h : wE c l m σ fun a σ₁ => wE c r m σ₁ fun b σ₂ => wB c op a b m σ₂ Q) : wE c (.BinOp l op r pos) m σ Q := fun s hs =>
  wpAny_BinOp (wpAny_mono (h s hs) (fun a s' ⟨σ', x, y⟩ => wpAny_mono (y s' x) (fun b s'' ⟨σ'', x', y'⟩ => y' a b rfl rfl s'' x') fun _ _ x => x) fun _ _ x => x)
theorem wE_cmp {l r : Expr} {op : CmpOp} {pos : Pos} {Q : V → MH → Prop} (h : wE c l m σ fun a σ₁ => wE c r m σ₁ fun b σ₂ => wCmp c op a b m σ₂ Q)
    (hm : behindInMarks op r = false := by with_unfolding_all rfl) : wE c (.Compare l [op] [r] pos) m σ Q := fun s hs =>
  wpAny_Compare1 (wpAny_mono (h s hs) (fun a s' ⟨σ', x, y⟩ => wpAny_mono (y s' x) (fun b s'' ⟨σ'', x', y'⟩ => y' a b rfl rfl s'' x') fun _ _ x => x) fun _ _ x => x) hm
theorem wT_cmp {l r : Expr} {op : CmpOp} {pos : Pos} {Q : Bool → MH → Prop} (h : wE c l m σ fun a σ₁ => wE c r m σ₁ fun b σ₂ => wCmp c op a b m σ₂ fun v σ₃ => wTr c v m σ₃ Q)
    (hm : behindInMarks op r = false := by with_unfolding_all rfl) : wT c (.Compare l [op] [r] pos) m σ Q := fun s hs =>
  wpAny_isTrue_Compare1 (wpAny_mono (h s hs) (fun a s' ⟨σ', x, y⟩ => wpAny_mono (y s' x) (fun b s'' ⟨σ'', x', y'⟩ => wpAny_mono (y' a b rfl rfl s'' x') (fun v s₃ ⟨σ₃, x₃, y₃⟩ => y₃ v rfl s₃ x₃) fun _ _ x => x) fun _ _ x => x) fun _ _ x => x) hm
theorem wTr_bool {b : Bool} {Q : Bool → MH → Prop} (h : Q b σ) : wTr c (.bool b) m σ Q := fun rv e s hs => by
  obtain rfl := er_bool e
  exact wpAny_truthy_bool ⟨σ, hs, h⟩
theorem wTr_none {Q : Bool → MH → Prop} (h : Q false σ) : wTr c .none m σ Q := fun rv e s hs => by
  obtain rfl := er_none e
  exact fun _ _ _ => ⟨σ, hs, h⟩
theorem wTr_tup {a : Addr} {vs : List V} {Q : Bool → MH → Prop} (r : Rd c.Γ σ a (.tup vs)) (hz : vs.length ≤ 2000000) (h : Q (!vs.isEmpty) σ) : wTr c (.ref a) m σ Q := fun rv e s hs => by
  obtain rfl := er_ref e
  obtain ⟨ob, e1, hc, xs, n, hd, rfl⟩ := St.rd hs r
  have hz' : xs.size ≤ 2000000 := by simpa using hz
  refine truthy_tuple (items := xs) ⟨ob, e1, hc, n, hd⟩ (by first | lia | omega) ⟨σ, St.toks hs _, ?_⟩
  have : xs.isEmpty = (xs.toList.map er).isEmpty := by cases xs; rename_i l; cases l <;> simp
  rw [this]; exact h

theorem wE_unary {op : UnaryOp} {x : Expr} {pos : Pos} {Q : V → MH → Prop} (h : wE c x m σ fun v σ₁ => ∀ rv, er rv = v → wG c (unaryOp op rv) m σ₁ fun u σ₂ => Q (er u) σ₂) : wE c (.UnaryOp op x pos) m σ Q := fun s hs =>
  UnaryOp_ (wpAny_mono (h s hs) (fun v s' ⟨σ', a, b⟩ => b v rfl s' a) fun _ _ x => x)
theorem wE_neg {x : Expr} {pos : Pos} {Q : V → MH → Prop} (h : wE c x m σ fun v σ₁ => ∃ i, v = .int i ∧ Q (.int (-i)) σ₁) : wE c (.UnaryOp .USub x pos) m σ Q :=
  wE_unary (wE_mono h fun v σ' ⟨i, e, q⟩ rv hv s hs => by
    subst e; obtain ⟨t, rfl⟩ := er_int hv
    exact neg_int ⟨σ', St.toks hs _, q⟩)

theorem wT_not {x : Expr} {pos : Pos} {Q : Bool → MH → Prop} (h : wT c x m σ fun b σ' => Q (!b) σ') : wT c (.UnaryOp .Not x pos) m σ Q := fun s hs =>
  isTrue_not (h s hs)
/-- and / or of tests: the whole plays no part -/
def wTB (c : Cx) (op : BoolOp) (es : List Expr) (m : Lc) (σ : MH) (Q : Bool → MH → Prop) : Prop :=
  ∀ whole pos, wG c (isTrue (.BoolOp op es pos) c.env whole) m σ Q
theorem wT_bool {op : BoolOp} {es : List Expr} {pos : Pos} {Q : Bool → MH → Prop} (h : wTB c op es m σ Q) : wT c (.BoolOp op es pos) m σ Q := h _ _
theorem wTB_and {x : Expr} {r : List Expr} {Q : Bool → MH → Prop} (h : wT c x m σ fun b σ' => if b = true then wTB c .And r m σ' Q else Q false σ') : wTB c .And (x :: r) m σ Q := fun whole pos s hs =>
  isTrue_and (wpAny_mono (h s hs) (fun b s' ⟨σ', a, q⟩ => by
    dsimp only at q
    split at q <;> rename_i hb
    · rw [if_pos hb]; exact q _ _ s' a
    · rw [if_neg hb]; exact ⟨σ', a, q⟩) fun _ _ x => x)
theorem wTB_or {x : Expr} {r : List Expr} {Q : Bool → MH → Prop} (h : wT c x m σ fun b σ' => if b = true then Q true σ' else wTB c .Or r m σ' Q) : wTB c .Or (x :: r) m σ Q := fun whole pos s hs =>
  isTrue_or (wpAny_mono (h s hs) (fun b s' ⟨σ', a, q⟩ => by
    dsimp only at q
    split at q <;> rename_i hb
    · rw [if_pos hb]; exact ⟨σ', a, q⟩
    · rw [if_neg hb]; exact q _ _ s' a) fun _ _ x => x)
theorem wTB_and0 {Q : Bool → MH → Prop} (h : Q true σ) : wTB c .And [] m σ Q := fun whole pos s hs => isTrue_and_nil ⟨σ, hs, h⟩
theorem wTB_or0 {Q : Bool → MH → Prop} (h : Q false σ) : wTB c .Or [] m σ Q := fun whole pos s hs => isTrue_or_nil ⟨σ, hs, h⟩
theorem wE_and {x y : Expr} {r : List Expr} {pos : Pos} {Q : V → MH → Prop} (h : wE c x m σ fun v σ₁ => wTr c v m σ₁ fun b σ₂ => if b = true then wE c (.BoolOp .And (y :: r) pos) m σ₂ Q else Q v σ₂) : wE c (.BoolOp .And (x :: y :: r) pos) m σ Q := fun s hs =>
  BoolOp_and (wpAny_mono (h s hs) (fun v s' ⟨σ', a, b⟩ => wpAny_mono (b v rfl s' a) (fun k s'' ⟨σ'', a', q⟩ => by
    dsimp only at q
    split at q <;> rename_i hb
    · rw [if_pos hb]; exact q s'' a'
    · rw [if_neg hb]; exact ⟨σ'', a', q⟩) fun _ _ x => x) fun _ _ x => x)
theorem wE_or {x y : Expr} {r : List Expr} {pos : Pos} {Q : V → MH → Prop} (h : wE c x m σ fun v σ₁ => wTr c v m σ₁ fun b σ₂ => if b = true then Q v σ₂ else wE c (.BoolOp .Or (y :: r) pos) m σ₂ Q) : wE c (.BoolOp .Or (x :: y :: r) pos) m σ Q := fun s hs =>
  BoolOp_or (wpAny_mono (h s hs) (fun v s' ⟨σ', a, b⟩ => wpAny_mono (b v rfl s' a) (fun k s'' ⟨σ'', a', q⟩ => by
    dsimp only at q
    split at q <;> rename_i hb
    · rw [if_pos hb]; exact ⟨σ'', a', q⟩
    · rw [if_neg hb]; exact q s'' a') fun _ _ x => x) fun _ _ x => x)
theorem wE_one {op : BoolOp} {x : Expr} {pos : Pos} {Q : V → MH → Prop} (h : wE c x m σ Q) : wE c (.BoolOp op [x] pos) m σ Q := fun s hs => BoolOp_one (h s hs)
theorem wE_bc {b : Bool} {k : Nat} {pos : Pos} {Q : V → MH → Prop} (h : Q (.bool b) σ) : wE c (.Constant (.bool b) k pos) m σ Q := fun s hs => Constant_bool ⟨σ, hs, h⟩
theorem wT_e {e : Expr} {Q : Bool → MH → Prop} (h : wE c e m σ fun v σ' => wTr c v m σ' Q)
    (hs : isTrue e c.env (eval e c.env) = (do let v ← eval e c.env; standAt e.pos; holding [v] (truthy v)) := by with_unfolding_all rfl) : wT c e m σ Q := wT_plain h hs

/-! ints -/
theorem wB_add {a b : Int} {Q : V → MH → Prop} (h : Q (.int (a + b)) σ) : wB c .Add (.int a) (.int b) m σ Q := fun ra rb ea eb s hs => by
  obtain ⟨t, rfl⟩ := er_int ea; obtain ⟨u, rfl⟩ := er_int eb
  exact add_int ⟨σ, St.toks hs _, h⟩
theorem wB_sub {a b : Int} {Q : V → MH → Prop} (h : Q (.int (a - b)) σ) : wB c .Sub (.int a) (.int b) m σ Q := fun ra rb ea eb s hs => by
  obtain ⟨t, rfl⟩ := er_int ea; obtain ⟨u, rfl⟩ := er_int eb
  exact sub_int ⟨σ, St.toks hs _, h⟩
theorem wB_mod {a b : Int} {Q : V → MH → Prop} (hb : b ≠ 0) (h : Q (.int (a.fmod b)) σ) : wB c .Mod (.int a) (.int b) m σ Q := fun ra rb ea eb s hs => by
  obtain ⟨t, rfl⟩ := er_int ea; obtain ⟨u, rfl⟩ := er_int eb
  exact mod_int hb ⟨σ, St.toks hs _, h⟩
theorem no_pylong {a b : Int} (h0 : 0 < b) (hb : b < 2 ^ 60) : Builtin.divisionGoesByPylong a b = false := by
  have hl : b.natAbs.log2 < 60 := (Nat.log2_lt (by first | lia | omega)).mpr (by first | lia | omega)
  unfold Builtin.divisionGoesByPylong
  dsimp only
  rw [Bool.and_eq_false_iff]
  refine .inl (decide_eq_false ?_)
  split <;> (first | lia | omega)
theorem wB_div {a b : Int} {Q : V → MH → Prop} (h0 : 0 < b) (hb : b < 2 ^ 60) (h : Q (.int (a.fdiv b)) σ) : wB c .FloorDiv (.int a) (.int b) m σ Q := fun ra rb ea eb s hs => by
  obtain ⟨t, rfl⟩ := er_int ea; obtain ⟨u, rfl⟩ := er_int eb
  exact floordiv_int (by first | lia | omega) ⟨σ, St.toks hs _, h⟩ (.inl (no_pylong h0 hb))

theorem wCmp_eqI {a b : Int} {Q : V → MH → Prop} (h : Q (.bool (decide (a = b))) σ) : wCmp c .Eq (.int a) (.int b) m σ Q := fun ra rb ea eb s hs => by
  obtain ⟨t, rfl⟩ := er_int ea; obtain ⟨u, rfl⟩ := er_int eb
  refine eq_int ⟨σ, hs, ?_⟩
  rw [show (a == b) = decide (a = b) from rfl]; exact h
theorem wCmp_neI {a b : Int} {Q : V → MH → Prop} (h : Q (.bool (!decide (a = b))) σ) : wCmp c .NotEq (.int a) (.int b) m σ Q := fun ra rb ea eb s hs => by
  obtain ⟨t, rfl⟩ := er_int ea; obtain ⟨u, rfl⟩ := er_int eb
  refine ne_int ⟨σ, hs, ?_⟩
  rw [show (a != b) = !decide (a = b) from rfl]; exact h
theorem wCmp_ltI {a b : Int} {Q : V → MH → Prop} (h : Q (.bool (decide (a < b))) σ) : wCmp c .Lt (.int a) (.int b) m σ Q := fun ra rb ea eb s hs => by
  obtain ⟨t, rfl⟩ := er_int ea; obtain ⟨u, rfl⟩ := er_int eb
  exact lt_int ⟨σ, hs, h⟩
theorem wCmp_leI {a b : Int} {Q : V → MH → Prop} (h : Q (.bool (decide (a ≤ b))) σ) : wCmp c .LtE (.int a) (.int b) m σ Q := fun ra rb ea eb s hs => by
  obtain ⟨t, rfl⟩ := er_int ea; obtain ⟨u, rfl⟩ := er_int eb
  exact le_int ⟨σ, hs, h⟩
theorem wCmp_gtI {a b : Int} {Q : V → MH → Prop} (h : Q (.bool (decide (b < a))) σ) : wCmp c .Gt (.int a) (.int b) m σ Q := fun ra rb ea eb s hs => by
  obtain ⟨t, rfl⟩ := er_int ea; obtain ⟨u, rfl⟩ := er_int eb
  exact gt_int ⟨σ, hs, h⟩
theorem wCmp_geI {a b : Int} {Q : V → MH → Prop} (h : Q (.bool (decide (b ≤ a))) σ) : wCmp c .GtE (.int a) (.int b) m σ Q := fun ra rb ea eb s hs => by
  obtain ⟨t, rfl⟩ := er_int ea; obtain ⟨u, rfl⟩ := er_int eb
  exact ge_int ⟨σ, hs, h⟩

/-! none -/
def V.isN : V → Bool
  | .none => true
  | _ => false
theorem isN_er (v : Value) : (v == Value.none) = (er v).isN := by
  cases v <;> first | rfl | exact beq_eq_false_iff_ne.mpr (by intro h; cases h)
theorem wCmp_is {a : V} {Q : V → MH → Prop} (h : Q (.bool a.isN) σ) : wCmp c .Is a .none m σ Q := fun ra rb ea eb s hs => by
  obtain rfl := er_none eb; subst ea
  refine is_none ⟨σ, hs, ?_⟩
  rw [isN_er]; exact h
theorem wCmp_isnt {a : V} {Q : V → MH → Prop} (h : Q (.bool (!a.isN)) σ) : wCmp c .IsNot a .none m σ Q := fun ra rb ea eb s hs => by
  obtain rfl := er_none eb; subst ea
  refine isNot_none ⟨σ, hs, ?_⟩
  rw [isN_er]; exact h

/-! strs -/
theorem wCmp_eqS {a b : Str} {Q : V → MH → Prop} (h : Q (.bool (decide (a = b))) σ) : wCmp c .Eq (.str a) (.str b) m σ Q := fun ra rb ea eb s hs => by
  obtain ⟨t, rfl⟩ := er_str ea; obtain ⟨u, rfl⟩ := er_str eb
  refine eq_str ⟨σ, hs, ?_⟩
  rw [show (a == b) = decide (a = b) from by by_cases e : a = b <;> simp [e]]; exact h
theorem wCmp_neS {a b : Str} {Q : V → MH → Prop} (h : Q (.bool (!decide (a = b))) σ) : wCmp c .NotEq (.str a) (.str b) m σ Q := fun ra rb ea eb s hs => by
  obtain ⟨t, rfl⟩ := er_str ea; obtain ⟨u, rfl⟩ := er_str eb
  refine ne_str ⟨σ, hs, ?_⟩
  rw [show (a != b) = !decide (a = b) from by by_cases e : a = b <;> simp [e]]; exact h
theorem wCmp_ltS {a b : Str} {Q : V → MH → Prop} (h : Q (.bool (decide (a.cps.toList < b.cps.toList))) σ) : wCmp c .Lt (.str a) (.str b) m σ Q := fun ra rb ea eb s hs => by
  obtain ⟨t, rfl⟩ := er_str ea; obtain ⟨u, rfl⟩ := er_str eb
  exact lt_str ⟨σ, hs, h⟩
theorem wCmp_gtS {a b : Str} {Q : V → MH → Prop} (h : Q (.bool (decide (b.cps.toList < a.cps.toList))) σ) : wCmp c .Gt (.str a) (.str b) m σ Q := fun ra rb ea eb s hs => by
  obtain ⟨t, rfl⟩ := er_str ea; obtain ⟨u, rfl⟩ := er_str eb
  exact PySem.P.gt_str ⟨σ, hs, h⟩
theorem wB_addS {a b : Str} {Q : V → MH → Prop} (hz : a.length + b.length ≤ 4000000) (h : Q (.str (a ++ b)) σ) : wB c .Add (.str a) (.str b) m σ Q := fun ra rb ea eb s hs => by
  obtain ⟨t, rfl⟩ := er_str ea; obtain ⟨u, rfl⟩ := er_str eb
  exact add_str (fun t' tk => ⟨σ, St.toks hs _, h⟩) (by unfold sizeLine; (first | lia | omega))

/-! data compared -/
def RdV (Γ : Gd) (σ : MH) (v : V) (d : PyData) : Prop := ∀ fz g L m s, St Γ fz g L σ m s → ∀ rv, er rv = v → ∃ as, Reads s.heap rv d as
def RdVs (Γ : Gd) (σ : MH) (vs : List V) (ds : List PyData) : Prop := ∀ fz g L m s, St Γ fz g L σ m s → ∀ rvs, rvs.map er = vs → ∃ as, ReadsAll s.heap rvs ds as
theorem RdV.int {Γ : Gd} {i : Int} : RdV Γ σ (.int i) (.int i) := fun _ _ _ _ _ _ rv e => by obtain ⟨t, rfl⟩ := er_int e; exact ⟨_, .int i t⟩
theorem RdV.none {Γ : Gd} : RdV Γ σ .none .none := fun _ _ _ _ _ _ rv e => by obtain rfl := er_none e; exact ⟨_, .none⟩
theorem RdVs.nil {Γ : Gd} : RdVs Γ σ [] [] := fun _ _ _ _ _ _ rvs e => by
  obtain rfl : rvs = [] := by simpa using e
  exact ⟨_, .nil⟩
theorem RdVs.cons {Γ : Gd} {v : V} {vs : List V} {d : PyData} {ds : List PyData} (h : RdV Γ σ v d) (k : RdVs Γ σ vs ds) : RdVs Γ σ (v :: vs) (d :: ds) := fun fz g L m s hs rvs e => by
  cases rvs with
  | nil => cases e
  | cons rv rvs =>
    rw [List.map_cons, List.cons.injEq] at e
    obtain ⟨as, h'⟩ := h fz g L m s hs rv e.1
    obtain ⟨bs, k'⟩ := k fz g L m s hs rvs e.2
    exact ⟨_, .cons h' k'⟩
theorem RdV.tup {Γ : Gd} {a : Addr} {vs : List V} {ds : List PyData} (r : Rd Γ σ a (.tup vs)) (k : RdVs Γ σ vs ds) : RdV Γ σ (.ref a) (.tuple ds) := fun fz g L m s hs rv e => by
  obtain rfl := er_ref e
  obtain ⟨ob, e1, hc, xs, n, hd, rfl⟩ := St.rd hs r
  obtain ⟨as, k'⟩ := k fz g L m s hs xs.toList rfl
  exact ⟨as, .tuple e1 hc hd k'⟩
theorem RdV.lst {Γ : Gd} {a : Addr} {vs : List V} {ds : List PyData} (r : Rd Γ σ a (.lst vs)) (k : RdVs Γ σ vs ds) : RdV Γ σ (.ref a) (.list ds) := fun fz g L m s hs rv e => by
  obtain rfl := er_ref e
  obtain ⟨ob, e1, xs, n, rfl, rfl⟩ := St.rd hs r
  obtain ⟨as, k'⟩ := k fz g L m s hs xs.toList rfl
  exact ⟨_, .list e1 rfl rfl k'⟩
theorem wCmp_eqD {a b : V} {da db : PyData} {n : Nat} {Q : V → MH → Prop} (hr : Room n c.A) (ha : RdV c.Γ σ a da) (hb : RdV c.Γ σ b db) (ka : SeqAt.shaped da = true) (kb : SeqAt.shaped db = true) (h : Q (.bool (PyData.eqv da db)) σ) : wCmp c .Eq a b m σ Q := fun ra rb ea eb s hs => by
  obtain ⟨as, xa⟩ := ha _ _ _ _ s hs ra ea
  obtain ⟨bs, xb⟩ := hb _ _ _ _ s hs rb eb
  exact eq_dataH xa xb ka kb (by have := hr.2.2; show _ < 9900; (first | lia | omega)) ⟨σ, hs, h⟩
theorem wCmp_neD {a b : V} {da db : PyData} {n : Nat} {Q : V → MH → Prop} (hr : Room n c.A) (ha : RdV c.Γ σ a da) (hb : RdV c.Γ σ b db) (ka : SeqAt.shaped da = true) (kb : SeqAt.shaped db = true) (h : Q (.bool (!PyData.eqv da db)) σ) : wCmp c .NotEq a b m σ Q := fun ra rb ea eb s hs => by
  obtain ⟨as, xa⟩ := ha _ _ _ _ s hs ra ea
  obtain ⟨bs, xb⟩ := hb _ _ _ _ s hs rb eb
  exact ne_dataH xa xb ka kb (by have := hr.2.2; show _ < 9900; (first | lia | omega)) ⟨σ, hs, h⟩

/-! subscripts -/
theorem wE_sub {o i : Expr} {pos : Pos} {Q : V → MH → Prop} (h : wE c o m σ fun a σ₁ => wE c i m σ₁ fun b σ₂ => wI c a b m σ₂ Q) (hs : isSlc i = false := by rfl) : wE c (.Subscript o i pos) m σ Q := fun s hst =>
  Subscript_ (wpAny_mono (h s hst) (fun a s' ⟨σ', x, y⟩ => wpAny_mono (y s' x) (fun b s'' ⟨σ'', x', y'⟩ => y' a b _ _ rfl rfl hs s'' x') fun _ _ x => x) fun _ _ x => x)
theorem wI_tup {a : Addr} {vs : List V} {k : Int} {j : Nat} {v : V} {Q : V → MH → Prop} (r : Rd c.Γ σ a (.tup vs)) (hlo : -(2 ^ 63) ≤ k) (hhi : k < 2 ^ 63) (hj : seqIndex? k vs.length = some j) (hv : vs[j]? = some v) (h : Q v σ) : wI c (.ref a) (.int k) m σ Q := fun ro ri value slice eo ei hsl s hs => by
  obtain rfl := er_ref eo; obtain ⟨u, rfl⟩ := er_int ei
  obtain ⟨ob, e1, hc, xs, n, hd, rfl⟩ := St.rd hs r
  rw [List.getElem?_map] at hv
  cases q : xs.toList[j]? with
  | none => rw [q] at hv; cases hv
  | some x =>
    rw [q] at hv; cases hv
    exact item_tupleT (l := xs.toList) ⟨ob, e1, hc, n, hd⟩ hlo hhi (by simpa using hj) q ⟨σ, hs, h⟩ (subscripted_plain hsl _ _)
theorem wI_lst {a : Addr} {vs : List V} {k : Int} {j : Nat} {v : V} {Q : V → MH → Prop} (r : Rd c.Γ σ a (.lst vs)) (hlo : -(2 ^ 63) ≤ k) (hhi : k < 2 ^ 63) (hj : seqIndex? k vs.length = some j) (hv : vs[j]? = some v) (h : Q v σ) : wI c (.ref a) (.int k) m σ Q := fun ro ri value slice eo ei hsl s hs => by
  obtain rfl := er_ref eo; obtain ⟨u, rfl⟩ := er_int ei
  obtain ⟨ob, e1, xs, n, rfl, rfl⟩ := St.rd hs r
  rw [List.getElem?_map] at hv
  have hl : s.heap.IsList a xs.toList.toArray := ⟨_, e1, rfl, n, rfl⟩
  cases q : xs.toList[j]? with
  | none => rw [q] at hv; cases hv
  | some x =>
    rw [q] at hv; cases hv
    by_cases h0 : k < 0
    · exact kde_neg hl h0 hlo (by simpa using hj) q ⟨σ, hs, h⟩ (subscripted_plain hsl _ _)
    · refine tail_any hl.typeIs slot_list_getitem.lookup (wpAny_getItem_list hl (by first | lia | omega) hhi ?_ ⟨σ, hs, h⟩) (subscripted_plain hsl _ _)
      have : j = k.toNat := by
        unfold seqIndex? at hj
        simp only [List.length_map] at hj
        split at hj <;> (try split at hj) <;> simp_all <;> (first | lia | omega)
      rw [← this]; simpa using q
theorem wI_dcS {a : Addr} {n : Nat} {f : Str → Option V} {x : Str} {v : V} {Q : V → MH → Prop} (r : Rd c.Γ σ a (.dcS n f)) (hv : f x = some v) (h : Q v σ) : wI c (.ref a) (.str x) m σ Q := fun ro ri value slice eo ei hsl s hs => by
  obtain rfl := er_ref eo; obtain ⟨u, rfl⟩ := er_str ei
  obtain ⟨ob, e1, kvs, hk, hz, hf⟩ := St.rd hs r
  have hm := (Heap.dictOf_iff.mpr ⟨ob, e1, hk⟩).mapOf
  rw [← hf] at hv
  cases q : valueAt kvs x with
  | none => rw [q] at hv; cases hv
  | some rv =>
    rw [q] at hv; cases hv
    exact tail_any hm.typeIs slot_dict_getitem.lookup (wpAny_getItem_of (strKind_is _ _ x u) hm q ⟨σ, St.toks hs _, h⟩) (subscripted_plain hsl _ _)
theorem wI_dcI {a : Addr} {n : Nat} {f : Int → Option V} {x : Int} {v : V} {Q : V → MH → Prop} (r : Rd c.Γ σ a (.dcI n f)) (hv : f x = some v) (h : Q v σ) : wI c (.ref a) (.int x) m σ Q := fun ro ri value slice eo ei hsl s hs => by
  obtain rfl := er_ref eo; obtain ⟨u, rfl⟩ := er_int ei
  obtain ⟨ob, e1, kvs, hk, hz, hf⟩ := St.rd hs r
  have hm := (Heap.dictOf_iff.mpr ⟨ob, e1, hk⟩).mapOf
  rw [← hf] at hv
  cases q : valueAt kvs x with
  | none => rw [q] at hv; cases hv
  | some rv =>
    rw [q] at hv; cases hv
    exact tail_any hm.typeIs slot_dict_getitem.lookup (wpAny_getItem_of (intKind_is _ _ x u) hm q ⟨σ, St.toks hs _, h⟩) (subscripted_plain hsl _ _)
end


section
variable {Γ : Gd} {fz : List (Addr × Obj)} {g : Heap} {L : Addr} {σ : MH} {m : Lc} {s : Shared} {I : Addr} {ob ob' : Obj} {h' : Heap} {tk : Nat} {d : Drawn}
theorem St.freeze (hs : St Γ fz g L σ m s) (f : ob.isFreed = false) : St Γ ((s.heap.objs.size, ob) :: fz) g L σ m { s with heap := s.heap.push ob } := by
  obtain ⟨mm, news, F, N, l, lc⟩ := hs.ex
  have hne : ∀ p ∈ news, p.1 ≠ s.heap.objs.size := fun p hp => Nat.ne_of_lt (Heap.lt_size (N p hp).1)
  refine ⟨⟨mm, (s.heap.objs.size, ob) :: news, F.push _, N.push F _ f, ⟨?_, fun a o e => ?_, fun p hp => ?_, ?_⟩, lc⟩, hs.base, hs.gens, hs.os⟩
  · rw [List.map_cons, List.nodup_cons]
    refine ⟨fun q => ?_, l.nd⟩
    obtain ⟨p, hp, e⟩ := List.mem_map.mp q
    exact hne p hp e
  · obtain ⟨ob', hm, k⟩ := l.ok a o e
    exact ⟨ob', .tail _ hm, k⟩
  · rcases List.mem_cons.mp hp with rfl | hp
    · exact ⟨.head _, l.fresh hne⟩
    · exact ⟨.tail _ (l.fr p hp).1, (l.fr p hp).2⟩
  · rw [List.map_cons, List.nodup_cons]
    refine ⟨fun q => ?_, l.fn⟩
    obtain ⟨p, hp, e⟩ := List.mem_map.mp q
    exact hne p (l.fr p hp).1 e

theorem St.refreeze (hs : St Γ ((I, ob) :: fz) g L σ m s) (hsb : Heap.SameBut I s.heap h') (e' : h'.get? I = some ob') (f : ob'.isFreed = false) :
    St Γ ((I, ob') :: fz) g L σ m { heap := h', gens := s.gens, drawn := d, toks := tk, os := s.os } := by
  obtain ⟨mm, news, F, N, l, lc⟩ := hs.ex
  have hI := l.fr _ (.head _)
  obtain ⟨pre, post, e1, e2, h1, h2⟩ := (upd_of (ob' := ob') l.nd hI.1).split
  have z := N _ hI.1
  have hfn := l.fn
  rw [List.map_cons, List.nodup_cons] at hfn
  refine ⟨⟨mm, pre ++ (I, ob') :: post, F.change hsb z.2.1 z.2.2, ?_, ⟨?_, fun a o e => ?_, fun p hp => ?_, ?_⟩, lc⟩, hs.base, hs.gens, hs.os⟩
  · rw [e1] at N
    exact news_set N h1 h2 hsb e'
  · have := l.nd
    rw [e1] at this
    simpa using this
  · obtain ⟨ob₁, hm, k⟩ := l.ok a o e
    have hne : a ≠ I := by rintro rfl; rw [hI.2] at e; cases e
    rw [e1] at hm
    refine ⟨ob₁, ?_, k⟩
    rcases List.mem_append.mp hm with hm | hm
    · exact List.mem_append_left _ hm
    · rcases List.mem_cons.mp hm with hm | hm
      · cases hm; exact absurd rfl hne
      · exact List.mem_append_right _ (.tail _ hm)
  · rcases List.mem_cons.mp hp with rfl | hp
    · exact ⟨List.mem_append_right _ (.head _), hI.2⟩
    · have := l.fr p (.tail _ hp)
      have hne : p.1 ≠ I := fun e => hfn.1 (e ▸ List.mem_map_of_mem (f := (·.1)) hp)
      have hm := this.1
      rw [e1] at hm
      refine ⟨?_, this.2⟩
      rcases List.mem_append.mp hm with hm | hm
      · exact List.mem_append_left _ hm
      · rcases List.mem_cons.mp hm with hm | hm
        · rw [hm] at hne; exact absurd rfl hne
        · exact List.mem_append_right _ (.tail _ hm)
  · rw [List.map_cons, List.nodup_cons]; exact hfn

theorem St.thaw (hs : St Γ ((I, ob) :: fz) g L σ m s) (he : Heap.ExtBut I s.heap h') : St Γ fz g L σ m { heap := h', gens := s.gens, drawn := d, toks := tk, os := s.os } := by
  obtain ⟨mm, news, F, N, l, lc⟩ := hs.ex
  have hI := l.fr _ (.head _)
  have z := N _ hI.1
  have hfn := l.fn
  rw [List.map_cons, List.nodup_cons] at hfn
  obtain ⟨oL, es, ep, eL, rL⟩ := F.ns
  refine ⟨⟨mm, news.filter fun p => decide (p.1 ≠ I), ⟨⟨oL, es, ep, he L oL (Ne.symm z.2.1) eL, rL⟩, fun b o e => he b o ?_ (F.keep b o e), F.above⟩, fun p hp => ?_, ⟨(List.filter_sublist.map _).nodup l.nd, fun a o e => ?_, fun p hp => ?_, hfn.2⟩, lc⟩, hs.base, hs.gens, hs.os⟩
  · rintro rfl; rw [z.2.2] at e; cases e
  · obtain ⟨hp, hq⟩ := List.mem_filter.mp hp
    have := N p hp
    exact ⟨he _ _ (of_decide_eq_true hq) this.1, this.2⟩
  · obtain ⟨ob₁, hm, k⟩ := l.ok a o e
    refine ⟨ob₁, List.mem_filter.mpr ⟨hm, decide_eq_true ?_⟩, k⟩
    rintro rfl; rw [hI.2] at e; cases e
  · have := l.fr p (.tail _ hp)
    exact ⟨List.mem_filter.mpr ⟨this.1, decide_eq_true fun e => hfn.1 (e ▸ List.mem_map_of_mem (f := (·.1)) hp)⟩, this.2⟩

/-- more garbage in the heap -/
theorem St.more (hs : St Γ fz g L σ m s) (he : Heap.ExtBut s.heap.objs.size s.heap h') : St Γ fz g L σ m { heap := h', gens := s.gens, drawn := d, toks := tk, os := s.os } := by
  obtain ⟨mm, news, F, N, l, lc⟩ := hs.ex
  obtain ⟨oL, es, ep, eL, rL⟩ := F.ns
  have k : ∀ b o, s.heap.get? b = some o → h'.get? b = some o := fun b o e => he b o (Nat.ne_of_lt (Heap.lt_size e)) e
  exact ⟨⟨mm, news, ⟨⟨oL, es, ep, k _ _ eL, rL⟩, fun b o e => k b o (F.keep b o e), F.above⟩, fun p hp => ⟨k _ _ (N p hp).1, (N p hp).2⟩, l, lc⟩, hs.base, hs.gens, hs.os⟩
end

/-! assignments to targets -/
def wAs (c : Cx) (target : Expr) (v : V) (m : Lc) (σ : MH) (Q : Lc → MH → Prop) : Prop :=
  ∀ rv, er rv = v → ∀ s, c.St σ m s → wpAny c.M c.A (assign target c.env rv) (fun _ s' => ∃ σ' m', c.St σ' m' s' ∧ Q m' σ') (fun _ _ => False) s
theorem wAs_name {c : Cx} {m : Lc} {σ : MH} {x : Str} {pos : Pos} {v : V} {Q : Lc → MH → Prop} (h : Q ((x, v) :: m) σ)
    (hk : c.sc.kind = .function := by rfl) (hl : (envOf c.q c.sc c.L c.a c.cd).kindOf x = some .local := by rfl) : wAs c (.Name x pos) v m σ Q := fun rv e s hs => by
  subst e
  exact wpAny_assign_Name (wG_store hs (fun s' hs' => ⟨σ, _, hs', h⟩) hk hl)
/-- targets that are names, in their order -/
def wNs (c : Cx) (elts : List Expr) (vs : List V) (m : Lc) (σ : MH) (Q : Lc → MH → Prop) : Prop :=
  ∀ rvs, rvs.map er = vs → ∀ s, c.St σ m s → wpAny c.M c.A (assignInOrder ((assignEach elts c.env).map (·.2)) rvs) (fun _ s' => ∃ σ' m', c.St σ' m' s' ∧ Q m' σ') (fun _ _ => False) s
theorem wNs_nil {c : Cx} {m : Lc} {σ : MH} {Q : Lc → MH → Prop} (h : Q m σ) : wNs c [] [] m σ Q := fun rvs e s hs => assignInOrder_nil ⟨σ, m, hs, h⟩
theorem wNs_cons {c : Cx} {m : Lc} {σ : MH} {x : Str} {pos : Pos} {r : List Expr} {v : V} {vs : List V} {Q : Lc → MH → Prop} (h : wNs c r vs ((x, v) :: m) σ Q)
    (hk : c.sc.kind = .function := by rfl) (hl : (envOf c.q c.sc c.L c.a c.cd).kindOf x = some .local := by rfl) : wNs c (.Name x pos :: r) (v :: vs) m σ Q := fun rvs e s hs => by
  cases rvs with
  | nil => cases e
  | cons rv rvs =>
    rw [List.map_cons, List.cons.injEq] at e
    obtain ⟨rfl, e⟩ := e
    show wpAny _ _ (assignInOrder (assign (.Name x pos) c.env :: (assignEach r c.env).map (·.2)) (rv :: rvs)) _ _ _
    exact assignInOrder_cons (wpAny_assign_Name (wG_store hs (fun s' hs' => h rvs e s' hs') hk hl))
theorem wAs_tuple {c : Cx} {m : Lc} {σ : MH} {elts : List Expr} {k : Nat} {pos : Pos} {t : Addr} {vs : List V} {Q : Lc → MH → Prop} (hh : c.A.handled = none) (r : Rd c.Γ σ t (.tup vs)) (h : wNs c elts vs m σ Q)
    (hn : (assignEach elts c.env).length = vs.length := by rfl) (hstar : (assignEach elts c.env).findIdx? (·.1) = none := by rfl) : wAs c (.Tuple elts k pos) (.ref t) m σ Q := fun rv e s hs => by
  obtain rfl := er_ref e
  obtain ⟨ob, e1, hc, xs, n, hd, rfl⟩ := St.rd hs r
  refine wpAny_assign_Tuple hh ⟨ob, e1, hc, n, hd⟩ (by rw [hn]; simp) hstar fun h' he => ?_
  exact h xs.toList rfl _ (St.more (d := s.drawn) hs he)
theorem w1_unpack {c : Cx} {m : Lc} {σ : MH} {elts : List Expr} {k : Nat} {tpos pos : Pos} {e : Expr} {Q : Fl → Lc → MH → Prop} (h : wE c e m σ fun v σ₁ => wAs c (.Tuple elts k tpos) v m σ₁ fun m' σ₂ => Q .next m' σ₂)
    (h1 : swapsWithSole [Expr.Tuple elts k tpos] e pos.line c.env = pure false := by with_unfolding_all rfl) (h2 : swappedStores [Expr.Tuple elts k tpos] e c.env = pure none := by with_unfolding_all rfl) : w1 c (.Assign [.Tuple elts k tpos] e pos) m σ Q := fun s hs =>
  Assign_Tuple (wpAny_mono (h s hs) (fun v s' ⟨σ', a, b⟩ => wpAny_mono (b v rfl s' a) (fun _ s'' ⟨σ'', m'', a', b'⟩ => ⟨σ'', m'', a', b'⟩) fun _ _ x => x.elim) fun _ _ x => x.elim) h1 h2

/-! the for loop -/
@[reducible] def fq (K : Lc → MH → Prop) (Q : Fl → Lc → MH → Prop) (f : Fl) (m : Lc) (σ : MH) : Prop := match f with
  | .next => K m σ
  | .cont => K m σ
  | .brk => Q .next m σ
  | .ret v => Q (.ret v) m σ
def fzd (c : Cx) (p : Addr × Obj) : Cx := { c with fz := p :: c.fz }
def wFor (c : Cx) (a : Addr) (o : MO) (target : Expr) (body : List Stmt) : List V → Lc → MH → (Fl → Lc → MH → Prop) → Prop
  | [], m, σ, Q => Q .next m σ
  | v :: r, m, σ, Q => ∀ p, wAs (fzd c p) target v m σ fun m' σ' => wS (fzd c p) body m' σ' (fq (fun m'' σ'' => Rd c.Γ σ'' a o ∧ wFor c a o target body r m'' σ'' Q) Q)

inductive FI (c : Cx) (I t : Addr) (o : MO) (it : String) (target : Expr) (body : List Stmt) (vs : List V) (Q : Fl → Lc → MH → Prop) (j : Nat) (s' : Shared) : Prop
  | mk (k : Nat) (σ : MH) (m : Lc) (ob : Obj) (hk : j + k = vs.length) (hs : St c.Γ ((I, ob) :: c.fz) c.g c.L σ m s') (hc : ob.cls = .type it) (hd : ob.data = .fields #[.ref t, .int k 0])
    (hr : Rd c.Γ σ t o) (hw : wFor c t o target body (vs.drop k) m σ Q)
theorem forLoop_tuple {c : Cx} {target : Expr} {body : List Stmt} {t I : Addr} {vs : List V} {Q : Fl → Lc → MH → Prop} (hh : c.A.handled = none) {R : Result → Shared → Prop}
    (hR : ∀ f s' σ' m', c.St σ' m' s' → Q (erF f) m' σ' → R (.ok f) s') :
    ∀ (n k : Nat), k + n = vs.length → ∀ (σ : MH) (m : Lc) (s : Shared) (ob : Obj), St c.Γ ((I, ob) :: c.fz) c.g c.L σ m s → ob.cls = .type "tuple_iterator" → ob.data = .fields #[.ref t, .int k 0] →
      Rd c.Γ σ t (.tup vs) → wFor c t (.tup vs) target body (vs.drop k) m σ Q → codeAny c.M c.A (.forLoop target (.ref I) body [] c.env) R s := by
  intro n k hk σ m s ob hs hc hd hr hw
  refine codeAny_forLoop_any (FI c I t (.tup vs) "tuple_iterator" target body vs Q) ?_ n ⟨k, σ, m, ob, by first | lia | omega, hs, hc, hd, hr, hw⟩
  rintro j s ⟨k, σ, m, ob, hk, hs, hc, hd, hr, hw⟩
  obtain ⟨mm, news, F, N, l, lc⟩ := hs.ex
  have zI := N _ (l.fr _ (.head _)).1
  have hit : s.heap.IsTupleIter I t k := ⟨ob, zI.1, hc, hd⟩
  obtain ⟨tob, et, htc, xs, nn, htd, hvs⟩ := hs.rd hr
  have ht : s.heap.IsTuple t xs := ⟨tob, et, htc, nn, htd⟩
  have hneI : t ≠ I := by
    rintro rfl
    rw [zI.1] at et; cases et
    rw [hc] at htc; exact absurd (Value.type.inj htc) (by decide)
  by_cases hlt : k < vs.length
  · have hlt' : k < xs.size := by rw [← hvs] at hlt; simpa using hlt
    have hdrop : vs.drop k = vs[k] :: vs.drop (k + 1) := List.drop_eq_getElem_cons hlt
    rw [hdrop] at hw
    refine wpAny_pyNext_tuple_item hit ht (x := xs[k]) (by simp [hlt']) fun h' hit' hsb => ?_
    obtain ⟨ob', e', hc', hd'⟩ := hit'
    have S' := St.refreeze hs hsb e' (f := Obj.isFreed_of_fields hd') (tk := s.toks) (d := s.drawn)
    have hv : er xs[k] = vs[k] := by
      have : vs[k]? = some (er xs[k]) := by rw [← hvs]; simp [hlt']
      rw [List.getElem?_eq_getElem hlt] at this
      exact (Option.some.inj this).symm
    refine letGo_tupleiter (i := k + 1) ⟨ob', e', hc', hd'⟩ ?_
    refine wpAny_mono (hw (I, ob') xs[k] hv _ S') (fun _ s₂ h₂ => ?_) fun _ _ x => x.elim
    obtain ⟨σ₂, m₂, S₂, w₂⟩ := h₂
    refine wpAny_mono (w₂ _ S₂) (fun f s₃ h₃ => ?_) fun _ _ x => x.elim
    obtain ⟨σ₃, m₃, S₃, w₃⟩ := h₃
    cases f with
    | next => exact ⟨j - 1, by first | lia | omega, k + 1, σ₃, m₃, ob', by first | lia | omega, S₃, hc', hd', w₃.1, w₃.2⟩
    | cont => exact ⟨j - 1, by first | lia | omega, k + 1, σ₃, m₃, ob', by first | lia | omega, S₃, hc', hd', w₃.1, w₃.2⟩
    | brk => exact hR .next s₃ σ₃ m₃ (St.thaw S₃ (Heap.ExtBut.refl _ _)) w₃
    | ret v => exact hR (.ret v) s₃ σ₃ m₃ (St.thaw S₃ (Heap.ExtBut.refl _ _)) w₃
  · have hge : xs[k]? = none := by
      rw [← hvs] at hlt
      exact Array.getElem?_eq_none (by simpa using hlt)
    rw [List.drop_eq_nil_of_le (by first | lia | omega)] at hw
    refine wpAny_pyNext_tuple_end hh hit ht hge fun h' he => ?_
    exact wpAny_execs_nil (hR .next _ σ m (St.thaw (tk := s.toks) (d := s.drawn) hs he) hw)

theorem w1_for_tuple {c : Cx} {m : Lc} {σ : MH} {target iter : Expr} {body : List Stmt} {pos : Pos} {Q : Fl → Lc → MH → Prop} (hh : c.A.handled = none)
    (h : wE c iter m σ fun x σ₁ => ∃ t vs, x = .ref t ∧ Rd c.Γ σ₁ t (.tup vs) ∧ wFor c t (.tup vs) target body vs m σ₁ Q)
    (hs : ∀ x, foldedSetIterable iter c.env x = pure x := by intro _; rfl) : w1 c (.For target iter body [] pos) m σ Q := fun s hst => by
  refine wpAny_For (wpAny_mono (h s hst) (fun x s₁ h₁ => ?_) fun _ _ x => x.elim) hs
  obtain ⟨σ₁, S₁, t, vs, hx, hr, hw⟩ := h₁
  obtain rfl := er_ref hx
  obtain ⟨mm, news, F, N, l, lc⟩ := S₁.ex
  obtain ⟨tob, et, htc, xs, nn, htd, hvs⟩ := St.rd S₁ hr
  refine wpAny_pyIter_tuple (items := xs) ⟨tob, et, htc, nn, htd⟩ ?_
  refine forLoop_tuple hh (R := _) (Q := Q) (fun f s' σ' m' a b => ⟨σ', m', a, b⟩) vs.length 0 (by first | lia | omega) σ₁ m _ _ (St.freeze S₁ (ob := { cls := .type "tuple_iterator", data := .fields #[.ref t, .int 0 0] }) rfl) rfl rfl hr (by rw [List.drop_zero]; exact hw)

theorem forLoop_list {c : Cx} {target : Expr} {body : List Stmt} {t I : Addr} {vs : List V} {Q : Fl → Lc → MH → Prop} (hh : c.A.handled = none) {R : Result → Shared → Prop}
    (hR : ∀ f s' σ' m', c.St σ' m' s' → Q (erF f) m' σ' → R (.ok f) s') :
    ∀ (n k : Nat), k + n = vs.length → ∀ (σ : MH) (m : Lc) (s : Shared) (ob : Obj), St c.Γ ((I, ob) :: c.fz) c.g c.L σ m s → ob.cls = .type "list_iterator" → ob.data = .fields #[.ref t, .int k 0] →
      Rd c.Γ σ t (.lst vs) → wFor c t (.lst vs) target body (vs.drop k) m σ Q → codeAny c.M c.A (.forLoop target (.ref I) body [] c.env) R s := by
  intro n k hk σ m s ob hs hc hd hr hw
  refine codeAny_forLoop_any (FI c I t (.lst vs) "list_iterator" target body vs Q) ?_ n ⟨k, σ, m, ob, by first | lia | omega, hs, hc, hd, hr, hw⟩
  rintro j s ⟨k, σ, m, ob, hk, hs, hc, hd, hr, hw⟩
  obtain ⟨mm, news, F, N, l, lc⟩ := hs.ex
  have zI := N _ (l.fr _ (.head _)).1
  have hit : s.heap.IsListIter I t k := ⟨ob, zI.1, hc, hd⟩
  obtain ⟨tob, et, xs, nn, hto, hvs⟩ := hs.rd hr
  have ht : s.heap.IsList t xs := ⟨tob, et, by rw [hto], nn, by rw [hto]⟩
  have hneI : t ≠ I := by
    rintro rfl
    rw [zI.1] at et; cases et
    (have hto : ob = W.listOf xs nn := hto); rw [hto] at hc; exact absurd (Value.type.inj hc) (by decide)
  by_cases hlt : k < vs.length
  · have hlt' : k < xs.size := by rw [← hvs] at hlt; simpa using hlt
    have hdrop : vs.drop k = vs[k] :: vs.drop (k + 1) := List.drop_eq_getElem_cons hlt
    rw [hdrop] at hw
    refine wpAny_pyNext_list_item hit ht (x := xs[k]) (by simp [hlt']) fun h' hit' hsb => ?_
    obtain ⟨ob', e', hc', hd'⟩ := hit'
    have S' := St.refreeze hs hsb e' (f := Obj.isFreed_of_fields hd') (tk := s.toks) (d := s.drawn)
    have hv : er xs[k] = vs[k] := by
      have : vs[k]? = some (er xs[k]) := by rw [← hvs]; simp [hlt']
      rw [List.getElem?_eq_getElem hlt] at this
      exact (Option.some.inj this).symm
    refine letGo_listiter (i := k + 1) ⟨ob', e', hc', hd'⟩ ?_
    refine wpAny_mono (hw (I, ob') xs[k] hv _ S') (fun _ s₂ h₂ => ?_) fun _ _ x => x.elim
    obtain ⟨σ₂, m₂, S₂, w₂⟩ := h₂
    refine wpAny_mono (w₂ _ S₂) (fun f s₃ h₃ => ?_) fun _ _ x => x.elim
    obtain ⟨σ₃, m₃, S₃, w₃⟩ := h₃
    cases f with
    | next => exact ⟨j - 1, by first | lia | omega, k + 1, σ₃, m₃, ob', by first | lia | omega, S₃, hc', hd', w₃.1, w₃.2⟩
    | cont => exact ⟨j - 1, by first | lia | omega, k + 1, σ₃, m₃, ob', by first | lia | omega, S₃, hc', hd', w₃.1, w₃.2⟩
    | brk => exact hR .next s₃ σ₃ m₃ (St.thaw S₃ (Heap.ExtBut.refl _ _)) w₃
    | ret v => exact hR (.ret v) s₃ σ₃ m₃ (St.thaw S₃ (Heap.ExtBut.refl _ _)) w₃
  · have hge : xs[k]? = none := by
      rw [← hvs] at hlt
      exact Array.getElem?_eq_none (by simpa using hlt)
    rw [List.drop_eq_nil_of_le (by first | lia | omega)] at hw
    refine wpAny_pyNext_list_end hh hit ht hge fun h' he => ?_
    exact wpAny_execs_nil (hR .next _ σ m (St.thaw (tk := s.toks) (d := s.drawn) hs he) hw)

theorem w1_for_list {c : Cx} {m : Lc} {σ : MH} {target iter : Expr} {body : List Stmt} {pos : Pos} {Q : Fl → Lc → MH → Prop} (hh : c.A.handled = none)
    (h : wE c iter m σ fun x σ₁ => ∃ t vs, x = .ref t ∧ Rd c.Γ σ₁ t (.lst vs) ∧ wFor c t (.lst vs) target body vs m σ₁ Q)
    (hs : ∀ x, foldedSetIterable iter c.env x = pure x := by intro _; rfl) : w1 c (.For target iter body [] pos) m σ Q := fun s hst => by
  refine wpAny_For (wpAny_mono (h s hst) (fun x s₁ h₁ => ?_) fun _ _ x => x.elim) hs
  obtain ⟨σ₁, S₁, t, vs, hx, hr, hw⟩ := h₁
  obtain rfl := er_ref hx
  obtain ⟨mm, news, F, N, l, lc⟩ := S₁.ex
  obtain ⟨tob, et, xs, nn, hto, hvs⟩ := St.rd S₁ hr
  refine wpAny_pyIter_list (items := xs) ⟨tob, et, by rw [hto], nn, by rw [hto]⟩ ?_
  refine forLoop_list hh (R := _) (Q := Q) (fun f s' σ' m' a b => ⟨σ', m', a, b⟩) vs.length 0 (by first | lia | omega) σ₁ m _ _ (St.freeze S₁ (ob := { cls := .type "list_iterator", data := .fields #[.ref t, .int 0 0] }) rfl) rfl rfl hr (by rw [List.drop_zero]; exact hw)


section
variable {c : Cx} {m : Lc} {σ : MH}

def nref : V → Bool
  | .ref _ => false
  | _ => true
theorem w1_expr {e : Expr} {pos : Pos} {Q : Fl → Lc → MH → Prop} (h : wE c e m σ fun v σ' => nref v = true ∧ Q .next m σ')
    (hi : interactive c.env = false := by rfl) (hs : swapsWith e none pos.line c.env = pure false := by with_unfolding_all rfl) : w1 c (.Expr e pos) m σ Q := fun s hst =>
  wpAny_Expr (wpAny_mono (h s hst) (fun v s' ⟨σ', a, hn, b⟩ => by
    cases v with
    | ref a => cases hn
    | _ => exact ⟨σ', m, a, b⟩) fun _ _ x => x) hi hs

theorem w1_augattr {o e : Expr} {name : Str} {tpos pos : Pos} {Q : Fl → Lc → MH → Prop}
    (h : wE c o m σ fun v σ₁ => wA c name v m σ₁ fun u σ₂ => wE c e m σ₂ fun x σ₃ => ∃ i j, u = .int i ∧ x = .int j ∧ wSA c v name (.int (i + j)) m σ₃ fun σ₄ => Q .next m σ₄) : w1 c (.AugAssign (.Attribute o name tpos) .Add e pos) m σ Q := fun s hs =>
  wpAny_AugAssign_AttributeAny (wpAny_mono (h s hs) (fun v s₁ ⟨σ₁, a₁, b₁⟩ => wpAny_mono (b₁ v true rfl s₁ a₁) (fun u s₂ ⟨σ₂, a₂, b₂⟩ => wpAny_mono (b₂ s₂ a₂) (fun x s₃ ⟨σ₃, a₃, i, j, ei, ej, b₃⟩ => by
    obtain ⟨t, rfl⟩ := er_int ei; obtain ⟨w, rfl⟩ := er_int ej
    exact iadd_int (wpAny_mono (b₃ v _ rfl rfl _ (St.toks a₃ _)) (fun _ s₄ ⟨σ₄, a₄, b₄⟩ => ⟨σ₄, m, a₄, b₄⟩) fun _ _ x => x.elim)) fun _ _ x => x.elim) fun _ _ x => x.elim) fun _ _ x => x.elim)

/-! items stored -/
theorem St.setAt {s : Shared} {a : Addr} {o o' : MO} {ob' : Obj} {h' : Heap} {tk : Nat} {d : Drawn} (hs : c.St σ m s) (hσ : σ a = some o) (hsb : Heap.SameBut a s.heap h') (e' : h'.get? a = some ob') (k : MOk c.Γ o' ob') :
    c.St (σ.set a o') m { heap := h', gens := s.gens, drawn := d, toks := tk, os := s.os } := by
  obtain ⟨mm, news, F, N, l, lc⟩ := hs.ex
  obtain ⟨ob, hm, _⟩ := l.ok a o hσ
  obtain ⟨news', U, l'⟩ := l.upd hσ hm k
  obtain ⟨pre, post, rfl, rfl, h1, h2⟩ := U.split
  have z := N _ hm
  exact St.of hs (F.change hsb z.2.1 z.2.2) (news_set N h1 h2 hsb e') l' lc

def wSI (c : Cx) (o i v : V) (m : Lc) (σ : MH) (Q : MH → Prop) : Prop := ∀ ro ri rv, er ro = o → er ri = i → er rv = v → wG c (setItem ro ri rv) m σ fun _ σ' => Q σ'
theorem w1_setitem {o i e : Expr} {pos' pos : Pos} {Q : Fl → Lc → MH → Prop} (h : wE c e m σ fun v σ₁ => wE c o m σ₁ fun a σ₂ => wE c i m σ₂ fun b σ₃ => wSI c a b v m σ₃ fun σ₄ => Q .next m σ₄)
    (hs : swapsWith e (some (.Subscript o i pos')) pos.line c.env = pure false := by with_unfolding_all rfl) : w1 c (.Assign [.Subscript o i pos'] e pos) m σ Q := fun s hst =>
  wpAny_Assign_Subscript (wpAny_mono (h s hst) (fun v s₁ ⟨σ₁, a₁, b₁⟩ => wpAny_mono (b₁ s₁ a₁) (fun x s₂ ⟨σ₂, a₂, b₂⟩ => wpAny_mono (b₂ s₂ a₂) (fun y s₃ ⟨σ₃, a₃, b₃⟩ => wpAny_mono (b₃ x y v rfl rfl rfl s₃ a₃) (fun _ s₄ ⟨σ₄, a₄, b₄⟩ => ⟨σ₄, m, a₄, b₄⟩) fun _ _ x => x.elim) fun _ _ x => x.elim) fun _ _ x => x.elim) fun _ _ x => x.elim) hs

theorem valueAt_cons {K : Type} [DecidableEq K] (kv : K × Value) (r : List (K × Value)) (x : K) : valueAt (kv :: r) x = if kv.1 = x then some kv.2 else valueAt r x := by
  unfold valueAt
  rw [List.find?_cons]
  by_cases h : kv.1 = x
  · simp [h]
  · simp [h]
theorem valueAt_put {K : Type} [DecidableEq K] (k : K) (v : Value) : ∀ (l : List (K × Value)) (x : K),
    valueAt (l.map fun kv => if kv.1 = k then (kv.1, v) else kv) x = if x = k ∧ l.any (fun kv => kv.1 = k) then some v else valueAt l x
  | [], x => by simp [valueAt]
  | kv :: r, x => by
    rw [List.map_cons, valueAt_cons, valueAt_cons, valueAt_put k v r x, List.any_cons]
    by_cases h : kv.1 = k
    · by_cases hx : kv.1 = x
      · simp [h, hx, show k = x from h ▸ hx]
      · have : ¬ x = k := fun e => hx (h.trans e.symm)
        simp [h, this, show ¬ k = x from fun e => this e.symm]
    · by_cases hx : kv.1 = x
      · have : ¬ x = k := fun e => h (hx.trans e)
        simp [h, hx, this]
      · rw [if_neg h, if_neg hx, if_neg hx]
        by_cases hxk : x = k
        · rw [decide_eq_false h, Bool.false_or]
        · rw [if_neg (fun e => hxk e.1), if_neg (fun e => hxk e.1)]
theorem valueAt_app {K : Type} [DecidableEq K] (k : K) (v : Value) : ∀ (l : List (K × Value)) (x : K), l.any (fun kv => kv.1 = k) = false →
    valueAt (l ++ [(k, v)]) x = if x = k then some v else valueAt l x
  | [], x, _ => by
    show valueAt [(k, v)] x = _
    rw [valueAt_cons]
    by_cases h : x = k
    · simp [h]
    · simp [h, show ¬ k = x from fun e => h e.symm, valueAt]
  | kv :: r, x, h => by
    rw [List.any_cons, Bool.or_eq_false_iff] at h
    rw [List.cons_append, valueAt_cons, valueAt_cons, valueAt_app k v r x h.2]
    have h1 : ¬ kv.1 = k := by simpa using h.1
    by_cases hx : kv.1 = x
    · have : ¬ x = k := fun e => h1 (hx.trans e)
      simp [hx, this]
    · simp [hx]
theorem valueAt_stored {K : Type} [DecidableEq K] (l : List (K × Value)) (k : K) (v : Value) (x : K) : valueAt (stored l k v) x = if x = k then some v else valueAt l x := by
  unfold stored
  cases h : l.any (fun kv => decide (kv.1 = k)) with
  | true => rw [if_pos rfl, valueAt_put, h]; simp
  | false => rw [if_neg (by simp), valueAt_app k v l x h]
theorem stored_length {K : Type} [DecidableEq K] (l : List (K × Value)) (k : K) (v : Value) : (stored l k v).length ≤ l.length + 1 := by
  unfold stored
  split <;> simp

theorem wSI_dcS {a : Addr} {n : Nat} {f : Str → Option V} {x : Str} {v : V} {Q : MH → Prop} (r : σ a = some (.dcS n f)) (hn : n ≤ 1000000) (h : Q (σ.set a (.dcS (n + 1) fun k => if k = x then some v else f k))) : wSI c (.ref a) (.str x) v m σ Q := fun ro ri rv eo ei ev s hs => by
  obtain rfl := er_ref eo; obtain ⟨u, rfl⟩ := er_str ei; subst ev
  obtain ⟨ob, e1, kvs, hk, hz, hf⟩ := St.rd hs (.inl r)
  refine wpAny_setItem_pairs (strKind_is _ _ x u) (Heap.dictOf_iff.mpr ⟨ob, e1, hk⟩) (fun h' hd' hsb => ?_) (by unfold sizeLine; (first | lia | omega))
  obtain ⟨ob', e', hk'⟩ := Heap.dictOf_iff.mp hd'
  exact ⟨_, St.setAt (d := s.drawn) (o' := .dcS (n + 1) fun k => if k = x then some (er rv) else f k) hs r hsb e' ⟨_, hk', Nat.le_trans (stored_length ..) (by first | lia | omega), fun k => by rw [valueAt_stored]; split <;> simp [hf, *]⟩, h⟩
theorem wSI_dcI {a : Addr} {n : Nat} {f : Int → Option V} {x : Int} {v : V} {Q : MH → Prop} (r : σ a = some (.dcI n f)) (hn : n ≤ 1000000) (h : Q (σ.set a (.dcI (n + 1) fun k => if k = x then some v else f k))) : wSI c (.ref a) (.int x) v m σ Q := fun ro ri rv eo ei ev s hs => by
  obtain rfl := er_ref eo; obtain ⟨u, rfl⟩ := er_int ei; subst ev
  obtain ⟨ob, e1, kvs, hk, hz, hf⟩ := St.rd hs (.inl r)
  refine wpAny_setItem_pairs (intKind_is _ _ x u) (Heap.dictOf_iff.mpr ⟨ob, e1, hk⟩) (fun h' hd' hsb => ?_) (by unfold sizeLine; (first | lia | omega))
  obtain ⟨ob', e', hk'⟩ := Heap.dictOf_iff.mp hd'
  exact ⟨_, St.setAt (d := s.drawn) (o' := .dcI (n + 1) fun k => if k = x then some (er rv) else f k) hs r hsb e' ⟨_, hk', Nat.le_trans (stored_length ..) (by first | lia | omega), fun k => by rw [valueAt_stored]; split <;> simp [hf, *]⟩, h⟩

theorem seqIndex_some {k : Int} {n j : Nat} (h : seqIndex? k n = some j) : j < n := by
  unfold seqIndex? at h
  split at h <;> (try split at h) <;> simp_all <;> (first | lia | omega)
theorem wSI_lst {a : Addr} {vs : List V} {k : Int} {j : Nat} {v : V} {Q : MH → Prop} (r : σ a = some (.lst vs)) (hlo : -(2 ^ 63) ≤ k) (hhi : k < 2 ^ 63) (hj : seqIndex? k vs.length = some j) (h : Q (σ.set a (.lst (vs.set j v)))) : wSI c (.ref a) (.int k) v m σ Q := fun ro ri rv eo ei ev s hs => by
  obtain rfl := er_ref eo; obtain ⟨u, rfl⟩ := er_int ei; subst ev
  obtain ⟨ob, ho, xs, n, rfl, rfl⟩ := St.rd hs (.inl r)
  have hlt := seqIndex_some hj
  rw [List.length_map] at hj hlt
  have hl : s.heap.IsList a xs := ⟨_, ho, rfl, n, rfl⟩
  have hjx : j < xs.size := by simpa using hlt
  have hx' : xs[j]? = some xs[j] := Array.getElem?_eq_getElem hjx
  have hfin : (s.heap.update a (Obj.mapSeq (·.setIfInBounds j rv))).get? a = some (W.listOf (xs.setIfInBounds j rv) n) := by
    rw [Heap.get?_update_self _ ho (by rfl)]
    simp [Obj.mapSeq, W.listOf]
  have hq : Q (σ.set a (.lst ((xs.setIfInBounds j rv).toList.map er))) := by
    rw [Array.toList_setIfInBounds, List.map_set]; exact h
  have fin := St.setAt (d := s.drawn) (tk := s.toks) hs r (Heap.SameBut.update s.heap a (Obj.mapSeq (·.setIfInBounds j rv))) hfin (o' := .lst ((xs.setIfInBounds j rv).toList.map er)) ⟨_, _, rfl, rfl⟩
  show wpAny (model c.Γ.p c.Γ.w) c.A (setItem (.ref a) (.int k u) rv) _ _ s
  unfold setItem
  try with_reducible refine wpAny_holding ?_
  first | refine wpAny_bind (wpAny_pure ?_) | skip
  refine wpAny_bind (wpAny_sequenceKey hl.typeIs (by decide) ?_)
  refine wpAny_bind (wpAny_callSpecial?_slot (name := Str.ofString "__setitem__") hl.typeIs slot_list_setitem
    (wpAny_call_entry slot_list_setitem hl.typeIs entry_list_setitem ?_ (args_list_setitem _ _ _)))
  show wpAny _ _ (Builtin.List.listSubscript? (.int k u) >>= _) _ _ s
  refine wpAny_bind (wpAny_listSubscript_int (by unfold Builtin.List.listFitsIndex; simp; (first | lia | omega)) ?_)
  cases k with
  | ofNat i =>
    obtain rfl : j = i := by
      unfold seqIndex? at hj
      split at hj <;> (try split at hj) <;> simp_all <;> (first | lia | omega)
    show wpAny _ _ ((seqItemAt a j >>= fun r => pure (r.map (j, ·))) >>= _) _ _ s
    refine wpAny_bind (wpAny_bind (wpAny_seqItemAt ho rfl (wpAny_pure ?_)))
    rw [hx']
    show wpAny _ _ (setSeqItemAt a j rv >>= _) _ _ s
    refine wpAny_bind (wpAny_setSeqItemAt ho rfl ?_)
    first
      | exact wpAny_bind (wpAny_pure (wpAny_pure ⟨.none, rfl, wpAny_pure ⟨_, fin, hq⟩⟩))
      | exact wpAny_pure ⟨.none, rfl, wpAny_pure ⟨_, fin, hq⟩⟩
  | negSucc i =>
    show wpAny _ _ ((Builtin.List.listItems (.ref a) >>= fun xs => pure ((seqIndex? (.negSucc i) xs.size).bind fun j => xs[j]?.map (j, ·))) >>= _) _ _ s
    have hit : ∀ {Q : Array Value → Shared → Prop} {E : Value → Shared → Prop}, Q xs s → wpAny (model c.Γ.p c.Γ.w) c.A.in1 (Builtin.List.listItems (.ref a)) Q E s := fun {Q E} hq => by
      unfold Builtin.List.listItems
      refine wpAny_bind (wpAny_seqItems ho rfl ?_)
      exact wpAny_pure hq
    refine wpAny_bind (wpAny_bind (hit (wpAny_pure ?_)))
    rw [Array.length_toList] at hj
    rw [hj, Option.bind_some, hx']
    show wpAny _ _ (setSeqItemAt a j rv >>= _) _ _ s
    refine wpAny_bind (wpAny_setSeqItemAt ho rfl ?_)
    first
      | exact wpAny_bind (wpAny_pure (wpAny_pure ⟨.none, rfl, wpAny_pure ⟨_, fin, hq⟩⟩))
      | exact wpAny_pure ⟨.none, rfl, wpAny_pure ⟨_, fin, hq⟩⟩

/-! built-in calls -/
theorem wC_len_lst {a : Addr} {vs : List V} {Q : V → MH → Prop} (r : Rd c.Γ σ a (.lst vs)) (hz : vs.length ≤ 2000000) (h : Q (.int vs.length) σ) : wC c (.oth (.builtin "len")) [.ref a] m σ Q := fun fv args ef ea s hs => by
  obtain rfl := er_oth ef
  obtain ⟨v, rfl, ev⟩ : ∃ v, args = [v] ∧ er v = .ref a := by cases args with | nil => cases ea | cons v t => cases t <;> simp_all
  obtain rfl := er_ref ev
  obtain ⟨ob, e1, xs, n, rfl, rfl⟩ := St.rd hs r
  rw [List.length_map, Array.length_toList] at hz h
  exact len_list ⟨_, e1, rfl, n, rfl⟩ (by first | lia | omega) ⟨σ, St.toks hs _, h⟩
theorem wC_len_tup {a : Addr} {vs : List V} {Q : V → MH → Prop} (r : Rd c.Γ σ a (.tup vs)) (hz : vs.length ≤ 2000000) (h : Q (.int vs.length) σ) : wC c (.oth (.builtin "len")) [.ref a] m σ Q := fun fv args ef ea s hs => by
  obtain rfl := er_oth ef
  obtain ⟨v, rfl, ev⟩ : ∃ v, args = [v] ∧ er v = .ref a := by cases args with | nil => cases ea | cons v t => cases t <;> simp_all
  obtain rfl := er_ref ev
  obtain ⟨ob, e1, hc, xs, n, hd, rfl⟩ := St.rd hs r
  rw [List.length_map, Array.length_toList] at hz h
  exact len_tuple ⟨_, e1, hc, n, hd⟩ (by first | lia | omega) ⟨σ, St.toks hs _, h⟩
theorem wC_len_str {x : Str} {Q : V → MH → Prop} (hz : x.length ≤ 4000000) (h : Q (.int x.length) σ) : wC c (.oth (.builtin "len")) [.str x] m σ Q := fun fv args ef ea s hs => by
  obtain rfl := er_oth ef
  obtain ⟨v, rfl, ev⟩ : ∃ v, args = [v] ∧ er v = .str x := by cases args with | nil => cases ea | cons v t => cases t <;> simp_all
  obtain ⟨t, rfl⟩ := er_str ev
  exact len_str (by first | lia | omega) ⟨σ, St.toks hs _, h⟩
theorem wC_chr {i : Int} {Q : V → MH → Prop} (h0 : 0 ≤ i) (h1 : i ≤ 1114111) (h : Q (.str ⟨#[i.toNat]⟩) σ) : wC c (.oth (.builtin "chr")) [.int i] m σ Q := fun fv args ef ea s hs => by
  obtain rfl := er_oth ef
  obtain ⟨v, rfl, ev⟩ : ∃ v, args = [v] ∧ er v = .int i := by cases args with | nil => cases ea | cons v t => cases t <;> simp_all
  obtain ⟨t, rfl⟩ := er_int ev
  exact P.chr_of_int (by simp; (first | lia | omega)) ⟨σ, St.toks hs _, h⟩
theorem wC_ord {n : Nat} {Q : V → MH → Prop} (h : Q (.int n) σ) : wC c (.oth (.builtin "ord")) [.str ⟨#[n]⟩] m σ Q := fun fv args ef ea s hs => by
  obtain rfl := er_oth ef
  obtain ⟨v, rfl, ev⟩ : ∃ v, args = [v] ∧ er v = .str ⟨#[n]⟩ := by cases args with | nil => cases ea | cons v t => cases t <;> simp_all
  obtain ⟨t, rfl⟩ := er_str ev
  exact P.ord_of_char ⟨σ, St.toks hs _, h⟩
theorem two_args {args : List Value} {a b : V} (h : args.map er = [a, b]) : ∃ x y, args = [x, y] ∧ er x = a ∧ er y = b := by
  cases args with
  | nil => cases h
  | cons x t => cases t with
    | nil => cases h
    | cons y t => cases t with
      | nil => simp only [List.map_cons, List.map_nil, List.cons.injEq, and_true] at h; exact ⟨x, y, rfl, h.1, h.2⟩
      | cons z t => simp at h
theorem three_args {args : List Value} {a b d : V} (h : args.map er = [a, b, d]) : ∃ x y z, args = [x, y, z] ∧ er x = a ∧ er y = b ∧ er z = d := by
  cases args with
  | nil => cases h
  | cons x t =>
    rw [List.map_cons, List.cons.injEq] at h
    obtain ⟨y, z, rfl, e⟩ := two_args h.2
    exact ⟨x, y, z, rfl, h.1, e⟩
theorem wC_min {i j : Int} {Q : V → MH → Prop} (hh : c.A.handled = none) (h : Q (.int (min i j)) σ) : wC c (.oth (.builtin "min")) [.int i, .int j] m σ Q := fun fv args ef ea s hs => by
  obtain rfl := er_oth ef
  obtain ⟨x, y, rfl, ex, ey⟩ := two_args ea
  obtain ⟨t, rfl⟩ := er_int ex; obtain ⟨u, rfl⟩ := er_int ey
  obtain ⟨mm, news, F, N, l, lc⟩ := hs.ex
  refine min_two_N hh F N fun h' tk F' N' => ⟨σ, St.of hs F' N' l lc, ?_⟩
  have : (if j < i then j else i) = min i j := by split <;> (first | lia | omega)
  show Q (.int _) σ
  rw [this]; exact h
theorem wC_max {i j : Int} {Q : V → MH → Prop} (hh : c.A.handled = none) (h : Q (.int (max i j)) σ) : wC c (.oth (.builtin "max")) [.int i, .int j] m σ Q := fun fv args ef ea s hs => by
  obtain rfl := er_oth ef
  obtain ⟨x, y, rfl, ex, ey⟩ := two_args ea
  obtain ⟨t, rfl⟩ := er_int ex; obtain ⟨u, rfl⟩ := er_int ey
  obtain ⟨mm, news, F, N, l, lc⟩ := hs.ex
  refine max_two_N hh F N fun h' tk F' N' => ⟨σ, St.of hs F' N' l lc, ?_⟩
  have : (if j > i then j else i) = max i j := by split <;> (first | lia | omega)
  show Q (.int _) σ
  rw [this]; exact h
theorem wC_isint_tup {a : Addr} {vs : List V} {Q : V → MH → Prop} (r : Rd c.Γ σ a (.tup vs)) (h : Q (.bool false) σ) : wC c (.oth (.builtin "isinstance")) [.ref a, .oth (.type "int")] m σ Q := fun fv args ef ea s hs => by
  obtain rfl := er_oth ef
  obtain ⟨x, y, rfl, ex, ey⟩ := two_args ea
  obtain rfl := er_ref ex; obtain rfl := er_oth ey
  obtain ⟨ob, e1, hc, xs, n, hd, _⟩ := St.rd hs r
  exact IsiPair.tuple_int e1 hc ⟨σ, St.toks hs _, h⟩
theorem wC_append {a : Addr} {vs : List V} {v : V} {Q : V → MH → Prop} (r : σ a = some (.lst vs)) (hz : vs.length ≤ 2000000) (h : Q .none (σ.set a (.lst (vs ++ [v])))) : wC c (.oth (.builtin "list.append")) [.ref a, v] m σ Q := fun fv args ef ea s hs => by
  obtain rfl := er_oth ef
  obtain ⟨x, y, rfl, ex, ey⟩ := two_args ea
  obtain rfl := er_ref ex; subst ey
  obtain ⟨ob, e1, xs, n, rfl, rfl⟩ := St.rd hs (.inl r)
  rw [List.length_map, Array.length_toList] at hz
  refine append_at (hsz := by unfold sizeLine; (first | lia | omega)) e1 fun h' hsb e' => ⟨_, St.setAt (d := s.drawn) (tk := s.toks) hs r hsb e' (o' := .lst (xs.toList.map er ++ [er y])) ⟨_, _, rfl, by simp⟩, h⟩
theorem wC_tuple {a : Addr} {vs : List V} {Q : V → MH → Prop} (r : Rd c.Γ σ a (.lst vs)) (hz : vs.length ≤ 2000000) (h : ∀ t, σ t = none → Q (.ref t) (σ.set t (.tup vs))) : wC c (.oth (.type "tuple")) [.ref a] m σ Q := fun fv args ef ea s hs => by
  obtain rfl := er_oth ef
  obtain ⟨v, rfl, ev⟩ : ∃ v, args = [v] ∧ er v = .ref a := by cases args with | nil => cases ea | cons v t => cases t <;> simp_all
  obtain rfl := er_ref ev
  obtain ⟨ob, e1, xs, n, rfl, rfl⟩ := St.rd hs r
  rw [List.length_map, Array.length_toList] at hz
  refine call_tuple_list ⟨_, e1, rfl, n, rfl⟩ (fun h' hk => ?_) (by unfold sizeLine; (first | lia | omega))
  have hs' : c.St σ m { s with heap := h' } := St.more (d := s.drawn) (tk := s.toks) hs fun b o _ e => hk b o e
  obtain ⟨mm, news, F, N, l, lc⟩ := hs'.ex
  have hne : ∀ p ∈ news, p.1 ≠ h'.objs.size := fun p hp => Nat.ne_of_lt (Heap.lt_size (N p hp).1)
  have N' := News.push F N { cls := .type "tuple", data := .seq xs }
  refine ⟨σ.set h'.objs.size (.tup (xs.toList.map er)), ?_, h _ (l.fresh hne)⟩
  exact St.of (s := { s with heap := h' }) (d := s.drawn) (tk := s.toks) hs' (F.push _) N' (l.push hne (o := .tup (xs.toList.map er)) ⟨rfl, xs, 0, rfl, rfl⟩) lc
theorem wC_find {x y : Str} {Q : V → MH → Prop} (h : Q (.int (Txt.find x y)) σ) : wC c (.oth (.builtin "str.find")) [.str x, .str y] m σ Q := fun fv args ef ea s hs => by
  obtain rfl := er_oth ef
  obtain ⟨a, b, rfl, ex, ey⟩ := two_args ea
  obtain ⟨t, rfl⟩ := er_str ex; obtain ⟨u, rfl⟩ := er_str ey
  exact SC.find ⟨σ, St.toks hs _, h⟩
theorem wC_getI {a : Addr} {n : Nat} {f : Int → Option V} {x : Int} {Q : V → MH → Prop} (r : Rd c.Γ σ a (.dcI n f)) (hne : (a == sysModules) = false) (h : Q ((f x).getD .none) σ) : wC c (.oth (.builtin "dict.get")) [.ref a, .int x] m σ Q := fun fv args ef ea s hs => by
  obtain rfl := er_oth ef
  obtain ⟨y, z, rfl, ex, ey⟩ := two_args ea
  obtain rfl := er_ref ex; obtain ⟨u, rfl⟩ := er_int ey
  obtain ⟨ob, e1, kvs, hk, hz, hf⟩ := St.rd hs r
  have hm := (Heap.dictOf_iff.mpr ⟨ob, e1, hk⟩).mapOf
  rw [← hf] at h
  refine call_meetsIn PySem.F.slot_dict_get hm.typeIs PySem.F.entry_dict_get (PySem.F.args_dict_get_2 _ _) (meets_dict_get (PySem.intKind c.Γ.p c.Γ.w) a (intKind_is _ _ x u) hne) ⟨_, hm, σ, St.toks hs _, ?_⟩
  cases q : valueAt kvs x with
  | none => rw [q] at h; exact h
  | some v => rw [q] at h; exact h
theorem wC_getS2 {a : Addr} {n : Nat} {f : Str → Option V} {x : Str} {d : V} {Q : V → MH → Prop} (r : Rd c.Γ σ a (.dcS n f)) (hne : (a == sysModules) = false) (h : Q ((f x).getD d) σ) : wC c (.oth (.builtin "dict.get")) [.ref a, .str x, d] m σ Q := fun fv args ef ea s hs => by
  obtain rfl := er_oth ef
  obtain ⟨y, z, rd, rfl, ex, ey, ed⟩ := three_args ea
  obtain rfl := er_ref ex; obtain ⟨u, rfl⟩ := er_str ey; subst ed
  obtain ⟨ob, e1, kvs, hk, hz, hf⟩ := St.rd hs r
  have hm := (Heap.dictOf_iff.mpr ⟨ob, e1, hk⟩).mapOf
  rw [← hf] at h
  refine call_meetsIn PySem.F.slot_dict_get hm.typeIs PySem.F.entry_dict_get (PySem.F.args_dict_get_3 _ _ _) (meets_dict_get_default (PySem.strKind c.Γ.p c.Γ.w) a (strKind_is _ _ x u) hne _) ⟨_, hm, σ, St.toks hs _, ?_⟩
  cases q : valueAt kvs x with
  | none => rw [q] at h; exact h
  | some v => rw [q] at h; exact h

/-! methods of built-in types -/
theorem wM_append {a : Addr} {vs : List V} {Q : V → List V → MH → Prop} (r : Rd c.Γ σ a (.lst vs)) (h : Q (.oth (.builtin "list.append")) [.ref a] σ) : wM c "append" (.ref a) m σ Q := fun rv pl e s hs => by
  obtain rfl := er_ref e
  obtain ⟨ob, e1, xs, n, rfl, rfl⟩ := St.rd hs r
  exact Calls.getMethod_list_append e1 rfl rfl ⟨σ, hs, h⟩
theorem wM_get {a : Addr} {o : MO} {Q : V → List V → MH → Prop} (r : Rd c.Γ σ a o) (ho : (∃ n f, o = .dcI n f) ∨ ∃ n f, o = .dcS n f) (h : Q (.oth (.builtin "dict.get")) [.ref a] σ) : wM c "get" (.ref a) m σ Q := fun rv pl e s hs => by
  obtain rfl := er_ref e
  rcases ho with ⟨n, f, rfl⟩ | ⟨n, f, rfl⟩
  · obtain ⟨ob, e1, kvs, hk, hz, hf⟩ := St.rd hs r
    have hm := (Heap.dictOf_iff.mpr ⟨ob, e1, hk⟩).mapOf
    exact getMethod_builtin hm.typeIs PySem.F.plainAttrs_dict PySem.F.slot_dict_get PySem.F.type_dict_get hm.noDict ⟨σ, hs, h⟩
  · obtain ⟨ob, e1, kvs, hk, hz, hf⟩ := St.rd hs r
    have hm := (Heap.dictOf_iff.mpr ⟨ob, e1, hk⟩).mapOf
    exact getMethod_builtin hm.typeIs PySem.F.plainAttrs_dict PySem.F.slot_dict_get PySem.F.type_dict_get hm.noDict ⟨σ, hs, h⟩
end


section
variable {c : Cx} {m : Lc} {σ : MH}

theorem wM_find {x : Str} {Q : V → List V → MH → Prop} (h : Q (.oth (.builtin "str.find")) [.str x] σ) : wM c "find" (.str x) m σ Q := fun rv pl e s hs => by
  obtain ⟨t, rfl⟩ := er_str e
  exact getMethod_builtin (typeIs_str _ x t) PySem.F.plainAttrs_str PySem.F.slot_str_find PySem.F.type_str_find (fun _ e => nomatch e) ⟨σ, hs, h⟩

/-! texts -/
abbrev tx (l : List Nat) : Str := ⟨l.toArray⟩
theorem tx_len (l : List Nat) : (tx l).length = l.length := by show l.toArray.size = _; simp
theorem tx_app (a b : List Nat) : tx a ++ tx b = tx (a ++ b) := by
  apply Str.ext'
  rw [Str.cps_append]
  simp
theorem tx_inj {a b : List Nat} : tx a = tx b ↔ a = b := by
  constructor
  · intro h; have := congrArg (fun x : Str => x.cps.toList) h; simpa using this
  · rintro rfl; rfl
theorem wCmp_eqT {a b : List Nat} {Q : V → MH → Prop} (h : Q (.bool (decide (a = b))) σ) : wCmp c .Eq (.str (tx a)) (.str (tx b)) m σ Q :=
  wCmp_eqS (by rw [decide_eq_decide.mpr tx_inj]; exact h)
theorem wCmp_neT {a b : List Nat} {Q : V → MH → Prop} (h : Q (.bool (!decide (a = b))) σ) : wCmp c .NotEq (.str (tx a)) (.str (tx b)) m σ Q :=
  wCmp_neS (by rw [decide_eq_decide.mpr tx_inj]; exact h)
theorem wCmp_ltT {a b : List Nat} {Q : V → MH → Prop} (h : Q (.bool (decide (a < b))) σ) : wCmp c .Lt (.str (tx a)) (.str (tx b)) m σ Q :=
  wCmp_ltS h
theorem wCmp_gtT {a b : List Nat} {Q : V → MH → Prop} (h : Q (.bool (decide (b < a))) σ) : wCmp c .Gt (.str (tx a)) (.str (tx b)) m σ Q :=
  wCmp_gtS h
theorem wB_addT {a b : List Nat} {Q : V → MH → Prop} (hz : a.length + b.length ≤ 4000000) (h : Q (.str (tx (a ++ b))) σ) : wB c .Add (.str (tx a)) (.str (tx b)) m σ Q :=
  wB_addS (by rw [tx_len, tx_len]; exact hz) (by rw [tx_app]; exact h)
theorem mul_one (u : Nat) (n : Int) : Txt.mul ⟨#[u]⟩ n = tx (List.replicate n.toNat u) := by
  unfold Txt.mul
  by_cases h1 : n < 1
  · rw [if_pos h1, show n.toNat = 0 from by first | lia | omega]; rfl
  · rw [if_neg h1]
    by_cases h2 : n = 1
    · subst h2; rfl
    · rw [if_neg (by simp [h2, Str.length])]
      have key : ∀ (k : Nat) (acc : Array Nat), (List.replicate k #[u]).foldl (· ++ ·) acc = acc ++ (List.replicate k u).toArray := by
        intro k
        induction k with
        | zero => intro acc; simp
        | succ k ih => intro acc; rw [List.replicate_succ, List.foldl_cons, ih, List.replicate_succ]; apply Array.toList_inj.mp; simp
      rw [key]; simp
theorem wB_mulT {u : Nat} {n : Int} {Q : V → MH → Prop} (hlo : -(2 ^ 40) ≤ n) (hn : n ≤ 4000000) (h : Q (.str (tx (List.replicate n.toNat u))) σ) : wB c .Mult (.str ⟨#[u]⟩) (.int n) m σ Q := fun ra rb ea eb s hs => by
  obtain ⟨t, rfl⟩ := er_str ea; obtain ⟨w, rfl⟩ := er_int eb
  refine SB.mul ⟨by simp; (first | lia | omega), fun h1 h2 => ?_, fun h1 h2 => ?_⟩ fun t' k => ⟨σ, St.toks hs _, by show Q (.str (Txt.mul ⟨#[u]⟩ n)) σ; rw [mul_one]; exact h⟩
  · have h3 : (4000000 : Int) ≤ (2 ^ 63 - 1) / 4000000 := by decide
    have h4 : (2 ^ 63 - 1 : Int) / 4000000 ≤ (2 ^ 63 - 1) / n := by
      apply Int.le_ediv_of_mul_le (by first | lia | omega)
      have : (2 ^ 63 - 1 : Int) / 4000000 * n ≤ (2 ^ 63 - 1) / 4000000 * 4000000 := Int.mul_le_mul_of_nonneg_left hn (by decide)
      have : (2 ^ 63 - 1 : Int) / 4000000 * 4000000 ≤ 2 ^ 63 - 1 := by decide
      (first | lia | omega)
    show ¬ ((1 : Nat) : Int) > _
    (first | lia | omega)
  · show decide (1 * n.toNat > sizeLine) = false
    rw [decide_eq_false_iff_not]; unfold sizeLine; (first | lia | omega)

theorem wI_str {l : List Nat} {k : Int} {j : Nat} {u : Nat} {Q : V → MH → Prop} (hlo : -(2 ^ 63) ≤ k) (hhi : k < 2 ^ 63) (hj : seqIndex? k l.length = some j) (hv : l[j]? = some u) (h : Q (.str ⟨#[u]⟩) σ) : wI c (.str (tx l)) (.int k) m σ Q := fun ro ri value slice eo ei hsl s hs => by
  obtain ⟨t, rfl⟩ := er_str eo; obtain ⟨w, rfl⟩ := er_int ei
  refine tail_any (typeIs_str _ _ t) PySem.F.slot_str_getitem.lookup (PySem.P.getItem_str (by simp; (first | lia | omega)) ?_ ⟨σ, St.toks hs _, h⟩) (subscripted_plain hsl _ _)
  rw [tx_len, hj, Option.bind_some]
  simpa using hv

theorem slice_tx {l : List Nat} {i j : Int} (h0 : 0 ≤ i) (h1 : i ≤ j) (h2 : j ≤ l.length) : Txt.slice (tx l) (some i) (some j) = tx ((l.drop i.toNat).take (j - i).toNat) := by
  have := PyProof.Rows.slice_closes (x := tx l) (i := i) (j := j) ⟨h0, h1, by simpa using h2⟩
  simpa using this

/-- a slice of a text -/
theorem wE_sliceS {value lo hi : Expr} {p pos : Pos} {Q : V → MH → Prop} (h : wE c value m σ fun v σ₁ => wE c lo m σ₁ fun a σ₂ => wE c hi m σ₂ fun b σ₃ =>
      ∃ l i j, v = .str (tx l) ∧ a = .int i ∧ b = .int j ∧ l.length ≤ 4000000 ∧ 0 ≤ i ∧ i ≤ j ∧ j ≤ l.length ∧ Q (.str (tx ((l.drop i.toNat).take (j - i).toNat))) σ₃) :
    wE c (.Subscript value (.Slice (some lo) (some hi) none p) pos) m σ Q := fun s hs => by
  refine Subscript_ (wpAny_mono (h s hs) (fun v s₁ ⟨σ₁, a₁, b₁⟩ => ?_) fun _ _ x => x)
  refine wpAny_Slice ?_
  rw [evalPart_some]
  refine wpAny_mono (b₁ s₁ a₁) (fun a s₂ ⟨σ₂, a₂, b₂⟩ => ?_) fun _ _ x => x
  rw [evalPart_some]
  refine wpAny_mono (b₂ s₂ a₂) (fun b s₃ ⟨σ₃, a₃, l, i, j, ev, ea, eb, hz, h0, h1, h2, q⟩ => ?_) fun _ _ x => x
  rw [evalPart_none]
  refine wpAny_pure ?_
  obtain ⟨t, rfl⟩ := er_str ev; obtain ⟨ti, rfl⟩ := er_int ea; obtain ⟨tj, rfl⟩ := er_int eb
  obtain ⟨mm, news, F, N, ld, lc⟩ := a₃.ex
  refine slice_strN_ss F N (fun h' t' k F' N' => ⟨σ₃, St.of (d := s₃.drawn) a₃ F' N' ld lc, ?_⟩) rfl (fun r => by cases value <;> rfl) (by rw [tx_len]; unfold sizeLine; (first | lia | omega))
  rw [slice_tx h0 h1 h2]; exact q

theorem pick_take {xs : Array Value} {n : Nat} : (slicePick xs none (some (n : Int)) none).toList = xs.toList.take n := by
  rw [slicePick_plain]
  simp only [Option.elim_none, Option.elim_some, clipAt_nat, List.drop_zero, Nat.sub_zero]
  by_cases h : n ≤ xs.size
  · rw [Nat.min_eq_left h]
  · rw [Nat.min_eq_right (by first | lia | omega), List.take_of_length_le (by simp), List.take_of_length_le (by simp; (first | lia | omega))]
theorem pick_drop {xs : Array Value} {n : Nat} : (slicePick xs (some (n : Int)) none none).toList = xs.toList.drop n := by
  rw [slicePick_plain]
  simp only [Option.elim_none, Option.elim_some, clipAt_nat]
  by_cases h : n ≤ xs.size
  · rw [Nat.min_eq_left h, List.take_of_length_le (by simp)]
  · rw [Nat.min_eq_right (by first | lia | omega), List.drop_of_length_le (by simp), List.drop_of_length_le (by simp; (first | lia | omega))]; simp

theorem sliceL_core {value slice : Expr} {a : Addr} {xs : Array Value} {n : Nat} {vl vu : Value} {lo hi : Option Int} {s : Shared} {Q : V → MH → Prop} (hs : c.St σ m s) (e1 : s.heap.get? a = some (W.listOf xs n)) (hz : xs.size ≤ 2000000)
    (pl : IsPart vl lo) (pu : IsPart vu hi) (hsub : ∀ i, subscripted slice false (.ref a) (.ref i) = operate [.ref i, .ref a] (getItem (.ref a) (.ref i)))
    (h : ∀ b, σ b = none → Q (.ref b) (σ.set b (.lst ((slicePick xs lo hi none).toList.map er)))) :
    wpAny c.M c.A (subscriptTail value slice (.ref a) (.ref s.heap.objs.size)) (fun v s' => ∃ σ', c.St σ' m s' ∧ Q (er v) σ') (fun _ _ => False) { s with heap := s.heap.push { cls := .type "slice", data := .fields #[vl, vu, .none] } } := by
  have hl : s.heap.IsList a xs := ⟨_, e1, rfl, n, rfl⟩
  have S₁ : c.St σ m { s with heap := s.heap.push { cls := .type "slice", data := .fields #[vl, vu, .none] } } := St.more (tk := s.toks) (d := s.drawn) hs fun b o _ e => Heap.get?_push_of_some _ e
  obtain ⟨mm, news, F, N, l, lc⟩ := S₁.ex
  have hne : ∀ p ∈ news, p.1 ≠ (s.heap.push { cls := .type "slice", data := .fields #[vl, vu, .none] }).objs.size := fun p hp => Nat.ne_of_lt (Heap.lt_size (N p hp).1)
  refine tail_any (Heap.IsList.typeIs (s := { s with heap := s.heap.push { cls := .type "slice", data := .fields #[vl, vu, .none] } }) (hl.push _)) list_getitem_lookup
    (wpAny_getItem_list_slice (hl.push _) (Heap.IsSliceOf.new ..) pl pu .none (by simp) ?_ (by unfold sizeLine; (first | lia | omega))) (hsub _)
  refine ⟨σ.set _ (.lst ((slicePick xs lo hi none).toList.map er)), ?_, h _ (l.fresh hne)⟩
  exact St.of (s := { s with heap := s.heap.push { cls := .type "slice", data := .fields #[vl, vu, .none] } }) (d := s.drawn) (tk := s.toks) S₁ (F.push _) (News.push F N { cls := .type "list", data := .seq (slicePick xs lo hi none) }) (l.push hne (o := .lst ((slicePick xs lo hi none).toList.map er)) ⟨_, 0, rfl, rfl⟩) lc
theorem wE_sliceL_to {value hi : Expr} {p pos : Pos} {Q : V → MH → Prop} (h : wE c value m σ fun v σ₁ => wE c hi m σ₁ fun b σ₂ =>
      ∃ a vs n, v = .ref a ∧ b = .int (n : Nat) ∧ Rd c.Γ σ₂ a (.lst vs) ∧ vs.length ≤ 2000000 ∧ ∀ t, σ₂ t = none → Q (.ref t) (σ₂.set t (.lst (vs.take n)))) :
    wE c (.Subscript value (.Slice none (some hi) none p) pos) m σ Q := fun s hs => by
  refine Subscript_ (wpAny_mono (h s hs) (fun v s₁ ⟨σ₁, a₁, b₁⟩ => ?_) fun _ _ x => x)
  refine wpAny_Slice ?_
  rw [evalPart_none]
  refine wpAny_pure ?_
  rw [evalPart_some]
  refine wpAny_mono (b₁ s₁ a₁) (fun b s₂ ⟨σ₂, a₂, a, vs, n, ev, eb, r, hz, q⟩ => ?_) fun _ _ x => x
  refine wpAny_pure ?_
  obtain rfl := er_ref ev; obtain ⟨tj, rfl⟩ := er_int eb
  obtain ⟨ob, e1, xs, k, rfl, rfl⟩ := St.rd a₂ r
  refine sliceL_core a₂ e1 (by simpa using hz) .none (.int _ _) (fun _ => rfl) fun t ht => ?_
  rw [pick_take, List.map_take]; exact q t ht
theorem wE_sliceL_from {value lo : Expr} {p pos : Pos} {Q : V → MH → Prop} (h : wE c value m σ fun v σ₁ => wE c lo m σ₁ fun b σ₂ =>
      ∃ a vs n, v = .ref a ∧ b = .int (n : Nat) ∧ Rd c.Γ σ₂ a (.lst vs) ∧ vs.length ≤ 2000000 ∧ ∀ t, σ₂ t = none → Q (.ref t) (σ₂.set t (.lst (vs.drop n)))) :
    wE c (.Subscript value (.Slice (some lo) none none p) pos) m σ Q := fun s hs => by
  refine Subscript_ (wpAny_mono (h s hs) (fun v s₁ ⟨σ₁, a₁, b₁⟩ => ?_) fun _ _ x => x)
  refine wpAny_Slice ?_
  rw [evalPart_some]
  refine wpAny_mono (b₁ s₁ a₁) (fun b s₂ ⟨σ₂, a₂, a, vs, n, ev, eb, r, hz, q⟩ => ?_) fun _ _ x => x
  rw [evalPart_none]
  refine wpAny_pure (wpAny_pure ?_)
  obtain rfl := er_ref ev; obtain ⟨tj, rfl⟩ := er_int eb
  obtain ⟨ob, e1, xs, k, rfl, rfl⟩ := St.rd a₂ r
  refine sliceL_core a₂ e1 (by simpa using hz) (.int _ _) .none (fun _ => rfl) fun t ht => ?_
  rw [pick_drop, List.map_drop]; exact q t ht

/-! sums -/
theorem intsAre_of : ∀ {vs : List Value} {ns : List Int}, vs.map er = ns.map V.int → IntsAre vs ns
  | [], [], _ => .nil
  | [], _ :: _, h => by cases h
  | _ :: _, [], h => by cases h
  | v :: vs, n :: ns, h => by
    rw [List.map_cons, List.map_cons, List.cons.injEq] at h
    obtain ⟨t, rfl⟩ := er_int h.1
    exact .cons n t (intsAre_of h.2)
theorem wC_sum {a : Addr} {ns : List Int} {Q : V → MH → Prop} (hh : c.A.handled = none) (r : Rd c.Γ σ a (.lst (ns.map V.int))) (h : Q (.int ns.sum) σ) : wC c (.oth (.builtin "sum")) [.ref a] m σ Q := fun fv args ef ea s hs => by
  obtain rfl := er_oth ef
  obtain ⟨v, rfl, ev⟩ : ∃ v, args = [v] ∧ er v = .ref a := by cases args with | nil => cases ea | cons v t => cases t <;> simp_all
  obtain rfl := er_ref ev
  obtain ⟨ob, e1, xs, n, rfl, e⟩ := St.rd hs r
  obtain ⟨mm, news, F, N, l, lc⟩ := hs.ex
  exact PyProof.Rows.LSm.sum_ints F N hh (vs := xs.toList) ⟨_, e1, rfl, n, rfl⟩ (intsAre_of e) fun h' tk t' F' N' => ⟨σ, St.of (d := s.drawn) hs F' N' l lc, h⟩

/-! tuples joined -/
theorem wB_addTup {a b : Addr} {vs ws : List V} {Q : V → MH → Prop} (ra : Rd c.Γ σ a (.tup vs)) (rb : Rd c.Γ σ b (.tup ws)) (hz : vs.length + ws.length ≤ 4000000) (hv : vs ≠ []) (hw : ws ≠ []) (h : ∀ t, σ t = none → Q (.ref t) (σ.set t (.tup (vs ++ ws)))) : wB c .Add (.ref a) (.ref b) m σ Q := fun x y ex ey s hs => by
  obtain rfl := er_ref ex; obtain rfl := er_ref ey
  obtain ⟨oa, e1, hc1, xs, n1, hd1, rfl⟩ := St.rd hs ra
  obtain ⟨ob, e2, hc2, ys, n2, hd2, rfl⟩ := St.rd hs rb
  obtain ⟨mm, news, F, N, l, lc⟩ := hs.ex
  have hne : ∀ p ∈ news, p.1 ≠ s.heap.objs.size := fun p hp => Nat.ne_of_lt (Heap.lt_size (N p hp).1)
  refine PyProof.Rows.add_tuples F N (vs := xs.toList) (ws := ys.toList) ⟨_, e1, hc1, n1, hd1⟩ ⟨_, e2, hc2, n2, hd2⟩ (fun e => absurd (by rw [e]; rfl) hv) (fun _ e => absurd (by rw [e]; rfl) hw) (fun _ _ h' F' N' => ⟨_, St.of (d := s.drawn) (tk := s.toks) hs F' N' (l.push hne (o := .tup (xs.toList.map er ++ ys.toList.map er)) ⟨rfl, _, 0, rfl, by simp⟩) lc, h _ (l.fresh hne)⟩) (by
    simp only [List.length_map] at hz; unfold sizeLine; (first | lia | omega))

/-! dicts -/
theorem wE_dict0 {pos : Pos} {Q : V → MH → Prop} (h : ∀ a, σ a = none → (a == sysModules) = false → Q (.ref a) (σ.set a (.dcI 0 fun _ => none))) : wE c (.Dict [] [] pos) m σ Q := fun s hs => by
  obtain ⟨mm, news, F, N, l, lc⟩ := hs.ex
  refine newDict_K F N hs.T.nolimit fun d h' o F' N' l1 hne k1 _ k2 _ => ?_
  have hd : ∀ p ∈ news, p.1 ≠ d := fun p hp => Nat.ne_of_lt (l1 p hp)
  exact ⟨_, St.of (d := s.drawn) (tk := s.toks) hs F' N' (l.push hd (o := .dcI 0 fun _ => none) ⟨[], k2, Nat.le_refl _, fun _ => rfl⟩) lc, h d (l.fresh hd) hne⟩
/-- an empty dict may be taken for one of strs -/
theorem St.asS {s : Shared} {a : Addr} {f : Int → Option V} (hs : c.St σ m s) (hσ : σ a = some (.dcI 0 f)) : c.St (σ.set a (.dcS 0 fun _ => none)) m s := by
  obtain ⟨mm, news, F, N, l, lc⟩ := hs.ex
  refine ⟨⟨mm, news, F, N, ⟨l.nd, fun b o e => ?_, fun p hp => ⟨(l.fr p hp).1, ?_⟩, l.fn⟩, lc⟩, hs.base, hs.gens, hs.os⟩
  · by_cases hb : b = a
    · subst hb
      rw [MH.set_self] at e; cases e
      obtain ⟨ob, hm, kvs, ⟨es, ep, hx, hd, hk, hp, hn⟩, hz, hf⟩ := l.ok _ _ hσ
      have hkv : kvs = [] := List.eq_nil_of_length_eq_zero (by first | lia | omega)
      subst hkv
      have he : es.toList = [] := by
        have := hp.length; exact List.eq_nil_of_length_eq_zero this
      refine ⟨ob, hm, [], ⟨es, ep, hx, hd, fun e h => ?_, by rw [he]; exact .nil, List.nodup_nil⟩, Nat.le_refl _, fun _ => rfl⟩
      have : e ∈ es.toList := Array.mem_toList_iff.mpr h
      rw [he] at this; cases this
    · rw [MH.set_ne hb] at e
      exact l.ok b o e
  · by_cases hb : p.1 = a
    · have := (l.fr p hp).2; rw [hb, hσ] at this; cases this
    · rw [MH.set_ne hb]; exact (l.fr p hp).2
theorem wS_asS {b : List Stmt} {a : Addr} {f : Int → Option V} {Q : Fl → Lc → MH → Prop} (hσ : σ a = some (.dcI 0 f)) (h : wS c b m (σ.set a (.dcS 0 fun _ => none)) Q) : wS c b m σ Q := fun s hs => h s (St.asS hs hσ)

/-! while -/
/-- one look and one turn; the rest is the loop again -/
theorem w1_while {test : Expr} {body : List Stmt} {pos : Pos} {Q : Fl → Lc → MH → Prop} (I : Nat → Lc → MH → Prop)
    (turn : ∀ n m σ, I n m σ → wT c test m σ fun b σ' => if b = true then wS c body m σ' fun f m'' σ'' => match f with
        | .next => ∃ k, k < n ∧ I k m'' σ''
        | .cont => ∃ k, k < n ∧ I k m'' σ''
        | .brk => Q .next m'' σ''
        | .ret v => Q (.ret v) m'' σ''
      else Q .next m σ') (n : Nat) (h : I n m σ) : w1 c (.While test body [] pos) m σ Q := fun s hs => by
  refine wpAny_While (codeAny_whileLoop (fun n s' => ∃ m σ, c.St σ m s' ∧ I n m σ) ?_ n ⟨m, σ, hs, h⟩)
  rintro n s ⟨m, σ, hs, hI⟩
  refine wpAny_mono (turn n m σ hI s hs) (fun b s' ⟨σ', a, q⟩ => ?_) fun _ _ x => x.elim
  dsimp only at q
  cases b with
  | true =>
    rw [if_pos rfl] at q ⊢
    refine wpAny_mono (q s' a) (fun f s'' ⟨σ'', m'', a', q'⟩ => ?_) fun _ _ x => x.elim
    cases f with
    | next => obtain ⟨k, hk, hI'⟩ := q'; exact ⟨k, hk, m'', σ'', a', hI'⟩
    | cont => obtain ⟨k, hk, hI'⟩ := q'; exact ⟨k, hk, m'', σ'', a', hI'⟩
    | brk => exact ⟨σ'', m'', a', q'⟩
    | ret v => exact ⟨σ'', m'', a', q'⟩
  | false =>
    rw [if_neg Bool.false_ne_true] at q ⊢
    exact wpAny_execs_nil ⟨σ', m, a, q⟩
end


section
variable {Γ : Gd} {fz fz' : List (Addr × Obj)} {g : Heap} {L : Addr} {σ : MH} {m : Lc} {s : Shared} {I : Addr} {ob ob' : Obj} {h' : Heap} {tk : Nat} {d : Drawn}
theorem St.perm (hs : St Γ fz g L σ m s) (hp : fz.Perm fz') : St Γ fz' g L σ m s := by
  obtain ⟨mm, news, F, N, l, lc⟩ := hs.ex
  exact ⟨⟨mm, news, F, N, ⟨l.nd, l.ok, fun p h => l.fr p (hp.mem_iff.mpr h), (hp.map _).nodup_iff.mp l.fn⟩, lc⟩, hs.base, hs.gens, hs.os⟩
theorem St.adopt {D : Addr} {o : MO} (hs : St Γ ((D, ob) :: fz) g L σ m s) (k : MOk Γ o ob) : St Γ fz g L (σ.set D o) m s := by
  obtain ⟨mm, news, F, N, l, lc⟩ := hs.ex
  have hD := l.fr _ (.head _)
  have hfn := l.fn
  rw [List.map_cons, List.nodup_cons] at hfn
  refine ⟨⟨mm, news, F, N, ⟨l.nd, fun b x e => ?_, fun p hp => ⟨(l.fr p (.tail _ hp)).1, ?_⟩, hfn.2⟩, lc⟩, hs.base, hs.gens, hs.os⟩
  · by_cases hb : b = D
    · subst hb; rw [MH.set_self] at e; cases e; exact ⟨ob, hD.1, k⟩
    · rw [MH.set_ne hb] at e; exact l.ok b x e
  · have hne : p.1 ≠ D := fun e => hfn.1 (e ▸ List.mem_map_of_mem (f := (·.1)) hp)
    rw [MH.set_ne hne]; exact (l.fr p (.tail _ hp)).2
theorem St.refreezeE (hs : St Γ ((I, ob) :: fz) g L σ m s) (hsb : Heap.ExtBut I s.heap h') (e' : h'.get? I = some ob') :
    St Γ ((I, ob') :: fz) g L σ m { heap := h', gens := s.gens, drawn := d, toks := tk, os := s.os } := by
  obtain ⟨mm, news, F, N, l, lc⟩ := hs.ex
  have hI := l.fr _ (.head _)
  obtain ⟨pre, post, e1, e2, h1, h2⟩ := (upd_of (ob' := ob') l.nd hI.1).split
  have z := N _ hI.1
  have hfn := l.fn
  rw [List.map_cons, List.nodup_cons] at hfn
  obtain ⟨oL, es, ep, eL, rL⟩ := F.ns
  have memne : ∀ p, p.1 ≠ I → p ∈ news → p ∈ pre ++ (I, ob') :: post := fun p hne hm => by
    rw [e1] at hm
    rcases List.mem_append.mp hm with hm | hm
    · exact List.mem_append_left _ hm
    · rcases List.mem_cons.mp hm with hm | hm
      · rw [hm] at hne; exact absurd rfl hne
      · exact List.mem_append_right _ (.tail _ hm)
  refine ⟨⟨mm, pre ++ (I, ob') :: post, ⟨⟨oL, es, ep, hsb L oL (Ne.symm z.2.1) eL, rL⟩, fun b o e => hsb b o ?_ (F.keep b o e), F.above⟩, fun p hp => ?_, ⟨?_, fun a o e => ?_, fun p hp => ?_, ?_⟩, lc⟩, hs.base, hs.gens, hs.os⟩
  · rintro rfl; rw [z.2.2] at e; cases e
  · rcases List.mem_append.mp hp with hp | hp
    · have y := N p (by rw [e1]; exact List.mem_append_left _ hp)
      exact ⟨hsb _ _ (h1 p hp) y.1, y.2⟩
    · rcases List.mem_cons.mp hp with rfl | hp
      · exact ⟨e', z.2⟩
      · have y := N p (by rw [e1]; exact List.mem_append_right _ (.tail _ hp))
        exact ⟨hsb _ _ (h2 p hp) y.1, y.2⟩
  · have := l.nd
    rw [e1] at this
    simpa using this
  · obtain ⟨ob₁, hm, k⟩ := l.ok a o e
    have hne : a ≠ I := by rintro rfl; rw [hI.2] at e; cases e
    exact ⟨ob₁, memne (a, ob₁) hne hm, k⟩
  · rcases List.mem_cons.mp hp with rfl | hp
    · exact ⟨List.mem_append_right _ (.head _), hI.2⟩
    · have := l.fr p (.tail _ hp)
      exact ⟨memne p (fun e => hfn.1 (e ▸ List.mem_map_of_mem (f := (·.1)) hp)) this.1, this.2⟩
  · rw [List.map_cons, List.nodup_cons]; exact hfn
theorem St.heq {s' : Shared} (hs : St Γ fz g L σ m s) (h1 : s'.heap = s.heap) (h2 : s'.gens = s.gens) (h3 : s'.os = s.os) : St Γ fz g L σ m s' := ⟨by rw [h1]; exact hs.ex, hs.base, h2.trans hs.gens, h3.trans hs.os⟩
theorem St.fzget (hs : St Γ fz g L σ m s) {a : Addr} {o : Obj} (h : (a, o) ∈ fz) : s.heap.get? a = some o := by
  obtain ⟨mm, news, F, N, l, lc⟩ := hs.ex
  exact (N _ (l.fr _ h).1).1
end
theorem perm3 {α : Type} (a b d : α) (l : List α) : (a :: b :: d :: l).Perm (d :: a :: b :: l) :=
  (List.Perm.cons a (List.Perm.swap d b l)).trans (List.Perm.swap d a (b :: l))

inductive CI (c : Cx) (σ₁ : MH) (m : Lc) (C D I t : Addr) (tob : Obj) (it : String) (sz : Nat) (vals : List V) (j : Nat) (s' : Shared) : Prop
  | mk (k : Nat) (obI obC : Obj) (ys : Array Value) (kk : Nat) (m' : Str → Option Value) (hk : j + k = sz) (hs : St c.Γ ((C, obC) :: (D, W.listOf ys kk) :: (I, obI) :: c.fz) c.g c.L σ₁ m s') (et : s'.heap.get? t = some tob)
    (hIc : obI.cls = .type it) (hId : obI.data = .fields #[.ref t, .int k 0]) (hns : s'.heap.Ns C m') (hys : ys.toList.map er = vals.take k)
theorem wE_comp_pair {c : Cx} {m : Lc} {σ : MH} {x x₂ : Str} {px px₂ tp pn : Pos} {tk : Nat} {iter : Expr} {scope : Scope} {pos : Pos} {Q : V → MH → Prop} (hh : c.A.handled = none)
    (h : wE c iter m σ fun v σ₁ => ∃ (t : Addr) (ps : List (Addr × V × V)), v = .ref t ∧ Rd c.Γ σ₁ t (.tup (ps.map fun p : Addr × V × V => V.ref p.1)) ∧ ps.length ≤ 2000000 ∧ (∀ p ∈ ps, Rd c.Γ σ₁ p.1 (.tup [p.2.1, p.2.2])) ∧ ∀ a, σ₁ a = none → Q (.ref a) (σ₁.set a (.lst (ps.map (·.2.2)))))
    (hclos : closureFor scope c.env = pure []) (hcell : ∀ y ∈ scope.names, y.2 ≠ .cell) (hkind : scope.kind = .function)
    (hnames : ∀ y ∈ scope.names, y.2 = .local → scope.names.lookup y.1 = some .local) (hx : scope.names.lookup x = some .local) (hx₂ : scope.names.lookup x₂ = some .local) (hxx : x ≠ x₂) (hd₂ : (x₂ == ("__debug__" : Str)) = false)
    (hs : ∀ x, foldedSetIterable iter c.env x = pure x := by intro _; rfl) :
    wE c (.ListComp (.Name x₂ pn) [⟨.Tuple [.Name x px, .Name x₂ px₂] tk tp, iter, [], 0⟩] scope pos) m σ Q := fun s hst => by
  rw [eval_ListComp]
  refine wpAny_comprehension_free (use := none) (E := fun _ _ => False) rfl hs hclos hkind hnames (wpAny_mono (h s hst) (fun xv s₁ h₁ => ?_) fun _ _ e => e)

  obtain ⟨σ₁, S₁, t, ps, hxv, r, hz, hps, q⟩ := h₁
  obtain rfl := er_ref hxv
  obtain ⟨tob, et, htc, xs, nn, htd, hvs⟩ := St.rd S₁ r
  refine wpAny_pyIter_tuple (items := xs) ⟨tob, et, htc, nn, htd⟩ ?_
  have S₂ := St.freeze S₁ (ob := { cls := .type "tuple_iterator", data := .fields #[.ref t, .int 0 0] }) rfl
  generalize hI : s₁.heap.objs.size = I at S₂ ⊢
  refine wpAny_newObj_type (T := "list") ?_ (by show (([] : List Value).toArray).size ≤ sizeLine; simp)
  have S₃ := St.freeze S₂ (ob := { cls := .type "list", data := .seq ([] : List Value).toArray }) rfl
  generalize hD : (s₁.heap.push { cls := .type "tuple_iterator", data := .fields #[.ref t, .int 0 0] }).objs.size = D at S₃ ⊢
  refine wpAny_newFunctionEnv hcell (by intro y hy; simp at hy) (fun h₁ hns₁ hsb₁ => ?_) hkind
  have S₄ := St.freeze S₃ (ob := { cls := .type "dict", data := .dict #[] }) rfl
  dsimp only at hns₁ hsb₁ S₄ ⊢
  generalize hC : ((s₁.heap.push { cls := .type "tuple_iterator", data := .fields #[.ref t, .int 0 0] }).push { cls := .type "list", data := .seq ([] : List Value).toArray }).objs.size = C at S₄ hns₁ hsb₁ ⊢
  obtain ⟨obC, eC, hobC⟩ := PyProof.Rows.LCg.ns_obj hns₁
  have S₅ := St.refreezeE (d := s₁.drawn) (tk := s₁.toks) S₄ hsb₁.extBut eC
  have et₁ : h₁.get? t = some tob := by
    refine hsb₁.extBut _ _ ?_ (Heap.get?_push_of_some _ (Heap.get?_push_of_some _ (Heap.get?_push_of_some _ et)))
    rw [← hC, Heap.size_push, Heap.size_push]
    exact Nat.ne_of_lt (Nat.lt_succ_of_lt (Nat.lt_succ_of_lt (Heap.lt_size et)))
  have htD : t ≠ D := by
    rw [← hD, Heap.size_push]
    exact Nat.ne_of_lt (Nat.lt_succ_of_lt (Heap.lt_size et))
  have hloop : ∀ (n k : Nat), k + n = xs.size → ∀ (s : Shared) (obI obC : Obj) (ys : Array Value) (kk : Nat) (m' : Str → Option Value),
      St c.Γ ((C, obC) :: (D, W.listOf ys kk) :: (I, obI) :: c.fz) c.g c.L σ₁ m s → s.heap.get? t = some tob → obI.cls = .type "tuple_iterator" → obI.data = .fields #[.ref t, .int k 0] → s.heap.Ns C m' →
      ys.toList.map er = (ps.map (·.2.2)).take k →
      codeAny c.M c.A (.compLoop (.ListComp (.Name x₂ pn) [⟨.Tuple [.Name x px, .Name x₂ px₂] tk tp, iter, [], 0⟩] scope pos) 0 (.ref I) (.ref D) (compEnvC scope [] C c.env))
        (compPost c.M c.A (fun _ _ => False) none (fun v s' => ∃ σ', c.St σ' m s' ∧ Q (er v) σ') (.ref D) C) s := by
    intro n k hk s obI obC ys kk m' hs et hIc hId hns hys
    refine PyProof.Rows.LCp.codeAny_compLoop_pair
      (CI c σ₁ m C D I t tob "tuple_iterator" xs.size (ps.map (·.2.2))) ?_ n
      ⟨k, obI, obC, ys, kk, m', by first | lia | omega, hs, et, hIc, hId, hns, hys⟩
    rintro j s ⟨k, obI, obC, ys, kk, m', hk, hs, et, hIc, hId, hns, hys⟩
    have hsI : St c.Γ ((I, obI) :: (C, obC) :: (D, W.listOf ys kk) :: c.fz) c.g c.L σ₁ m s := St.perm hs (perm3 ..)
    have eI := St.fzget hsI (.head _)
    have eD := St.fzget hs (.tail _ (.head _))
    have hit : s.heap.IsTupleIter I t k := ⟨obI, eI, hIc, hId⟩
    have ht : s.heap.IsTuple t xs := ⟨tob, et, htc, nn, htd⟩
    have fnod : ∀ {s : Shared} {obI obC obD : Obj}, St c.Γ ((I, obI) :: (C, obC) :: (D, obD) :: c.fz) c.g c.L σ₁ m s → I ≠ C ∧ I ≠ D ∧ C ≠ D := fun hs => by
      obtain ⟨mm, news, F, N, l, lc⟩ := hs.ex
      have := l.fn
      simp only [List.map_cons, List.nodup_cons, List.mem_cons, not_or] at this
      exact ⟨this.1.1, this.1.2.1, this.2.1.1⟩
    obtain ⟨hIC, hID, hCD⟩ := fnod hsI
    have htI : t ≠ I := by rintro rfl; rw [eI] at et; cases et; rw [hIc] at htc; exact absurd (Value.type.inj htc) (by decide)
    have htC : t ≠ C := by
      rintro rfl
      obtain ⟨oC, es, ep, g1, g2, _⟩ := hns
      rw [et] at g1; cases g1; rw [htd] at g2; cases g2
    by_cases hlt : k < xs.size
    · refine wpAny_pyNext_tuple_item hit ht (x := xs[k]) (by simp [hlt]) fun h' hit' hsb => ?_
      obtain ⟨obI', eI', hIc', hId'⟩ := hit'
      have S' := St.refreeze hsI hsb eI' (f := Obj.isFreed_of_fields hId') (tk := s.toks) (d := s.drawn)
      have et' := hsb.extBut _ _ htI et
      have hns' := hns.sameBut hsb (Ne.symm hIC)
      have hv : (ps.map (·.2.2))[k]? = some ((ps[k]'(by have := congrArg List.length hvs; simp at this; (first | lia | omega))).2.2) := by
        have hltp : k < ps.length := by have := congrArg List.length hvs; simp at this; (first | lia | omega)
        rw [List.getElem?_map, List.getElem?_eq_getElem hltp]; rfl
      have hltp : k < ps.length := by have := congrArg List.length hvs; simp at this; (first | lia | omega)
      obtain ⟨hxk, hRq⟩ : xs[k] = .ref (ps[k]'hltp).1 ∧ Rd c.Γ σ₁ (ps[k]'hltp).1 (.tup [(ps[k]'hltp).2.1, (ps[k]'hltp).2.2]) := ⟨by
          have : er xs[k] = .ref (ps[k]'hltp).1 := by
            have h1 : (xs.toList.map er)[k]? = some (er xs[k]) := by simp [hlt]
            rw [hvs] at h1
            rw [List.getElem?_map, List.getElem?_eq_getElem hltp] at h1
            exact (Option.some.inj h1).symm
          exact er_ref this, hps _ (List.getElem_mem _)⟩
      rw [hxk]
      refine letGo_tupleiter (i := k + 1) ⟨obI', eI', hIc', hId'⟩ ?_
      obtain ⟨qob, eq, hqc, qs, qn, hqd, hqv⟩ := S'.rd hRq
      obtain ⟨v₁, v₂, hqs, hv₁, hv₂⟩ := two_args (args := qs.toList) hqv
      have hqs' : qs = #[v₁, v₂] := by rw [← Array.toList_inj, hqs]
      subst hqs'
      refine PyProof.Rows.assign_Tuple_tuple hh (items := #[v₁, v₂]) ⟨qob, eq, hqc, qn, hqd⟩ rfl rfl fun h₅ he => ?_
      have he' : ∀ b o, h'.get? b = some o → h₅.get? b = some o := fun b o e => he b o (Nat.ne_of_lt (Heap.lt_size e)) e
      refine PyProof.Rows.assignInOrder_cons (wpAny_assign_Name (wpAny_storeName_local (lookup_relabel_local hx) (hns'.at' fun o e => he' _ o e) (fun h₆ hn₆ hs₆ => ?_) (by simp [compEnvC, relabel, hkind])))
      refine PyProof.Rows.assignInOrder_cons (wpAny_assign_Name (wpAny_storeName_local (lookup_relabel_local hx₂) hn₆ (fun h₃ hn₃ hs₃ => ?_) (by simp [compEnvC, relabel, hkind])))
      refine PyProof.Rows.assignInOrder_nil ?_
      have old3 : Heap.ExtBut C h' h₃ := fun b o hb e => hs₃.extBut b o hb (hs₆.extBut b o hb (he' b o e))
      obtain ⟨obC', eC', hoC'⟩ := PyProof.Rows.LCg.ns_obj hn₃
      have S₇ := St.refreezeE (tk := s.toks) (d := s.drawn) (St.perm S' (List.Perm.swap ..)) old3 eC'
      refine wpAny_Name (wpAny_loadName_local (by simp [compEnvC, relabel, hkind]) (lookup_relabel_local hx₂) hn₃ (v := v₂) (by simp) ?_) hd₂
      have hszz : ys.size ≤ sizeLine := by
        have := congrArg List.length hys
        simp at this
        unfold sizeLine; (first | lia | omega)
      refine append_at (hsz := hszz) (old3 _ _ (Ne.symm hCD) (hsb.extBut _ _ (Ne.symm hID) eD)) fun h₈ hs₈ e₈ => ?_
      have S₈ := St.refreeze (tk := s.toks) (d := s.drawn) (St.perm S₇ (perm3 ..)) hs₈ e₈ rfl
      refine ⟨j - 1, by first | lia | omega, k + 1, obI', obC', ys.push v₂, kk + 1, _, by first | lia | omega, St.heq (St.perm S₈ (List.Perm.swap ..)) rfl rfl rfl, hs₈.extBut _ _ htD (old3 _ _ htC et'), hIc', hId', hn₃.sameBut hs₈ hCD, ?_⟩
      rw [Array.toList_push, List.map_append, hys, List.take_add_one, hv]
      simp [hv₂]
    · have hge : xs[k]? = none := Array.getElem?_eq_none (by first | lia | omega)
      refine wpAny_pyNext_tuple_end hh hit ht hge fun h' he => ?_
      have S' := St.thaw (tk := s.toks) (d := s.drawn) hsI he
      refine ⟨m', hns.at' fun o e => he _ _ (Ne.symm hIC) e, fun h'' hs'' => ?_⟩
      have S'' := St.thaw (tk := s.toks) (d := s.drawn) S' hs''.extBut
      have hys' : ys.toList.map er = ps.map (·.2.2) := by
        rw [hys]; exact List.take_of_length_le (by have := congrArg List.length hvs; simp at this ⊢; (first | lia | omega))
      have fresh : σ₁ D = none := by
        obtain ⟨mm, news, F, N, l, lc⟩ := S''.ex
        exact (l.fr _ (.head _)).2
      refine ⟨_, ?_, q D fresh⟩
      exact St.adopt S'' ⟨_, _, rfl, hys'⟩
  have S₆ : St c.Γ ((C, obC) :: (D, W.listOf #[] 0) :: (I, { cls := .type "tuple_iterator", data := .fields #[.ref t, .int 0 0] }) :: c.fz) c.g c.L σ₁ m _ := S₅
  have eI₆ := St.fzget S₆ (.tail _ (.tail _ (.head _)))
  exact codeAny_compStart_list (hloop xs.size 0 (by first | lia | omega) _ _ _ _ _ _ S₆ et₁ rfl rfl hns₁ rfl) (wpAny_pyIter_tupleiter ⟨_, eI₆, rfl, rfl⟩ (hloop xs.size 0 (by first | lia | omega) _ _ _ _ _ _ S₆ et₁ rfl rfl hns₁ rfl))

theorem w1_comp_mod {c : Cx} {m : Lc} {σ : MH} {x : Str} {px pn pc pb : Pos} {tk : Nat} {b : Int} {iter : Expr} {scope : Scope} {pos : Pos} {y : Str} {py spos : Pos} {Q : Fl → Lc → MH → Prop} (hh : c.A.handled = none)
    (h : wE c iter m σ fun v σ₁ => ∃ (t : Addr) (ns : List Int), v = .ref t ∧ Rd c.Γ σ₁ t (.lst (ns.map V.int)) ∧ ns.length ≤ 2000000 ∧ ∀ a, σ₁ a = none → Q .next ((y, .ref a) :: m) (σ₁.set a (.lst (ns.map fun n => V.int (n.fmod b)))))
    (hclos : closureFor scope c.env = pure []) (hcell : ∀ y ∈ scope.names, y.2 ≠ .cell) (hkind : scope.kind = .function)
    (hnames : ∀ y ∈ scope.names, y.2 = .local → scope.names.lookup y.1 = some .local) (hx : scope.names.lookup x = some .local) (hb : b ≠ 0) (hd₂ : (x == ("__debug__" : Str)) = false)
    (hs : ∀ x, foldedSetIterable iter c.env x = pure x) (hsw : swapsWith (.ListComp (.BinOp (.Name x pn) .Mod (.Constant (.int b) tk pc) pb) [⟨.Name x px, iter, [], 0⟩] scope pos) (some (.Name y py)) spos.line c.env = pure true)
    (hkc : c.sc.kind = .function) (hyl : (envOf c.q c.sc c.L c.a c.cd).kindOf y = some .local) :
    w1 c (.Assign [.Name y py] (.ListComp (.BinOp (.Name x pn) .Mod (.Constant (.int b) tk pc) pb) [⟨.Name x px, iter, [], 0⟩] scope pos) spos) m σ Q := fun s hst => by
  rw [exec_Assign_Name_used _ _ _ _ hsw]
  refine wpAny_bind (wpAny_standAt (wpAny_bind ?_))
  show wpAny _ _ (do let _ ← comprehension (.ListComp (.BinOp (.Name x pn) .Mod (.Constant (.int b) tk pc) pb) [⟨.Name x px, iter, [], 0⟩] scope pos) scope c.env _ (newList []) false (eval iter c.env) (some (assign (.Name y py) c.env))) _ _ s
  refine wpAny_bind (wpAny_mono (wpAny_comprehension_free (use := some (assign (.Name y py) c.env)) (E := fun _ _ => False) (Q := fun _ s' => ∃ σ' m', c.St σ' m' s' ∧ Q .next m' σ') rfl hs hclos hkind hnames (wpAny_mono (h s hst) (fun xv s₁ h₁ => ?_) fun _ _ e => e)) (fun _ s' hq => wpAny_pure (wpAny_pure hq)) fun _ _ e => e)

  obtain ⟨σ₁, S₁, t, ns, hxv, r, hz, q⟩ := h₁
  obtain rfl := er_ref hxv
  obtain ⟨tob, et, xs, nn, hto, hvs⟩ := St.rd S₁ r
  refine wpAny_pyIter_list (items := xs) ⟨tob, et, by rw [hto], nn, by rw [hto]⟩ ?_
  have S₂ := St.freeze S₁ (ob := { cls := .type "list_iterator", data := .fields #[.ref t, .int 0 0] }) rfl
  generalize hI : s₁.heap.objs.size = I at S₂ ⊢
  refine wpAny_newObj_type (T := "list") ?_ (by show (([] : List Value).toArray).size ≤ sizeLine; simp)
  have S₃ := St.freeze S₂ (ob := { cls := .type "list", data := .seq ([] : List Value).toArray }) rfl
  generalize hD : (s₁.heap.push { cls := .type "list_iterator", data := .fields #[.ref t, .int 0 0] }).objs.size = D at S₃ ⊢
  refine wpAny_newFunctionEnv hcell (by intro y hy; simp at hy) (fun h₁ hns₁ hsb₁ => ?_) hkind
  have S₄ := St.freeze S₃ (ob := { cls := .type "dict", data := .dict #[] }) rfl
  dsimp only at hns₁ hsb₁ S₄ ⊢
  generalize hC : ((s₁.heap.push { cls := .type "list_iterator", data := .fields #[.ref t, .int 0 0] }).push { cls := .type "list", data := .seq ([] : List Value).toArray }).objs.size = C at S₄ hns₁ hsb₁ ⊢
  obtain ⟨obC, eC, hobC⟩ := PyProof.Rows.LCg.ns_obj hns₁
  have S₅ := St.refreezeE (d := s₁.drawn) (tk := s₁.toks) S₄ hsb₁.extBut eC
  have et₁ : h₁.get? t = some tob := by
    refine hsb₁.extBut _ _ ?_ (Heap.get?_push_of_some _ (Heap.get?_push_of_some _ (Heap.get?_push_of_some _ et)))
    rw [← hC, Heap.size_push, Heap.size_push]
    exact Nat.ne_of_lt (Nat.lt_succ_of_lt (Nat.lt_succ_of_lt (Heap.lt_size et)))
  have htD : t ≠ D := by
    rw [← hD, Heap.size_push]
    exact Nat.ne_of_lt (Nat.lt_succ_of_lt (Heap.lt_size et))
  have hloop : ∀ (n k : Nat), k + n = xs.size → ∀ (s : Shared) (obI obC : Obj) (ys : Array Value) (kk : Nat) (m' : Str → Option Value),
      St c.Γ ((C, obC) :: (D, W.listOf ys kk) :: (I, obI) :: c.fz) c.g c.L σ₁ m s → s.heap.get? t = some tob → obI.cls = .type "list_iterator" → obI.data = .fields #[.ref t, .int k 0] → s.heap.Ns C m' →
      ys.toList.map er = (ns.map fun n => V.int (n.fmod b)).take k →
      codeAny c.M c.A (.compLoop (.ListComp (.BinOp (.Name x pn) .Mod (.Constant (.int b) tk pc) pb) [⟨.Name x px, iter, [], 0⟩] scope pos) 0 (.ref I) (.ref D) (compEnvC scope [] C c.env))
        (compPost c.M c.A (fun _ _ => False) (some (assign (.Name y py) c.env)) (fun _ s' => ∃ σ' m', c.St σ' m' s' ∧ Q .next m' σ') (.ref D) C) s := by
    intro n k hk s obI obC ys kk m' hs et hIc hId hns hys
    refine codeAny_compLoop_list
      (CI c σ₁ m C D I t tob "list_iterator" xs.size (ns.map fun n => V.int (n.fmod b))) ?_ n
      ⟨k, obI, obC, ys, kk, m', by first | lia | omega, hs, et, hIc, hId, hns, hys⟩
    rintro j s ⟨k, obI, obC, ys, kk, m', hk, hs, et, hIc, hId, hns, hys⟩
    have hsI : St c.Γ ((I, obI) :: (C, obC) :: (D, W.listOf ys kk) :: c.fz) c.g c.L σ₁ m s := St.perm hs (perm3 ..)
    have eI := St.fzget hsI (.head _)
    have eD := St.fzget hs (.tail _ (.head _))
    have hit : s.heap.IsListIter I t k := ⟨obI, eI, hIc, hId⟩
    have ht : s.heap.IsList t xs := ⟨tob, et, by rw [hto], nn, by rw [hto]⟩
    have fnod : ∀ {s : Shared} {obI obC obD : Obj}, St c.Γ ((I, obI) :: (C, obC) :: (D, obD) :: c.fz) c.g c.L σ₁ m s → I ≠ C ∧ I ≠ D ∧ C ≠ D := fun hs => by
      obtain ⟨mm, news, F, N, l, lc⟩ := hs.ex
      have := l.fn
      simp only [List.map_cons, List.nodup_cons, List.mem_cons, not_or] at this
      exact ⟨this.1.1, this.1.2.1, this.2.1.1⟩
    obtain ⟨hIC, hID, hCD⟩ := fnod hsI
    have htI : t ≠ I := by rintro rfl; rw [eI] at et; cases et; rw [hto] at hIc; exact absurd (Value.type.inj hIc) (by decide)
    have htC : t ≠ C := by
      rintro rfl
      obtain ⟨oC, es, ep, g1, g2, _⟩ := hns
      rw [et] at g1; cases g1; rw [hto] at g2; cases g2
    by_cases hlt : k < xs.size
    · refine wpAny_pyNext_list_item hit ht (x := xs[k]) (by simp [hlt]) fun h' hit' hsb => ?_
      obtain ⟨obI', eI', hIc', hId'⟩ := hit'
      have S' := St.refreeze hsI hsb eI' (f := Obj.isFreed_of_fields hId') (tk := s.toks) (d := s.drawn)
      have et' := hsb.extBut _ _ htI et
      have hns' := hns.sameBut hsb (Ne.symm hIC)
      have hv : (ns.map fun n => V.int (n.fmod b))[k]? = some (V.int ((ns[k]'(by have := congrArg List.length hvs; simp at this; (first | lia | omega))).fmod b)) := by
        have hltp : k < ns.length := by have := congrArg List.length hvs; simp at this; (first | lia | omega)
        rw [List.getElem?_map, List.getElem?_eq_getElem hltp]; rfl
      have hltp : k < ns.length := by have := congrArg List.length hvs; simp at this; (first | lia | omega)
      obtain ⟨i, hxk⟩ : ∃ t', xs[k] = .int (ns[k]'hltp) t' := by
          have : er xs[k] = .int (ns[k]'hltp) := by
            have h1 : (xs.toList.map er)[k]? = some (er xs[k]) := by simp [hlt]
            rw [hvs] at h1
            rw [List.getElem?_map, List.getElem?_eq_getElem hltp] at h1
            exact (Option.some.inj h1).symm
          exact er_int this
      rw [hxk]
      refine wpAny_assign_Name (wpAny_storeName_local (lookup_relabel_local hx) hns' (fun h₃ hn₃ hs₃ => ?_) (by simp [compEnvC, relabel, hkind]))
      have old3 : Heap.ExtBut C h' h₃ := hs₃.extBut
      obtain ⟨obC', eC', hoC'⟩ := PyProof.Rows.LCg.ns_obj hn₃
      have S₇ := St.refreezeE (tk := s.toks) (d := s.drawn) (St.perm S' (List.Perm.swap ..)) old3 eC'
      refine wpAny_BinOp (wpAny_Name (wpAny_loadName_local (by simp [compEnvC, relabel, hkind]) (lookup_relabel_local hx) hn₃ (v := .int (ns[k]'hltp) i) (by simp) (wpAny_Constant_int (mod_int hb ?_))) hd₂)
      have hszz : ys.size ≤ sizeLine := by
        have := congrArg List.length hys
        simp at this
        unfold sizeLine; (first | lia | omega)
      refine append_at (hsz := hszz) (old3 _ _ (Ne.symm hCD) (hsb.extBut _ _ (Ne.symm hID) eD)) fun h₈ hs₈ e₈ => ?_
      have S₈ := St.refreeze (tk := s.toks) (d := s.drawn) (St.perm S₇ (perm3 ..)) hs₈ e₈ rfl
      refine ⟨j - 1, by first | lia | omega, k + 1, obI', obC', ys.push _, kk + 1, _, by first | lia | omega, St.heq (St.perm S₈ (List.Perm.swap ..)) rfl rfl rfl, hs₈.extBut _ _ htD (old3 _ _ htC et'), hIc', hId', hn₃.sameBut hs₈ hCD, ?_⟩
      rw [Array.toList_push, List.map_append, hys, List.take_add_one, hv]
      simp [er]
    · have hge : xs[k]? = none := Array.getElem?_eq_none (by first | lia | omega)
      refine wpAny_pyNext_list_end hh hit ht hge fun h' he => ?_
      have S' := St.thaw (tk := s.toks) (d := s.drawn) hsI he
      have hnsC := hns.at' fun o e => he _ _ (Ne.symm hIC) e
      obtain ⟨oC, eoC, hoC⟩ := PyProof.Rows.LCg.ns_obj hnsC
      have eC' := St.fzget S' (.head _)
      obtain rfl : oC = obC := Option.some.inj (eoC.symm.trans eC')
      show wpAny c.M c.A (assign (.Name y py) c.env (.ref D)) _ _ _
      refine wpAny_assign_Name (wG_store (c := { c with fz := (C, oC) :: (D, W.listOf ys kk) :: c.fz }) S' (fun s'' S'' => ?_) hkc hyl)
      have S'' : St c.Γ ((C, oC) :: (D, W.listOf ys kk) :: c.fz) c.g c.L σ₁ ((y, .ref D) :: m) s'' := S''
      refine ⟨m', hoC.ns (St.fzget S'' (.head _)), fun h'' hs'' => ?_⟩
      have S₃ := St.thaw (tk := s''.toks) (d := s''.drawn) S'' hs''.extBut
      have hys' : ys.toList.map er = ns.map fun n => V.int (n.fmod b) := by
        rw [hys]; exact List.take_of_length_le (by have := congrArg List.length hvs; simp at this ⊢; (first | lia | omega))
      have fresh : σ₁ D = none := by
        obtain ⟨mm, news, F, N, l, lc⟩ := S₃.ex
        exact (l.fr _ (.head _)).2
      refine ⟨_, _, ?_, q D fresh⟩
      exact St.adopt S₃ ⟨_, _, rfl, hys'⟩
  have S₆ : St c.Γ ((C, obC) :: (D, W.listOf #[] 0) :: (I, { cls := .type "list_iterator", data := .fields #[.ref t, .int 0 0] }) :: c.fz) c.g c.L σ₁ m _ := S₅
  have eI₆ := St.fzget S₆ (.tail _ (.tail _ (.head _)))
  exact codeAny_compStart_list (hloop xs.size 0 (by first | lia | omega) _ _ _ _ _ _ S₆ et₁ rfl rfl hns₁ rfl) (wpAny_pyIter_listiter ⟨_, eI₆, rfl, rfl⟩ (hloop xs.size 0 (by first | lia | omega) _ _ _ _ _ _ S₆ et₁ rfl rfl hns₁ rfl))


/-! a dict display of four names -/
def dc4 (k1 k2 k3 k4 : Str) (v1 v2 v3 v4 : V) : Str → Option V := fun k => if k = k1 then some v1 else if k = k2 then some v2 else if k = k3 then some v3 else if k = k4 then some v4 else none
theorem dict_empty_of {Γ : Gd} {h : Heap} {D : Addr} (e : h.get? D = some { cls := .type "dict", data := .dict #[] }) : h.DictOf (PySem.strKind Γ.p Γ.w) D [] :=
  ⟨_, _, _, e, ⟨rfl, rfl, rfl⟩, rfl, (fun x hx => by simp at hx), .nil, List.nodup_nil⟩

theorem wE_dict4 {c : Cx} {m : Lc} {σ : MH} {k1 k2 k3 k4 : Str} {t1 t2 t3 t4 : Nat} {p1 p2 p3 p4 pos : Pos} {e1 e2 e3 e4 : Expr} {Q : V → MH → Prop} (hn : [k1, k2, k3, k4].Nodup)
    (h : ∀ p, wE (fzd c p) e1 m σ fun v1 σ₁ => wE (fzd c p) e2 m σ₁ fun v2 σ₂ => wE (fzd c p) e3 m σ₂ fun v3 σ₃ => wE (fzd c p) e4 m σ₃ fun v4 σ₄ =>
      ∀ a, σ₄ a = none → Q (.ref a) (σ₄.set a (.dcS 4 (dc4 k1 k2 k3 k4 v1 v2 v3 v4)))) :
    wE c (.Dict [some (.Constant (.str k1) t1 p1), some (.Constant (.str k2) t2 p2), some (.Constant (.str k3) t3 p3), some (.Constant (.str k4) t4 p4)] [e1, e2, e3, e4] pos) m σ Q := fun s hs => by
  obtain ⟨mm, news, F, N, l, lc⟩ := hs.ex
  refine Dict_made_str rfl F rfl rfl (by simp) (by simp) fun _ => ?_
  have S := St.freeze hs (ob := { cls := .type "dict", data := .dict #[] }) rfl
  show wpAny _ _ (evalPairs [(eval (.Constant (.str k1) t1 p1) c.env, do let x ← eval e1 c.env; standAt pos; pure x), (eval (.Constant (.str k2) t2 p2) c.env, do let x ← eval e2 c.env; standAt pos; pure x),
    (eval (.Constant (.str k3) t3 p3) c.env, do let x ← eval e3 c.env; standAt pos; pure x), (eval (.Constant (.str k4) t4 p4) c.env, do let x ← eval e4 c.env; standAt pos; pure x)]) _ _ _
  refine evalPairs_cons (Calls.Constant_str (wpAny_bind (wpAny_mono (h _ _ (St.toks (c := fzd c _) S _)) (fun v1 s₁ ⟨σ₁, S₁, h₁⟩ => wpAny_bind (wpAny_standAt (wpAny_pure ?_))) fun _ _ x => x.elim)))
  refine evalPairs_cons (Calls.Constant_str (wpAny_bind (wpAny_mono (h₁ _ (St.toks (c := fzd c _) S₁ _)) (fun v2 s₂ ⟨σ₂, S₂, h₂⟩ => wpAny_bind (wpAny_standAt (wpAny_pure ?_))) fun _ _ x => x.elim)))
  refine evalPairs_cons (Calls.Constant_str (wpAny_bind (wpAny_mono (h₂ _ (St.toks (c := fzd c _) S₂ _)) (fun v3 s₃ ⟨σ₃, S₃, h₃⟩ => wpAny_bind (wpAny_standAt (wpAny_pure ?_))) fun _ _ x => x.elim)))
  refine evalPairs_cons (Calls.Constant_str (wpAny_bind (wpAny_mono (h₃ _ (St.toks (c := fzd c _) S₃ _)) (fun v4 s₄ ⟨σ₄, S₄, h₄⟩ => wpAny_bind (wpAny_standAt (wpAny_pure ?_))) fun _ _ x => x.elim)))
  refine evalPairs_nil ⟨[(k1, v1), (k2, v2), (k3, v3), (k4, v4)], ⟨strKind_is _ _ _ _, rfl, strKind_is _ _ _ _, rfl, strKind_is _ _ _ _, rfl, strKind_is _ _ _ _, rfl, trivial⟩, dict_empty_of (Γ := c.Γ) (St.fzget S₄ (.head _)), fun h' hd hsb => ?_⟩
  rw [merged_nil_of_nodup _ (by simpa using hn)] at hd
  obtain ⟨ob', e', hk⟩ := Heap.dictOf_iff.mp hd
  have S₅ := St.refreezeE (tk := s₄.toks + 4) (d := s₄.drawn) S₄ hsb.extBut e'
  have fresh : σ₄ s.heap.objs.size = none := by
    obtain ⟨mm, news, F, N, l, lc⟩ := S₄.ex
    exact (l.fr _ (.head _)).2
  refine ⟨_, St.adopt S₅ (o := .dcS 4 (dc4 k1 k2 k3 k4 (er v1) (er v2) (er v3) (er v4))) ⟨_, hk, Nat.le_refl _, fun k => ?_⟩, h₄ _ fresh⟩
  simp only [valueAt_cons, dc4, @eq_comm _ _ k]
  repeat' split
  all_goals first | rfl | simp_all

section
variable {c : Cx} {m : Lc} {σ : MH}
/-- a chain of two comparisons as a test -/
theorem wT_chain {l r₁ r₂ : Expr} {op₁ op₂ : CmpOp} {pos : Pos} {Q : Bool → MH → Prop}
    (h : wE c l m σ fun a σ₁ => wE c r₁ m σ₁ fun b σ₂ => wCmp c op₁ a b m σ₂ fun v σ₃ => wTr c v m σ₃ fun t σ₄ => if t = true then wE c r₂ m σ₄ fun d σ₅ => wCmp c op₂ b d m σ₅ fun v σ₆ => wTr c v m σ₆ Q else Q false σ₄)
    (hm : lastMarks [op₁, op₂] [r₁, r₂] = false := by with_unfolding_all rfl) : wT c (.Compare l [op₁, op₂] [r₁, r₂] pos) m σ Q := fun s hs =>
  isTrue_chain (wpAny_mono (h s hs) (fun a s₁ ⟨σ₁, a₁, b₁⟩ => test_link (wpAny_mono (b₁ s₁ a₁) (fun b s₂ ⟨σ₂, a₂, b₂⟩ => wpAny_mono (b₂ a b rfl rfl s₂ a₂) (fun v s₃ ⟨σ₃, a₃, b₃⟩ => wpAny_mono (b₃ v rfl s₃ a₃) (fun t s₄ ⟨σ₄, a₄, b₄⟩ => by
    dsimp only at b₄
    split at b₄ <;> rename_i ht
    · rw [if_pos ht]
      exact test_last (wpAny_mono (b₄ s₄ a₄) (fun d s₅ ⟨σ₅, a₅, b₅⟩ => wpAny_mono (b₅ b d rfl rfl s₅ a₅) (fun v s₆ ⟨σ₆, a₆, b₆⟩ => b₆ v rfl s₆ a₆) fun _ _ x => x) fun _ _ x => x)
    · rw [if_neg ht]; exact ⟨σ₄, a₄, b₄⟩) fun _ _ x => x) fun _ _ x => x) fun _ _ x => x)) fun _ _ x => x) hm

/-- the whole of a list of one number let go -/
theorem del_all {a sl : Addr} {i : Int} {t : Tok} {n : Nat} {s : Shared} {Q : Unit → Shared → Prop} {p : Program} {w : World} {A : Around} {E : Value → Shared → Prop} (e1 : s.heap.get? a = some (W.listOf #[.int i t] n)) (hsl : s.heap.IsSliceOf sl .none .none .none)
    (h : ∀ h', Heap.SameBut a s.heap h' → (∃ k, h'.get? a = some (W.listOf #[] k)) → Q () { s with heap := h' }) : wpAny (model p w) A (delItem (.ref a) (.ref sl)) Q E s := by
  have hl : s.heap.IsList a #[.int i t] := ⟨_, e1, rfl, n, rfl⟩
  obtain ⟨os, hos, hcs, hds⟩ := id hsl
  have hTs : s.TypeIs (.ref sl) "slice" := ⟨os, hos, hcs⟩
  unfold delItem
  try with_reducible refine wpAny_holding ?_
  refine wpAny_bind (wpAny_sequenceKey hl.typeIs (by decide) ?_)
  refine wpAny_bind (wpAny_callSpecial?_slot (name := Str.ofString "__delitem__") hl.typeIs F.slot_list_delitem
    (wpAny_call_entry F.slot_list_delitem hl.typeIs F.entry_list_delitem ?_ (F.args_list_delitem_2 _ _)))
  show wpAny _ _ (Builtin.List.listSubscript? (.ref sl) >>= _) _ _ s
  refine wpAny_bind ?_
  unfold Builtin.List.listSubscript?
  refine wpAny_bind (wpAny_specialOf hTs slice_no_index ?_)
  simp only [Option.isNone_none, if_true]
  refine wpAny_pure ?_
  show wpAny _ _ (typeOf (.ref sl) >>= _) _ _ s
  refine wpAny_bind (wpAny_typeOf hTs ?_)
  rw [if_neg (by decide)]
  rw [listSliceParts_eq]
  refine wpAny_bind (wpAny_bind (wpAny_field hos hds (x := .none) rfl (wpAny_bind (wpAny_listPart .none ?_))))
  rw [if_neg (show ¬ ((rawPart none == rawInt 0) = true) from Bool.false_ne_true)]
  refine wpAny_bind (wpAny_field hos hds (x := .none) rfl (wpAny_bind (wpAny_listPart .none ?_)))
  refine wpAny_bind (wpAny_field hos hds (x := .none) rfl (wpAny_bind (wpAny_listPart .none (wpAny_pure ?_))))
  refine wpAny_bind (m := Builtin.List.listItems (.ref a)) ?_
  unfold Builtin.List.listItems
  refine wpAny_bind (wpAny_seqItems e1 rfl (wpAny_pure ?_))
  refine wpAny_bind (wpAny_of_eq (sliceIndices_raw none none none 1 (by simp)) ?_)
  rw [show sliceBounds none none none 1 = (0, 1, 1) from rfl]
  refine wpAny_bind (wpAny_rule ?_)
  refine wpAny_bind ?_
  unfold Builtin.List.listUpdate
  refine wpAny_updateSeq e1 rfl ?_ (by simp [sizeLine]) (by show 0 ≤ _; (first | lia | omega))
  refine wpAny_bind (wpAny_letGo ?_)
  refine wpAny_pure ⟨.none, rfl, wpAny_pure (h _ (Heap.SameBut.update ..) ?_)⟩
  rw [Heap.get?_update_self _ e1 (by rfl)]
  exact ⟨_, rfl⟩

theorem w1_delall {o : Expr} {p pos dpos : Pos} {Q : Fl → Lc → MH → Prop} (h : wE c o m σ fun v σ' => ∃ a i, v = .ref a ∧ σ' a = some (.lst [.int i]) ∧ Q .next m (σ'.set a (.lst []))) :
    w1 c (.Delete [.Subscript o (.Slice none none none p) pos] dpos) m σ Q := fun s hs => by
  refine wpAny_Delete (wpAny_deleteEach_cons (wpAny_delete_Subscript (wpAny_mono (h s hs) (fun v s₁ ⟨σ₁, S₁, a, i, ev, hσ, q⟩ => ?_) fun _ _ x => x.elim)))
  refine wpAny_Slice ?_
  rw [evalPart_none]
  refine wpAny_pure (wpAny_pure ?_)
  obtain rfl := er_ref ev
  obtain ⟨ob, e1, xs, n, rfl, ex⟩ := St.rd S₁ (.inl hσ)
  refine wpAny_pure ?_
  obtain ⟨t, rfl⟩ : ∃ t, xs = #[.int i t] := by
    obtain ⟨l⟩ := xs
    cases l with
    | nil => cases ex
    | cons x r => cases r with
      | nil =>
        rw [List.map_cons, List.cons.injEq] at ex
        obtain ⟨t, rfl⟩ := er_int ex.1
        exact ⟨t, rfl⟩
      | cons y r => simp at ex
  have S₂ : c.St σ₁ m { s₁ with heap := s₁.heap.push { cls := .type "slice", data := .fields #[.none, .none, .none] } } := St.more (tk := s₁.toks) (d := s₁.drawn) S₁ fun b o _ e => Heap.get?_push_of_some _ e
  refine del_all (Heap.get?_push_of_some _ e1) (Heap.IsSliceOf.new ..) fun h' hsb ⟨k, e'⟩ => ?_
  refine wpAny_deleteEach_nil ⟨_, m, St.setAt (tk := s₁.toks) (d := s₁.drawn) S₂ hσ hsb e' (o' := .lst []) ⟨_, k, rfl, rfl⟩, q⟩
end

noncomputable abbrev HP := Mine.hd.heap_39
class Gl (x : Str) (v : outParam V) : Prop where
  out : ∀ P, (nsIn (HP P) mainGlobals x).map (Option.map er) = some (some v)
class Bl (x : Str) (v : outParam V) : Prop where
  out : (∀ P, nsIn (HP P) mainGlobals x = some none) ∧ (bootBuiltins x).map er = some v ∧ (x == "__name__") = false
class Fn (f : Addr) : Prop where
  out : ∀ P, keepIn (HP P) (.ref f) = true
def tupOf (o : Obj) : Option (List V) := if o.cls == .type "tuple" then match o.data with | .seq xs _ => some (xs.toList.map er) | _ => none else none
class Tp (a : Addr) (vs : outParam (List V)) : Prop where
  out : ∀ P, ((HP P).lookup a).bind tupOf = some vs
class Mk (C : Addr) (f : outParam Addr) : Prop where
  out : ∀ P, makesIn (HP P) C = true ∧ findIn (HP P) (.ref C) "__init__" = some (some (.ref f)) ∧ isFn (HP P) (.ref f) = true
class Mk0 (C : Addr) : Prop where
  out : ∀ P, makesIn (HP P) C = true ∧ findIn (HP P) (.ref C) "__init__" = some (some (.builtin "object.__init__"))
class Mt (C : Addr) (name : Str) (f : outParam Addr) : Prop where
  out : ∀ P, plainGet (HP P) C name = true ∧ findIn (HP P) (.ref C) name = some (some (.ref f)) ∧ isFn (HP P) (.ref f) = true
class Ga (C : Addr) (name : Str) : Prop where
  out : ∀ P, plainGet (HP P) C name = true ∧ hasDictIn (HP P) C = true ∧ findIn (HP P) (.ref C) name = some none ∧ noGet (HP P) none = true
class Sa (C : Addr) (name : Str) : Prop where
  out : ∀ P, findIn (HP P) (.ref C) "__setattr__" = some (some (.builtin "object.__setattr__")) ∧ plainOver (HP P) C = true ∧ takerIn (HP P) C name = some none ∧ hasDictIn (HP P) C = true

instance : Gl "V_I4" (.int (1)) := ⟨fun P => by kernel_rfl⟩
instance : Gl "V_I8" (.int (2)) := ⟨fun P => by kernel_rfl⟩
instance : Gl "V_NINT" (.int (3)) := ⟨fun P => by kernel_rfl⟩
instance : Gl "V_REF" (.int (4)) := ⟨fun P => by kernel_rfl⟩
instance : Gl "V_TEXT" (.int (8)) := ⟨fun P => by kernel_rfl⟩
instance : Gl "NULLV" (.ref 51) := ⟨fun P => by kernel_rfl⟩
instance : Gl "W_KIND" (.int (5)) := ⟨fun P => by kernel_rfl⟩
instance : Gl "FIRST_ADDRESS" (.int (16)) := ⟨fun P => by kernel_rfl⟩
instance : Gl "HEAD_WORDS" (.int (2)) := ⟨fun P => by kernel_rfl⟩
instance : Gl "LEAST_SIZE" (.int (3)) := ⟨fun P => by kernel_rfl⟩
instance : Gl "words_for" (.ref 79) := ⟨fun P => by kernel_rfl⟩
instance : Gl "Thing" (.ref 96) := ⟨fun P => by kernel_rfl⟩
instance : Gl "Heap" (.ref 117) := ⟨fun P => by kernel_rfl⟩
instance : Gl "heap_alloc" (.ref 128) := ⟨fun P => by kernel_rfl⟩
instance : Gl "PlaceHost" (.ref 145) := ⟨fun P => by kernel_rfl⟩
instance : Gl "JP_STAY" (.int (-2)) := ⟨fun P => by kernel_rfl⟩
instance : Gl "ST_RUN" (.int (0)) := ⟨fun P => by kernel_rfl⟩
instance : Gl "ST_WRONG" (.int (3)) := ⟨fun P => by kernel_rfl⟩
instance : Gl "NT_VOID" (.int (-1)) := ⟨fun P => by kernel_rfl⟩
instance : Gl "NT_STAY" (.int (-2)) := ⟨fun P => by kernel_rfl⟩
instance : Gl "TEXT_NULL" (.str "Object reference not set to an instance of an object.") := ⟨fun P => by kernel_rfl⟩
instance : Gl "STRING" (.int (13)) := ⟨fun P => by kernel_rfl⟩
instance : Gl "Starter" (.ref 201) := ⟨fun P => by kernel_rfl⟩
instance : Gl "Sweeper" (.ref 222) := ⟨fun P => by kernel_rfl⟩
instance : Gl "KindCloser" (.ref 250) := ⟨fun P => by kernel_rfl⟩
instance : Gl "Shelf" (.ref 446) := ⟨fun P => by kernel_rfl⟩
instance : Gl "note_thrown" (.ref 455) := ⟨fun P => by kernel_rfl⟩
instance : Gl "first_slots" (.ref 483) := ⟨fun P => by kernel_rfl⟩
instance : Gl "alloc_thing" (.ref 490) := ⟨fun P => by kernel_rfl⟩
instance : Gl "text_held" (.ref 497) := ⟨fun P => by kernel_rfl⟩
instance : Gl "made_text" (.ref 504) := ⟨fun P => by kernel_rfl⟩
instance : Gl "interned_text" (.ref 511) := ⟨fun P => by kernel_rfl⟩
instance : Gl "N_CONCAT" (.int (1)) := ⟨fun P => by kernel_rfl⟩
instance : Gl "N_STR_LENGTH" (.int (2)) := ⟨fun P => by kernel_rfl⟩
instance : Gl "N_STR_CHARS" (.int (3)) := ⟨fun P => by kernel_rfl⟩
instance : Gl "N_STR_EQ" (.int (4)) := ⟨fun P => by kernel_rfl⟩
instance : Gl "N_STR_EQUALS" (.int (5)) := ⟨fun P => by kernel_rfl⟩
instance : Gl "N_STR_HASH" (.int (6)) := ⟨fun P => by kernel_rfl⟩
instance : Gl "N_SUBSTRING" (.int (7)) := ⟨fun P => by kernel_rfl⟩
instance : Gl "N_INDEXOF" (.int (8)) := ⟨fun P => by kernel_rfl⟩
instance : Gl "N_STR_COMPARE" (.int (9)) := ⟨fun P => by kernel_rfl⟩
instance : Gl "MOST_UNITS" (.int (1048576)) := ⟨fun P => by kernel_rfl⟩
instance : Gl "LONG_TEXT" (.str "Insufficient memory to continue the execution of the program.") := ⟨fun P => by kernel_rfl⟩
instance : Gl "EMPTY_RANGE" (.str "Index and length must refer to a location within the string.") := ⟨fun P => by kernel_rfl⟩
instance : Gl "bool_value" (.ref 518) := ⟨fun P => by kernel_rfl⟩
instance : Gl "thing_named" (.ref 525) := ⟨fun P => by kernel_rfl⟩
instance : Gl "text_at" (.ref 532) := ⟨fun P => by kernel_rfl⟩
instance : Gl "no_object" (.ref 539) := ⟨fun P => by kernel_rfl⟩
instance : Gl "bad_argument" (.ref 546) := ⟨fun P => by kernel_rfl⟩
instance : Gl "TextConcat" (.ref 570) := ⟨fun P => by kernel_rfl⟩
instance : Gl "TextLength" (.ref 589) := ⟨fun P => by kernel_rfl⟩
instance : Gl "TextChars" (.ref 608) := ⟨fun P => by kernel_rfl⟩
instance : Gl "TextSame" (.ref 627) := ⟨fun P => by kernel_rfl⟩
instance : Gl "TextEquals" (.ref 646) := ⟨fun P => by kernel_rfl⟩
instance : Gl "TextHash" (.ref 665) := ⟨fun P => by kernel_rfl⟩
instance : Gl "TextPart" (.ref 684) := ⟨fun P => by kernel_rfl⟩
instance : Gl "TextIndex" (.ref 703) := ⟨fun P => by kernel_rfl⟩
instance : Gl "TextCompare" (.ref 722) := ⟨fun P => by kernel_rfl⟩
instance : Gl "install_native_text" (.ref 731) := ⟨fun P => by kernel_rfl⟩
instance : Gl "BareHost" (.ref 790) := ⟨fun P => by kernel_rfl⟩
instance : Gl "T_NULLREF" (.int (21)) := ⟨fun P => by kernel_rfl⟩
instance : Gl "T_INDEX" (.int (22)) := ⟨fun P => by kernel_rfl⟩
instance : Gl "T_OOM" (.int (30)) := ⟨fun P => by kernel_rfl⟩
instance : Gl "T_ARG" (.int (31)) := ⟨fun P => by kernel_rfl⟩
instance : Gl "T_ARGRANGE" (.int (32)) := ⟨fun P => by kernel_rfl⟩
instance : Gl "_law_most" (.int (1048576)) := ⟨fun P => by kernel_rfl⟩
instance : Gl "_law_units" (.ref 795) := ⟨fun P => by kernel_rfl⟩
instance : Gl "_law_shorts" (.ref 801) := ⟨fun P => by kernel_rfl⟩
instance : Gl "_law_joins" (.ref 824) := ⟨fun P => by kernel_rfl⟩
instance : Gl "_law_looks" (.ref 831) := ⟨fun P => by kernel_rfl⟩
instance : Gl "_law_text" (.ref 838) := ⟨fun P => by kernel_rfl⟩
instance : Gl "_law_long" (.ref 843) := ⟨fun P => by kernel_rfl⟩
instance : Gl "_law_glue" (.ref 850) := ⟨fun P => by kernel_rfl⟩
instance : Gl "_law_cut" (.ref 857) := ⟨fun P => by kernel_rfl⟩
instance : Gl "_law_unit" (.ref 864) := ⟨fun P => by kernel_rfl⟩
instance : Gl "_law_order" (.ref 871) := ⟨fun P => by kernel_rfl⟩
instance : Gl "_law_seek" (.ref 878) := ⟨fun P => by kernel_rfl⟩
instance : Gl "_law_bool" (.ref 885) := ⟨fun P => by kernel_rfl⟩
instance : Gl "_law_lay" (.ref 892) := ⟨fun P => by kernel_rfl⟩
instance : Gl "_law_call" (.ref 899) := ⟨fun P => by kernel_rfl⟩
instance : Gl "_law_still" (.ref 906) := ⟨fun P => by kernel_rfl⟩
instance : Gl "_law_refused" (.ref 913) := ⟨fun P => by kernel_rfl⟩
instance : Gl "_law_holds" (.ref 920) := ⟨fun P => by kernel_rfl⟩
instance : Gl "_law_new" (.ref 927) := ⟨fun P => by kernel_rfl⟩
instance : Gl "_law_void" (.ref 934) := ⟨fun P => by kernel_rfl⟩
instance : Gl "_law_join" (.ref 941) := ⟨fun P => by kernel_rfl⟩
instance : Gl "_law_part" (.ref 948) := ⟨fun P => by kernel_rfl⟩
instance : Gl "_law_letter" (.ref 955) := ⟨fun P => by kernel_rfl⟩
instance : Gl "_law_look" (.ref 962) := ⟨fun P => by kernel_rfl⟩
instance : Gl "_law_idle" (.ref 969) := ⟨fun P => by kernel_rfl⟩
instance : Gl "_law_scene" (.ref 976) := ⟨fun P => by kernel_rfl⟩
instance : Gl "_law_step" (.ref 983) := ⟨fun P => by kernel_rfl⟩
instance : Gl "_law_border" (.ref 990) := ⟨fun P => by kernel_rfl⟩
instance : Gl "_law_fixed" (.ref 997) := ⟨fun P => by kernel_rfl⟩
instance : Gl "_law_stand" (.ref 1004) := ⟨fun P => by kernel_rfl⟩
instance : Bl "len" (.oth (.builtin "len")) := ⟨fun P => by kernel_rfl, by kernel_rfl, by kernel_rfl⟩
instance : Bl "min" (.oth (.builtin "min")) := ⟨fun P => by kernel_rfl, by kernel_rfl, by kernel_rfl⟩
instance : Bl "max" (.oth (.builtin "max")) := ⟨fun P => by kernel_rfl, by kernel_rfl, by kernel_rfl⟩
instance : Bl "sum" (.oth (.builtin "sum")) := ⟨fun P => by kernel_rfl, by kernel_rfl, by kernel_rfl⟩
instance : Bl "chr" (.oth (.builtin "chr")) := ⟨fun P => by kernel_rfl, by kernel_rfl, by kernel_rfl⟩
instance : Bl "ord" (.oth (.builtin "ord")) := ⟨fun P => by kernel_rfl, by kernel_rfl, by kernel_rfl⟩
instance : Bl "isinstance" (.oth (.builtin "isinstance")) := ⟨fun P => by kernel_rfl, by kernel_rfl, by kernel_rfl⟩
instance : Bl "int" (.oth (.type "int")) := ⟨fun P => by kernel_rfl, by kernel_rfl, by kernel_rfl⟩
instance : Bl "tuple" (.oth (.type "tuple")) := ⟨fun P => by kernel_rfl, by kernel_rfl, by kernel_rfl⟩
instance : Fn 21 := ⟨fun P => by kernel_rfl⟩
instance : Fn 29 := ⟨fun P => by kernel_rfl⟩
instance : Fn 36 := ⟨fun P => by kernel_rfl⟩
instance : Fn 43 := ⟨fun P => by kernel_rfl⟩
instance : Fn 50 := ⟨fun P => by kernel_rfl⟩
instance : Fn 58 := ⟨fun P => by kernel_rfl⟩
instance : Fn 65 := ⟨fun P => by kernel_rfl⟩
instance : Fn 72 := ⟨fun P => by kernel_rfl⟩
instance : Fn 79 := ⟨fun P => by kernel_rfl⟩
instance : Fn 93 := ⟨fun P => by kernel_rfl⟩
instance : Fn 96 := ⟨fun P => by kernel_rfl⟩
instance : Fn 114 := ⟨fun P => by kernel_rfl⟩
instance : Fn 117 := ⟨fun P => by kernel_rfl⟩
instance : Fn 128 := ⟨fun P => by kernel_rfl⟩
instance : Fn 142 := ⟨fun P => by kernel_rfl⟩
instance : Fn 145 := ⟨fun P => by kernel_rfl⟩
instance : Fn 163 := ⟨fun P => by kernel_rfl⟩
instance : Fn 166 := ⟨fun P => by kernel_rfl⟩
instance : Fn 184 := ⟨fun P => by kernel_rfl⟩
instance : Fn 191 := ⟨fun P => by kernel_rfl⟩
instance : Fn 198 := ⟨fun P => by kernel_rfl⟩
instance : Fn 201 := ⟨fun P => by kernel_rfl⟩
instance : Fn 219 := ⟨fun P => by kernel_rfl⟩
instance : Fn 222 := ⟨fun P => by kernel_rfl⟩
instance : Fn 240 := ⟨fun P => by kernel_rfl⟩
instance : Fn 247 := ⟨fun P => by kernel_rfl⟩
instance : Fn 250 := ⟨fun P => by kernel_rfl⟩
instance : Fn 268 := ⟨fun P => by kernel_rfl⟩
instance : Fn 275 := ⟨fun P => by kernel_rfl⟩
instance : Fn 282 := ⟨fun P => by kernel_rfl⟩
instance : Fn 289 := ⟨fun P => by kernel_rfl⟩
instance : Fn 296 := ⟨fun P => by kernel_rfl⟩
instance : Fn 303 := ⟨fun P => by kernel_rfl⟩
instance : Fn 310 := ⟨fun P => by kernel_rfl⟩
instance : Fn 317 := ⟨fun P => by kernel_rfl⟩
instance : Fn 324 := ⟨fun P => by kernel_rfl⟩
instance : Fn 331 := ⟨fun P => by kernel_rfl⟩
instance : Fn 338 := ⟨fun P => by kernel_rfl⟩
instance : Fn 345 := ⟨fun P => by kernel_rfl⟩
instance : Fn 352 := ⟨fun P => by kernel_rfl⟩
instance : Fn 359 := ⟨fun P => by kernel_rfl⟩
instance : Fn 366 := ⟨fun P => by kernel_rfl⟩
instance : Fn 373 := ⟨fun P => by kernel_rfl⟩
instance : Fn 376 := ⟨fun P => by kernel_rfl⟩
instance : Fn 394 := ⟨fun P => by kernel_rfl⟩
instance : Fn 401 := ⟨fun P => by kernel_rfl⟩
instance : Fn 408 := ⟨fun P => by kernel_rfl⟩
instance : Fn 415 := ⟨fun P => by kernel_rfl⟩
instance : Fn 422 := ⟨fun P => by kernel_rfl⟩
instance : Fn 429 := ⟨fun P => by kernel_rfl⟩
instance : Fn 436 := ⟨fun P => by kernel_rfl⟩
instance : Fn 443 := ⟨fun P => by kernel_rfl⟩
instance : Fn 446 := ⟨fun P => by kernel_rfl⟩
instance : Fn 455 := ⟨fun P => by kernel_rfl⟩
instance : Fn 462 := ⟨fun P => by kernel_rfl⟩
instance : Fn 469 := ⟨fun P => by kernel_rfl⟩
instance : Fn 476 := ⟨fun P => by kernel_rfl⟩
instance : Fn 483 := ⟨fun P => by kernel_rfl⟩
instance : Fn 490 := ⟨fun P => by kernel_rfl⟩
instance : Fn 497 := ⟨fun P => by kernel_rfl⟩
instance : Fn 504 := ⟨fun P => by kernel_rfl⟩
instance : Fn 511 := ⟨fun P => by kernel_rfl⟩
instance : Fn 518 := ⟨fun P => by kernel_rfl⟩
instance : Fn 525 := ⟨fun P => by kernel_rfl⟩
instance : Fn 532 := ⟨fun P => by kernel_rfl⟩
instance : Fn 539 := ⟨fun P => by kernel_rfl⟩
instance : Fn 546 := ⟨fun P => by kernel_rfl⟩
instance : Fn 553 := ⟨fun P => by kernel_rfl⟩
instance : Fn 567 := ⟨fun P => by kernel_rfl⟩
instance : Fn 570 := ⟨fun P => by kernel_rfl⟩
instance : Fn 586 := ⟨fun P => by kernel_rfl⟩
instance : Fn 589 := ⟨fun P => by kernel_rfl⟩
instance : Fn 605 := ⟨fun P => by kernel_rfl⟩
instance : Fn 608 := ⟨fun P => by kernel_rfl⟩
instance : Fn 624 := ⟨fun P => by kernel_rfl⟩
instance : Fn 627 := ⟨fun P => by kernel_rfl⟩
instance : Fn 643 := ⟨fun P => by kernel_rfl⟩
instance : Fn 646 := ⟨fun P => by kernel_rfl⟩
instance : Fn 662 := ⟨fun P => by kernel_rfl⟩
instance : Fn 665 := ⟨fun P => by kernel_rfl⟩
instance : Fn 681 := ⟨fun P => by kernel_rfl⟩
instance : Fn 684 := ⟨fun P => by kernel_rfl⟩
instance : Fn 700 := ⟨fun P => by kernel_rfl⟩
instance : Fn 703 := ⟨fun P => by kernel_rfl⟩
instance : Fn 719 := ⟨fun P => by kernel_rfl⟩
instance : Fn 722 := ⟨fun P => by kernel_rfl⟩
instance : Fn 731 := ⟨fun P => by kernel_rfl⟩
instance : Fn 745 := ⟨fun P => by kernel_rfl⟩
instance : Fn 752 := ⟨fun P => by kernel_rfl⟩
instance : Fn 759 := ⟨fun P => by kernel_rfl⟩
instance : Fn 766 := ⟨fun P => by kernel_rfl⟩
instance : Fn 773 := ⟨fun P => by kernel_rfl⟩
instance : Fn 780 := ⟨fun P => by kernel_rfl⟩
instance : Fn 787 := ⟨fun P => by kernel_rfl⟩
instance : Fn 790 := ⟨fun P => by kernel_rfl⟩
instance : Fn 838 := ⟨fun P => by kernel_rfl⟩
instance : Fn 843 := ⟨fun P => by kernel_rfl⟩
instance : Fn 850 := ⟨fun P => by kernel_rfl⟩
instance : Fn 857 := ⟨fun P => by kernel_rfl⟩
instance : Fn 864 := ⟨fun P => by kernel_rfl⟩
instance : Fn 871 := ⟨fun P => by kernel_rfl⟩
instance : Fn 878 := ⟨fun P => by kernel_rfl⟩
instance : Fn 885 := ⟨fun P => by kernel_rfl⟩
instance : Fn 892 := ⟨fun P => by kernel_rfl⟩
instance : Fn 899 := ⟨fun P => by kernel_rfl⟩
instance : Fn 906 := ⟨fun P => by kernel_rfl⟩
instance : Fn 913 := ⟨fun P => by kernel_rfl⟩
instance : Fn 920 := ⟨fun P => by kernel_rfl⟩
instance : Fn 927 := ⟨fun P => by kernel_rfl⟩
instance : Fn 934 := ⟨fun P => by kernel_rfl⟩
instance : Fn 941 := ⟨fun P => by kernel_rfl⟩
instance : Fn 948 := ⟨fun P => by kernel_rfl⟩
instance : Fn 955 := ⟨fun P => by kernel_rfl⟩
instance : Fn 962 := ⟨fun P => by kernel_rfl⟩
instance : Fn 969 := ⟨fun P => by kernel_rfl⟩
instance : Fn 976 := ⟨fun P => by kernel_rfl⟩
instance : Fn 983 := ⟨fun P => by kernel_rfl⟩
instance : Fn 990 := ⟨fun P => by kernel_rfl⟩
instance : Fn 997 := ⟨fun P => by kernel_rfl⟩
instance : Fn 1004 := ⟨fun P => by kernel_rfl⟩
instance : Fn 1009 := ⟨fun P => by kernel_rfl⟩
instance : Tp 51 [V.int (4), V.int (0)] := ⟨fun P => by kernel_rfl⟩
instance : Tp 795 [V.int (98), V.int (0), V.int (65), V.int (65535)] := ⟨fun P => by kernel_rfl⟩
instance : Tp 796 [V.int (97), V.int (0)] := ⟨fun P => by kernel_rfl⟩
instance : Tp 797 [V.int (97), V.int (1)] := ⟨fun P => by kernel_rfl⟩
instance : Tp 798 [V.int (65535), V.int (1)] := ⟨fun P => by kernel_rfl⟩
instance : Tp 799 [V.int (0), V.int (2)] := ⟨fun P => by kernel_rfl⟩
instance : Tp 800 [V.int (55357), V.int (3)] := ⟨fun P => by kernel_rfl⟩
instance : Tp 801 [V.ref 796, V.ref 797, V.ref 798, V.ref 799, V.ref 800] := ⟨fun P => by kernel_rfl⟩
instance : Tp 802 [V.int (0), V.int (0)] := ⟨fun P => by kernel_rfl⟩
instance : Tp 803 [V.int (6), V.int (2)] := ⟨fun P => by kernel_rfl⟩
instance : Tp 804 [V.int (6), V.int (4)] := ⟨fun P => by kernel_rfl⟩
instance : Tp 805 [V.int (4), V.int (6)] := ⟨fun P => by kernel_rfl⟩
instance : Tp 806 [V.int (8), V.int (2)] := ⟨fun P => by kernel_rfl⟩
instance : Tp 807 [V.int (2), V.int (8)] := ⟨fun P => by kernel_rfl⟩
instance : Tp 808 [V.int (6), V.int (6)] := ⟨fun P => by kernel_rfl⟩
instance : Tp 809 [V.int (8), V.int (8)] := ⟨fun P => by kernel_rfl⟩
instance : Tp 810 [V.int (8), V.int (6)] := ⟨fun P => by kernel_rfl⟩
instance : Tp 811 [V.int (6), V.int (8)] := ⟨fun P => by kernel_rfl⟩
instance : Tp 812 [V.int (8), V.int (0)] := ⟨fun P => by kernel_rfl⟩
instance : Tp 813 [V.int (0), V.int (8)] := ⟨fun P => by kernel_rfl⟩
instance : Tp 814 [V.int (8), V.int (1)] := ⟨fun P => by kernel_rfl⟩
instance : Tp 815 [V.int (1), V.int (8)] := ⟨fun P => by kernel_rfl⟩
instance : Tp 816 [V.int (8), V.int (7)] := ⟨fun P => by kernel_rfl⟩
instance : Tp 817 [V.int (7), V.int (8)] := ⟨fun P => by kernel_rfl⟩
instance : Tp 818 [V.int (6), V.int (1)] := ⟨fun P => by kernel_rfl⟩
instance : Tp 819 [V.int (0), V.int (6)] := ⟨fun P => by kernel_rfl⟩
instance : Tp 820 [V.int (6), V.int (5)] := ⟨fun P => by kernel_rfl⟩
instance : Tp 821 [V.int (2), V.int (4)] := ⟨fun P => by kernel_rfl⟩
instance : Tp 822 [V.int (1), V.int (7)] := ⟨fun P => by kernel_rfl⟩
instance : Tp 823 [V.int (5), V.int (3)] := ⟨fun P => by kernel_rfl⟩
instance : Tp 824 [V.ref 802, V.ref 803, V.ref 804, V.ref 805, V.ref 806, V.ref 807, V.ref 808, V.ref 809, V.ref 810, V.ref 811, V.ref 812, V.ref 813, V.ref 814, V.ref 815, V.ref 816, V.ref 817, V.ref 818, V.ref 819, V.ref 820, V.ref 821, V.ref 822, V.ref 823] := ⟨fun P => by kernel_rfl⟩
instance : Tp 825 [V.int (8), V.int (6), V.int (1)] := ⟨fun P => by kernel_rfl⟩
instance : Tp 826 [V.int (6), V.int (8), V.int (0)] := ⟨fun P => by kernel_rfl⟩
instance : Tp 827 [V.int (8), V.int (0), V.int (10)] := ⟨fun P => by kernel_rfl⟩
instance : Tp 828 [V.int (9), V.int (8), V.int (3)] := ⟨fun P => by kernel_rfl⟩
instance : Tp 829 [V.int (1), V.int (7), V.int (9)] := ⟨fun P => by kernel_rfl⟩
instance : Tp 830 [V.int (6), V.int (4), V.int (4)] := ⟨fun P => by kernel_rfl⟩
instance : Tp 831 [V.ref 825, V.ref 826, V.ref 827, V.ref 828, V.ref 829, V.ref 830] := ⟨fun P => by kernel_rfl⟩
instance : Mk 96 93 := ⟨fun P => ⟨by kernel_rfl, by kernel_rfl, by kernel_rfl⟩⟩
instance : Mk 117 114 := ⟨fun P => ⟨by kernel_rfl, by kernel_rfl, by kernel_rfl⟩⟩
instance : Mk 145 142 := ⟨fun P => ⟨by kernel_rfl, by kernel_rfl, by kernel_rfl⟩⟩
instance : Mk 446 394 := ⟨fun P => ⟨by kernel_rfl, by kernel_rfl, by kernel_rfl⟩⟩
instance : Mk 790 745 := ⟨fun P => ⟨by kernel_rfl, by kernel_rfl, by kernel_rfl⟩⟩
instance : Mk0 201 := ⟨fun P => ⟨by kernel_rfl, by kernel_rfl⟩⟩
instance : Mk0 222 := ⟨fun P => ⟨by kernel_rfl, by kernel_rfl⟩⟩
instance : Mk0 250 := ⟨fun P => ⟨by kernel_rfl, by kernel_rfl⟩⟩
instance : Mk0 570 := ⟨fun P => ⟨by kernel_rfl, by kernel_rfl⟩⟩
instance : Mk0 589 := ⟨fun P => ⟨by kernel_rfl, by kernel_rfl⟩⟩
instance : Mk0 608 := ⟨fun P => ⟨by kernel_rfl, by kernel_rfl⟩⟩
instance : Mk0 627 := ⟨fun P => ⟨by kernel_rfl, by kernel_rfl⟩⟩
instance : Mk0 646 := ⟨fun P => ⟨by kernel_rfl, by kernel_rfl⟩⟩
instance : Mk0 665 := ⟨fun P => ⟨by kernel_rfl, by kernel_rfl⟩⟩
instance : Mk0 684 := ⟨fun P => ⟨by kernel_rfl, by kernel_rfl⟩⟩
instance : Mk0 703 := ⟨fun P => ⟨by kernel_rfl, by kernel_rfl⟩⟩
instance : Mk0 722 := ⟨fun P => ⟨by kernel_rfl, by kernel_rfl⟩⟩
instance : Mt 446 "alloc" 415 := ⟨fun P => ⟨by kernel_rfl, by kernel_rfl, by kernel_rfl⟩⟩
instance : Mt 446 "throw_new" 366 := ⟨fun P => ⟨by kernel_rfl, by kernel_rfl, by kernel_rfl⟩⟩
instance : Mt 446 "text_of" 429 := ⟨fun P => ⟨by kernel_rfl, by kernel_rfl, by kernel_rfl⟩⟩
instance : Mt 446 "text_ref" 436 := ⟨fun P => ⟨by kernel_rfl, by kernel_rfl, by kernel_rfl⟩⟩
instance : Mt 446 "new_text" 443 := ⟨fun P => ⟨by kernel_rfl, by kernel_rfl, by kernel_rfl⟩⟩
instance : Mt 222 "before" 219 := ⟨fun P => ⟨by kernel_rfl, by kernel_rfl, by kernel_rfl⟩⟩
instance : Mt 570 "call" 567 := ⟨fun P => ⟨by kernel_rfl, by kernel_rfl, by kernel_rfl⟩⟩
instance : Mt 589 "call" 586 := ⟨fun P => ⟨by kernel_rfl, by kernel_rfl, by kernel_rfl⟩⟩
instance : Mt 608 "call" 605 := ⟨fun P => ⟨by kernel_rfl, by kernel_rfl, by kernel_rfl⟩⟩
instance : Mt 627 "call" 624 := ⟨fun P => ⟨by kernel_rfl, by kernel_rfl, by kernel_rfl⟩⟩
instance : Mt 646 "call" 643 := ⟨fun P => ⟨by kernel_rfl, by kernel_rfl, by kernel_rfl⟩⟩
instance : Mt 684 "call" 681 := ⟨fun P => ⟨by kernel_rfl, by kernel_rfl, by kernel_rfl⟩⟩
instance : Mt 703 "call" 700 := ⟨fun P => ⟨by kernel_rfl, by kernel_rfl, by kernel_rfl⟩⟩
instance : Mt 722 "call" 719 := ⟨fun P => ⟨by kernel_rfl, by kernel_rfl, by kernel_rfl⟩⟩
instance : Sa 96 "addr" := ⟨fun P => ⟨by kernel_rfl, by kernel_rfl, by kernel_rfl, by kernel_rfl⟩⟩
instance : Sa 96 "kind" := ⟨fun P => ⟨by kernel_rfl, by kernel_rfl, by kernel_rfl, by kernel_rfl⟩⟩
instance : Sa 96 "slots" := ⟨fun P => ⟨by kernel_rfl, by kernel_rfl, by kernel_rfl, by kernel_rfl⟩⟩
instance : Sa 96 "gen" := ⟨fun P => ⟨by kernel_rfl, by kernel_rfl, by kernel_rfl, by kernel_rfl⟩⟩
instance : Sa 96 "size" := ⟨fun P => ⟨by kernel_rfl, by kernel_rfl, by kernel_rfl, by kernel_rfl⟩⟩
instance : Sa 96 "serial" := ⟨fun P => ⟨by kernel_rfl, by kernel_rfl, by kernel_rfl, by kernel_rfl⟩⟩
instance : Sa 117 "things" := ⟨fun P => ⟨by kernel_rfl, by kernel_rfl, by kernel_rfl, by kernel_rfl⟩⟩
instance : Sa 117 "at" := ⟨fun P => ⟨by kernel_rfl, by kernel_rfl, by kernel_rfl, by kernel_rfl⟩⟩
instance : Sa 117 "top" := ⟨fun P => ⟨by kernel_rfl, by kernel_rfl, by kernel_rfl, by kernel_rfl⟩⟩
instance : Sa 117 "limit" := ⟨fun P => ⟨by kernel_rfl, by kernel_rfl, by kernel_rfl, by kernel_rfl⟩⟩
instance : Sa 117 "cards" := ⟨fun P => ⟨by kernel_rfl, by kernel_rfl, by kernel_rfl, by kernel_rfl⟩⟩
instance : Sa 117 "card_bits" := ⟨fun P => ⟨by kernel_rfl, by kernel_rfl, by kernel_rfl, by kernel_rfl⟩⟩
instance : Sa 117 "fresh" := ⟨fun P => ⟨by kernel_rfl, by kernel_rfl, by kernel_rfl, by kernel_rfl⟩⟩
instance : Sa 117 "young_limit" := ⟨fun P => ⟨by kernel_rfl, by kernel_rfl, by kernel_rfl, by kernel_rfl⟩⟩
instance : Sa 117 "finals" := ⟨fun P => ⟨by kernel_rfl, by kernel_rfl, by kernel_rfl, by kernel_rfl⟩⟩
instance : Sa 117 "ready" := ⟨fun P => ⟨by kernel_rfl, by kernel_rfl, by kernel_rfl, by kernel_rfl⟩⟩
instance : Sa 117 "moved" := ⟨fun P => ⟨by kernel_rfl, by kernel_rfl, by kernel_rfl, by kernel_rfl⟩⟩
instance : Sa 117 "made" := ⟨fun P => ⟨by kernel_rfl, by kernel_rfl, by kernel_rfl, by kernel_rfl⟩⟩
instance : Sa 145 "heap" := ⟨fun P => ⟨by kernel_rfl, by kernel_rfl, by kernel_rfl, by kernel_rfl⟩⟩
instance : Sa 145 "frames" := ⟨fun P => ⟨by kernel_rfl, by kernel_rfl, by kernel_rfl, by kernel_rfl⟩⟩
instance : Sa 145 "statics" := ⟨fun P => ⟨by kernel_rfl, by kernel_rfl, by kernel_rfl, by kernel_rfl⟩⟩
instance : Sa 446 "store" := ⟨fun P => ⟨by kernel_rfl, by kernel_rfl, by kernel_rfl, by kernel_rfl⟩⟩
instance : Sa 446 "kt" := ⟨fun P => ⟨by kernel_rfl, by kernel_rfl, by kernel_rfl, by kernel_rfl⟩⟩
instance : Sa 446 "heap" := ⟨fun P => ⟨by kernel_rfl, by kernel_rfl, by kernel_rfl, by kernel_rfl⟩⟩
instance : Sa 446 "kin" := ⟨fun P => ⟨by kernel_rfl, by kernel_rfl, by kernel_rfl, by kernel_rfl⟩⟩
instance : Sa 446 "rows" := ⟨fun P => ⟨by kernel_rfl, by kernel_rfl, by kernel_rfl, by kernel_rfl⟩⟩
instance : Sa 446 "targets" := ⟨fun P => ⟨by kernel_rfl, by kernel_rfl, by kernel_rfl, by kernel_rfl⟩⟩
instance : Sa 446 "defaults" := ⟨fun P => ⟨by kernel_rfl, by kernel_rfl, by kernel_rfl, by kernel_rfl⟩⟩
instance : Sa 446 "unders" := ⟨fun P => ⟨by kernel_rfl, by kernel_rfl, by kernel_rfl, by kernel_rfl⟩⟩
instance : Sa 446 "finals" := ⟨fun P => ⟨by kernel_rfl, by kernel_rfl, by kernel_rfl, by kernel_rfl⟩⟩
instance : Sa 446 "frames" := ⟨fun P => ⟨by kernel_rfl, by kernel_rfl, by kernel_rfl, by kernel_rfl⟩⟩
instance : Sa 446 "by_number" := ⟨fun P => ⟨by kernel_rfl, by kernel_rfl, by kernel_rfl, by kernel_rfl⟩⟩
instance : Sa 446 "statics" := ⟨fun P => ⟨by kernel_rfl, by kernel_rfl, by kernel_rfl, by kernel_rfl⟩⟩
instance : Sa 446 "inits" := ⟨fun P => ⟨by kernel_rfl, by kernel_rfl, by kernel_rfl, by kernel_rfl⟩⟩
instance : Sa 446 "fails" := ⟨fun P => ⟨by kernel_rfl, by kernel_rfl, by kernel_rfl, by kernel_rfl⟩⟩
instance : Sa 446 "ops" := ⟨fun P => ⟨by kernel_rfl, by kernel_rfl, by kernel_rfl, by kernel_rfl⟩⟩
instance : Sa 446 "natives" := ⟨fun P => ⟨by kernel_rfl, by kernel_rfl, by kernel_rfl, by kernel_rfl⟩⟩
instance : Sa 446 "state" := ⟨fun P => ⟨by kernel_rfl, by kernel_rfl, by kernel_rfl, by kernel_rfl⟩⟩
instance : Sa 446 "told" := ⟨fun P => ⟨by kernel_rfl, by kernel_rfl, by kernel_rfl, by kernel_rfl⟩⟩
instance : Sa 446 "thrown" := ⟨fun P => ⟨by kernel_rfl, by kernel_rfl, by kernel_rfl, by kernel_rfl⟩⟩
instance : Sa 446 "calls" := ⟨fun P => ⟨by kernel_rfl, by kernel_rfl, by kernel_rfl, by kernel_rfl⟩⟩
instance : Sa 446 "pushed" := ⟨fun P => ⟨by kernel_rfl, by kernel_rfl, by kernel_rfl, by kernel_rfl⟩⟩
instance : Sa 446 "chases" := ⟨fun P => ⟨by kernel_rfl, by kernel_rfl, by kernel_rfl, by kernel_rfl⟩⟩
instance : Sa 446 "interned" := ⟨fun P => ⟨by kernel_rfl, by kernel_rfl, by kernel_rfl, by kernel_rfl⟩⟩
instance : Sa 446 "internv" := ⟨fun P => ⟨by kernel_rfl, by kernel_rfl, by kernel_rfl, by kernel_rfl⟩⟩
instance : Sa 446 "held" := ⟨fun P => ⟨by kernel_rfl, by kernel_rfl, by kernel_rfl, by kernel_rfl⟩⟩
instance : Sa 446 "result" := ⟨fun P => ⟨by kernel_rfl, by kernel_rfl, by kernel_rfl, by kernel_rfl⟩⟩
instance : Sa 446 "last" := ⟨fun P => ⟨by kernel_rfl, by kernel_rfl, by kernel_rfl, by kernel_rfl⟩⟩
instance : Sa 446 "unhandled" := ⟨fun P => ⟨by kernel_rfl, by kernel_rfl, by kernel_rfl, by kernel_rfl⟩⟩
instance : Sa 446 "handles" := ⟨fun P => ⟨by kernel_rfl, by kernel_rfl, by kernel_rfl, by kernel_rfl⟩⟩
instance : Sa 446 "places" := ⟨fun P => ⟨by kernel_rfl, by kernel_rfl, by kernel_rfl, by kernel_rfl⟩⟩
instance : Sa 446 "starter" := ⟨fun P => ⟨by kernel_rfl, by kernel_rfl, by kernel_rfl, by kernel_rfl⟩⟩
instance : Sa 446 "closer" := ⟨fun P => ⟨by kernel_rfl, by kernel_rfl, by kernel_rfl, by kernel_rfl⟩⟩
instance : Sa 446 "sweeper" := ⟨fun P => ⟨by kernel_rfl, by kernel_rfl, by kernel_rfl, by kernel_rfl⟩⟩
instance : Sa 790 "kt" := ⟨fun P => ⟨by kernel_rfl, by kernel_rfl, by kernel_rfl, by kernel_rfl⟩⟩
instance : Sa 790 "bases" := ⟨fun P => ⟨by kernel_rfl, by kernel_rfl, by kernel_rfl, by kernel_rfl⟩⟩
instance : Sa 790 "ifaces" := ⟨fun P => ⟨by kernel_rfl, by kernel_rfl, by kernel_rfl, by kernel_rfl⟩⟩
instance : Sa 790 "sorts" := ⟨fun P => ⟨by kernel_rfl, by kernel_rfl, by kernel_rfl, by kernel_rfl⟩⟩
instance : Sa 790 "variances" := ⟨fun P => ⟨by kernel_rfl, by kernel_rfl, by kernel_rfl, by kernel_rfl⟩⟩
instance : Sa 790 "unders" := ⟨fun P => ⟨by kernel_rfl, by kernel_rfl, by kernel_rfl, by kernel_rfl⟩⟩
instance : Sa 790 "bounds" := ⟨fun P => ⟨by kernel_rfl, by kernel_rfl, by kernel_rfl, by kernel_rfl⟩⟩
instance : Sa 790 "gflags" := ⟨fun P => ⟨by kernel_rfl, by kernel_rfl, by kernel_rfl, by kernel_rfl⟩⟩
instance : Sa 790 "news" := ⟨fun P => ⟨by kernel_rfl, by kernel_rfl, by kernel_rfl, by kernel_rfl⟩⟩
instance : Ga 96 "addr" := ⟨fun P => ⟨by kernel_rfl, by kernel_rfl, by kernel_rfl, by kernel_rfl⟩⟩
instance : Ga 96 "kind" := ⟨fun P => ⟨by kernel_rfl, by kernel_rfl, by kernel_rfl, by kernel_rfl⟩⟩
instance : Ga 96 "slots" := ⟨fun P => ⟨by kernel_rfl, by kernel_rfl, by kernel_rfl, by kernel_rfl⟩⟩
instance : Ga 96 "size" := ⟨fun P => ⟨by kernel_rfl, by kernel_rfl, by kernel_rfl, by kernel_rfl⟩⟩
instance : Ga 117 "things" := ⟨fun P => ⟨by kernel_rfl, by kernel_rfl, by kernel_rfl, by kernel_rfl⟩⟩
instance : Ga 117 "at" := ⟨fun P => ⟨by kernel_rfl, by kernel_rfl, by kernel_rfl, by kernel_rfl⟩⟩
instance : Ga 117 "top" := ⟨fun P => ⟨by kernel_rfl, by kernel_rfl, by kernel_rfl, by kernel_rfl⟩⟩
instance : Ga 117 "fresh" := ⟨fun P => ⟨by kernel_rfl, by kernel_rfl, by kernel_rfl, by kernel_rfl⟩⟩
instance : Ga 117 "made" := ⟨fun P => ⟨by kernel_rfl, by kernel_rfl, by kernel_rfl, by kernel_rfl⟩⟩
instance : Ga 446 "heap" := ⟨fun P => ⟨by kernel_rfl, by kernel_rfl, by kernel_rfl, by kernel_rfl⟩⟩
instance : Ga 446 "sweeper" := ⟨fun P => ⟨by kernel_rfl, by kernel_rfl, by kernel_rfl, by kernel_rfl⟩⟩
instance : Ga 446 "state" := ⟨fun P => ⟨by kernel_rfl, by kernel_rfl, by kernel_rfl, by kernel_rfl⟩⟩
instance : Ga 446 "thrown" := ⟨fun P => ⟨by kernel_rfl, by kernel_rfl, by kernel_rfl, by kernel_rfl⟩⟩
instance : Ga 446 "told" := ⟨fun P => ⟨by kernel_rfl, by kernel_rfl, by kernel_rfl, by kernel_rfl⟩⟩
instance : Ga 446 "interned" := ⟨fun P => ⟨by kernel_rfl, by kernel_rfl, by kernel_rfl, by kernel_rfl⟩⟩
instance : Ga 446 "internv" := ⟨fun P => ⟨by kernel_rfl, by kernel_rfl, by kernel_rfl, by kernel_rfl⟩⟩
instance : Ga 446 "natives" := ⟨fun P => ⟨by kernel_rfl, by kernel_rfl, by kernel_rfl, by kernel_rfl⟩⟩
instance : Ga 790 "kt" := ⟨fun P => ⟨by kernel_rfl, by kernel_rfl, by kernel_rfl, by kernel_rfl⟩⟩


theorem le1 {n m : Nat} (h : Nat.ble n m = true) : n ≤ m := Nat.le_of_ble_eq_true h
theorem lk_here {x : Str} {v : V} {m : Lc} : ((x, v) :: m).lookup x = some v := by rw [List.lookup_cons, beq_self_eq_true]
theorem lk_next {x y : Str} {u v : V} {m : Lc} (h : (x == y) = false) (k : m.lookup x = some v) : ((y, u) :: m).lookup x = some v := by rw [List.lookup_cons, h]; exact k
theorem lkn_nil {x : Str} : ([] : Lc).lookup x = none := rfl
theorem lkn_next {x y : Str} {u : V} {m : Lc} (h : (x == y) = false) (k : m.lookup x = none) : ((y, u) :: m).lookup x = none := by rw [List.lookup_cons, h]; exact k

section
variable {c : Cx} {m : Lc} {σ : MH}
theorem wE_gl {x : Str} {pos : Pos} {v : V} {Q : V → MH → Prop} [g : Gl x v] (h : Q v σ)
    (hk : c.sc.kind = .function := by rfl) (hl : (envOf c.q c.sc c.L c.a c.cd).kindOf x = some .globalImplicit := by rfl) (hd : (x == ("__debug__" : Str)) = false := by decide) : wE c (.Name x pos) m σ Q := by
  have e := g.out c.Γ.w.params
  cases e1 : nsIn (HP c.Γ.w.params) mainGlobals x with
  | none => rw [e1] at e; cases e
  | some o => cases o with
    | none => rw [e1] at e; cases e
    | some rv =>
      rw [e1] at e
      simp only [Option.map_some, Option.some.injEq] at e
      subst e
      exact wE_global (v := rv) e1 h hk hl hd
theorem wE_bl {x : Str} {pos : Pos} {v : V} {Q : V → MH → Prop} [g : Bl x v] (h : Q v σ)
    (hk : c.sc.kind = .function := by rfl) (hl : (envOf c.q c.sc c.L c.a c.cd).kindOf x = some .globalImplicit := by rfl) (hd : (x == ("__debug__" : Str)) = false := by decide) : wE c (.Name x pos) m σ Q := by
  obtain ⟨e1, e2, e3⟩ := g.out
  cases e4 : bootBuiltins x with
  | none => rw [e4] at e2; cases e2
  | some rv =>
    rw [e4] at e2
    simp only [Option.map_some, Option.some.injEq] at e2
    subst e2
    exact wE_builtin (v := rv) (e1 c.Γ.w.params) e4 (by simpa using e3) h hk hl hd
theorem cal_fn {f : Addr} [g : Fn f] : CalleeOk c.Γ.K (.ref f) := g.out c.Γ.w.params
theorem cal_bl {i : String} : CalleeOk c.Γ.K (.oth (.builtin i)) := trivial
theorem cal_ty {i : String} : CalleeOk c.Γ.K (.oth (.type i)) := trivial
theorem wC_mk {n : Nat} {C fI : Addr} {vs : List V} {Q : V → MH → Prop} [g : Mk C fI] (hr : Room (n + 1) c.A)
    (h : ∀ x dx, σ dx = none → σ x = none → x ≠ dx → CallOk c.Γ n fI (.ref x :: vs) ((σ.set dx (.ns [])).set x (.ins C dx)) fun v σ' => v = .none ∧ Q (.ref x) σ') : wC c (.ref C) vs m σ Q :=
  wC_make hr (g.out c.Γ.w.params).1 (g.out c.Γ.w.params).2.1 (g.out c.Γ.w.params).2.2 h
theorem wC_mk0 {C : Addr} {Q : V → MH → Prop} [g : Mk0 C] (h : ∀ x dx, σ dx = none → σ x = none → x ≠ dx → Q (.ref x) ((σ.set dx (.ns [])).set x (.ins C dx))) : wC c (.ref C) [] m σ Q :=
  wC_make0 (g.out c.Γ.w.params).1 (g.out c.Γ.w.params).2 h
theorem wM_mt {name : Str} {x C dx f : Addr} {fs : List (Str × V)} {Q : V → List V → MH → Prop} [g : Mt C name f] (h1 : Rd c.Γ σ x (.ins C dx)) (h2 : Rd c.Γ σ dx (.ns fs)) (hl : fs.lookup name = .none) (h : Q (.ref f) [.ref x] σ) : wM c name (.ref x) m σ Q :=
  wM_inst h1 h2 hl (g.out c.Γ.w.params).1 (g.out c.Γ.w.params).2.1 (g.out c.Γ.w.params).2.2 h
theorem wA_ga {name : Str} {x C dx : Addr} {fs : List (Str × V)} {u : V} {Q : V → MH → Prop} (h1 : Rd c.Γ σ x (.ins C dx)) [g : Ga C name] (h2 : Rd c.Γ σ dx (.ns fs)) (hl : fs.lookup name = some u) (hb : nb u = true) (h : Q u σ) : wA c name (.ref x) m σ Q :=
  wA_own h1 h2 hl (g.out c.Γ.w.params).1 (g.out c.Γ.w.params).2.1 (g.out c.Γ.w.params).2.2.1 (g.out c.Γ.w.params).2.2.2 hb h
theorem wSA_sa {name : Str} {x C dx : Addr} {fs : List (Str × V)} {u : V} {Q : MH → Prop} (h1 : Rd c.Γ σ x (.ins C dx)) [g : Sa C name] (h2 : σ dx = some (.ns fs)) (hz : fs.length < 1000) (h : Q (σ.set dx (.ns (setF name u fs)))) : wSA c (.ref x) name u m σ Q :=
  wSA_own h1 h2 (g.out c.Γ.w.params).1 (g.out c.Γ.w.params).2.1 (g.out c.Γ.w.params).2.2.1 (g.out c.Γ.w.params).2.2.2 hz h
end
theorem tp_of {Γ : Gd} {σ : MH} {a : Addr} {vs : List V} [g : Tp a vs] : Rd Γ σ a (.tup vs) := by
  have e := g.out Γ.w.params
  cases e1 : (HP Γ.w.params).lookup a with
  | none => rw [e1] at e; cases e
  | some o =>
    rw [e1] at e
    refine .inr ⟨o, Γ.X _ _ e1, ?_⟩
    simp only [Option.bind_some] at e
    unfold tupOf at e
    split at e
    · rename_i hc
      obtain ⟨cls, d, dt, sl⟩ := o
      cases dt with
      | seq xs n => simp only [Option.some.injEq] at e; exact ⟨by simpa using hc, xs, n, rfl, e⟩
      | _ => simp at e
    · cases e

theorem fn_enter {Γ : Gd} {n : Nat} {f : Addr} {vs : List V} {σ : MH} {Q : V → MH → Prop} {name qual : Str} {params : Arguments} {body : List Stmt} {scope : Scope} {dV kV doc pm cdv ct oc : Value} {an od : Option Addr} {osl : Array (Option Value)}
    (ho : (Mine.hd.heap_39 Γ.w.params).lookup f = some ⟨oc, od, .func (fnOf name qual params body scope dV kV doc pm an cdv ct), osl⟩)
    (hcd : codeIn (Mine.hd.heap_39 Γ.w.params) cdv qual = true)
    (hlen : vs.length = (params.args.map (·.arg)).length)
    (hbind : ∀ args : List Value, args.length = vs.length → bindArgs (fnOf name qual params body scope dV kV doc pm an cdv ct) ⟨args, []⟩ = pure ((params.args.map (·.arg)).zip args))
    (hloc : ((params.args.map (·.arg)).all fun x => scope.names.lookup x == some .local) = true)
    (hcell : (scope.names.all fun x => x.2 != .cell) = true) (hco : scope.isCoroutine = false) (hgen : scope.isGenerator = false) (hk : scope.kind = .function)
    (m₀ : Lc) (hm : ((params.args.map (·.arg)).zip vs).reverse = m₀)
    (h : ∀ A g L, Room n A → wS ⟨Γ, [], A, g, qual, scope, L, f, cdv⟩ body m₀ σ (retQ Q)) : CallOk Γ (n + 1) f vs σ Q :=
  callOk_def ho hcd hlen hbind hloc (fun A g L hr => by rw [hm]; exact h A g L hr) hcell hco hgen hk
theorem args0 {P : List Value → Prop} (h : P []) (args : List Value) (e : args.length = 0) : P args := by
  cases args with
  | nil => exact h
  | cons a t => exact absurd e (Nat.succ_ne_zero _)
theorem argsS {n : Nat} {P : List Value → Prop} (h : ∀ a, ∀ args : List Value, args.length = n → P (a :: args)) (args : List Value) (e : args.length = n + 1) : P args := by
  cases args with
  | nil => exact absurd e.symm (Nat.succ_ne_zero _)
  | cons a t => exact h a t (Nat.succ.inj e)
theorem args1 {P : List Value → Prop} (h : ∀ a, P [a]) : ∀ args : List Value, args.length = 1 → P args := argsS fun a => args0 (P := fun l => P (a :: l)) (h a)
theorem args2 {P : List Value → Prop} (h : ∀ a b, P [a, b]) : ∀ args : List Value, args.length = 2 → P args := argsS fun a => args1 (P := fun l => P (a :: l)) (h a)
theorem args3 {P : List Value → Prop} (h : ∀ a b d, P [a, b, d]) : ∀ args : List Value, args.length = 3 → P args := argsS fun a => args2 (P := fun l => P (a :: l)) (h a)
theorem args4 {P : List Value → Prop} (h : ∀ a b d e, P [a, b, d, e]) : ∀ args : List Value, args.length = 4 → P args := argsS fun a => args3 (P := fun l => P (a :: l)) (h a)
theorem args5 {P : List Value → Prop} (h : ∀ a b d e f, P [a, b, d, e, f]) : ∀ args : List Value, args.length = 5 → P args := argsS fun a => args4 (P := fun l => P (a :: l)) (h a)
theorem ite_t {p : Prop} [Decidable p] {α β : Prop} (h : p) (k : α) : (if p then α else β) := by rw [if_pos h]; exact k
theorem ite_f {p : Prop} [Decidable p] {α β : Prop} (h : ¬ p) (k : β) : (if p then α else β) := by rw [if_neg h]; exact k
theorem ite_T {b : Bool} {α β : Prop} (h : b = true) (k : α) : (if b = true then α else β) := by rw [if_pos h]; exact k
theorem ite_F {b : Bool} {α β : Prop} (h : b = false) (k : β) : (if b = true then α else β) := by rw [if_neg (by simp [h])]; exact k
theorem ite_p {p : Prop} [Decidable p] {α β : Prop} (h : p → α) (k : ¬ p → β) : (if decide p = true then α else β) := by
  by_cases hp : p
  · exact ite_t (by simpa using hp) (h hp)
  · exact ite_f (by simpa using hp) (k hp)

theorem nic {a b : Addr} {l : List Addr} (h : a ≠ b) (k : a ∉ l) : a ∉ b :: l := List.not_mem_cons_of_ne_of_not_mem h k
theorem ndc {a : Addr} {l : List Addr} (h : a ∉ l) (k : l.Nodup) : (a :: l).Nodup := List.nodup_cons.mpr ⟨h, k⟩
theorem nin8 {a b1 b2 b3 b4 b5 b6 b7 b8 : Addr} (h1 : a ≠ b1) (h2 : a ≠ b2) (h3 : a ≠ b3) (h4 : a ≠ b4) (h5 : a ≠ b5) (h6 : a ≠ b6) (h7 : a ≠ b7) (h8 : a ≠ b8) : a ∉ [b1, b2, b3, b4, b5, b6, b7, b8] := by simp [h1, h2, h3, h4, h5, h6, h7, h8]
theorem nd_ne : ∀ {l : List Addr} {a b : Addr}, l.Nodup → ∀ i j : Nat, l[i]? = some a → l[j]? = some b → (i == j) = false → a ≠ b
  | [], _, _, _, i, _, h, _, _ => by simp at h
  | x :: l, a, b, nd, i, j, ha, hb, hij => by
    rw [List.nodup_cons] at nd
    cases i with
    | zero =>
      cases j with
      | zero => simp at hij
      | succ j =>
        simp at ha hb
        subst ha
        exact fun e => nd.1 (e ▸ List.mem_of_getElem? hb)
    | succ i =>
      cases j with
      | zero =>
        simp at ha hb
        subst hb
        exact fun e => nd.1 (e ▸ List.mem_of_getElem? ha)
      | succ j =>
        simp at ha hb
        exact nd_ne nd.2 i j ha hb (by simpa using hij)

/-! what persists -/
def Le (S : List Addr) (σ σ' : MH) : Prop := ∀ a o, a ∉ S → σ a = some o → σ' a = some o
theorem Le.refl {S : List Addr} {σ : MH} : Le S σ σ := fun _ _ _ h => h
theorem Le.trans {S : List Addr} {σ σ' σ'' : MH} (h : Le S σ σ') (k : Le S σ' σ'') : Le S σ σ'' := fun a o n e => k a o n (h a o n e)
theorem Le.new {S : List Addr} {σ : MH} {a : Addr} {o : MO} (h : σ a = none) : Le S σ (σ.set a o) := fun b x _ e => MH.set_new e h
theorem Le.at {S : List Addr} {σ : MH} {a : Addr} {o : MO} (h : a ∈ S) : Le S σ (σ.set a o) := fun b x n e => by
  rw [MH.set_ne]; exact e
  rintro rfl; exact n h
theorem Le.mono {S S' : List Addr} {σ σ' : MH} (h : Le S σ σ') (k : ∀ a, a ∈ S → a ∈ S') : Le S' σ σ' := fun a o n e => h a o (fun x => n (k a x)) e
theorem Le.set {S : List Addr} {σ σ' : MH} {a : Addr} {o : MO} (h : Le S σ σ') (hn : σ a = none) : Le S σ (σ'.set a o) := fun b x n e => by
  rw [MH.set_ne]; exact h b x n e
  rintro rfl; rw [hn] at e; cases e
theorem Le.get {S : List Addr} {σ σ' : MH} {a : Addr} {o : MO} (h : Le S σ σ') (n : a ∉ S) (e : σ a = some o) : σ' a = some o := h a o n e

def Pd (Γ : Gd) (S : List Addr) (σ : MH) (a : Addr) (o : MO) : Prop := (a ∉ S ∧ σ a = some o) ∨ ∃ ob, Γ.B.get? a = some ob ∧ MOk Γ o ob
section
variable {Γ : Gd} {S : List Addr} {σ σ' : MH} {a b : Addr} {o o' : MO}
theorem Pd.rd (h : Pd Γ S σ a o) : Rd Γ σ a o := h.imp (fun x => x.2) fun x => x
theorem Pd.le (h : Pd Γ S σ a o) (l : Le S σ σ') : Pd Γ S σ' a o := h.imp (fun x => ⟨x.1, l a o x.1 x.2⟩) fun x => x
theorem Pd.nw (h : Pd Γ S σ a o) (n : σ b = none) : Pd Γ S (σ.set b o') a o := h.le (.new n)
theorem Pd.mk (n : a ∉ S) (e : σ a = some o) : Pd Γ S σ a o := .inl ⟨n, e⟩
theorem Pd.tp {vs : List V} [Tp a vs] : Pd Γ S σ a (.tup vs) := (tp_of (Γ := Γ) (σ := fun _ => none) (a := a) (vs := vs)).elim (fun h => nomatch h) fun h => .inr h
theorem Rd.nw (h : Rd Γ σ a o) (n : σ b = none) : Rd Γ (σ.set b o') a o := h.imp (fun x => MH.set_new x n) fun x => x
theorem Rd.self : Rd Γ (σ.set a o) a o := .inl MH.set_self
end
class Sz (fs : List (Str × V)) (k : outParam Nat) : Prop where
  le : fs.length ≤ k
instance : Sz [] 0 := ⟨Nat.le_refl _⟩
instance {p : Str × V} {fs : List (Str × V)} {k : Nat} [z : Sz fs k] : Sz (p :: fs) (k + 1) := ⟨Nat.succ_le_succ z.le⟩
theorem setF_len (n : Str) (u : V) : ∀ (l : List (Str × V)), (setF n u l).length ≤ l.length + 1
  | [] => by simp [setF]
  | (a, b) :: r => by
    have := setF_len n u r
    unfold setF; split <;> simp <;> (first | lia | omega)
instance {n : Str} {u : V} {fs : List (Str × V)} {k : Nat} [z : Sz fs k] : Sz (setF n u fs) (k + 1) := ⟨Nat.le_trans (setF_len n u fs) (Nat.succ_le_succ z.le)⟩

/-! an object being filled -/
structure Ini (x dx C : Addr) (fs : List (Str × V)) (F : List (Addr × MO)) (σ₀ σ : MH) : Prop where
  i : σ x = some (.ins C dx)
  n : σ dx = some (.ns fs)
  f : ∀ p ∈ F, σ p.1 = some p.2
  nd : (x :: dx :: F.map (·.1)).Nodup
  nw : ∀ a ∈ x :: dx :: F.map (·.1), σ₀ a = none
  ex : ∀ a o, σ₀ a = some o → σ a = some o
section
variable {x dx C : Addr} {fs : List (Str × V)} {F : List (Addr × MO)} {σ₀ σ : MH}
theorem Ini.start (h1 : σ dx = none) (h2 : σ x = none) (h3 : x ≠ dx) : Ini x dx C [] [] σ ((σ.set dx (.ns [])).set x (.ins C dx)) :=
  ⟨MH.set_self, by rw [MH.set_ne (Ne.symm h3), MH.set_self], (fun _ h => nomatch h), by simp [h3], by simp [h1, h2], fun a o e => MH.set_new (MH.set_new e h1) (by rw [MH.set_ne h3]; exact h2)⟩
theorem Ini.fresh {a : Addr} (h : Ini x dx C fs F σ₀ σ) (ha : σ a = none) : σ₀ a = none := by
  cases e : σ₀ a with
  | none => rfl
  | some o => rw [h.ex a o e] at ha; cases ha
theorem Ini.new {a : Addr} {o : MO} (h : Ini x dx C fs F σ₀ σ) (ha : σ a = none) : Ini x dx C fs ((a, o) :: F) σ₀ (σ.set a o) := by
  have hx : x ≠ a := by rintro rfl; rw [h.i] at ha; cases ha
  have hd : dx ≠ a := by rintro rfl; rw [h.n] at ha; cases ha
  have hF : ∀ p ∈ F, p.1 ≠ a := fun p hp e => by have := h.f p hp; rw [e, ha] at this; cases this
  have nd := h.nd
  simp only [List.nodup_cons, List.mem_cons, not_or] at nd
  refine ⟨MH.set_new h.i ha, MH.set_new h.n ha, fun p hp => ?_, ?_, fun b hb => ?_, fun b o e => MH.set_new (h.ex b o e) ha⟩
  · rcases List.mem_cons.mp hp with rfl | hp
    · exact MH.set_self
    · exact MH.set_new (h.f p hp) ha
  · simp only [List.map_cons, List.nodup_cons, List.mem_cons, not_or]
    exact ⟨⟨nd.1.1, hx, nd.1.2⟩, ⟨hd, nd.2.1⟩, fun q => by obtain ⟨p, hp, e⟩ := List.mem_map.mp q; exact hF p hp e, nd.2.2⟩
  · simp only [List.map_cons, List.mem_cons] at hb
    rcases hb with rfl | rfl | rfl | hb
    · exact h.nw _ (.head _)
    · exact h.nw _ (.tail _ (.head _))
    · exact h.fresh ha
    · exact h.nw _ (.tail _ (.tail _ hb))
theorem Ini.set {fs' : List (Str × V)} (h : Ini x dx C fs F σ₀ σ) : Ini x dx C fs' F σ₀ (σ.set dx (.ns fs')) := by
  have nd := h.nd
  simp only [List.nodup_cons, List.mem_cons, not_or] at nd
  refine ⟨by rw [MH.set_ne nd.1.1]; exact h.i, MH.set_self, fun p hp => ?_, h.nd, h.nw, fun a o e => ?_⟩
  · rw [MH.set_ne]
    · exact h.f p hp
    · rintro e; exact nd.2.1 (e ▸ List.mem_map_of_mem (f := (·.1)) hp)
  · rw [MH.set_ne]
    · exact h.ex a o e
    · rintro rfl; rw [h.nw _ (.tail _ (.head _))] at e; cases e
theorem Ini.put {c : Cx} {m : Lc} {name : Str} {u : V} {Q : MH → Prop} {n : Nat} [Sa C name] [z : Sz fs n] (h : Ini x dx C fs F σ₀ σ) (k : ∀ σ', Ini x dx C (setF name u fs) F σ₀ σ' → Q σ') (hz : decide (n < 1000) = true := by rfl) : wSA c (.ref x) name u m σ Q :=
  wSA_sa (.inl h.i) h.n (Nat.lt_of_le_of_lt z.le (of_decide_eq_true hz)) (k _ h.set)
theorem Ini.put' {c : Cx} {m : Lc} {name : Str} {u : V} {Q : MH → Prop} [Sa C name] (h : Ini x dx C fs F σ₀ σ) (fs' : List (Str × V)) (e : setF name u fs = fs') (k : ∀ σ', Ini x dx C fs' F σ₀ σ' → Q σ') (hz : Nat.blt fs.length 1000 = true := by rfl) : wSA c (.ref x) name u m σ Q :=
  wSA_sa (.inl h.i) h.n (Nat.lt_of_lt_of_le (Nat.le_of_ble_eq_true hz) (Nat.le_refl _)) (k _ (e ▸ h.set))
end


set_option genInjectivity false in
set_option genSizeOf false in
structure Om where
  m : Addr
  md : Addr
  h : Addr
  hd : Addr
  things : Addr
  ta : Addr
  thr : Addr
  itd : Addr
  itv : Addr
  told : Addr
  nat : Addr
  sw : Addr
  swd : Addr
  W : Addr
  R : Addr
  mfs : List (Str × V)
  nk : Int → Option V
  h1 : V
  h2 : V
  h3 : V
def Om.S (ω : Om) : List Addr := [ω.hd, ω.things, ω.ta, ω.thr, ω.itd, ω.itv, ω.W, ω.R]
def Om.Sn (ω : Om) : List Addr := [ω.hd, ω.things, ω.ta, ω.thr, ω.itd, ω.itv]

abbrev thf (i : Int) (sl : Addr) (n : Int) : List (Str × V) := [("addr", .int i), ("kind", .int 13), ("slots", .ref sl), ("gen", .int 0), ("size", .int 3), ("serial", .int n)]
abbrev hfs (ω : Om) (t f d : Int) : List (Str × V) := [("things", .ref ω.things), ("at", .ref ω.ta), ("top", .int t), ("limit", .int 4000), ("cards", ω.h1), ("card_bits", .int 4), ("fresh", .int f), ("young_limit", .int 1001), ("finals", ω.h2), ("ready", ω.h3), ("moved", .int 0), ("made", .int d)]
def ad (j : Nat) : Int := 16 + 3 * (j : Int)
def atf (th : List Addr) : Int → Option V := fun k => if k < 16 then none else if (k - 16) % 3 = 0 then (th[((k - 16) / 3).toNat]?).map .ref else none
theorem ad_lo (j : Nat) : 16 ≤ ad j := by unfold ad; (first | lia | omega)
theorem atf_ad (th : List Addr) (j : Nat) : atf th (ad j) = (th[j]?).map .ref := by
  unfold atf ad
  rw [if_neg (by first | lia | omega), if_pos (by first | lia | omega)]
  congr 2; (first | lia | omega)
theorem atf_push (th : List Addr) (x : Addr) : (fun k => if k = ad th.length then some (V.ref x) else atf th k) = atf (th ++ [x]) := by
  funext k
  by_cases hk : k = ad th.length
  · subst hk; rw [if_pos rfl, atf_ad]; simp
  · rw [if_neg hk]
    unfold atf
    split
    · rfl
    split
    · congr 1
      rw [List.getElem?_append]
      split
      · rfl
      · rw [List.getElem?_eq_none (by first | lia | omega), List.getElem?_eq_none]
        simp
        unfold ad at hk
        (first | lia | omega)
    · rfl

structure OmOk (ω : Om) : Prop where
  nd : ω.S.Nodup
  heap : ω.mfs.lookup ("heap" : Str) = some (.ref ω.h)
  state : ω.mfs.lookup ("state" : Str) = some (.int 0)
  thrown : ω.mfs.lookup ("thrown" : Str) = some (.ref ω.thr)
  told : ω.mfs.lookup ("told" : Str) = some (.ref ω.told)
  interned : ω.mfs.lookup ("interned" : Str) = some (.ref ω.itd)
  internv : ω.mfs.lookup ("internv" : Str) = some (.ref ω.itv)
  natives : ω.mfs.lookup ("natives" : Str) = some (.ref ω.nat)
  sweeper : ω.mfs.lookup ("sweeper" : Str) = some (.ref ω.sw)
  alloc : ω.mfs.lookup ("alloc" : Str) = none
  throw_new : ω.mfs.lookup ("throw_new" : Str) = none
  text_of : ω.mfs.lookup ("text_of" : Str) = none
  text_ref : ω.mfs.lookup ("text_ref" : Str) = none
  new_text : ω.mfs.lookup ("new_text" : Str) = none
  tam : (ω.ta == sysModules) = false
  itm : (ω.itd == sysModules) = false
  b1 : nb ω.h1 = true
  b2 : nb ω.h2 = true
  b3 : nb ω.h3 = true

def natTab : List (Int × Addr) := [(1, 570), (2, 589), (3, 608), (4, 627), (5, 646), (7, 684), (8, 703), (9, 722)]

structure IsTh (Γ : Gd) (S : List Addr) (σ : MH) (a : Addr) (j : Nat) (t : List Nat) : Prop where
  ex : ∃ d sl tp, Pd Γ S σ a (.ins 96 d) ∧ Pd Γ S σ d (.ns (thf (ad j) sl (j + 1))) ∧ Pd Γ S σ sl (.lst [.ref tp]) ∧ Pd Γ S σ tp (.tup [.int 8, .str (tx t)])
theorem IsTh.le {Γ : Gd} {S : List Addr} {σ σ' : MH} {a : Addr} {j : Nat} {t : List Nat} (h : IsTh Γ S σ a j t) (l : Le S σ σ') : IsTh Γ S σ' a j t := by
  obtain ⟨d, sl, tp, h1, h2, h3, h4⟩ := h.ex
  exact ⟨d, sl, tp, h1.le l, h2.le l, h3.le l, h4.le l⟩

abbrev Emp := Option (Nat × Addr)
structure Per (Γ : Gd) (ω : Om) (T : List (List Nat)) (th : List Addr) (emp : Emp) (σ : MH) : Prop where
  ok : OmOk ω
  m : Pd Γ ω.S σ ω.m (.ins 446 ω.md)
  md : Pd Γ ω.S σ ω.md (.ns ω.mfs)
  h : Pd Γ ω.S σ ω.h (.ins 117 ω.hd)
  sw : Pd Γ ω.S σ ω.sw (.ins 222 ω.swd)
  swd : Pd Γ ω.S σ ω.swd (.ns [])
  told : Pd Γ ω.S σ ω.told (.lst [])
  nat : ∃ n, Pd Γ ω.S σ ω.nat (.dcI n ω.nk)
  natk : ∀ p ∈ natTab, ∃ k d, ω.nk p.1 = some (.ref k) ∧ Pd Γ ω.S σ k (.ins p.2 d) ∧ Pd Γ ω.S σ d (.ns [])
  len : th.length = T.length
  tx : ∀ (j : Nat) a t, th[j]? = some a → T[j]? = some t → IsTh Γ ω.S σ a j t
  tz : ∀ t ∈ T, t.length ≤ 1048577
  em : ∀ j tp, emp = some (j, tp) → T[j]? = some [] ∧ Pd Γ ω.S σ tp (.tup [.int 4, .int (ad j)])
  nw : ∀ a ∈ ω.S, σ a ≠ none
theorem Per.le {Γ : Gd} {ω : Om} {T : List (List Nat)} {th : List Addr} {emp : Emp} {σ σ' : MH} (h : Per Γ ω T th emp σ) (l : Le ω.S σ σ') (hn : ∀ a ∈ ω.S, σ' a ≠ none) : Per Γ ω T th emp σ' :=
  ⟨h.ok, h.m.le l, h.md.le l, h.h.le l, h.sw.le l, h.swd.le l, h.told.le l, h.nat.imp fun _ x => x.le l, fun p hp => let ⟨k, d, a, b, e⟩ := h.natk p hp; ⟨k, d, a, b.le l, e.le l⟩, h.len,
    fun j a t e1 e2 => (h.tx j a t e1 e2).le l, h.tz, fun j tp e => ⟨(h.em j tp e).1, (h.em j tp e).2.le l⟩, hn⟩

def itf (emp : Emp) : Str → Option V := fun k => if emp.isSome ∧ k = "" then some (.int 0) else none
def itl : Emp → List V
  | none => []
  | some (_, tp) => [.ref tp]
structure Mu (ω : Om) (n : Nat) (th : List Addr) (emp : Emp) (thr : List Int) (σ : MH) : Prop where
  hd : σ ω.hd = some (.ns (hfs ω (ad n) (3 * n) n))
  things : σ ω.things = some (.lst (th.map .ref))
  ta : ∃ k, k ≤ n ∧ σ ω.ta = some (.dcI k (atf th))
  thr : σ ω.thr = some (.lst (thr.map .int))
  itd : ∃ k, k ≤ (if emp.isSome then 1 else 0) ∧ σ ω.itd = some (.dcS k (itf emp))
  itv : σ ω.itv = some (.lst (itl emp))
theorem Mu.le {ω : Om} {n : Nat} {th : List Addr} {emp : Emp} {thr : List Int} {σ σ' : MH} (h : Mu ω n th emp thr σ) (l : ∀ a ∈ ω.Sn, ∀ o, σ a = some o → σ' a = some o) : Mu ω n th emp thr σ' :=
  ⟨l _ (by simp [Om.Sn]) _ h.hd, l _ (by simp [Om.Sn]) _ h.things, let ⟨k, a, b⟩ := h.ta; ⟨k, a, l _ (by simp [Om.Sn]) _ b⟩, l _ (by simp [Om.Sn]) _ h.thr, let ⟨k, a, b⟩ := h.itd; ⟨k, a, l _ (by simp [Om.Sn]) _ b⟩, l _ (by simp [Om.Sn]) _ h.itv⟩

structure Sh (Γ : Gd) (ω : Om) (T : List (List Nat)) (th : List Addr) (emp : Emp) (thr : List Int) (σ : MH) : Prop where
  per : Per Γ ω T th emp σ
  mu : Mu ω T.length th emp thr σ
  few : T.length ≤ 100000
theorem Sn_sub {ω : Om} : ∀ a, a ∈ ω.Sn → a ∈ ω.S := fun a h => by simp only [Om.Sn, Om.S, List.mem_cons, List.not_mem_nil] at h ⊢; rcases h with h | h | h | h | h | h | h <;> simp [h]
theorem Le.nS {ω : Om} {σ σ' : MH} (l : Le ω.Sn σ σ') : Le ω.S σ σ' := l.mono Sn_sub
section
variable {Γ : Gd} {ω : Om} {T : List (List Nat)} {th : List Addr} {emp : Emp} {thr : List Int} {σ σ' : MH}
theorem Sh.ex (h : Sh Γ ω T th emp thr σ) (l : ∀ a o, σ a = some o → σ' a = some o) : Sh Γ ω T th emp thr σ' :=
  ⟨h.per.le (fun a o _ e => l a o e) fun a ha e => (by
    cases q : σ a with
    | none => exact h.per.nw a ha q
    | some o => rw [l a o q] at e; cases e), h.mu.le fun a _ => l a, h.few⟩
theorem Sh.new {a : Addr} {o : MO} (h : Sh Γ ω T th emp thr σ) (n : σ a = none) : Sh Γ ω T th emp thr (σ.set a o) := h.ex fun b x e => MH.set_new e n
theorem Sh.notS {a : Addr} (h : Sh Γ ω T th emp thr σ) (n : σ a = none) : a ∉ ω.S := fun q => h.per.nw a q n
end
def Cells (F : List (Addr × MO)) (σ : MH) : Prop := (F.map (·.1)).Nodup ∧ ∀ p ∈ F, σ p.1 = some p.2
theorem Cells.get {F : List (Addr × MO)} {σ : MH} (h : Cells F σ) (i : Nat) {a : Addr} {o : MO} (e : F[i]? = some (a, o)) : σ a = some o := h.2 (a, o) (List.mem_of_getElem? e)
theorem Cells.set {F : List (Addr × MO)} {σ : MH} (h : Cells F σ) (i : Nat) {a : Addr} {o o' : MO} (e : F[i]? = some (a, o)) : Cells (F.set i (a, o')) (σ.set a o') := by
  have hi : i < F.length := (List.getElem?_eq_some_iff.mp e).1
  have hk : (F.set i (a, o')).map (·.1) = F.map (·.1) := by
    rw [List.map_set]
    apply List.ext_getElem?
    intro j
    rw [List.getElem?_set]
    split
    · rename_i e1; subst e1; simp [hi]; rw [(List.getElem?_eq_some_iff.mp e).2]
    · rfl
  refine ⟨by rw [hk]; exact h.1, fun p hp => ?_⟩
  obtain ⟨j, hj⟩ := List.getElem?_of_mem hp
  rw [List.getElem?_set] at hj
  split at hj
  · rename_i e1; subst e1
    first | (cases hj; exact MH.set_self) | (rw [if_pos hi] at hj; cases hj; exact MH.set_self)
  · rename_i hne
    rw [MH.set_ne]
    · exact h.2 _ (List.mem_of_getElem? hj)
    · rintro e2
      have h1 : (F.map (·.1))[j]? = some a := by rw [List.getElem?_map, hj]; simp [e2]
      have h2 : (F.map (·.1))[i]? = some a := by rw [List.getElem?_map, e]; rfl
      have hjl : j < (F.map (·.1)).length := (List.getElem?_eq_some_iff.mp h1).1
      exact hne ((List.getElem?_inj (by simpa using hi) h.1).mp (by rw [h1, h2]))
theorem Cells.keep {F : List (Addr × MO)} {σ σ' : MH} (h : Cells F σ) (l : ∀ a o, σ a = some o → σ' a = some o) : Cells F σ' := ⟨h.1, fun p hp => l _ _ (h.2 p hp)⟩
theorem Cells.new {F : List (Addr × MO)} {σ : MH} {a : Addr} {o : MO} (h : Cells F σ) (n : σ a = none) : Cells ((a, o) :: F) (σ.set a o) := by
  refine ⟨?_, fun p hp => ?_⟩
  · rw [List.map_cons, List.nodup_cons]
    refine ⟨fun q => ?_, h.1⟩
    obtain ⟨p, hp, e⟩ := List.mem_map.mp q
    have := h.2 p hp
    rw [e, n] at this; cases this
  · rcases List.mem_cons.mp hp with rfl | hp
    · exact MH.set_self
    · exact MH.set_new (h.2 p hp) n

section
variable {c : Cx} {m : Lc} {σ₀ σ : MH} {F : List (Addr × MO)} {S : List Addr}
theorem Le.step {a : Addr} {o : MO} (l : Le S σ₀ σ) (ha : a ∈ S ∨ σ₀ a = none) : Le S σ₀ (σ.set a o) := ha.elim (fun h => l.trans (.at h)) fun h => l.set h
theorem Cells.put {x C dx : Addr} {name : Str} {u : V} {fs : List (Str × V)} {n : Nat} {Q : MH → Prop} (hx : Rd c.Γ σ x (.ins C dx)) [Sa C name] (Z : Cells F σ) (i : Nat) (e : F[i]? = some (dx, .ns fs)) [z : Sz fs n] (l : Le S σ₀ σ) (ha : dx ∈ S ∨ σ₀ dx = none)
    (k : ∀ σ', Cells (F.set i (dx, .ns (setF name u fs))) σ' → Le S σ₀ σ' → Q σ') (hz : decide (n < 1000) = true := by rfl) : wSA c (.ref x) name u m σ Q :=
  wSA_sa hx (Z.get i e) (Nat.lt_of_le_of_lt z.le (of_decide_eq_true hz)) (k _ (Z.set i e) (l.step ha))
theorem Cells.app {a : Addr} {vs : List V} {v : V} {Q : V → MH → Prop} (Z : Cells F σ) (i : Nat) (e : F[i]? = some (a, .lst vs)) (hz : vs.length ≤ 2000000) (l : Le S σ₀ σ) (ha : a ∈ S ∨ σ₀ a = none)
    (k : ∀ σ', Cells (F.set i (a, .lst (vs ++ [v]))) σ' → Le S σ₀ σ' → Q .none σ') : wC c (.oth (.builtin "list.append")) [.ref a, v] m σ Q :=
  wC_append (Z.get i e) hz (k _ (Z.set i e) (l.step ha))
theorem Cells.dcI {a : Addr} {n : Nat} {f : Int → Option V} {x : Int} {v : V} {Q : MH → Prop} (Z : Cells F σ) (i : Nat) (e : F[i]? = some (a, .dcI n f)) (hz : n ≤ 1000000) (l : Le S σ₀ σ) (ha : a ∈ S ∨ σ₀ a = none)
    (k : ∀ σ', Cells (F.set i (a, .dcI (n + 1) fun k => if k = x then some v else f k)) σ' → Le S σ₀ σ' → Q σ') : wSI c (.ref a) (.int x) v m σ Q :=
  wSI_dcI (Z.get i e) hz (k _ (Z.set i e) (l.step ha))
theorem Cells.dcS {a : Addr} {n : Nat} {f : Str → Option V} {x : Str} {v : V} {Q : MH → Prop} (Z : Cells F σ) (i : Nat) (e : F[i]? = some (a, .dcS n f)) (hz : n ≤ 1000000) (l : Le S σ₀ σ) (ha : a ∈ S ∨ σ₀ a = none)
    (k : ∀ σ', Cells (F.set i (a, .dcS (n + 1) fun k => if k = x then some v else f k)) σ' → Le S σ₀ σ' → Q σ') : wSI c (.ref a) (.str x) v m σ Q :=
  wSI_dcS (Z.get i e) hz (k _ (Z.set i e) (l.step ha))
end

local macro_rules | `(tactic| walk_at "lk") => `(tactic| first | (with_reducible exact lk_here) | ((with_reducible refine' lk_next ?h1 ?h2); (case h1 => rfl); (case h2 => walk_at "lk")) | (with_reducible assumption))
local macro_rules | `(tactic| walk_at "lkn") => `(tactic| first | (with_reducible exact lkn_nil) | ((with_reducible refine' lkn_next ?h1 ?h2); (case h1 => rfl); (case h2 => walk_at "lkn")))
local macro_rules | `(tactic| walk_at "bind") => `(tactic| first | exact args1 fun _ => rfl | exact args2 fun _ _ => rfl | exact args3 fun _ _ _ => rfl | exact args4 fun _ _ _ _ => rfl | exact args5 fun _ _ _ _ _ => rfl | exact args0 rfl)
local macro_rules | `(tactic| walk_at "s") => `(tactic| first
  | (with_reducible (first | refine sq_next ?_ | refine wS_cons ?_ | refine w1_ret ?_ | refine sq_ret ?_ | refine retQ_ret ?_))
  | ((with_reducible refine' wE_local ?h1 ?_ ?h2 ?h3 ?h4); (case h1 => walk_at "lk"); (case h2 | h3 => rfl); (case h4 => decide))
  | ((with_reducible (first | refine wE_gl ?_ ?h1 ?h2 ?h3 | refine wE_bl ?_ ?h1 ?h2 ?h3)); (case h1 | h2 => rfl); (case h3 => decide))
  | (with_reducible (first | refine wE_int ?_ | refine wE_str ?_ | refine wE_none ?_ | refine wE_bc ?_))
  | ((with_reducible (first | refine wEs_cons ?_ ?h1 | refine wE_call ?_ ?h1)); (case h1 => rfl))
  | (with_reducible (first | refine wEs_nil ?_ | refine wE_bin ?_ | refine wE_neg ?_))
  | ((with_reducible (first | refine wE_cmp ?_ ?h1 | refine wT_cmp ?_ ?h1 | refine wE_attr ?_ ?h1 | refine w1_setattr ?_ ?h1 | refine w1_setitem ?_ ?h1 | refine wE_sub ?_ ?h1)); (case h1 => with_unfolding_all rfl))
  | ((with_reducible (first | refine' wE_mcall ?_ ?h1 ?h2 | refine wNs_cons ?_ ?h1 ?h2 | refine wAs_name ?_ ?h1 ?h2)); (case h1 | h2 => rfl))
  | (with_reducible (first | refine ⟨cal_fn, ?_⟩ | refine ⟨cal_bl, ?_⟩ | refine ⟨cal_ty, ?_⟩ | refine wE_tuple ?_ | refine wE_list ?_))
  | ((with_reducible refine w1_assign ?_ ?h1 ?h2 ?h3); (case h1 | h2 | h3 => rfl))
  | (with_reducible refine w1_augattr ?_)
  | ((with_reducible refine w1_unpack ?_ ?h1 ?h2); (case h1 | h2 => with_unfolding_all rfl))
  | (with_reducible refine w1_delall ?_)
  | ((with_reducible refine w1_expr ?_ ?h1 ?h2); (case h1 => rfl); (case h2 => with_unfolding_all rfl))
  | (with_reducible (first | refine wT_not ?_ | refine wT_bool ?_ | refine wTB_and ?_ | refine wTB_or ?_ | refine wTB_and0 ?_ | refine wTB_or0 ?_ | refine wTr_bool ?_ | refine wTr_none ?_ | refine wB_add ?_ | refine wB_sub ?_))
  | ((with_reducible refine wB_mod ?h1 ?_); (case h1 => decide))
  | ((with_reducible refine wB_div ?h1 ?h2 ?_); (case h1 | h2 => decide))
  | (with_reducible (first | refine wCmp_eqI ?_ | refine wCmp_neI ?_ | refine wCmp_ltI ?_ | refine wCmp_leI ?_ | refine wCmp_gtI ?_ | refine wCmp_geI ?_ | refine wCmp_is ?_ | refine wCmp_isnt ?_ | refine wNs_nil ?_ | refine wE_and ?_ | refine wE_one ?_))
  | ((with_reducible refine wT_chain ?_ ?h1); (case h1 => with_unfolding_all rfl))
  | (with_reducible (first | refine wS_nil ?_ | refine retQ_next ?_))
  | ((with_reducible refine wT_e ?_ ?h1); (case h1 => with_unfolding_all rfl)))
local macro_rules | `(tactic| walk_at "S") => `(tactic| repeat walk_at "s")
local macro_rules | `(tactic| walk_at "ite") => `(tactic| first | (refine ite_T rfl ?_) | (refine ite_F rfl ?_) | (refine ite_t (by decide) ?_) | (refine ite_f (by decide) ?_))

section
local macro_rules | `(tactic| walk_at "s") => `(tactic| with_reducible refine w1_if ?_)
local macro_rules | `(tactic| walk_at "s") => `(tactic| with_reducible refine wE_or ?_)
theorem ok_words_for {Γ : Gd} {σ : MH} {Q : V → MH → Prop} (h : Q (.int 3) σ) : CallOk Γ 1 79 [.int 1] σ Q := by
  refine fn_enter (by k_is) (by kernel_rfl) rfl (by walk_at "bind") rfl rfl rfl rfl rfl [("count", .int 1)] rfl ?_
  intro A g L hr
  walk_at "S"
  walk_at "ite"
  walk_at "S"
  exact h
theorem ok_thing_init {Γ : Gd} {σ₀ σ : MH} {x dx sl : Addr} {i : Int} {v : V} {Q : V → MH → Prop} (H : Ini x dx 96 [] [] σ₀ σ) (hs : σ₀ sl = some (.lst [v]))
    (k : ∀ σ', Ini x dx 96 (thf i sl 0) [] σ₀ σ' → Q .none σ') : CallOk Γ 2 93 [.ref x, .int i, .int 13, .ref sl] σ Q := by
  refine fn_enter (by k_is) (by kernel_rfl) rfl (by walk_at "bind") rfl rfl rfl rfl rfl [("slots", .ref sl), ("kind", .int 13), ("addr", .int i), ("self", .ref x)] rfl ?_
  intro A g L hr
  walk_at "S"
  refine H.put ?_; clear H; intro σ H
  walk_at "S"
  refine H.put ?_; clear H; intro σ H
  walk_at "S"
  refine H.put ?_; clear H; intro σ H
  walk_at "S"
  refine H.put ?_; clear H; intro σ H
  walk_at "S"
  refine wC_len_lst (.inl (H.ex _ _ hs)) (by simp) ?_
  walk_at "S"
  refine wC_fn hr (ok_words_for ?_)
  walk_at "S"
  refine H.put ?_; clear H; intro σ H
  walk_at "S"
  refine H.put ?_; clear H; intro σ H
  walk_at "S"
  exact k _ H
theorem ok_heap_alloc {Γ : Gd} {ω : Om} {T : List (List Nat)} {th : List Addr} {emp : Emp} {thr : List Int} {σ : MH} {sl : Addr} {v : V} {Q : V → MH → Prop} (H : Sh Γ ω T th emp thr σ) (hs : σ sl = some (.lst [v]))
    (k : ∀ σ' x d, σ x = none → σ d = none → x ≠ d → Le ω.Sn σ σ' → σ' x = some (.ins 96 d) → σ' d = some (.ns (thf (ad T.length) sl (T.length + 1))) → Mu ω (T.length + 1) (th ++ [x]) emp thr σ' → Q (.ref x) σ') :
    CallOk Γ 4 128 [.ref ω.h, .int 13, .ref sl] σ Q := by
  refine fn_enter (by k_is) (by kernel_rfl) rfl (by walk_at "bind") rfl rfl rfl rfl rfl [("slots", .ref sl), ("kind", .int 13), ("heap", .ref ω.h)] rfl ?_
  intro A g L hr
  walk_at "S"
  refine wA_ga H.per.h.rd (.inl H.mu.hd) rfl rfl ?_
  walk_at "S"
  refine wC_mk hr fun x dx h1 h2 h3 => ok_thing_init (Ini.start h1 h2 h3) hs fun σ₁ I => ⟨rfl, ?_⟩
  have up : ∀ a, a ∈ [ω.hd, ω.things, ω.ta] → a ∈ ω.Sn := by intro a ha; simp only [List.mem_cons, List.not_mem_nil, or_false] at ha; rcases ha with rfl | rfl | rfl <;> simp [Om.Sn]
  have l₁ : Le [ω.hd, ω.things, ω.ta] σ σ₁ := fun a o _ e => I.ex a o e
  obtain ⟨kt, hkt, eta⟩ := H.mu.ta
  have nd := H.per.ok.nd
  simp only [Om.S, List.nodup_cons, List.mem_cons, not_or] at nd
  have hS : ∀ a ∈ ω.S, a ≠ x ∧ a ≠ dx := fun a ha => ⟨by rintro rfl; exact H.per.nw _ ha h2, by rintro rfl; exact H.per.nw _ ha h1⟩
  have C₁ : Cells [(x, .ins 96 dx), (dx, .ns (thf (ad T.length) sl 0)), (ω.hd, .ns (hfs ω (ad T.length) (3 * T.length) T.length)), (ω.things, .lst (th.map .ref)), (ω.ta, .dcI kt (atf th))] σ₁ := by
    refine ⟨?_, fun p hp => ?_⟩
    · have a1 := hS ω.hd (by simp [Om.S]); have a2 := hS ω.things (by simp [Om.S]); have a3 := hS ω.ta (by simp [Om.S])
      simp [h3, a1.1.symm, a1.2.symm, a2.1.symm, a2.2.symm, a3.1.symm, a3.2.symm, nd.1, nd.2.1]
    · simp only [List.mem_cons, List.not_mem_nil, or_false] at hp
      rcases hp with rfl | rfl | rfl | rfl | rfl
      · exact I.i
      · exact I.n
      · exact I.ex _ _ H.mu.hd
      · exact I.ex _ _ H.mu.things
      · exact I.ex _ _ eta
  walk_at "S"
  refine wA_ga (H.per.h.le (l₁.mono up).nS).rd (.inl (C₁.get 2 (by rfl))) (by rfl) (by rfl) ?_
  walk_at "S"
  have mhd : ω.hd ∈ [ω.hd, ω.things, ω.ta] ∨ σ ω.hd = none := .inl (by simp)
  have mth : ω.things ∈ [ω.hd, ω.things, ω.ta] ∨ σ ω.things = none := .inl (by simp)
  have mta : ω.ta ∈ [ω.hd, ω.things, ω.ta] ∨ σ ω.ta = none := .inl (by simp)
  refine ⟨_, _, rfl, rfl, C₁.put (H.per.h.le (l₁.mono up).nS).rd 2 rfl l₁ mhd ?_⟩; clear C₁ l₁ I; intro σ₁ C₁ l₁
  walk_at "S"
  refine wA_ga (H.per.h.le (l₁.mono up).nS).rd (.inl (C₁.get 2 (by rfl))) (by rfl) (by rfl) ?_
  walk_at "S"
  refine C₁.put (.inl (C₁.get 0 rfl)) 1 rfl l₁ (.inr h1) ?_; clear C₁ l₁; intro σ₁ C₁ l₁
  walk_at "S"
  refine wA_ga (H.per.h.le (l₁.mono up).nS).rd (.inl (C₁.get 2 (by rfl))) (by rfl) (by rfl) ?_
  walk_at "S"
  refine wM_append (.inl (C₁.get 3 rfl)) ?_
  walk_at "S"
  refine C₁.app 3 rfl (by have := H.few; have := H.per.len; simp; (first | lia | omega)) l₁ mth ?_; clear C₁ l₁; intro σ₁ C₁ l₁
  refine ⟨rfl, ?_⟩
  walk_at "S"
  refine wA_ga (H.per.h.le (l₁.mono up).nS).rd (.inl (C₁.get 2 (by rfl))) (by rfl) (by rfl) ?_
  walk_at "S"
  refine wA_ga (.inl (C₁.get 0 rfl)) (.inl (C₁.get 1 (by rfl))) (by rfl) (by rfl) ?_
  walk_at "S"
  refine C₁.dcI 4 rfl (by have := H.few; (first | lia | omega)) l₁ mta ?_; clear C₁ l₁; intro σ₁ C₁ l₁
  walk_at "S"
  refine wA_ga (H.per.h.le (l₁.mono up).nS).rd (.inl (C₁.get 2 (by rfl))) (by rfl) (by rfl) ?_
  walk_at "S"
  refine wA_ga (.inl (C₁.get 0 rfl)) (.inl (C₁.get 1 (by rfl))) (by rfl) (by rfl) ?_
  refine ⟨_, _, rfl, rfl, C₁.put (H.per.h.le (l₁.mono up).nS).rd 2 rfl l₁ mhd ?_⟩; clear C₁ l₁; intro σ₁ C₁ l₁
  walk_at "S"
  refine wA_ga (H.per.h.le (l₁.mono up).nS).rd (.inl (C₁.get 2 (by rfl))) (by rfl) (by rfl) ?_
  walk_at "S"
  refine wA_ga (.inl (C₁.get 0 rfl)) (.inl (C₁.get 1 (by rfl))) (by rfl) (by rfl) ?_
  refine ⟨_, _, rfl, rfl, C₁.put (H.per.h.le (l₁.mono up).nS).rd 2 rfl l₁ mhd ?_⟩; clear C₁ l₁; intro σ₁ C₁ l₁
  walk_at "S"
  have e1 : (ad T.length + 3 : Int) = ad (T.length + 1) := by unfold ad; (first | lia | omega)
  have e2 : (3 * (T.length : Int) + 3 : Int) = 3 * ((T.length + 1 : Nat) : Int) := by first | lia | omega
  refine k _ x dx h2 h1 h3 (l₁.mono up) (C₁.get 0 rfl) (C₁.get 1 rfl) ⟨?_, ?_, ⟨kt + 1, by first | lia | omega, ?_⟩, ?_, ?_, ?_⟩
  · rw [← e1, ← e2]; exact C₁.get 2 rfl
  · rw [List.map_append]; exact C₁.get 3 rfl
  · rw [← atf_push, H.per.len]; exact C₁.get 4 rfl
  · exact l₁ _ _ (by simp [Ne.symm nd.1.2.2.1, Ne.symm nd.2.1.2.1, Ne.symm nd.2.2.1.1]) H.mu.thr
  · obtain ⟨k', h', e'⟩ := H.mu.itd
    exact ⟨k', h', l₁ _ _ (by simp [Ne.symm nd.1.2.2.2.1, Ne.symm nd.2.1.2.2.1, Ne.symm nd.2.2.1.2.1]) e'⟩
  · exact l₁ _ _ (by simp [Ne.symm nd.1.2.2.2.2.1, Ne.symm nd.2.1.2.2.2.1, Ne.symm nd.2.2.1.2.2.1]) H.mu.itv
theorem ok_before {Γ : Gd} {σ : MH} {a b : V} {Q : V → MH → Prop} (h : Q .none σ) : CallOk Γ 1 219 [a, b] σ Q := by
  refine fn_enter (by k_is) (by kernel_rfl) rfl (by walk_at "bind") rfl rfl rfl rfl rfl [("m", b), ("self", a)] rfl ?_
  intro A g L hr
  walk_at "S"
  exact h
theorem ok_first_slots {Γ : Gd} {σ : MH} {m : V} {Q : V → MH → Prop} (k : ∀ σ' tp sl, (∀ a o, σ a = some o → σ' a = some o) → σ sl = none → σ' sl = some (.lst [.ref tp]) → Q (.ref sl) σ') : CallOk Γ 1 483 [m, .int 13, .int 1] σ Q := by
  refine fn_enter (by k_is) (by kernel_rfl) rfl (by walk_at "bind") rfl rfl rfl rfl rfl [("count", .int 1), ("kind", .int 13), ("m", m)] rfl ?_
  intro A g L hr
  walk_at "S"
  walk_at "ite"
  walk_at "S"
  refine ⟨by decide, fun tp h1 => ?_⟩
  walk_at "S"
  refine ⟨le1 rfl, fun sl h2 => ?_⟩
  walk_at "S"
  refine k _ tp sl (fun a o e => MH.set_new (MH.set_new e h1) h2) ?_ MH.set_self
  by_cases e : sl = tp
  · subst e; exact h1
  · rw [MH.set_ne e] at h2; exact h2
section
variable {Γ : Gd} {ω : Om} {T : List (List Nat)} {th : List Addr} {emp : Emp} {thr : List Int} {σ : MH} {Q : V → MH → Prop}
theorem ex_none {σ σ' : MH} (l : ∀ a o, σ a = some o → σ' a = some o) {a : Addr} (h : σ' a = none) : σ a = none := by
  cases e : σ a with
  | none => rfl
  | some o => rw [l a o e] at h; cases h
def AllocK (ω : Om) (T : List (List Nat)) (th : List Addr) (emp : Emp) (thr : List Int) (σ : MH) (Q : V → MH → Prop) : Prop :=
  ∀ σ' x d sl tp, σ x = none → σ d = none → σ sl = none → x ≠ d → Le ω.Sn σ σ' → σ' x = some (.ins 96 d) → σ' d = some (.ns (thf (ad T.length) sl (T.length + 1))) → σ' sl = some (.lst [.ref tp]) → Mu ω (T.length + 1) (th ++ [x]) emp thr σ' → Q (.ref x) σ'
theorem ok_alloc_thing (H : Sh Γ ω T th emp thr σ) (k : AllocK ω T th emp thr σ Q) : CallOk Γ 5 490 [.ref ω.m, .int 13, .int 1] σ Q := by
  refine fn_enter (by k_is) (by kernel_rfl) rfl (by walk_at "bind") rfl rfl rfl rfl rfl [("count", .int 1), ("kind", .int 13), ("m", .ref ω.m)] rfl ?_
  intro A g L hr
  walk_at "S"
  refine wA_ga H.per.m.rd H.per.md.rd H.per.ok.sweeper rfl ?_
  refine wM_mt H.per.sw.rd H.per.swd.rd rfl ?_
  walk_at "S"
  refine wC_fn hr ((ok_before ?_).less (by decide))
  refine ⟨rfl, ?_⟩
  walk_at "S"
  refine wA_ga H.per.m.rd H.per.md.rd H.per.ok.heap rfl ?_
  walk_at "S"
  refine wC_fn hr ((ok_first_slots fun σ₁ tp sl l h1 h2 => ?_).less (by decide))
  walk_at "S"
  have H₁ := H.ex l
  refine wC_fn hr ((ok_heap_alloc H₁ h2 fun σ₂ x d a1 a2 a3 l₂ a4 a5 a6 => ?_).less (by decide))
  walk_at "S"
  exact k _ x d sl tp (ex_none l a1) (ex_none l a2) h1 a3 (fun a o n e => l₂ a o n (l a o e)) a4 a5 (l₂ _ _ (fun q => H.per.nw sl (Sn_sub _ q) h1) h2) a6
theorem ok_alloc (H : Sh Γ ω T th emp thr σ) (k : AllocK ω T th emp thr σ Q) : CallOk Γ 6 415 [.ref ω.m, .int 13, .int 1] σ Q := by
  refine fn_enter (by k_is) (by kernel_rfl) rfl (by walk_at "bind") rfl rfl rfl rfl rfl [("count", .int 1), ("kind", .int 13), ("self", .ref ω.m)] rfl ?_
  intro A g L hr
  walk_at "S"
  refine wC_fn hr (ok_alloc_thing H fun σ' x d sl tp a1 a2 a3 a4 a5 a6 a7 a8 a9 => ?_)
  walk_at "S"
  exact k σ' x d sl tp a1 a2 a3 a4 a5 a6 a7 a8 a9
def MadeK (Γ : Gd) (ω : Om) (T : List (List Nat)) (th : List Addr) (emp : Emp) (thr : List Int) (σ : MH) (t : List Nat) (Q : V → MH → Prop) : Prop :=
  ∀ σ' x r, Le ω.Sn σ σ' → Sh Γ ω (T ++ [t]) (th ++ [x]) emp thr σ' → Pd Γ ω.S σ' r (.tup [.int 4, .int (ad T.length)]) → Q (.ref r) σ'
theorem Mu.some {n : Nat} (M : Mu ω n th emp thr σ) : ∀ a ∈ ω.Sn, σ a ≠ none := by
  intro a ha e
  simp only [Om.Sn, List.mem_cons, List.not_mem_nil, or_false] at ha
  obtain ⟨k, _, q⟩ := M.ta
  obtain ⟨k', _, q'⟩ := M.itd
  rcases ha with rfl | rfl | rfl | rfl | rfl | rfl
  · rw [M.hd] at e; cases e
  · rw [M.things] at e; cases e
  · rw [q] at e; cases e
  · rw [M.thr] at e; cases e
  · rw [q'] at e; cases e
  · rw [M.itv] at e; cases e
theorem Sh.nw' {σ' : MH} {n : Nat} {th' : List Addr} {emp' : Emp} {thr' : List Int} (H : Sh Γ ω T th emp thr σ) (l : Le ω.Sn σ σ') (M : Mu ω n th' emp' thr' σ') : ∀ a ∈ ω.S, σ' a ≠ none := fun a ha => by
  by_cases hs : a ∈ ω.Sn
  · exact M.some a hs
  · cases e : σ a with
    | none => exact absurd e (H.per.nw a ha)
    | some o => rw [l a o hs e]; simp
theorem Sh.grow {σ' : MH} {t : List Nat} {x : Addr} (H : Sh Γ ω T th emp thr σ) (l : Le ω.Sn σ σ') (ht : t.length ≤ 1048577) (hf : T.length < 100000) (M : Mu ω (T.length + 1) (th ++ [x]) emp thr σ') (X : IsTh Γ ω.S σ' x T.length t) :
    Sh Γ ω (T ++ [t]) (th ++ [x]) emp thr σ' := by
  have P := H.per.le l.nS (H.nw' l M)
  refine ⟨⟨P.ok, P.m, P.md, P.h, P.sw, P.swd, P.told, P.nat, P.natk, by simp [P.len], fun j a u e1 e2 => ?_, fun u hu => ?_, fun j tp e => ?_, P.nw⟩, by rw [List.length_append]; exact M, by simp; (first | lia | omega)⟩
  · by_cases hj : j < T.length
    · rw [List.getElem?_append_left (by rw [P.len]; exact hj)] at e1
      rw [List.getElem?_append_left hj] at e2
      exact P.tx j a u e1 e2
    · have hj' : j = T.length := by
        have := (List.getElem?_eq_some_iff.mp e2).1
        simp at this; (first | lia | omega)
      subst hj'
      rw [List.getElem?_append_right (Nat.le_refl _)] at e2
      rw [← P.len, List.getElem?_append_right (Nat.le_refl _)] at e1
      simp at e1 e2
      subst e1; subst e2; exact X
  · rcases List.mem_append.mp hu with hu | hu
    · exact P.tz u hu
    · rw [List.mem_singleton] at hu; subst hu; exact ht
  · obtain ⟨a, b⟩ := P.em j tp e
    refine ⟨?_, b⟩
    rw [List.getElem?_append_left (List.getElem?_eq_some_iff.mp a).1]; exact a
theorem ok_made_text {t : List Nat} (H : Sh Γ ω T th emp thr σ) (ht : t.length ≤ 1048577) (hf : T.length < 100000) (k : MadeK Γ ω T th emp thr σ t Q) : CallOk Γ 7 504 [.ref ω.m, .str (tx t)] σ Q := by
  refine fn_enter (by k_is) (by kernel_rfl) rfl (by walk_at "bind") rfl rfl rfl rfl rfl [("text", .str (tx t)), ("m", .ref ω.m)] rfl ?_
  intro A g L hr
  walk_at "S"
  refine wM_mt H.per.m.rd H.per.md.rd H.per.ok.alloc ?_
  walk_at "S"
  refine wC_fn hr (ok_alloc H fun σ₁ x d sl tp a1 a2 a3 a4 l₁ a6 a7 a8 a9 => ?_)
  walk_at "S"
  refine ⟨le1 rfl, fun tq h1 => ?_⟩
  have l₂ : Le ω.Sn σ (σ₁.set tq (.tup [.int 8, .str (tx t)])) := l₁.trans (.new h1)
  walk_at "S"
  refine wA_ga (.inl (MH.set_new a6 h1)) (.inl (MH.set_new a7 h1)) (by rfl) (by rfl) ?_
  walk_at "S"
  refine wSI_lst (MH.set_new a8 h1) (by decide) (by decide) (by rfl) ?_
  have hsx : sl ≠ x := by rintro rfl; rw [a6] at a8; cases a8
  have hsd : sl ≠ d := by rintro rfl; rw [a7] at a8; cases a8
  have hst : sl ≠ tq := by rintro rfl; rw [a8] at h1; cases h1
  have l₃ : Le ω.Sn σ ((σ₁.set tq (.tup [.int 8, .str (tx t)])).set sl (.lst [.ref tq])) := l₂.set a3
  have b1 : ((σ₁.set tq (.tup [.int 8, .str (tx t)])).set sl (.lst [.ref tq])) x = some (.ins 96 d) := by rw [MH.set_ne hsx.symm]; exact MH.set_new a6 h1
  have b2 : ((σ₁.set tq (.tup [.int 8, .str (tx t)])).set sl (.lst [.ref tq])) d = some (.ns (thf (ad T.length) sl (T.length + 1))) := by rw [MH.set_ne hsd.symm]; exact MH.set_new a7 h1
  have b3 : ((σ₁.set tq (.tup [.int 8, .str (tx t)])).set sl (.lst [.ref tq])) tq = some (.tup [.int 8, .str (tx t)]) := by rw [MH.set_ne hst.symm]; exact MH.set_self
  have b4 : ((σ₁.set tq (.tup [.int 8, .str (tx t)])).set sl (.lst [.ref tq])) sl = some (.lst [.ref tq]) := MH.set_self
  have M : Mu ω (T.length + 1) (th ++ [x]) emp thr ((σ₁.set tq (.tup [.int 8, .str (tx t)])).set sl (.lst [.ref tq])) := a9.le fun a ha o e => by
    rw [MH.set_ne]
    · exact MH.set_new e h1
    · rintro rfl; exact H.per.nw _ (Sn_sub _ ha) a3
  show sq _ _ _ _ _ ((σ₁.set tq (.tup [.int 8, .str (tx t)])).set sl (.lst [.ref tq]))
  generalize (σ₁.set tq (.tup [.int 8, .str (tx t)])).set sl (.lst [.ref tq]) = σ₂ at l₃ b1 b2 b3 b4 M
  walk_at "S"
  refine wA_ga (.inl b1) (.inl b2) (by rfl) (by rfl) ?_
  walk_at "S"
  refine ⟨le1 rfl, fun r hr1 => ?_⟩
  walk_at "S"
  have nS : ∀ a, σ a = none → a ∉ ω.S := fun a e h => H.per.nw a h e
  have htq : tq ∉ ω.S := fun h => (H.nw' l₁ a9) tq h h1
  have X : IsTh Γ ω.S σ₂ x T.length t := ⟨d, sl, tq, .mk (nS _ a1) b1, .mk (nS _ a2) b2, .mk (nS _ a3) b4, .mk htq b3⟩
  have H₂ := H.grow l₃ ht hf M X
  exact k _ x r (l₃.trans (.new hr1)) (H₂.new hr1) (.mk (H₂.notS hr1) MH.set_self)
theorem ok_new_text {t : List Nat} (H : Sh Γ ω T th emp thr σ) (ht : t.length ≤ 1048577) (hf : T.length < 100000) (k : MadeK Γ ω T th emp thr σ t Q) : CallOk Γ 8 443 [.ref ω.m, .str (tx t)] σ Q := by
  refine fn_enter (by k_is) (by kernel_rfl) rfl (by walk_at "bind") rfl rfl rfl rfl rfl [("text", .str (tx t)), ("self", .ref ω.m)] rfl ?_
  intro A g L hr
  walk_at "S"
  refine wC_fn hr (ok_made_text H ht hf fun σ' x r a1 a2 a3 => ?_)
  walk_at "S"
  exact k σ' x r a1 a2 a3

end
section
variable {Γ : Gd} {ω : Om} {T : List (List Nat)} {th : List Addr} {emp : Emp} {thr : List Int} {σ : MH} {Q : V → MH → Prop}
theorem Sh.thing {j : Nat} {t : List Nat} (H : Sh Γ ω T th emp thr σ) (ht : T[j]? = some t) : ∃ a, th[j]? = some a ∧ atf th (ad j) = some (.ref a) ∧ IsTh Γ ω.S σ a j t := by
  have hj := (List.getElem?_eq_some_iff.mp ht).1
  have hj' : j < th.length := by rw [H.per.len]; exact hj
  have e : th[j]? = some th[j] := List.getElem?_eq_getElem hj'
  exact ⟨_, e, by rw [atf_ad, e]; rfl, H.per.tx j _ t e ht⟩
theorem ok_text_held {j : Nat} {t : List Nat} (H : Sh Γ ω T th emp thr σ) (ht : T[j]? = some t) (k : Q (.str (tx t)) σ) : CallOk Γ 1 497 [.ref ω.m, .int (ad j)] σ Q := by
  refine fn_enter (by k_is) (by kernel_rfl) rfl (by walk_at "bind") rfl rfl rfl rfl rfl [("addr", .int (ad j)), ("m", .ref ω.m)] rfl ?_
  intro A g L hr
  obtain ⟨x, e1, e2, X⟩ := H.thing ht
  obtain ⟨d, sl, tp, x1, x2, x3, x4⟩ := X.ex
  obtain ⟨kt, _, eta⟩ := H.mu.ta
  walk_at "S"
  refine wA_ga H.per.m.rd H.per.md.rd H.per.ok.heap rfl ?_
  refine wA_ga H.per.h.rd (.inl H.mu.hd) (by rfl) (by rfl) ?_
  refine wM_get (.inl eta) (.inl ⟨_, _, rfl⟩) ?_
  walk_at "S"
  refine wC_getI (.inl eta) H.per.ok.tam ?_
  rw [e2, Option.getD_some]
  walk_at "S"
  walk_at "ite"
  walk_at "S"
  refine wA_ga x1.rd x2.rd (by rfl) (by rfl) ?_
  walk_at "S"
  walk_at "ite"
  walk_at "S"
  walk_at "ite"
  walk_at "S"
  refine wA_ga x1.rd x2.rd (by rfl) (by rfl) ?_
  walk_at "S"
  refine wI_lst x3.rd (by decide) (by decide) (by rfl) (by rfl) ?_
  walk_at "S"
  refine wI_tup x4.rd (by decide) (by decide) (by rfl) (by rfl) ?_
  walk_at "S"
  exact k
theorem ok_text_of {j : Nat} {t : List Nat} (H : Sh Γ ω T th emp thr σ) (ht : T[j]? = some t) (k : Q (.str (tx t)) σ) : CallOk Γ 2 429 [.ref ω.m, .int (ad j)] σ Q := by
  refine fn_enter (by k_is) (by kernel_rfl) rfl (by walk_at "bind") rfl rfl rfl rfl rfl [("addr", .int (ad j)), ("self", .ref ω.m)] rfl ?_
  intro A g L hr
  walk_at "S"
  refine wC_fn hr (ok_text_held H ht ?_)
  walk_at "S"
  exact k
/-- what a value of the machine names -/
def Arg (T : List (List Nat)) (a : Int) (o : Option (List Nat)) : Prop := (a = 0 ∧ o = none) ∨ ∃ j t, a = ad j ∧ T[j]? = some t ∧ o = some t
def ov : Option (List Nat) → V
  | none => .none
  | some t => .str (tx t)
theorem ok_text_at {r : Addr} {w : V} {a : Int} {o : Option (List Nat)} (H : Sh Γ ω T th emp thr σ) (hv : Rd Γ σ r (.tup [w, .int a])) (ha : Arg T a o) (k : Q (ov o) σ) : CallOk Γ 3 532 [.ref ω.m, .ref r] σ Q := by
  have hr' := hv
  refine fn_enter (by k_is) (by kernel_rfl) rfl (by walk_at "bind") rfl rfl rfl rfl rfl [("value", .ref r), ("m", .ref ω.m)] rfl ?_
  intro A g L hr
  walk_at "S"
  refine wI_tup hr' (by decide) (by decide) (by rfl) (by rfl) ?_
  walk_at "S"
  rcases ha with ⟨rfl, rfl⟩ | ⟨j, t, rfl, ht, rfl⟩
  · walk_at "ite"
    walk_at "S"
    exact k
  · refine ite_f (by have := ad_lo j; simp; (first | lia | omega)) ?_
    walk_at "S"
    refine wM_mt H.per.m.rd H.per.md.rd H.per.ok.text_of ?_
    walk_at "S"
    refine wI_tup hr' (by decide) (by decide) (by rfl) (by rfl) ?_
    walk_at "S"
    refine wC_fn hr (ok_text_of H ht ?_)
    walk_at "S"
    exact k
theorem ok_thing_named {r : Addr} {w : V} {a : Int} (H : Sh Γ ω T th emp thr σ) (hv : Rd Γ σ r (.tup [w, .int a])) (k : Q ((atf th a).getD .none) σ) : CallOk Γ 1 525 [.ref ω.m, .ref r] σ Q := by
  have hr' := hv
  refine fn_enter (by k_is) (by kernel_rfl) rfl (by walk_at "bind") rfl rfl rfl rfl rfl [("value", .ref r), ("m", .ref ω.m)] rfl ?_
  intro A g L hr
  obtain ⟨kt, _, eta⟩ := H.mu.ta
  walk_at "S"
  refine wA_ga H.per.m.rd H.per.md.rd H.per.ok.heap rfl ?_
  refine wA_ga H.per.h.rd (.inl H.mu.hd) (by rfl) (by rfl) ?_
  refine wM_get (.inl eta) (.inl ⟨_, _, rfl⟩) ?_
  walk_at "S"
  refine wI_tup hr' (by decide) (by decide) (by rfl) (by rfl) ?_
  walk_at "S"
  refine wC_getI (.inl eta) H.per.ok.tam ?_
  walk_at "S"
  exact k
theorem ok_bool_value {b : Bool} (k : ∀ r, σ r = none → Q (.ref r) (σ.set r (.tup [.int 1, .int (if b then 1 else 0)]))) : CallOk Γ 1 518 [.bool b] σ Q := by
  refine fn_enter (by k_is) (by kernel_rfl) rfl (by walk_at "bind") rfl rfl rfl rfl rfl [("yes", .bool b)] rfl ?_
  intro A g L hr
  walk_at "S"
  cases b
  · walk_at "ite"
    walk_at "S"
    refine ⟨le1 rfl, fun r h1 => ?_⟩
    walk_at "S"
    exact k r h1
  · walk_at "ite"
    walk_at "S"
    refine ⟨le1 rfl, fun r h1 => ?_⟩
    walk_at "S"
    exact k r h1
theorem ok_note_thrown {i : Int} (H : Sh Γ ω T th emp thr σ) (hz : thr.length ≤ 1000) (k : ∀ σ', Le ω.Sn σ σ' → Sh Γ ω T th emp (thr ++ [i]) σ' → Q (.int (-2)) σ') : CallOk Γ 1 455 [.ref ω.m, .int i] σ Q := by
  refine fn_enter (by k_is) (by kernel_rfl) rfl (by walk_at "bind") rfl rfl rfl rfl rfl [("tid", .int i), ("m", .ref ω.m)] rfl ?_
  intro A g L hr
  walk_at "S"
  refine wA_ga H.per.m.rd H.per.md.rd H.per.ok.state rfl ?_
  walk_at "S"
  walk_at "ite"
  walk_at "S"
  refine wA_ga H.per.m.rd H.per.md.rd H.per.ok.thrown rfl ?_
  refine wM_append (.inl H.mu.thr) ?_
  walk_at "S"
  refine wC_append H.mu.thr (by simp; (first | lia | omega)) ?_
  refine ⟨rfl, ?_⟩
  have l : Le ω.Sn σ (σ.set ω.thr (.lst (thr.map .int ++ [.int i]))) := .at (by simp [Om.Sn])
  have nd := H.per.ok.nd
  simp only [Om.S, List.nodup_cons, List.mem_cons, not_or] at nd
  have M : Mu ω T.length th emp (thr ++ [i]) (σ.set ω.thr (.lst (thr.map .int ++ [.int i]))) := by
    obtain ⟨kt, h1, eta⟩ := H.mu.ta
    obtain ⟨kd, h2, ed⟩ := H.mu.itd
    refine ⟨?_, ?_, ⟨kt, h1, ?_⟩, ?_, ⟨kd, h2, ?_⟩, ?_⟩
    · rw [MH.set_ne nd.1.2.2.1]; exact H.mu.hd
    · rw [MH.set_ne nd.2.1.2.1]; exact H.mu.things
    · rw [MH.set_ne nd.2.2.1.1]; exact eta
    · rw [MH.set_self, List.map_append]; rfl
    · rw [MH.set_ne (Ne.symm nd.2.2.2.1.1)]; exact ed
    · rw [MH.set_ne (Ne.symm nd.2.2.2.1.2.1)]; exact H.mu.itv
  have H' : Sh Γ ω T th emp (thr ++ [i]) (σ.set ω.thr (.lst (thr.map .int ++ [.int i]))) := ⟨H.per.le l.nS (H.nw' l M), M, H.few⟩
  show sq _ _ _ _ _ (σ.set ω.thr (.lst (thr.map .int ++ [.int i])))
  generalize σ.set ω.thr (.lst (thr.map .int ++ [.int i])) = σ' at l H'
  walk_at "S"
  exact k _ l H'
theorem ok_throw_new {i : Int} {x : V} (H : Sh Γ ω T th emp thr σ) (hz : thr.length ≤ 1000) (k : ∀ σ', Le ω.Sn σ σ' → Sh Γ ω T th emp (thr ++ [i]) σ' → Q (.int (-2)) σ') : CallOk Γ 2 366 [.ref ω.m, .int i, x] σ Q := by
  refine fn_enter (by k_is) (by kernel_rfl) rfl (by walk_at "bind") rfl rfl rfl rfl rfl [("text", x), ("tid", .int i), ("self", .ref ω.m)] rfl ?_
  intro A g L hr
  walk_at "S"
  refine wC_fn hr (ok_note_thrown H hz fun σ' l H' => ?_)
  walk_at "S"
  exact k _ l H'
theorem ok_bad_argument {i : Int} {x : V} (H : Sh Γ ω T th emp thr σ) (hz : thr.length ≤ 1000) (k : ∀ σ', Le ω.Sn σ σ' → Sh Γ ω T th emp (thr ++ [i]) σ' → Q (.int (-2)) σ') : CallOk Γ 3 546 [.ref ω.m, .int i, x] σ Q := by
  refine fn_enter (by k_is) (by kernel_rfl) rfl (by walk_at "bind") rfl rfl rfl rfl rfl [("text", x), ("tid", .int i), ("m", .ref ω.m)] rfl ?_
  intro A g L hr
  walk_at "S"
  refine wM_mt H.per.m.rd H.per.md.rd H.per.ok.throw_new ?_
  walk_at "S"
  refine wC_fn hr (ok_throw_new H hz fun σ' l H' => ?_)
  refine ⟨rfl, ?_⟩
  walk_at "S"
  exact k _ l H'
end
theorem tx_nil : tx [] = ("" : Str) := rfl
theorem tx_emp {t : List Nat} : tx t = ("" : Str) ↔ t = [] := ⟨fun h => by rw [← tx_nil] at h; exact tx_inj.mp h, fun h => by subst h; rfl⟩
section
variable {Γ : Gd} {ω : Om} {T : List (List Nat)} {th : List Addr} {emp : Emp} {thr : List Int} {σ : MH} {Q : V → MH → Prop}
def VoidK (Γ : Gd) (ω : Om) (T : List (List Nat)) (th : List Addr) (emp : Emp) (thr : List Int) (σ : MH) (Q : V → MH → Prop) : Prop :=
  (∀ j r, emp = some (j, r) → Q (.ref r) σ) ∧ (emp = none → ∀ σ' x r, Le ω.Sn σ σ' → Sh Γ ω (T ++ [[]]) (th ++ [x]) (some (T.length, r)) thr σ' → Q (.ref r) σ')
theorem ok_interned (H : Sh Γ ω T th emp thr σ) (hf : T.length < 100000) (k : VoidK Γ ω T th emp thr σ Q) : CallOk Γ 9 511 [.ref ω.m, .str (tx [])] σ Q := by
  refine fn_enter (by k_is) (by kernel_rfl) rfl (by walk_at "bind") rfl rfl rfl rfl rfl [("text", .str (tx [])), ("m", .ref ω.m)] rfl ?_
  intro A g L hr
  obtain ⟨kd, hkd, ed⟩ := H.mu.itd
  walk_at "S"
  refine wA_ga H.per.m.rd H.per.md.rd H.per.ok.interned rfl ?_
  refine wM_get (.inl ed) (.inr ⟨_, _, rfl⟩) ?_
  walk_at "S"
  refine ⟨_, rfl, ?_⟩
  walk_at "S"
  refine wC_getS2 (.inl ed) H.per.ok.itm ?_
  cases emp with
  | some p =>
    obtain ⟨j, r⟩ := p
    rw [show itf (some (j, r)) (tx []) = some (.int 0) from by simp [itf, tx_nil], Option.getD_some]
    walk_at "S"
    walk_at "ite"
    walk_at "S"
    refine wA_ga H.per.m.rd H.per.md.rd H.per.ok.internv rfl ?_
    walk_at "S"
    refine wI_lst (.inl H.mu.itv) (by decide) (by decide) (by rfl) (by rfl) ?_
    walk_at "S"
    exact k.1 _ _ rfl
  | none =>
    rw [show itf none (tx []) = none from by simp [itf], Option.getD_none]
    walk_at "S"
    walk_at "ite"
    walk_at "S"
    refine wM_mt H.per.m.rd H.per.md.rd H.per.ok.new_text ?_
    walk_at "S"
    refine wC_fn hr (ok_new_text H (by simp) hf fun σ₁ x r l₁ H₁ hr₁ => ?_)
    obtain ⟨kd, hkd, ed⟩ := H₁.mu.itd
    have nd := H₁.per.ok.nd
    simp only [Om.S, List.nodup_cons, List.mem_cons, not_or] at nd
    have C : Cells [(ω.itd, .dcS kd (itf none)), (ω.itv, .lst [])] σ₁ := ⟨by simp [nd.2.2.2.2.1.1], fun p hp => by
      simp only [List.mem_cons, List.not_mem_nil, or_false] at hp
      rcases hp with rfl | rfl
      · exact ed
      · exact H₁.mu.itv⟩
    have l₂ : Le [ω.itd, ω.itv] σ₁ σ₁ := .refl
    have up : ∀ a, a ∈ [ω.itd, ω.itv] → a ∈ ω.Sn := by intro a ha; simp only [List.mem_cons, List.not_mem_nil, or_false] at ha; rcases ha with rfl | rfl <;> simp [Om.Sn]
    walk_at "S"
    refine wA_ga H₁.per.m.rd H₁.per.md.rd H₁.per.ok.internv rfl ?_
    walk_at "S"
    refine wC_len_lst (.inl (C.get 1 rfl)) (by simp) ?_
    walk_at "S"
    refine wA_ga H₁.per.m.rd H₁.per.md.rd H₁.per.ok.interned rfl ?_
    walk_at "S"
    refine C.dcS 0 rfl (by simp at hkd; (first | lia | omega)) l₂ (.inl (by simp)) ?_; clear C l₂; intro σ₂ C l₂
    walk_at "S"
    refine wA_ga (H₁.per.m.le (l₂.mono up).nS).rd (H₁.per.md.le (l₂.mono up).nS).rd H₁.per.ok.internv rfl ?_
    refine wM_append (.inl (C.get 1 rfl)) ?_
    walk_at "S"
    refine C.app 1 rfl (by simp) l₂ (.inl (by simp)) ?_; clear C l₂; intro σ₂ C l₂
    refine ⟨rfl, ?_⟩
    walk_at "S"
    have M : Mu ω (T ++ [[]]).length (th ++ [x]) (some (T.length, r)) thr σ₂ := by
      obtain ⟨kt, h1, eta⟩ := H₁.mu.ta
      refine ⟨l₂ _ _ (by simp [nd.1.2.2.2.1, nd.1.2.2.2.2.1]) H₁.mu.hd, l₂ _ _ (by simp [nd.2.1.2.2.1, nd.2.1.2.2.2.1]) H₁.mu.things, ⟨kt, h1, l₂ _ _ (by simp [nd.2.2.1.2.1, nd.2.2.1.2.2.1]) eta⟩, l₂ _ _ (by simp [nd.2.2.2.1.1, nd.2.2.2.1.2.1]) H₁.mu.thr, ⟨kd + 1, ?_, ?_⟩, C.get 1 rfl⟩
      · simp at hkd; subst hkd; simp
      · refine (C.get 0 rfl).trans ?_
        congr 2
        funext k
        by_cases hk : k = ("" : Str) <;> simp [itf, tx_nil, hk]
    have P := H₁.per.le (l₂.mono up).nS (H₁.nw' (l₂.mono up) M)
    refine k.2 rfl _ x r (l₁.trans (l₂.mono up)) ⟨⟨P.ok, P.m, P.md, P.h, P.sw, P.swd, P.told, P.nat, P.natk, P.len, P.tx, P.tz, fun j tp e => ?_, P.nw⟩, M, H₁.few⟩
    cases e
    exact ⟨by simp, hr₁.le (l₂.mono up).nS⟩
theorem ok_text_ref (H : Sh Γ ω T th emp thr σ) (hf : T.length < 100000) (k : VoidK Γ ω T th emp thr σ Q) : CallOk Γ 10 436 [.ref ω.m, .str (tx [])] σ Q := by
  refine fn_enter (by k_is) (by kernel_rfl) rfl (by walk_at "bind") rfl rfl rfl rfl rfl [("text", .str (tx [])), ("self", .ref ω.m)] rfl ?_
  intro A g L hr
  walk_at "S"
  refine wC_fn hr (ok_interned H hf ⟨fun j r e => ?_, fun e σ' x r l H' => ?_⟩)
  · walk_at "S"
    exact k.1 j r e
  · walk_at "S"
    exact k.2 e σ' x r l H'

/-- the text of a value, the empty one for none -/
abbrev tt (o : Option (List Nat)) : List Nat := o.getD []
theorem Arg.le {a : Int} {o : Option (List Nat)} (h : Arg T a o) (hz : ∀ t ∈ T, t.length ≤ 1048577) : (tt o).length ≤ 1048577 := by
  rcases h with ⟨rfl, rfl⟩ | ⟨j, t, rfl, ht, rfl⟩
  · simp
  · exact hz t (List.mem_of_getElem? ht)

theorem wT_empty {c : Cx} {m : Lc} {x : Str} {p1 p2 p3 p4 p5 p6 pos : Pos} {k1 k2 : Nat} {o : Option (List Nat)} {Q : Bool → MH → Prop} (hl : m.lookup x = some (ov o)) (hk : c.sc.kind = .function) (hn : (envOf c.q c.sc c.L c.a c.cd).kindOf x = some .local) (hd : (x == ("__debug__" : Str)) = false)
    (h : Q (tt o).isEmpty σ) : wT c (.BoolOp .Or [.Compare (.Name x p1) [.Is] [.Constant .none k1 p2] p3, .Compare (.Name x p4) [.Eq] [.Constant (.str "") k2 p5] p6] pos) m σ Q := by
  refine wT_bool (wTB_or (wT_cmp (wE_local hl ?_ hk hn hd) (by with_unfolding_all rfl)))
  refine wE_none (wCmp_is (wTr_bool ?_))
  cases o with
  | none => exact ite_T rfl h
  | some t =>
    refine ite_F rfl (wTB_or (wT_cmp (wE_local hl ?_ hk hn hd) (by with_unfolding_all rfl)))
    refine wE_str (wCmp_eqS (wTr_bool ?_))
    cases t with
    | nil => exact ite_t (by simp [tx_emp]) h
    | cons y r => exact ite_f (by simp [tx_emp]) (wTB_or0 h)
end
local macro_rules | `(tactic| walk_at "s") => `(tactic| ((with_reducible refine' wT_empty ?h1 ?h2 ?h3 ?h4 ?_); (case h1 => walk_at "lk"); (case h2 => rfl); (case h3 => rfl); (case h4 => decide)))
section
variable {Γ : Gd} {ω : Om} {T : List (List Nat)} {th : List Addr} {emp : Emp} {thr : List Int} {σ : MH} {Q : V → MH → Prop}
theorem ok_concat {kk L p q : Addr} {a b : Int} {o₁ o₂ : Option (List Nat)} (H : Sh Γ ω T th emp thr σ) (hz : thr.length ≤ 1000) (hf : T.length < 100000)
    (hL : Rd Γ σ L (.lst [.ref p, .ref q])) (hp : Rd Γ σ p (.tup [.int 4, .int a])) (hq : Rd Γ σ q (.tup [.int 4, .int b])) (ha : Arg T a o₁) (hb : Arg T b o₂)
    (k1 : tt o₁ = [] → tt o₂ = [] → VoidK Γ ω T th emp thr σ Q) (k2 : tt o₁ = [] → tt o₂ ≠ [] → Q (.ref q) σ) (k3 : tt o₁ ≠ [] → tt o₂ = [] → Q (.ref p) σ)
    (k4 : tt o₁ ≠ [] → tt o₂ ≠ [] → 1048576 < (tt o₁).length + (tt o₂).length → ∀ σ', Le ω.Sn σ σ' → Sh Γ ω T th emp (thr ++ [30]) σ' → Q (.int (-2)) σ')
    (k5 : tt o₁ ≠ [] → tt o₂ ≠ [] → (tt o₁).length + (tt o₂).length ≤ 1048576 → MadeK Γ ω T th emp thr σ (tt o₁ ++ tt o₂) Q) :
    CallOk Γ 11 567 [.ref kk, .ref ω.m, .none, .ref L] σ Q := by
  have la := ha.le H.per.tz
  have lb := hb.le H.per.tz
  refine fn_enter (by k_is) (by kernel_rfl) rfl (by walk_at "bind") rfl rfl rfl rfl rfl [("args", .ref L), ("f", .none), ("m", .ref ω.m), ("self", .ref kk)] rfl ?_
  intro A g L' hr
  walk_at "S"
  refine wI_lst hL (by decide) (by decide) (by rfl) (by rfl) ?_
  walk_at "S"
  refine wC_fn hr ((ok_text_at H hp ha ?_).less (by decide))
  walk_at "S"
  refine wI_lst hL (by decide) (by decide) (by rfl) (by rfl) ?_
  walk_at "S"
  refine wC_fn hr ((ok_text_at H hq hb ?_).less (by decide))
  walk_at "S"
  by_cases e1 : tt o₁ = []
  · refine ite_t (by simp [e1]) ?_
    walk_at "S"
    by_cases e2 : tt o₂ = []
    · refine ite_t (by simp [e2]) ?_
      walk_at "S"
      refine wM_mt H.per.m.rd H.per.md.rd H.per.ok.text_ref ?_
      walk_at "S"
      refine wC_fn hr (ok_text_ref H hf ⟨fun j r e => ?_, fun e σ' x r l H' => ?_⟩)
      · walk_at "S"
        exact (k1 e1 e2).1 j r e
      · walk_at "S"
        exact (k1 e1 e2).2 e σ' x r l H'
    · refine ite_f (by simp [e2]) ?_
      walk_at "S"
      refine wI_lst hL (by decide) (by decide) (by rfl) (by rfl) ?_
      walk_at "S"
      exact k2 e1 e2
  · refine ite_f (by simp [e1]) ?_
    walk_at "S"
    obtain ⟨s, rfl⟩ : ∃ s, o₁ = some s := by cases o₁ with | none => simp at e1 | some s => exact ⟨s, rfl⟩
    by_cases e2 : tt o₂ = []
    · refine ite_t (by simp [e2]) ?_
      walk_at "S"
      refine wI_lst hL (by decide) (by decide) (by rfl) (by rfl) ?_
      walk_at "S"
      exact k3 e1 e2
    · refine ite_f (by simp [e2]) ?_
      obtain ⟨t, rfl⟩ : ∃ s, o₂ = some s := by cases o₂ with | none => simp at e2 | some s => exact ⟨s, rfl⟩
      simp only [tt, Option.getD_some] at la lb
      walk_at "S"
      refine wC_len_str (by rw [tx_len]; (first | lia | omega)) ?_
      walk_at "S"
      refine wC_len_str (by rw [tx_len]; (first | lia | omega)) ?_
      walk_at "S"
      rw [tx_len, tx_len]
      by_cases e3 : 1048576 < s.length + t.length
      · refine ite_t (by simp; (first | lia | omega)) ?_
        walk_at "S"
        refine wC_fn hr ((ok_bad_argument H hz fun σ' l H' => ?_).less (by decide))
        walk_at "S"
        exact k4 e1 e2 e3 σ' l H'
      · refine ite_f (by simp; (first | lia | omega)) ?_
        walk_at "S"
        refine wM_mt H.per.m.rd H.per.md.rd H.per.ok.new_text ?_
        walk_at "S"
        refine wB_addT (by first | lia | omega) ?_
        walk_at "S"
        refine wC_fn hr ((ok_new_text H (by simp; (first | lia | omega)) hf fun σ' x r l H' hr' => ?_).less (by decide))
        walk_at "S"
        exact k5 e1 e2 (by simp; (first | lia | omega)) σ' x r l H' hr'
end
theorem seqIndex_nat {n l : Nat} (h : n < l) : seqIndex? (n : Int) l = some n := by
  unfold seqIndex?
  have h1 : ¬ ((n : Int) < 0) := by first | lia | omega
  simp [h1, h]
section
variable {c : Cx} {m : Lc} {σ : MH}
theorem seqIndex_get {n : Nat} {vs : List V} {v : V} (h : vs[n]? = some v) : seqIndex? (n : Int) vs.length = some n := seqIndex_nat (List.getElem?_eq_some_iff.mp h).1
theorem natLo (n : Nat) : -(2 ^ 63) ≤ (n : Int) := Int.le_trans (by decide) (Int.natCast_nonneg n)
theorem natHi {n : Nat} (h : n ≤ 2000000) : (n : Int) < 2 ^ 63 := Int.lt_of_le_of_lt (Int.ofNat_le.mpr h) (by decide)
theorem wI_tupN {n : Nat} {a : Addr} {vs : List V} {v : V} {Q : V → MH → Prop} (r : Rd c.Γ σ a (.tup vs)) (hn : n ≤ 2000000) (hv : vs[n]? = some v) (h : Q v σ) : wI c (.ref a) (.int n) m σ Q :=
  wI_tup r (natLo n) (natHi hn) (seqIndex_get hv) hv h
theorem wI_lstN {n : Nat} {a : Addr} {vs : List V} {v : V} {Q : V → MH → Prop} (r : Rd c.Γ σ a (.lst vs)) (hn : n ≤ 2000000) (hv : vs[n]? = some v) (h : Q v σ) : wI c (.ref a) (.int n) m σ Q :=
  wI_lst r (natLo n) (natHi hn) (seqIndex_get hv) hv h
end
section
variable {Γ : Gd} {ω : Om} {T : List (List Nat)} {th : List Addr} {emp : Emp} {thr : List Int} {σ : MH} {Q : V → MH → Prop}
theorem ok_length {kk L p : Addr} {j : Nat} {s : List Nat} (H : Sh Γ ω T th emp thr σ) (hL : Rd Γ σ L (.lst [.ref p])) (hp : Rd Γ σ p (.tup [.int 4, .int (ad j)])) (hj : T[j]? = some s)
    (k : ∀ r, σ r = none → Q (.ref r) (σ.set r (.tup [.int 1, .int s.length]))) : CallOk Γ 4 586 [.ref kk, .ref ω.m, .none, .ref L] σ Q := by
  have ls := H.per.tz s (List.mem_of_getElem? hj)
  refine fn_enter (by k_is) (by kernel_rfl) rfl (by walk_at "bind") rfl rfl rfl rfl rfl [("args", .ref L), ("f", .none), ("m", .ref ω.m), ("self", .ref kk)] rfl ?_
  intro A g L' hr
  walk_at "S"
  refine wI_lst hL (by decide) (by decide) (by rfl) (by rfl) ?_
  walk_at "S"
  refine wC_fn hr ((ok_text_at H hp (.inr ⟨j, s, rfl, hj, rfl⟩) ?_).less (by decide))
  walk_at "S"
  walk_at "ite"
  walk_at "S"
  refine wC_len_str (by rw [tx_len]; (first | lia | omega)) ?_
  rw [tx_len]
  walk_at "S"
  refine ⟨le1 rfl, fun r h1 => ?_⟩
  walk_at "S"
  exact k r h1
theorem ok_chars {kk L p q : Addr} {j : Nat} {i : Int} {s : List Nat} {w : V} (H : Sh Γ ω T th emp thr σ) (hz : thr.length ≤ 1000) (hL : Rd Γ σ L (.lst [.ref p, .ref q])) (hp : Rd Γ σ p (.tup [.int 4, .int (ad j)])) (hq : Rd Γ σ q (.tup [w, .int i])) (hj : T[j]? = some s)
    (k1 : i < 0 ∨ (s.length : Int) ≤ i → ∀ σ', Le ω.Sn σ σ' → Sh Γ ω T th emp (thr ++ [22]) σ' → Q (.int (-2)) σ')
    (k2 : ∀ (n u : Nat), i = n → s[n]? = some u → ∀ r, σ r = none → Q (.ref r) (σ.set r (.tup [.int 1, .int u]))) : CallOk Γ 4 605 [.ref kk, .ref ω.m, .none, .ref L] σ Q := by
  have ls := H.per.tz s (List.mem_of_getElem? hj)
  refine fn_enter (by k_is) (by kernel_rfl) rfl (by walk_at "bind") rfl rfl rfl rfl rfl [("args", .ref L), ("f", .none), ("m", .ref ω.m), ("self", .ref kk)] rfl ?_
  intro A g L' hr
  walk_at "S"
  refine wI_lst hL (by decide) (by decide) (by rfl) (by rfl) ?_
  walk_at "S"
  refine wC_fn hr ((ok_text_at H hp (.inr ⟨j, s, rfl, hj, rfl⟩) ?_).less (by decide))
  walk_at "S"
  walk_at "ite"
  walk_at "S"
  refine wI_lst hL (by decide) (by decide) (by rfl) (by rfl) ?_
  walk_at "S"
  refine wI_tup hq (by decide) (by decide) (by rfl) (by rfl) ?_
  walk_at "S"
  by_cases h0 : i < 0
  · refine ite_t (by simp [h0]) ?_
    walk_at "ite"
    walk_at "S"
    refine wC_fn hr ((ok_bad_argument H hz fun σ' l H' => ?_).less (by decide))
    walk_at "S"
    exact k1 (.inl h0) σ' l H'
  · refine ite_f (by simp [h0]) ?_
    walk_at "S"
    refine wC_len_str (by rw [tx_len]; (first | lia | omega)) ?_
    rw [tx_len]
    walk_at "S"
    by_cases h1 : (s.length : Int) ≤ i
    · refine ite_t (by simp [h1]) ?_
      walk_at "ite"
      walk_at "S"
      refine wC_fn hr ((ok_bad_argument H hz fun σ' l H' => ?_).less (by decide))
      walk_at "S"
      exact k1 (.inr h1) σ' l H'
    · refine ite_f (by simp [h1]) ?_
      walk_at "S"
      walk_at "ite"
      walk_at "S"
      obtain ⟨n, rfl⟩ : ∃ n : Nat, i = n := ⟨i.toNat, by first | lia | omega⟩
      have hn : n < s.length := by first | lia | omega
      refine wI_str (by first | lia | omega) (by first | lia | omega) (j := n) (u := s[n]) (seqIndex_nat hn) (List.getElem?_eq_getElem hn) ?_
      walk_at "S"
      refine wC_ord ?_
      walk_at "S"
      refine ⟨le1 rfl, fun r h1 => ?_⟩
      walk_at "S"
      exact k2 n s[n] rfl (List.getElem?_eq_getElem hn) r h1
theorem ok_same {kk L p q : Addr} {a b : Int} {o₁ o₂ : Option (List Nat)} (H : Sh Γ ω T th emp thr σ) (hL : Rd Γ σ L (.lst [.ref p, .ref q])) (hp : Rd Γ σ p (.tup [.int 4, .int a])) (hq : Rd Γ σ q (.tup [.int 4, .int b])) (ha : Arg T a o₁) (hb : Arg T b o₂)
    (k : ∀ r, σ r = none → Q (.ref r) (σ.set r (.tup [.int 1, .int (if decide (a = b) || decide (∃ s, o₁ = some s ∧ o₂ = some s) then 1 else 0)]))) : CallOk Γ 4 624 [.ref kk, .ref ω.m, .none, .ref L] σ Q := by
  refine fn_enter (by k_is) (by kernel_rfl) rfl (by walk_at "bind") rfl rfl rfl rfl rfl [("args", .ref L), ("f", .none), ("m", .ref ω.m), ("self", .ref kk)] rfl ?_
  intro A g L' hr
  walk_at "S"
  refine wI_lst hL (by decide) (by decide) (by rfl) (by rfl) ?_
  walk_at "S"
  refine wI_tup hp (by decide) (by decide) (by rfl) (by rfl) ?_
  walk_at "S"
  refine wI_lst hL (by decide) (by decide) (by rfl) (by rfl) ?_
  walk_at "S"
  refine wI_tup hq (by decide) (by decide) (by rfl) (by rfl) ?_
  walk_at "S"
  by_cases e : a = b
  · refine ite_t (by simp [e]) ?_
    walk_at "S"
    refine wC_fn hr ((ok_bool_value fun r h1 => ?_).less (by decide))
    walk_at "S"
    simpa [e, ov, V.isN] using k r h1
  · refine ite_f (by simp [e]) ?_
    walk_at "S"
    refine wI_lst hL (by decide) (by decide) (by rfl) (by rfl) ?_
    walk_at "S"
    refine wC_fn hr (ok_text_at H hp ha ?_)
    walk_at "S"
    refine wI_lst hL (by decide) (by decide) (by rfl) (by rfl) ?_
    walk_at "S"
    refine wC_fn hr (ok_text_at H hq hb ?_)
    walk_at "S"
    cases o₁ with
    | none =>
      walk_at "ite"
      walk_at "S"
      refine wC_fn hr ((ok_bool_value fun r h1 => ?_).less (by decide))
      walk_at "S"
      simpa [e, ov, V.isN] using k r h1
    | some s =>
      walk_at "ite"
      walk_at "S"
      cases o₂ with
      | none =>
        walk_at "ite"
        walk_at "S"
        refine wC_fn hr ((ok_bool_value fun r h1 => ?_).less (by decide))
        walk_at "S"
        simpa [e, ov, V.isN] using k r h1
      | some t =>
        walk_at "ite"
        walk_at "S"
        refine wCmp_eqT ?_
        walk_at "S"
        refine wC_fn hr ((ok_bool_value fun r h1 => ?_).less (by decide))
        walk_at "S"
        have := k r h1
        by_cases e2 : s = t
        · subst e2; simpa [e] using this
        · simpa [e, e2, Ne.symm e2] using this
theorem atf_zero : atf th 0 = none := by simp [atf]
theorem ok_equals {kk L p q : Addr} {j : Nat} {b : Int} {s : List Nat} {o₂ : Option (List Nat)} (H : Sh Γ ω T th emp thr σ) (hL : Rd Γ σ L (.lst [.ref p, .ref q])) (hp : Rd Γ σ p (.tup [.int 4, .int (ad j)])) (hq : Rd Γ σ q (.tup [.int 4, .int b])) (hj : T[j]? = some s) (hb : Arg T b o₂)
    (k : ∀ r, σ r = none → Q (.ref r) (σ.set r (.tup [.int 1, .int (if decide (o₂ = some s) then 1 else 0)]))) : CallOk Γ 4 643 [.ref kk, .ref ω.m, .none, .ref L] σ Q := by
  refine fn_enter (by k_is) (by kernel_rfl) rfl (by walk_at "bind") rfl rfl rfl rfl rfl [("args", .ref L), ("f", .none), ("m", .ref ω.m), ("self", .ref kk)] rfl ?_
  intro A g L' hr
  walk_at "S"
  refine wI_lst hL (by decide) (by decide) (by rfl) (by rfl) ?_
  walk_at "S"
  refine wC_fn hr (ok_text_at H hp (.inr ⟨j, s, rfl, hj, rfl⟩) ?_)
  walk_at "S"
  walk_at "ite"
  walk_at "S"
  refine wI_lst hL (by decide) (by decide) (by rfl) (by rfl) ?_
  walk_at "S"
  refine wC_fn hr ((ok_thing_named H hq ?_).less (by decide))
  rcases hb with ⟨rfl, rfl⟩ | ⟨i, t, rfl, ht, rfl⟩
  · rw [atf_zero, Option.getD_none]
    walk_at "S"
    walk_at "ite"
    walk_at "ite"
    walk_at "S"
    refine wC_fn hr ((ok_bool_value fun r h1 => ?_).less (by decide))
    walk_at "S"
    simpa using k r h1
  · obtain ⟨x, e1, e2, X⟩ := H.thing ht
    obtain ⟨d, sl, tp, x1, x2, x3, x4⟩ := X.ex
    rw [e2, Option.getD_some]
    walk_at "S"
    walk_at "ite"
    walk_at "S"
    refine wA_ga x1.rd x2.rd (by rfl) (by rfl) ?_
    walk_at "S"
    walk_at "ite"
    walk_at "S"
    walk_at "ite"
    walk_at "S"
    refine wM_mt H.per.m.rd H.per.md.rd H.per.ok.text_of ?_
    walk_at "S"
    refine wA_ga x1.rd x2.rd (by rfl) (by rfl) ?_
    walk_at "S"
    refine wC_fn hr ((ok_text_of H ht ?_).less (by decide))
    refine wCmp_eqT ?_
    walk_at "S"
    refine wC_fn hr ((ok_bool_value fun r h1 => ?_).less (by decide))
    walk_at "S"
    have := k r h1
    by_cases e2 : s = t
    · subst e2; simpa using this
    · simpa [e2, Ne.symm e2] using this
end
def cmpO (s : List Nat) : Option (List Nat) → Int
  | none => 1
  | some t => if t < s then 1 else if s < t then -1 else 0
section
variable {Γ : Gd} {ω : Om} {T : List (List Nat)} {th : List Addr} {emp : Emp} {thr : List Int} {σ : MH} {Q : V → MH → Prop}
theorem ok_part {kk L p q r : Addr} {j : Nat} {first count : Int} {s : List Nat} {w₁ w₂ : V} (H : Sh Γ ω T th emp thr σ) (hz : thr.length ≤ 1000) (hf : T.length < 100000) (hL : Rd Γ σ L (.lst [.ref p, .ref q, .ref r]))
    (hp : Rd Γ σ p (.tup [.int 4, .int (ad j)])) (hq : Rd Γ σ q (.tup [w₁, .int first])) (hr' : Rd Γ σ r (.tup [w₂, .int count])) (hj : T[j]? = some s)
    (k1 : first < 0 ∨ count < 0 ∨ (s.length : Int) < first + count → ∀ σ', Le ω.Sn σ σ' → Sh Γ ω T th emp (thr ++ [32]) σ' → Q (.int (-2)) σ')
    (k2 : 0 ≤ first → count = 0 → first ≤ s.length → VoidK Γ ω T th emp thr σ Q)
    (k3 : first = 0 → count = s.length → count ≠ 0 → Q (.ref p) σ)
    (k4 : 0 ≤ first → 0 < count → first + count ≤ s.length → count ≠ s.length → MadeK Γ ω T th emp thr σ ((s.drop first.toNat).take count.toNat) Q) :
    CallOk Γ 11 681 [.ref kk, .ref ω.m, .none, .ref L] σ Q := by
  have ls := H.per.tz s (List.mem_of_getElem? hj)
  refine fn_enter (by k_is) (by kernel_rfl) rfl (by walk_at "bind") rfl rfl rfl rfl rfl [("args", .ref L), ("f", .none), ("m", .ref ω.m), ("self", .ref kk)] rfl ?_
  intro A g L' hr
  walk_at "S"
  refine wI_lst hL (by decide) (by decide) (by rfl) (by rfl) ?_
  walk_at "S"
  refine wC_fn hr ((ok_text_at H hp (.inr ⟨j, s, rfl, hj, rfl⟩) ?_).less (by decide))
  walk_at "S"
  walk_at "ite"
  walk_at "S"
  refine wI_lst hL (by decide) (by decide) (by rfl) (by rfl) ?_
  walk_at "S"
  refine wI_tup hq (by decide) (by decide) (by rfl) (by rfl) ?_
  walk_at "S"
  refine wI_lst hL (by decide) (by decide) (by rfl) (by rfl) ?_
  walk_at "S"
  refine wI_tup hr' (by decide) (by decide) (by rfl) (by rfl) ?_
  walk_at "S"
  by_cases h0 : first < 0
  · refine ite_t (by simp [h0]) ?_
    walk_at "ite"
    walk_at "S"
    refine wC_fn hr ((ok_bad_argument H hz fun σ' l H' => ?_).less (by decide))
    walk_at "S"
    exact k1 (.inl h0) σ' l H'
  refine ite_f (by simp [h0]) ?_
  walk_at "S"
  by_cases h1 : count < 0
  · refine ite_t (by simp [h1]) ?_
    walk_at "ite"
    walk_at "S"
    refine wC_fn hr ((ok_bad_argument H hz fun σ' l H' => ?_).less (by decide))
    walk_at "S"
    exact k1 (.inr (.inl h1)) σ' l H'
  refine ite_f (by simp [h1]) ?_
  walk_at "S"
  refine wC_len_str (by rw [tx_len]; (first | lia | omega)) ?_
  rw [tx_len]
  walk_at "S"
  by_cases h2 : (s.length : Int) < first + count
  · refine ite_t (by simp [h2]) ?_
    walk_at "ite"
    walk_at "S"
    refine wC_fn hr ((ok_bad_argument H hz fun σ' l H' => ?_).less (by decide))
    walk_at "S"
    exact k1 (.inr (.inr h2)) σ' l H'
  refine ite_f (by simpa using h2) ?_
  walk_at "S"
  walk_at "ite"
  walk_at "S"
  by_cases h3 : count = 0
  · refine ite_t (by simp [h3]) ?_
    walk_at "S"
    refine wM_mt H.per.m.rd H.per.md.rd H.per.ok.text_ref ?_
    walk_at "S"
    refine wC_fn hr (ok_text_ref H hf ⟨fun j r e => ?_, fun e σ' x r l H' => ?_⟩)
    · walk_at "S"
      exact (k2 (by first | lia | omega) h3 (by first | lia | omega)).1 j r e
    · walk_at "S"
      exact (k2 (by first | lia | omega) h3 (by first | lia | omega)).2 e σ' x r l H'
  refine ite_f (by simp [h3]) ?_
  walk_at "S"
  refine wC_len_str (by rw [tx_len]; (first | lia | omega)) ?_
  rw [tx_len]
  walk_at "S"
  by_cases h4 : count = s.length
  · refine ite_t (by simp [h4]) ?_
    walk_at "S"
    refine wI_lst hL (by decide) (by decide) (by rfl) (by rfl) ?_
    walk_at "S"
    exact k3 (by first | lia | omega) h4 h3
  refine ite_f (by simp [h4]) ?_
  walk_at "S"
  refine wM_mt H.per.m.rd H.per.md.rd H.per.ok.new_text ?_
  walk_at "S"
  refine wE_sliceS ?_
  walk_at "S"
  refine ⟨s, first, first + count, rfl, rfl, rfl, by first | lia | omega, by first | lia | omega, by first | lia | omega, by first | lia | omega, ?_⟩
  rw [show (first + count - first).toNat = count.toNat from by congr 1; (first | lia | omega)]
  walk_at "S"
  refine wC_fn hr ((ok_new_text H (by simp; (first | lia | omega)) hf fun σ' x r l H' hr' => ?_).less (by decide))
  walk_at "S"
  exact k4 (by first | lia | omega) (by first | lia | omega) (by first | lia | omega) h4 σ' x r l H' hr'
theorem ok_index {kk L p q : Addr} {j i : Nat} {s t : List Nat} (H : Sh Γ ω T th emp thr σ) (hL : Rd Γ σ L (.lst [.ref p, .ref q])) (hp : Rd Γ σ p (.tup [.int 4, .int (ad j)])) (hq : Rd Γ σ q (.tup [.int 4, .int (ad i)])) (hj : T[j]? = some s) (hi : T[i]? = some t)
    (k : ∀ r, σ r = none → Q (.ref r) (σ.set r (.tup [.int 1, .int (Txt.find (tx s) (tx t))]))) : CallOk Γ 4 700 [.ref kk, .ref ω.m, .none, .ref L] σ Q := by
  refine fn_enter (by k_is) (by kernel_rfl) rfl (by walk_at "bind") rfl rfl rfl rfl rfl [("args", .ref L), ("f", .none), ("m", .ref ω.m), ("self", .ref kk)] rfl ?_
  intro A g L' hr
  walk_at "S"
  refine wI_lst hL (by decide) (by decide) (by rfl) (by rfl) ?_
  walk_at "S"
  refine wC_fn hr (ok_text_at H hp (.inr ⟨j, s, rfl, hj, rfl⟩) ?_)
  walk_at "S"
  walk_at "ite"
  walk_at "S"
  refine wI_lst hL (by decide) (by decide) (by rfl) (by rfl) ?_
  walk_at "S"
  refine wC_fn hr (ok_text_at H hq (.inr ⟨i, t, rfl, hi, rfl⟩) ?_)
  walk_at "S"
  walk_at "ite"
  walk_at "S"
  refine wM_find ?_
  walk_at "S"
  refine wC_find ?_
  walk_at "S"
  refine ⟨le1 rfl, fun r h1 => ?_⟩
  walk_at "S"
  exact k r h1
theorem ok_compare {kk L p q : Addr} {j : Nat} {b : Int} {s : List Nat} {o₂ : Option (List Nat)} (H : Sh Γ ω T th emp thr σ) (hL : Rd Γ σ L (.lst [.ref p, .ref q])) (hp : Rd Γ σ p (.tup [.int 4, .int (ad j)])) (hq : Rd Γ σ q (.tup [.int 4, .int b])) (hj : T[j]? = some s) (hb : Arg T b o₂)
    (k : ∀ r, σ r = none → Q (.ref r) (σ.set r (.tup [.int 1, .int (cmpO s o₂)]))) : CallOk Γ 4 719 [.ref kk, .ref ω.m, .none, .ref L] σ Q := by
  refine fn_enter (by k_is) (by kernel_rfl) rfl (by walk_at "bind") rfl rfl rfl rfl rfl [("args", .ref L), ("f", .none), ("m", .ref ω.m), ("self", .ref kk)] rfl ?_
  intro A g L' hr
  walk_at "S"
  refine wI_lst hL (by decide) (by decide) (by rfl) (by rfl) ?_
  walk_at "S"
  refine wC_fn hr (ok_text_at H hp (.inr ⟨j, s, rfl, hj, rfl⟩) ?_)
  walk_at "S"
  walk_at "ite"
  walk_at "S"
  refine wI_lst hL (by decide) (by decide) (by rfl) (by rfl) ?_
  walk_at "S"
  refine wC_fn hr (ok_text_at H hq hb ?_)
  walk_at "S"
  cases o₂ with
  | none =>
    walk_at "ite"
    walk_at "ite"
    walk_at "S"
    refine ⟨le1 rfl, fun r h1 => ?_⟩
    walk_at "S"
    exact k r h1
  | some t =>
    walk_at "ite"
    walk_at "S"
    refine wCmp_gtT ?_
    walk_at "S"
    by_cases h1 : t < s
    · refine ite_t (by simp [h1]) ?_
      walk_at "ite"
      walk_at "S"
      refine ⟨le1 rfl, fun r h2 => ?_⟩
      walk_at "S"
      simpa [h1, cmpO] using k r h2
    refine ite_f (by simp [h1]) ?_
    walk_at "S"
    walk_at "ite"
    walk_at "S"
    refine wCmp_ltT ?_
    walk_at "S"
    by_cases h2 : s < t
    · refine ite_t (by simp [h2]) ?_
      walk_at "S"
      refine ⟨_, rfl, ?_⟩
      walk_at "S"
      refine ⟨le1 rfl, fun r h3 => ?_⟩
      walk_at "S"
      simpa [h1, h2, cmpO] using k r h3
    refine ite_f (by simp [h2]) ?_
    walk_at "S"
    refine ⟨le1 rfl, fun r h3 => ?_⟩
    walk_at "S"
    simpa [h1, h2, cmpO] using k r h3
end

theorem wFor_inv {c : Cx} {t : Addr} {o : MO} {target : Expr} {body : List Stmt} {Q : Fl → Lc → MH → Prop} (I : List V → Lc → MH → Prop) (hnil : ∀ m σ, I [] m σ → Q .next m σ)
    (hcons : ∀ v r m σ, I (v :: r) m σ → ∀ p, wAs (fzd c p) target v m σ fun m' σ' => wS (fzd c p) body m' σ' (fq (fun m'' σ'' => Rd c.Γ σ'' t o ∧ I r m'' σ'') Q)) : ∀ vs m σ, I vs m σ → wFor c t o target body vs m σ Q := by
  intro vs
  induction vs with
  | nil => exact fun m σ h => hnil m σ h
  | cons v r ih =>
    intro m σ h p
    intro rv ev s hs
    refine wpAny_mono (hcons v r m σ h p rv ev s hs) (fun _ s' h' => ?_) fun _ _ x => x
    obtain ⟨σ', m', a, b⟩ := h'
    refine ⟨σ', m', a, wF_mono b fun f m'' σ'' q => ?_⟩
    cases f with
    | next => exact ⟨q.1, ih _ _ q.2⟩
    | cont => exact ⟨q.1, ih _ _ q.2⟩
    | brk => exact q
    | ret v => exact q

abbrev Rn := List (Int × Int)
def Prs (Γ : Gd) (S : List Addr) (σ : MH) : List V → Rn → Prop
  | [], [] => True
  | v :: vs, p :: r => (∃ a, v = .ref a ∧ Pd Γ S σ a (.tup [.int p.1, .int p.2])) ∧ Prs Γ S σ vs r
  | _, _ => False
section
variable {Γ : Gd} {S : List Addr} {σ σ' : MH}
theorem Prs.le : ∀ {vs : List V} {r : Rn}, Prs Γ S σ vs r → Le S σ σ' → Prs Γ S σ' vs r
  | [], [], _, _ => trivial
  | _ :: _, _ :: _, ⟨⟨a, e, p⟩, h⟩, l => ⟨⟨a, e, p.le l⟩, h.le l⟩
  | [], _ :: _, h, _ => h.elim
  | _ :: _, [], h, _ => h.elim
theorem Prs.length : ∀ {vs : List V} {r : Rn}, Prs Γ S σ vs r → vs.length = r.length
  | [], [], _ => rfl
  | _ :: _, _ :: _, ⟨_, h⟩ => by rw [List.length_cons, List.length_cons, h.length]
  | [], _ :: _, h => h.elim
  | _ :: _, [], h => h.elim
theorem Prs.get : ∀ {vs : List V} {r : Rn} {i : Nat} {p : Int × Int}, Prs Γ S σ vs r → r[i]? = some p → ∃ a, vs[i]? = some (.ref a) ∧ Pd Γ S σ a (.tup [.int p.1, .int p.2])
  | _ :: _, _ :: _, 0, p, ⟨⟨a, e, q⟩, h⟩, hp => by simp at hp; subst hp; subst e; exact ⟨a, rfl, q⟩
  | _ :: _, _ :: _, i + 1, p, ⟨_, h⟩, hp => by simp at hp; simpa using h.get hp
  | [], [], _, _, _, hp => by simp at hp
  | [], _ :: _, _, _, h, _ => h.elim
  | _ :: _, [], _, _, h, _ => h.elim
theorem Prs.app {a : Addr} {p : Int × Int} : ∀ {vs : List V} {r : Rn}, Prs Γ S σ vs r → Pd Γ S σ a (.tup [.int p.1, .int p.2]) → Prs Γ S σ (vs ++ [.ref a]) (r ++ [p])
  | [], [], _, q => ⟨⟨a, rfl, q⟩, trivial⟩
  | _ :: _, _ :: _, ⟨x, h⟩, q => ⟨x, h.app q⟩
  | [], _ :: _, h, _ => h.elim
  | _ :: _, [], h, _ => h.elim
theorem Prs.put {a : Addr} {p : Int × Int} : ∀ {vs : List V} {r : Rn} {i : Nat}, Prs Γ S σ vs r → Pd Γ S σ a (.tup [.int p.1, .int p.2]) → Prs Γ S σ (vs.set i (.ref a)) (r.set i p)
  | [], [], _, _, _ => trivial
  | _ :: _, _ :: _, 0, ⟨x, h⟩, q => ⟨⟨a, rfl, q⟩, h⟩
  | _ :: _, _ :: _, i + 1, ⟨x, h⟩, q => ⟨x, h.put q⟩
  | [], _ :: _, _, h, _ => h.elim
  | _ :: _, [], _, h, _ => h.elim
theorem Prs.append : ∀ {vs ws : List V} {r r' : Rn}, Prs Γ S σ vs r → Prs Γ S σ ws r' → Prs Γ S σ (vs ++ ws) (r ++ r')
  | [], _, [], _, _, k => k
  | _ :: _, _, _ :: _, _, ⟨x, h⟩, k => ⟨x, h.append k⟩
  | [], _, _ :: _, _, h, _ => h.elim
  | _ :: _, _, [], _, h, _ => h.elim
def datR (r : Rn) : List PyData := r.map fun p => .tuple [.int p.1, .int p.2]
theorem Prs.dat : ∀ {vs : List V} {r : Rn}, Prs Γ S σ vs r → RdVs Γ σ vs (datR r)
  | [], [], _ => RdVs.nil
  | _ :: _, _ :: _, ⟨⟨a, e, q⟩, h⟩ => by subst e; exact RdVs.cons (RdV.tup q.rd (RdVs.cons RdV.int (RdVs.cons RdV.int RdVs.nil))) h.dat
  | [], _ :: _, h => h.elim
  | _ :: _, [], h => h.elim
theorem Prs.pairs : ∀ {vs : List V} {r : Rn}, Prs Γ S σ vs r → ∃ ps : List (Addr × V × V), vs = ps.map (fun p => V.ref p.1) ∧ (∀ p ∈ ps, Rd Γ σ p.1 (.tup [p.2.1, p.2.2])) ∧ ps.map (·.2.2) = r.map (fun p => V.int p.2)
  | [], [], _ => ⟨[], rfl, by simp, rfl⟩
  | _ :: _, p :: _, ⟨⟨a, e, q⟩, h⟩ => by
    obtain ⟨ps, h1, h2, h3⟩ := h.pairs
    subst e
    refine ⟨(a, .int p.1, .int p.2) :: ps, by rw [h1]; rfl, fun x hx => ?_, by simp [h3]⟩
    rcases List.mem_cons.mp hx with rfl | hx
    · exact q.rd
    · exact h2 x hx
  | [], _ :: _, h => h.elim
  | _ :: _, [], h => h.elim
end
/-- a tuple of runs -/
def IsRn (Γ : Gd) (S : List Addr) (σ : MH) (a : Addr) (r : Rn) : Prop := ∃ vs, Pd Γ S σ a (.tup vs) ∧ Prs Γ S σ vs r
theorem IsRn.le {Γ : Gd} {S : List Addr} {σ σ' : MH} {a : Addr} {r : Rn} (h : IsRn Γ S σ a r) (l : Le S σ σ') : IsRn Γ S σ' a r := let ⟨vs, x, y⟩ := h; ⟨vs, x.le l, y.le l⟩
def xp (r : Rn) : List Nat := r.flatMap fun p => List.replicate p.2.toNat p.1.toNat
theorem xp_nil : xp [] = [] := rfl
theorem xp_cons (p : Int × Int) (r : Rn) : xp (p :: r) = List.replicate p.2.toNat p.1.toNat ++ xp r := by simp [xp]
theorem xp_app (a b : Rn) : xp (a ++ b) = xp a ++ xp b := by simp [xp]
/-- units that are units -/
def Un (r : Rn) : Prop := ∀ p ∈ r, 0 ≤ p.1 ∧ p.1 ≤ 1114111

theorem canAll (r : Rn) : PyData.canLayAll0 (datR r) = true := by
  induction r with
  | nil => rfl
  | cons p r ih => show (PyData.canLay0 (.tuple [.int p.1, .int p.2]) && PyData.canLayAll0 (datR r)) = true; rw [ih]; rfl
theorem depAll (r : Rn) : PyData.depthAll (datR r) ≤ 1 := by
  induction r with
  | nil => simp [datR, PyData.depthAll]
  | cons p r ih =>
    show max (PyData.depth (.tuple [.int p.1, .int p.2])) (PyData.depthAll (datR r)) ≤ 1
    have : PyData.depth (.tuple [.int p.1, .int p.2]) = 1 := by simp [PyData.depth, PyData.depthAll]
    (first | lia | omega)
theorem shaped_L (r : Rn) : SeqAt.shaped (.list (datR r)) = true := by
  have := depAll r
  exact Bool.and_eq_true_iff.mpr ⟨by simp only [PyData.canLay0, canAll], decide_eq_true (by simp only [PyData.depth]; (first | lia | omega))⟩
theorem shaped_T (r : Rn) : SeqAt.shaped (.tuple (datR r)) = true := by
  have := depAll r
  exact Bool.and_eq_true_iff.mpr ⟨by simp only [PyData.canLay0, canAll], decide_eq_true (by simp only [PyData.depth]; (first | lia | omega))⟩
theorem eqv_runs : ∀ a b : Rn, PyData.eqvAll (datR a) (datR b) = decide (a = b)
  | [], [] => by simp [datR, PyData.eqvAll]
  | [], _ :: _ => by simp [datR, PyData.eqvAll]
  | _ :: _, [] => by simp [datR, PyData.eqvAll]
  | (u, m) :: a, (v, n) :: b => by
    show (PyData.eqv (.tuple [.int u, .int m]) (.tuple [.int v, .int n]) && PyData.eqvAll (datR a) (datR b)) = _
    rw [eqv_runs a b]
    simp only [PyData.eqv, PyData.eqvAll, Bool.and_true]
    rw [Bool.eq_iff_iff]
    simp only [Bool.and_eq_true, beq_iff_eq, decide_eq_true_eq, List.cons.injEq, Prod.mk.injEq]
theorem eqv_LL (a b : Rn) : PyData.eqv (.list (datR a)) (.list (datR b)) = decide (a = b) := by rw [PyData.eqv]; exact eqv_runs a b
theorem eqv_TT (a b : Rn) : PyData.eqv (.tuple (datR a)) (.tuple (datR b)) = decide (a = b) := by rw [PyData.eqv]; exact eqv_runs a b

theorem Pd.tset {Γ : Gd} {S : List Addr} {σ : MH} {a O : Addr} {vs : List V} {o o' : MO} (h : Pd Γ S σ a (.tup vs)) (hO : σ O = some o) (hn : ∀ ws, o ≠ .tup ws) : Pd Γ S (σ.set O o') a (.tup vs) := h.imp (fun ⟨x, y⟩ => ⟨x, by
  rw [MH.set_ne]; exact y
  rintro rfl; rw [hO] at y; exact hn _ (Option.some.inj y)⟩) fun x => x
theorem Prs.tset {Γ : Gd} {S : List Addr} {σ : MH} {O : Addr} {o o' : MO} (hO : σ O = some o) (hn : ∀ ws, o ≠ .tup ws) : ∀ {vs : List V} {r : Rn}, Prs Γ S σ vs r → Prs Γ S (σ.set O o') vs r
  | [], [], _ => trivial
  | _ :: _, _ :: _, ⟨⟨a, e, p⟩, h⟩ => ⟨⟨a, e, p.tset hO hn⟩, h.tset hO hn⟩
  | [], _ :: _, h => h.elim
  | _ :: _, [], h => h.elim
theorem w1_for_any {c : Cx} {m : Lc} {σ : MH} {target iter : Expr} {body : List Stmt} {pos : Pos} {Q : Fl → Lc → MH → Prop} {o : MO} {vs : List V} (hh : c.A.handled = none) (ho : o = .tup vs ∨ o = .lst vs)
    (h : wE c iter m σ fun x σ₁ => ∃ t, x = .ref t ∧ Rd c.Γ σ₁ t o ∧ wFor c t o target body vs m σ₁ Q)
    (hs : ∀ x, foldedSetIterable iter c.env x = pure x := by intro _; rfl) : w1 c (.For target iter body [] pos) m σ Q := by
  rcases ho with rfl | rfl
  · exact w1_for_tuple hh (wE_mono h fun x σ' ⟨t, a, b, d⟩ => ⟨t, vs, a, b, d⟩) hs
  · exact w1_for_list hh (wE_mono h fun x σ' ⟨t, a, b, d⟩ => ⟨t, vs, a, b, d⟩) hs

def glueStep (out : Rn) (p : Int × Int) : Rn :=
  if 0 < p.2 then (match out.getLast? with
    | some q => if q.1 = p.1 then out.dropLast ++ [(p.1, q.2 + p.2)] else out ++ [p]
    | none => out ++ [p]) else out
def glue (r : Rn) : Rn := r.foldl glueStep []
def cutR : Rn → Int → Int → Rn
  | [], _, _ => []
  | (u, m) :: r, b, c => (u, min m (b + c) - max 0 b) :: cutR r (b - m) c
def Ex (σ σ' : MH) : Prop := ∀ a o, σ a = some o → σ' a = some o
theorem Ex.le {S : List Addr} {σ σ' : MH} (h : Ex σ σ') : Le S σ σ' := fun a o _ e => h a o e
theorem Ex.set {σ σ' : MH} {a : Addr} {o : MO} (h : Ex σ σ') (n : σ a = none) : Ex σ (σ'.set a o) := fun b x e => by
  rw [MH.set_ne]; exact h b x e
  rintro rfl; rw [n] at e; cases e
theorem Ex.new {σ σ' : MH} {a : Addr} {o : MO} (h : Ex σ σ') (n : σ' a = none) : Ex σ (σ'.set a o) := fun b x e => MH.set_new (h b x e) n
theorem Ex.refl {σ : MH} : Ex σ σ := fun _ _ e => e
theorem Ex.trans {σ σ' σ'' : MH} (h : Ex σ σ') (k : Ex σ' σ'') : Ex σ σ'' := fun a o e => k a o (h a o e)
theorem Ex.none {σ σ' : MH} (h : Ex σ σ') {a : Addr} (n : σ' a = Option.none) : σ a = Option.none := by
  cases e : σ a with
  | none => rfl
  | some o => rw [h a o e] at n; cases n
theorem Ex.notS {S : List Addr} {σ σ' : MH} (h : Ex σ σ') (hS : ∀ a ∈ S, σ a ≠ Option.none) {a : Addr} (n : σ' a = Option.none) : a ∉ S := fun q => hS a q (h.none n)
section
variable {Γ : Gd} {S : List Addr} {σ : MH} {Q : V → MH → Prop}
theorem chr_tx {u : Int} : (⟨#[u.toNat]⟩ : Str) = tx [u.toNat] := rfl
theorem ok_law_text {a : Addr} {r : Rn} (hR : IsRn Γ S σ a r) (hu : Un r) (hc : ∀ p ∈ r, -1000 ≤ p.2) (hz : (xp r).length ≤ 2000000) (k : Q (.str (tx (xp r))) σ) : CallOk Γ 1 838 [.ref a] σ Q := by
  obtain ⟨vs, ht, hp⟩ := hR
  refine fn_enter (by k_is) (by kernel_rfl) rfl (by walk_at "bind") rfl rfl rfl rfl rfl [("runs", .ref a)] rfl ?_
  intro A g L hr
  walk_at "S"
  refine w1_for_tuple hr.1 ?_ (by intro _; rfl)
  walk_at "S"
  refine ⟨a, vs, rfl, ht.rd, ?_⟩
  refine wFor_inv (fun vs m σ' => σ' = σ ∧ ∃ r' pre, Prs Γ S σ vs r' ∧ xp r = pre ++ xp r' ∧ Un r' ∧ (∀ p ∈ r', -1000 ≤ p.2) ∧ m.lookup ("text" : Str) = some (.str (tx pre))) ?_ ?_ _ _ _ ⟨rfl, r, [], hp, rfl, hu, hc, by rw [tx_nil]; walk_at "lk"⟩
  · rintro m σ' ⟨rfl, r', pre, h1, h2, h3, h4, h5⟩
    cases r' with
    | cons p r' => exact h1.elim
    | nil =>
      rw [xp_nil, List.append_nil] at h2
      subst h2
      walk_at "S"
      exact k
  · rintro v vs m σ' ⟨rfl, r', pre, h1, h2, h3, h4, h5⟩ fp
    cases r' with
    | nil => exact h1.elim
    | cons p r' =>
      obtain ⟨⟨b, rfl, hb⟩, h1⟩ := h1
      have u0 := h3 p (.head _)
      have c0 := h4 p (.head _)
      have hlen : pre.length + p.2.toNat ≤ 2000000 := by
        have := congrArg List.length h2
        rw [xp_cons] at this
        simp at this; (first | lia | omega)
      refine wAs_tuple hr.1 hb.rd ?_ (by rfl) (by rfl)
      walk_at "S"
      refine wC_chr u0.1 u0.2 ?_
      walk_at "S"
      refine wB_mulT (by first | lia | omega) (by first | lia | omega) ?_
      refine wB_addT (by simp; (first | lia | omega)) ?_
      walk_at "S"
      refine ⟨ht.rd, rfl, r', pre ++ List.replicate p.2.toNat p.1.toNat, h1, by rw [h2, xp_cons, List.append_assoc], fun q hq => h3 q (.tail _ hq), fun q hq => h4 q (.tail _ hq), by walk_at "lk"⟩
theorem ok_law_long {a : Addr} {r : Rn} (hR : IsRn Γ S σ a r) (hz : r.length ≤ 1100000) (k : ∀ σ', Ex σ σ' → Q (.int (r.map (·.2)).sum) σ') : CallOk Γ 1 843 [.ref a] σ Q := by
  obtain ⟨vs, ht, hp⟩ := hR
  obtain ⟨ps, rfl, h2, h3⟩ := hp.pairs
  refine fn_enter (by k_is) (by kernel_rfl) rfl (by walk_at "bind") rfl rfl rfl rfl rfl [("runs", .ref a)] rfl ?_
  intro A g L hr
  walk_at "S"
  refine wE_comp_pair hr.1 ?_ (by rfl) (by decide) rfl (by decide) (by rfl) (by rfl) (by decide) (by decide) (by intro _; rfl)
  walk_at "S"
  refine ⟨a, ps, rfl, ht.rd, by have := hp.length; simp at this; (first | lia | omega), h2, fun t h1 => ?_⟩
  walk_at "S"
  rw [h3]
  refine wC_sum hr.1 (ns := r.map (·.2)) (.inl (by rw [MH.set_self]; simp)) ?_
  walk_at "S"
  exact k _ fun a o e => MH.set_new e h1
def unitR : Rn → Int → Int
  | [], _ => -1
  | (u, c) :: r, p => if p < c then u else unitR r (p - c)
theorem ok_law_unit {a : Addr} {r : Rn} {i : Int} (hR : IsRn Γ S σ a r) (k : Q (.int (unitR r i)) σ) : CallOk Γ 1 864 [.ref a, .int i] σ Q := by
  obtain ⟨vs, ht, hp⟩ := hR
  refine fn_enter (by k_is) (by kernel_rfl) rfl (by walk_at "bind") rfl rfl rfl rfl rfl [("place", .int i), ("runs", .ref a)] rfl ?_
  intro A g L hr
  walk_at "S"
  refine w1_for_tuple hr.1 ?_ (by intro _; rfl)
  walk_at "S"
  refine ⟨a, vs, rfl, ht.rd, ?_⟩
  refine wFor_inv (fun vs m σ' => σ' = σ ∧ ∃ r' i', Prs Γ S σ vs r' ∧ unitR r i = unitR r' i' ∧ m.lookup ("place" : Str) = some (.int i')) ?_ ?_ _ _ _ ⟨rfl, r, i, hp, rfl, by walk_at "lk"⟩
  · rintro m σ' ⟨rfl, r', i', h1, h2, h5⟩
    cases r' with
    | cons p r' => exact h1.elim
    | nil =>
      walk_at "S"
      refine ⟨_, rfl, ?_⟩
      walk_at "S"
      rw [h2] at k
      exact k
  · rintro v vs m σ' ⟨rfl, r', i', h1, h2, h5⟩ fp
    cases r' with
    | nil => exact h1.elim
    | cons p r' =>
      obtain ⟨⟨b, rfl, hb⟩, h1⟩ := h1
      obtain ⟨u, n⟩ := p
      refine wAs_tuple hr.1 hb.rd ?_ (by rfl) (by rfl)
      walk_at "S"
      rw [show unitR ((u, n) :: r') i' = if i' < n then u else unitR r' (i' - n) from rfl] at h2
      by_cases hc : i' < n
      · rw [if_pos hc] at h2
        refine ite_t (by simpa using hc) ?_
        walk_at "S"
        rw [h2] at k
        exact k
      · rw [if_neg hc] at h2
        refine ite_f (by simpa using hc) ?_
        walk_at "S"
        exact ⟨ht.rd, rfl, r', _, h1, h2, by walk_at "lk"⟩
def seekR (u c : Int) : Rn → Int → Int
  | [], _ => -1
  | (o, m) :: r, p => if o = u ∧ c ≤ m then p else seekR u c r (p + m)
theorem ok_law_seek {a : Addr} {r : Rn} {u c : Int} (hR : IsRn Γ S σ a r) (k : Q (.int (seekR u c r 0)) σ) : CallOk Γ 1 878 [.ref a, .int u, .int c] σ Q := by
  obtain ⟨vs, ht, hp⟩ := hR
  refine fn_enter (by k_is) (by kernel_rfl) rfl (by walk_at "bind") rfl rfl rfl rfl rfl [("count", .int c), ("unit", .int u), ("runs", .ref a)] rfl ?_
  intro A g L hr
  walk_at "S"
  refine w1_for_tuple hr.1 ?_ (by intro _; rfl)
  walk_at "S"
  refine ⟨a, vs, rfl, ht.rd, ?_⟩
  refine wFor_inv (fun vs m σ' => σ' = σ ∧ ∃ r' i', Prs Γ S σ vs r' ∧ seekR u c r 0 = seekR u c r' i' ∧ m.lookup ("place" : Str) = some (.int i') ∧ m.lookup ("unit" : Str) = some (.int u) ∧ m.lookup ("count" : Str) = some (.int c)) ?_ ?_ _ _ _ ⟨rfl, r, 0, hp, rfl, by walk_at "lk", by walk_at "lk", by walk_at "lk"⟩
  · rintro m σ' ⟨rfl, r', i', h1, h2, h5, h6, h7⟩
    cases r' with
    | cons p r' => exact h1.elim
    | nil =>
      walk_at "S"
      refine ⟨_, rfl, ?_⟩
      walk_at "S"
      rw [h2] at k
      exact k
  · rintro v vs m σ' ⟨rfl, r', i', h1, h2, h5, h6, h7⟩ fp
    cases r' with
    | nil => exact h1.elim
    | cons p r' =>
      obtain ⟨⟨b, rfl, hb⟩, h1⟩ := h1
      obtain ⟨o, n⟩ := p
      refine wAs_tuple hr.1 hb.rd ?_ (by rfl) (by rfl)
      walk_at "S"
      rw [show seekR u c ((o, n) :: r') i' = if o = u ∧ c ≤ n then i' else seekR u c r' (i' + n) from rfl] at h2
      by_cases hc : o = u
      · refine ite_t (by simpa using hc) ?_
        walk_at "S"
        by_cases hm : c ≤ n
        · rw [if_pos ⟨hc, hm⟩] at h2
          refine ite_t (by simpa using hm) ?_
          walk_at "S"
          walk_at "ite"
          walk_at "S"
          rw [h2] at k
          exact k
        · rw [if_neg (fun x => hm x.2)] at h2
          refine ite_f (by simpa using hm) ?_
          walk_at "ite"
          walk_at "S"
          exact ⟨ht.rd, rfl, r', _, h1, h2, by walk_at "lk", by walk_at "lk", by walk_at "lk"⟩
      · rw [if_neg (fun x => hc x.1)] at h2
        refine ite_f (by simpa using hc) ?_
        walk_at "ite"
        walk_at "S"
        exact ⟨ht.rd, rfl, r', _, h1, h2, by walk_at "lk", by walk_at "lk", by walk_at "lk"⟩
end
section
variable {Γ : Gd} {S : List Addr} {σ : MH} {Q : V → MH → Prop}
theorem last_get {r : Rn} {q : Int × Int} (h : r.getLast? = some q) : r[r.length - 1]? = some q ∧ 0 < r.length := by
  rw [List.getLast?_eq_getElem?] at h
  exact ⟨h, by have := (List.getElem?_eq_some_iff.mp h).1; (first | lia | omega)⟩
theorem set_last {r : Rn} {q p : Int × Int} (h : r.getLast? = some q) : r.set (r.length - 1) p = r.dropLast ++ [p] := by
  obtain ⟨x, hx⟩ : ∃ x, r = x ++ [q] := List.getLast?_eq_some_iff.mp h
  subst hx
  simp
theorem seqIndex_last {n : Nat} (h : 0 < n) : seqIndex? (-1) n = some (n - 1) := by
  unfold seqIndex?
  have e : (if (-1 : Int) < 0 then (-1 : Int) + n else -1) = n - 1 := by rw [if_pos (by decide)]; (first | lia | omega)
  simp only [e]
  have h2 : (0 : Int) ≤ (n : Int) - 1 ∧ (n : Int) - 1 < n := by first | lia | omega
  simp [h2]
  (first | lia | omega)
theorem ok_law_glue {a : Addr} {o : MO} {vs : List V} {r : Rn} (ho : o = .tup vs ∨ o = .lst vs) (ht : Rd Γ σ a o) (hp : Prs Γ S σ vs r) (hS : ∀ a ∈ S, σ a ≠ none) (hz : r.length ≤ 1100000)
    (k : ∀ σ' t, Ex σ σ' → IsRn Γ S σ' t (glue r) → Q (.ref t) σ') : CallOk Γ 1 850 [.ref a] σ Q := by
  refine fn_enter (by k_is) (by kernel_rfl) rfl (by walk_at "bind") rfl rfl rfl rfl rfl [("runs", .ref a)] rfl ?_
  intro A g L hr
  walk_at "S"
  refine ⟨le1 rfl, fun O hO => ?_⟩
  walk_at "S"
  refine w1_for_any hr.1 ho ?_ (by intro _; rfl)
  walk_at "S"
  refine ⟨a, rfl, ht.nw hO, ?_⟩
  refine wFor_inv (fun vs m σ' => Ex σ σ' ∧ ∃ r' ws out, σ' O = some (.lst ws) ∧ Prs Γ S σ' ws out ∧ Prs Γ S σ vs r' ∧ glue r = r'.foldl glueStep out ∧ out.length + r'.length ≤ 1100000 ∧ m.lookup ("out" : Str) = some (.ref O)) ?_ ?_ _ _ _ ⟨Ex.refl.new hO, r, [], [], MH.set_self, trivial, hp, rfl, by simpa using hz, by walk_at "lk"⟩
  · rintro m σ' ⟨l, r', ws, out, h1, h2, h3, h4, h5, h6⟩
    cases r' with
    | cons p r' => exact h3.elim
    | nil =>
      walk_at "S"
      refine wC_tuple (.inl h1) (by have := h2.length; simp at h5; (first | lia | omega)) fun t h7 => ?_
      walk_at "S"
      refine k _ t (l.new h7) ⟨ws, .mk (l.notS hS h7) MH.set_self, ?_⟩
      rw [show glue r = out from h4]
      exact h2.le (.new h7)
  · rintro v vs m σ' ⟨l, r', ws, out, h1, h2, h3, h4, h5, h6⟩ fp
    cases r' with
    | nil => exact h3.elim
    | cons p r' =>
      obtain ⟨⟨b, rfl, hb⟩, h3⟩ := h3
      obtain ⟨u, n⟩ := p
      dsimp only at hb
      have hzz : out.length + r'.length + 1 ≤ 1100000 := by simpa [Nat.add_assoc] using h5
      have hws := h2.length
      refine wAs_tuple hr.1 (hb.le l.le).rd ?_ (by rfl) (by rfl)
      walk_at "S"
      rw [List.foldl_cons] at h4
      by_cases hn : 0 < n
      · refine ite_t (by simpa using hn) ?_
        walk_at "S"
        refine ⟨le1 rfl, fun e1 he1 => ?_⟩
        have h1' := MH.set_new (o := .lst []) h1 he1
        have h2' := h2.le (S := S) (.new (o := .lst []) he1)
        refine wCmp_neD hr (RdV.lst (.inl h1') h2'.dat) (RdV.lst Rd.self RdVs.nil) (shaped_L out) (shaped_L []) ?_
        rw [show PyData.eqv (.list (datR out)) (.list []) = decide (out = []) from eqv_LL out []]
        walk_at "S"
        cases hq : out.getLast? with
        | none =>
          have e0 : out = [] := List.getLast?_eq_none_iff.mp hq
          subst e0
          refine ite_F rfl ?_
          walk_at "ite"
          walk_at "S"
          refine ite_t (by simpa using hn) ?_
          walk_at "S"
          refine wM_append (.inl h1') ?_
          walk_at "S"
          refine ⟨le1 rfl, fun e2 he2 => ?_⟩
          walk_at "S"
          have h1'' := MH.set_new (o := .tup [.int u, .int n]) h1' he2
          have l' : Ex σ ((σ'.set e1 (.lst [])).set e2 (.tup [.int u, .int n])) := (l.new he1).new he2
          refine wC_append h1'' (by simp at hws; simp [hws]) ?_
          refine ⟨rfl, ?_⟩
          walk_at "S"
          refine ⟨((ht.imp (fun x => l'.set hO _ _ x) fun x => x)), l'.set hO, r', _, [(u, n)], MH.set_self, ?_, h3, ?_, by simp at hzz ⊢; (first | lia | omega), by walk_at "lk"⟩
          · refine Prs.tset h1'' (by simp) ?_
            have e9 : ws = [] := by simpa using hws
            subst e9
            exact ⟨⟨e2, rfl, .mk ((l.new he1).notS hS he2) MH.set_self⟩, trivial⟩
          · rw [h4]; simp [glueStep, hn]
        | some q =>
          obtain ⟨hg, hpos⟩ := last_get hq
          have e0 : out ≠ [] := by rintro rfl; simp at hq
          obtain ⟨bq, hbq, hPq⟩ := h2'.get hg
          refine ite_t (by simp [e0]) ?_
          walk_at "S"
          refine ⟨1, rfl, ?_⟩
          refine wI_lst (.inl h1') (by decide) (by decide) (by rw [hws]; exact seqIndex_last hpos) hbq ?_
          walk_at "S"
          refine wI_tup hPq.rd (by decide) (by decide) (by rfl) (by rfl) ?_
          walk_at "S"
          by_cases hu : q.1 = u
          · refine ite_t (by simpa using hu) ?_
            walk_at "S"
            walk_at "ite"
            walk_at "S"
            refine ⟨1, rfl, ?_⟩
            refine wI_lst (.inl h1') (by decide) (by decide) (by rw [hws]; exact seqIndex_last hpos) hbq ?_
            walk_at "S"
            refine wI_tup hPq.rd (by decide) (by decide) (by rfl) (by rfl) ?_
            walk_at "S"
            refine ⟨le1 rfl, fun e2 he2 => ?_⟩
            walk_at "S"
            refine ⟨1, rfl, ?_⟩
            have h1'' := MH.set_new (o := .tup [.int u, .int (q.2 + n)]) h1' he2
            have l' : Ex σ ((σ'.set e1 (.lst [])).set e2 (.tup [.int u, .int (q.2 + n)])) := (l.new he1).new he2
            refine wSI_lst h1'' (by decide) (by decide) (by rw [hws]; exact seqIndex_last hpos) ?_
            walk_at "S"
            refine ⟨((ht.imp (fun x => l'.set hO _ _ x) fun x => x)), l'.set hO, r', _, out.set (out.length - 1) (u, q.2 + n), MH.set_self, ?_, h3, ?_, by simp; (first | lia | omega), by walk_at "lk"⟩
            · refine Prs.tset h1'' (by simp) ?_
              exact (h2'.le (.new he2)).put (.mk ((l.new he1).notS hS he2) MH.set_self)
            · rw [h4, set_last hq]; simp [glueStep, hn, hq, hu]
          · refine ite_f (by simpa using hu) ?_
            walk_at "ite"
            walk_at "S"
            refine ite_t (by simpa using hn) ?_
            walk_at "S"
            refine wM_append (.inl h1') ?_
            walk_at "S"
            refine ⟨le1 rfl, fun e2 he2 => ?_⟩
            walk_at "S"
            have h1'' := MH.set_new (o := .tup [.int u, .int n]) h1' he2
            have l' : Ex σ ((σ'.set e1 (.lst [])).set e2 (.tup [.int u, .int n])) := (l.new he1).new he2
            refine wC_append h1'' (by first | lia | omega) ?_
            refine ⟨rfl, ?_⟩
            walk_at "S"
            refine ⟨((ht.imp (fun x => l'.set hO _ _ x) fun x => x)), l'.set hO, r', _, out ++ [(u, n)], MH.set_self, ?_, h3, ?_, by simp; (first | lia | omega), by walk_at "lk"⟩
            · refine Prs.tset h1'' (by simp) ?_
              exact (h2'.le (.new he2)).app (.mk ((l.new he1).notS hS he2) MH.set_self)
            · rw [h4]; simp [glueStep, hn, hq, hu]
      · refine ite_f (by simpa using hn) ?_
        walk_at "ite"
        walk_at "S"
        refine ite_f (by simpa using hn) ?_
        walk_at "S"
        refine ⟨(ht.imp (fun x => l _ _ x) fun x => x), l, r', _, out, h1, h2, h3, ?_, by first | lia | omega, by walk_at "lk"⟩
        rw [h4]; simp [glueStep, hn]
end
section
variable {Γ : Gd} {S : List Addr} {σ : MH} {Q : V → MH → Prop}
theorem ok_law_bool {b : Bool} (k : ∀ r, σ r = none → Q (.ref r) (σ.set r (.tup [.int 1, .int (if b then 1 else 0)]))) : CallOk Γ 1 885 [.bool b] σ Q := by
  refine fn_enter (by k_is) (by kernel_rfl) rfl (by walk_at "bind") rfl rfl rfl rfl rfl [("yes", .bool b)] rfl ?_
  intro A g L hr
  walk_at "S"
  cases b
  · walk_at "ite"
    walk_at "S"
    refine ⟨le1 rfl, fun r h1 => ?_⟩
    walk_at "S"
    exact k r h1
  · walk_at "ite"
    walk_at "S"
    refine ⟨le1 rfl, fun r h1 => ?_⟩
    walk_at "S"
    exact k r h1
theorem ok_law_cut {a : Addr} {r : Rn} {i n : Int} (hR : IsRn Γ S σ a r) (hS : ∀ a ∈ S, σ a ≠ none) (hz : r.length ≤ 1100000)
    (k : ∀ σ' t, Ex σ σ' → IsRn Γ S σ' t (glue (cutR r i n)) → Q (.ref t) σ') : CallOk Γ 2 857 [.ref a, .int i, .int n] σ Q := by
  obtain ⟨vs, ht, hp⟩ := hR
  refine fn_enter (by k_is) (by kernel_rfl) rfl (by walk_at "bind") rfl rfl rfl rfl rfl [("count", .int n), ("begin", .int i), ("runs", .ref a)] rfl ?_
  intro A g L hr
  walk_at "S"
  refine ⟨le1 rfl, fun O hO => ?_⟩
  walk_at "S"
  refine w1_for_tuple hr.1 ?_ (by intro _; rfl)
  walk_at "S"
  refine ⟨a, vs, rfl, ht.rd.nw hO, ?_⟩
  refine wFor_inv (fun vs m σ' => Ex σ σ' ∧ ∃ r' ws out i', σ' O = some (.lst ws) ∧ Prs Γ S σ' ws out ∧ Prs Γ S σ vs r' ∧ cutR r i n = out ++ cutR r' i' n ∧ out.length + r'.length ≤ 1100000 ∧ m.lookup ("out" : Str) = some (.ref O) ∧ m.lookup ("begin" : Str) = some (.int i') ∧ m.lookup ("count" : Str) = some (.int n)) ?_ ?_ _ _ _
    ⟨Ex.refl.new hO, r, [], [], i, MH.set_self, trivial, hp, rfl, by simpa using hz, by walk_at "lk", by walk_at "lk", by walk_at "lk"⟩
  · rintro m σ' ⟨l, r', ws, out, i', h1, h2, h3, h4, h5, h6, h7, h8⟩
    cases r' with
    | cons p r' => exact h3.elim
    | nil =>
      have h4 : cutR r i n = out := by rw [h4]; simp [cutR]
      subst h4
      walk_at "S"
      refine wC_fn hr ((ok_law_glue (.inr rfl) (.inl h1) h2 (fun b hb e => hS b hb (l.none e)) (by simp at h5; (first | lia | omega)) fun σ₂ t l₂ hR => ?_).less (by decide))
      walk_at "S"
      exact k _ t (l.trans l₂) hR
  · rintro v vs m σ' ⟨l, r', ws, out, i', h1, h2, h3, h4, h5, h6, h7, h8⟩ fp
    cases r' with
    | nil => exact h3.elim
    | cons p r' =>
      obtain ⟨⟨b, rfl, hb⟩, h3⟩ := h3
      obtain ⟨u, n'⟩ := p
      dsimp only at hb
      have hzz : out.length + r'.length + 1 ≤ 1100000 := by simpa [Nat.add_assoc] using h5
      have hws := h2.length
      refine wAs_tuple hr.1 (hb.le l.le).rd ?_ (by rfl) (by rfl)
      walk_at "S"
      refine wM_append (.inl h1) ?_
      walk_at "S"
      refine wC_min hr.1 ?_
      walk_at "S"
      refine wC_max hr.1 ?_
      walk_at "S"
      refine ⟨le1 rfl, fun e2 he2 => ?_⟩
      walk_at "S"
      have h1' := MH.set_new (o := .tup [.int u, .int (min n' (i' + n) - max 0 i')]) h1 he2
      have l' : Ex σ (σ'.set e2 (.tup [.int u, .int (min n' (i' + n) - max 0 i')])) := l.new he2
      refine wC_append h1' (by first | lia | omega) ?_
      refine ⟨rfl, ?_⟩
      walk_at "S"
      refine ⟨((ht.le (l'.set hO).le).rd), l'.set hO, r', _, out ++ [(u, min n' (i' + n) - max 0 i')], _, MH.set_self, ?_, h3, ?_, by simp; (first | lia | omega), by walk_at "lk", by walk_at "lk", by walk_at "lk"⟩
      · refine Prs.tset h1' (by simp) ?_
        exact (h2.le (.new he2)).app (.mk (l.notS hS he2) MH.set_self)
      · rw [h4, List.append_assoc]; rfl

/-- what is left of runs behind i whole ones and l units -/
def sfx (r : Rn) (i : Nat) (l : Int) : List Nat := (xp (r.drop i)).drop l.toNat
def cmpT (s t : List Nat) : Int := if t < s then 1 else if s < t then -1 else 0
def Ps (r : Rn) : Prop := ∀ p ∈ r, 0 ≤ p.1 ∧ 0 < p.2
theorem sfx_at {r : Rn} {i : Nat} {l : Int} {u n : Int} (h : r[i]? = some (u, n)) (h0 : 0 ≤ l) (h1 : l < n) : sfx r i l = List.replicate (n - l).toNat u.toNat ++ xp (r.drop (i + 1)) := by
  have hd : r.drop i = (u, n) :: r.drop (i + 1) := by
    obtain ⟨hi, e⟩ := List.getElem?_eq_some_iff.mp h
    rw [List.drop_eq_getElem_cons hi, e]
  unfold sfx
  rw [hd, xp_cons, List.drop_append]
  simp only [List.drop_replicate, List.length_replicate]
  rw [show l.toNat - n.toNat = 0 from by first | lia | omega, List.drop_zero, show n.toNat - l.toNat = (n - l).toNat from by first | lia | omega]
theorem cmp_head {a b : Nat} {s t : List Nat} : cmpT (a :: s) (b :: t) = if b < a then 1 else if a < b then -1 else cmpT s t := by
  unfold cmpT
  by_cases h1 : b < a
  · rw [if_pos h1, if_pos (List.cons_lt_cons_iff.mpr (.inl h1))]
  · rw [if_neg h1]
    by_cases h2 : a < b
    · rw [if_pos h2, if_neg (fun x => by rcases List.cons_lt_cons_iff.mp x with h | h <;> (first | lia | omega)), if_pos (List.cons_lt_cons_iff.mpr (.inl h2))]
    · have : a = b := by first | lia | omega
      subst this
      rw [if_neg h2]
      simp [List.cons_lt_cons_iff]
theorem cmp_app {s t : List Nat} : ∀ (p : List Nat), cmpT (p ++ s) (p ++ t) = cmpT s t
  | [] => rfl
  | a :: p => by rw [List.cons_append, List.cons_append, cmp_head, if_neg (Nat.lt_irrefl _), if_neg (Nat.lt_irrefl _), cmp_app p]
theorem cmp_nil_nil : cmpT [] [] = 0 := by simp [cmpT]
theorem cmp_nil {a : Nat} {s : List Nat} : cmpT [] (a :: s) = -1 := by simp [cmpT]
theorem cmp_cons_nil {a : Nat} {s : List Nat} : cmpT (a :: s) [] = 1 := by simp [cmpT]
end
theorem sfx_step {r : Rn} {i : Nat} {l k : Int} {u n : Int} (h : r[i]? = some (u, n)) (h0 : 0 ≤ l) (h1 : 0 ≤ k) (h2 : l + k ≤ n) : sfx r i l = List.replicate k.toNat u.toNat ++ sfx r i (l + k) := by
  have hd : r.drop i = (u, n) :: r.drop (i + 1) := by
    obtain ⟨hi, e⟩ := List.getElem?_eq_some_iff.mp h
    rw [List.drop_eq_getElem_cons hi, e]
  unfold sfx
  rw [hd, xp_cons, List.drop_append, List.drop_append]
  simp only [List.drop_replicate, List.length_replicate]
  rw [show l.toNat - n.toNat = 0 from by first | lia | omega, show (l + k).toNat - n.toNat = 0 from by first | lia | omega, List.drop_zero, ← List.append_assoc, List.replicate_append_replicate, show k.toNat + (n.toNat - (l + k).toNat) = n.toNat - l.toNat from by first | lia | omega]
theorem sfx_next {r : Rn} {i : Nat} {u n : Int} (h : r[i]? = some (u, n)) : sfx r i n = sfx r (i + 1) 0 := by
  have hd : r.drop i = (u, n) :: r.drop (i + 1) := by
    obtain ⟨hi, e⟩ := List.getElem?_eq_some_iff.mp h
    rw [List.drop_eq_getElem_cons hi, e]
  unfold sfx
  rw [hd, xp_cons, List.drop_append]
  simp
theorem sfx_end {r : Rn} {i : Nat} (h : r.length ≤ i) (l : Int) : sfx r i l = [] := by
  unfold sfx; rw [List.drop_of_length_le h, xp_nil, List.drop_nil]
theorem rep_head {k : Int} {u : Nat} (h : 0 < k) (s : List Nat) : ∃ q, List.replicate k.toNat u ++ s = u :: q := by
  obtain ⟨m, e⟩ : ∃ m, k.toNat = m + 1 := ⟨k.toNat - 1, by first | lia | omega⟩
  rw [e, List.replicate_succ]; exact ⟨_, rfl⟩
inductive OI (r₁ r₂ : Rn) (a b : Addr) (σ : MH) : Nat → Lc → MH → Prop
  | mk {m : Lc} (i j : Nat) (l r : Int) (b1 : m.lookup ("i" : Str) = some (.int i)) (b2 : m.lookup ("j" : Str) = some (.int j)) (b3 : m.lookup ("left" : Str) = some (.int l)) (b4 : m.lookup ("right" : Str) = some (.int r))
    (b5 : m.lookup ("one" : Str) = some (.ref a)) (b6 : m.lookup ("two" : Str) = some (.ref b)) (hi : i ≤ r₁.length) (hj : j ≤ r₂.length) (hl : 0 ≤ l) (hr : 0 ≤ r) (hli : ∀ p, r₁[i]? = some p → l < p.2) (hrj : ∀ p, r₂[j]? = some p → r < p.2)
    (he : cmpT (xp r₁) (xp r₂) = cmpT (sfx r₁ i l) (sfx r₂ j r)) : OI r₁ r₂ a b σ ((r₁.length - i) + (r₂.length - j)) m σ
section
variable {Γ : Gd} {S : List Addr} {σ : MH} {Q : V → MH → Prop}
theorem ok_law_order {a b : Addr} {r₁ r₂ : Rn} (h₁ : IsRn Γ S σ a r₁) (h₂ : IsRn Γ S σ b r₂) (p₁ : Ps r₁) (p₂ : Ps r₂) (z₁ : r₁.length ≤ 1100000) (z₂ : r₂.length ≤ 1100000)
    (k : Q (.int (cmpT (xp r₁) (xp r₂))) σ) : CallOk Γ 1 871 [.ref a, .ref b] σ Q := by
  obtain ⟨vs, ht₁, hp₁⟩ := h₁
  obtain ⟨ws, ht₂, hp₂⟩ := h₂
  have lv := hp₁.length
  have lw := hp₂.length
  have zv : vs.length ≤ 2000000 := by first | lia | omega
  have zw : ws.length ≤ 2000000 := by first | lia | omega
  refine fn_enter (by k_is) (by kernel_rfl) rfl (by walk_at "bind") rfl rfl rfl rfl rfl [("two", .ref b), ("one", .ref a)] rfl ?_
  intro A g L hr
  walk_at "S"
  refine w1_while (OI r₁ r₂ a b σ) ?_ _ ⟨0, 0, 0, 0, (by walk_at "lk" : _ = some (V.int 0)), (by walk_at "lk" : _ = some (V.int 0)), by walk_at "lk", by walk_at "lk", by walk_at "lk", by walk_at "lk", by first | lia | omega, by first | lia | omega, by first | lia | omega, by first | lia | omega,
      fun p hp => (p₁ p (List.mem_of_getElem? hp)).2, fun p hp => (p₂ p (List.mem_of_getElem? hp)).2, by simp [sfx]⟩
  rintro _ m _ ⟨i, j, l, r, b1, b2, b3, b4, b5, b6, hi, hj, hl, hr', hli, hrj, he⟩
  walk_at "S"
  refine wC_len_tup ht₁.rd zv ?_
  walk_at "S"
  by_cases h1 : r₁.length ≤ i
  · refine ite_f (by simp; (first | lia | omega)) ?_
    walk_at "ite"
    walk_at "S"
    refine wC_len_tup ht₁.rd zv ?_
    walk_at "S"
    refine ite_f (by simp; (first | lia | omega)) ?_
    walk_at "S"
    refine wC_len_tup ht₂.rd zw ?_
    walk_at "S"
    rw [sfx_end (r := r₁) (by first | lia | omega)] at he
    by_cases h2 : j < r₂.length
    · refine ite_t (by simp; (first | lia | omega)) ?_
      walk_at "S"
      refine ⟨_, rfl, ?_⟩
      walk_at "S"
      obtain ⟨⟨v, n⟩, hv⟩ : ∃ p, r₂[j]? = some p := ⟨_, List.getElem?_eq_getElem h2⟩
      rw [sfx_at hv hr' (hrj _ hv)] at he
      obtain ⟨q, e⟩ := rep_head (k := n - r) (u := v.toNat) (by have := hrj _ hv; simp at this; (first | lia | omega)) (xp (r₂.drop (j + 1)))
      rw [e, cmp_nil] at he
      rw [he] at k; exact k
    · refine ite_f (by simp; (first | lia | omega)) ?_
      walk_at "S"
      rw [sfx_end (r := r₂) (by first | lia | omega), cmp_nil_nil] at he
      rw [he] at k; exact k
  replace h1 : i < r₁.length := by first | lia | omega
  obtain ⟨⟨u, n⟩, hu⟩ : ∃ p, r₁[i]? = some p := ⟨_, List.getElem?_eq_getElem h1⟩
  have hln := hli _ hu
  have pu := p₁ _ (List.mem_of_getElem? hu)
  dsimp only at hln pu
  refine ite_t (by simp; (first | lia | omega)) ?_
  walk_at "S"
  refine wC_len_tup ht₂.rd zw ?_
  walk_at "S"
  by_cases h2 : r₂.length ≤ j
  · refine ite_f (by simp; (first | lia | omega)) ?_
    walk_at "ite"
    walk_at "S"
    refine wC_len_tup ht₁.rd zv ?_
    walk_at "S"
    refine ite_t (by simp; (first | lia | omega)) ?_
    walk_at "S"
    rw [sfx_end (r := r₂) (by first | lia | omega), sfx_at hu hl hln] at he
    obtain ⟨q, e⟩ := rep_head (k := n - l) (u := u.toNat) (by first | lia | omega) (xp (r₁.drop (i + 1)))
    rw [e, cmp_cons_nil] at he
    rw [he] at k; exact k
  replace h2 : j < r₂.length := by first | lia | omega
  obtain ⟨⟨v, n'⟩, hv⟩ : ∃ p, r₂[j]? = some p := ⟨_, List.getElem?_eq_getElem h2⟩
  have hrn := hrj _ hv
  have pv := p₂ _ (List.mem_of_getElem? hv)
  dsimp only at hrn pv
  obtain ⟨x, hx, X⟩ := hp₁.get hu
  obtain ⟨y, hy, Y⟩ := hp₂.get hv
  have zi : i ≤ 2000000 := by first | lia | omega
  have zj : j ≤ 2000000 := by first | lia | omega
  obtain ⟨q₁, e₁⟩ := rep_head (k := n - l) (u := u.toNat) (by first | lia | omega) (xp (r₁.drop (i + 1)))
  obtain ⟨q₂, e₂⟩ := rep_head (k := n' - r) (u := v.toNat) (by first | lia | omega) (xp (r₂.drop (j + 1)))
  have he' := he
  rw [sfx_at hu hl hln, sfx_at hv hr' hrn, e₁, e₂, cmp_head] at he'
  refine ite_t (by simp; (first | lia | omega)) ?_
  walk_at "S"
  walk_at "ite"
  walk_at "S"
  refine wI_tupN ht₁.rd zi hx ?_
  walk_at "S"
  refine wI_tup X.rd (by decide) (by decide) (by rfl) (by rfl) ?_
  walk_at "S"
  refine wI_tupN ht₂.rd zj hy ?_
  walk_at "S"
  refine wI_tup Y.rd (by decide) (by decide) (by rfl) (by rfl) ?_
  walk_at "S"
  by_cases c1 : v < u
  · refine ite_t (by simpa using c1) ?_
    walk_at "S"
    rw [if_pos (by first | lia | omega)] at he'
    rw [he'] at k; exact k
  rw [if_neg (by first | lia | omega)] at he'
  refine ite_f (by simpa using c1) ?_
  walk_at "S"
  refine wI_tupN ht₁.rd zi hx ?_
  walk_at "S"
  refine wI_tup X.rd (by decide) (by decide) (by rfl) (by rfl) ?_
  walk_at "S"
  refine wI_tupN ht₂.rd zj hy ?_
  walk_at "S"
  refine wI_tup Y.rd (by decide) (by decide) (by rfl) (by rfl) ?_
  walk_at "S"
  by_cases c2 : u < v
  · refine ite_t (by simpa using c2) ?_
    walk_at "S"
    refine ⟨_, rfl, ?_⟩
    walk_at "S"
    rw [if_pos (by first | lia | omega)] at he'
    rw [he'] at k; exact k
  clear he'
  have huv : u = v := by first | lia | omega
  subst huv
  refine ite_f (by simpa using c2) ?_
  walk_at "S"
  refine wI_tupN ht₁.rd zi hx ?_
  walk_at "S"
  refine wI_tup X.rd (by decide) (by decide) (by rfl) (by rfl) ?_
  walk_at "S"
  refine wI_tupN ht₂.rd zj hy ?_
  walk_at "S"
  refine wI_tup Y.rd (by decide) (by decide) (by rfl) (by rfl) ?_
  walk_at "S"
  refine wC_min hr.1 ?_
  dsimp only
  obtain ⟨mny, hm⟩ : ∃ x, x = min (n - l) (n' - r) := ⟨_, rfl⟩
  rw [← hm]
  have he₂ : cmpT (xp r₁) (xp r₂) = cmpT (sfx r₁ i (l + mny)) (sfx r₂ j (r + mny)) := by
    rw [he, sfx_step hu hl (k := mny) (by first | lia | omega) (by first | lia | omega), sfx_step hv hr' (k := mny) (by first | lia | omega) (by first | lia | omega), cmp_app]
  walk_at "S"
  refine wI_tupN ht₁.rd zi hx ?_
  walk_at "S"
  refine wI_tup X.rd (by decide) (by decide) (by rfl) (by rfl) ?_
  walk_at "S"
  by_cases d1 : l + mny = n
  · refine ite_t (by simp [d1]) ?_
    walk_at "S"
    refine wI_tupN ht₂.rd zj hy ?_
    walk_at "S"
    refine wI_tup Y.rd (by decide) (by decide) (by rfl) (by rfl) ?_
    walk_at "S"
    by_cases d2 : r + mny = n'
    · refine ite_t (by simp [d2]) ?_
      walk_at "S"
      refine ⟨_, ?_, ⟨i + 1, j + 1, 0, 0, (by walk_at "lk" : _ = some (V.int ((i : Int) + 1))), (by walk_at "lk" : _ = some (V.int ((j : Int) + 1))), by walk_at "lk", by walk_at "lk", by walk_at "lk", by walk_at "lk", by first | lia | omega, by first | lia | omega, by first | lia | omega, by first | lia | omega, fun p hp => (p₁ p (List.mem_of_getElem? hp)).2, fun p hp => (p₂ p (List.mem_of_getElem? hp)).2, ?_⟩⟩
      · (first | lia | omega)
      · rw [he₂, d1, sfx_next hu, d2, sfx_next hv]
    · refine ite_f (by simpa using d2) ?_
      walk_at "S"
      refine ⟨_, ?_, ⟨i + 1, j, 0, r + mny, (by walk_at "lk" : _ = some (V.int ((i : Int) + 1))), by walk_at "lk", by walk_at "lk", by walk_at "lk", by walk_at "lk", by walk_at "lk", by first | lia | omega, by first | lia | omega, by first | lia | omega, by first | lia | omega, fun p hp => (p₁ p (List.mem_of_getElem? hp)).2, fun p hp => by rw [hv] at hp; cases hp; dsimp only; (first | lia | omega), ?_⟩⟩
      · (first | lia | omega)
      · rw [he₂, d1, sfx_next hu]
  · refine ite_f (by simpa using d1) ?_
    walk_at "S"
    refine wI_tupN ht₂.rd zj hy ?_
    walk_at "S"
    refine wI_tup Y.rd (by decide) (by decide) (by rfl) (by rfl) ?_
    walk_at "S"
    by_cases d2 : r + mny = n'
    · refine ite_t (by simp [d2]) ?_
      walk_at "S"
      refine ⟨_, ?_, ⟨i, j + 1, l + mny, 0, by walk_at "lk", (by walk_at "lk" : _ = some (V.int ((j : Int) + 1))), by walk_at "lk", by walk_at "lk", by walk_at "lk", by walk_at "lk", by first | lia | omega, by first | lia | omega, by first | lia | omega, by first | lia | omega, fun p hp => by rw [hu] at hp; cases hp; dsimp only; (first | lia | omega), fun p hp => (p₂ p (List.mem_of_getElem? hp)).2, ?_⟩⟩
      · (first | lia | omega)
      · rw [he₂, d2, sfx_next hv]
    · refine ite_f (by simpa using d2) ?_
      walk_at "S"
      refine ⟨_, ?_, ⟨i, j, l + mny, r + mny, by walk_at "lk", by walk_at "lk", by walk_at "lk", by walk_at "lk", by walk_at "lk", by walk_at "lk", by first | lia | omega, by first | lia | omega, by first | lia | omega, by first | lia | omega, fun p hp => by rw [hu] at hp; cases hp; dsimp only; (first | lia | omega), fun p hp => by rw [hv] at hp; cases hp; dsimp only; (first | lia | omega), ?_⟩⟩
      · (first | lia | omega)
      · rw [he₂]
end

/-- glued runs -/
def Gld : Rn → Prop
  | [] => True
  | p :: r => 0 ≤ p.1 ∧ p.1 ≤ 1114111 ∧ 0 < p.2 ∧ (∀ q, r.head? = some q → p.1 ≠ q.1) ∧ Gld r
theorem Gld.ps : ∀ {r : Rn}, Gld r → ∀ p ∈ r, 0 ≤ p.1 ∧ p.1 ≤ 1114111 ∧ 0 < p.2
  | _ :: _, h, p, hp => by
    rcases List.mem_cons.mp hp with rfl | hp
    · exact ⟨h.1, h.2.1, h.2.2.1⟩
    · exact h.2.2.2.2.ps p hp
theorem xp_len {r : Rn} (h : Gld r) : ((xp r).length : Int) = (r.map (·.2)).sum := by
  induction r with
  | nil => rfl
  | cons p r ih =>
    rw [xp_cons, List.length_append, List.map_cons, List.sum_cons, ← ih h.2.2.2.2]
    have := h.2.2.1
    simp; (first | lia | omega)
theorem rn_len {r : Rn} (h : Gld r) : r.length ≤ (xp r).length := by
  induction r with
  | nil => simp
  | cons p r ih =>
    rw [xp_cons, List.length_append, List.length_cons]
    have := ih h.2.2.2.2
    have := h.2.2.1
    simp; (first | lia | omega)
abbrev Row := Int × Option Rn
def RowOk (Γ : Gd) (S : List Addr) (σ : MH) (T : List (List Nat)) (a : Addr) : Row → Prop
  | (x, none) => x = 0 ∧ Pd Γ S σ a (.tup [.int 0, .none])
  | (x, some r) => ∃ b j, Pd Γ S σ a (.tup [.int x, .ref b]) ∧ IsRn Γ S σ b r ∧ x = ad j ∧ T[j]? = some (xp r) ∧ Gld r
def Rws (Γ : Gd) (S : List Addr) (σ : MH) (T : List (List Nat)) : List V → List Row → Prop
  | [], [] => True
  | v :: vs, p :: r => (∃ a, v = .ref a ∧ RowOk Γ S σ T a p) ∧ Rws Γ S σ T vs r
  | _, _ => False
section
variable {Γ : Gd} {S : List Addr} {σ σ' : MH} {T T' : List (List Nat)}
theorem RowOk.le {a : Addr} {p : Row} (h : RowOk Γ S σ T a p) (l : Le S σ σ') (t : ∀ (j : Nat) x, T[j]? = some x → T'[j]? = some x) : RowOk Γ S σ' T' a p := by
  obtain ⟨x, r⟩ := p
  cases r with
  | none => exact ⟨h.1, h.2.le l⟩
  | some r => obtain ⟨b, j, h1, h2, h3, h4, h5⟩ := h; exact ⟨b, j, h1.le l, h2.le l, h3, t _ _ h4, h5⟩
theorem Rws.le (l : Le S σ σ') (t : ∀ (j : Nat) x, T[j]? = some x → T'[j]? = some x) : ∀ {vs : List V} {r : List Row}, Rws Γ S σ T vs r → Rws Γ S σ' T' vs r
  | [], [], _ => trivial
  | _ :: _, _ :: _, ⟨⟨a, e, p⟩, h⟩ => ⟨⟨a, e, p.le l t⟩, Rws.le l t h⟩
  | [], _ :: _, h => h.elim
  | _ :: _, [], h => h.elim
theorem Rws.length : ∀ {vs : List V} {r : List Row}, Rws Γ S σ T vs r → vs.length = r.length
  | [], [], _ => rfl
  | _ :: _, _ :: _, ⟨_, h⟩ => by rw [List.length_cons, List.length_cons, h.length]
  | [], _ :: _, h => h.elim
  | _ :: _, [], h => h.elim
theorem Rws.get : ∀ {vs : List V} {r : List Row} {i : Nat} {p : Row}, Rws Γ S σ T vs r → r[i]? = some p → ∃ a, vs[i]? = some (.ref a) ∧ RowOk Γ S σ T a p
  | _ :: _, _ :: _, 0, p, ⟨⟨a, e, q⟩, h⟩, hp => by simp at hp; subst hp; subst e; exact ⟨a, rfl, q⟩
  | _ :: _, _ :: _, i + 1, p, ⟨_, h⟩, hp => by simp at hp; simpa using h.get hp
  | [], [], _, _, _, hp => by simp at hp
  | [], _ :: _, _, _, h, _ => h.elim
  | _ :: _, [], _, _, h, _ => h.elim
theorem Rws.app {a : Addr} {p : Row} : ∀ {vs : List V} {r : List Row}, Rws Γ S σ T vs r → RowOk Γ S σ T a p → Rws Γ S σ T (vs ++ [.ref a]) (r ++ [p])
  | [], [], _, q => ⟨⟨a, rfl, q⟩, trivial⟩
  | _ :: _, _ :: _, ⟨x, h⟩, q => ⟨x, h.app q⟩
  | [], _ :: _, h, _ => h.elim
  | _ :: _, [], h, _ => h.elim
end
set_option genInjectivity false in
set_option genSizeOf false in
structure Ws where
  T : List (List Nat)
  th : List Addr
  emp : Emp
  thr : List Int
  rows : List Row
  rv : List V
  we : Int
  tb : Addr
  b1 : Int
  b2 : Int
  b3 : Int
abbrev wdf (ω : Om) (s : Ws) : Str → Option V := dc4 "m" "rows" "empty" "before" (.ref ω.m) (.ref ω.R) (.int s.we) (.ref s.tb)
structure Wl (Γ : Gd) (ω : Om) (s : Ws) (σ : MH) : Prop where
  sh : Sh Γ ω s.T s.th s.emp s.thr σ
  W : ∃ n, n ≤ 4 ∧ σ ω.W = some (.dcS n (wdf ω s))
  tb : Pd Γ ω.S σ s.tb (.tup [.int s.b1, .int s.b2, .int s.b3])
  R : σ ω.R = some (.lst s.rv)
  rows : Rws Γ ω.S σ s.T s.rv s.rows
  few : s.rows.length ≤ s.T.length + 1
section
variable {Γ : Gd} {ω : Om} {s : Ws} {σ σ' : MH}
theorem Wl.ex (h : Wl Γ ω s σ) (l : Ex σ σ') : Wl Γ ω s σ' :=
  ⟨h.sh.ex l, h.W.imp fun _ x => ⟨x.1, l _ _ x.2⟩, h.tb.le l.le, l _ _ h.R, Rws.le l.le (fun _ _ e => e) h.rows, h.few⟩
theorem Wl.new {a : Addr} {o : MO} (h : Wl Γ ω s σ) (n : σ a = none) : Wl Γ ω s (σ.set a o) := h.ex (Ex.refl.new n)
theorem Wl.hS (h : Wl Γ ω s σ) : ∀ a ∈ ω.S, σ a ≠ none := h.sh.per.nw
theorem Om.nW (h : OmOk ω) : ω.W ∉ ω.Sn ∧ ω.R ∉ ω.Sn := by
  have nd := h.nd
  simp only [Om.S, List.nodup_cons, List.mem_cons, not_or] at nd
  simp only [Om.Sn, List.mem_cons, not_or]
  simp only [List.not_mem_nil, not_false_eq_true, and_true]
  exact ⟨⟨Ne.symm nd.1.2.2.2.2.2.1, Ne.symm nd.2.1.2.2.2.2.1, Ne.symm nd.2.2.1.2.2.2.1, Ne.symm nd.2.2.2.1.2.2.1, Ne.symm nd.2.2.2.2.1.2.1, Ne.symm nd.2.2.2.2.2.1.1⟩,
    Ne.symm nd.1.2.2.2.2.2.2.1, Ne.symm nd.2.1.2.2.2.2.2.1, Ne.symm nd.2.2.1.2.2.2.2.1, Ne.symm nd.2.2.2.1.2.2.2.1, Ne.symm nd.2.2.2.2.1.2.2.1, Ne.symm nd.2.2.2.2.2.1.2.1⟩
/-- a step of the machine alone -/
theorem Wl.mach {T' : List (List Nat)} {th' : List Addr} {emp' : Emp} {thr' : List Int} (h : Wl Γ ω s σ) (l : Le ω.Sn σ σ') (h' : Sh Γ ω T' th' emp' thr' σ') (t : ∀ (j : Nat) x, s.T[j]? = some x → T'[j]? = some x) (hl : s.T.length ≤ T'.length) :
    Wl Γ ω { s with T := T', th := th', emp := emp', thr := thr' } σ' :=
  ⟨h', h.W.imp fun _ x => ⟨x.1, l _ _ (Om.nW h.sh.per.ok).1 x.2⟩, h.tb.le l.nS, l _ _ (Om.nW h.sh.per.ok).2 h.R, Rws.le l.nS t h.rows, Nat.le_trans h.few (Nat.succ_le_succ hl)⟩
end
theorem valueAt_some {K : Type} [DecidableEq K] {l : List (K × Value)} {k : K} (h : valueAt l k ≠ none) : l.any (fun kv => kv.1 = k) = true := by
  unfold valueAt at h
  cases e : l.find? (fun kv => kv.1 = k) with
  | none => rw [e] at h; exact absurd rfl h
  | some kv =>
    refine List.any_eq_true.mpr ⟨kv, List.mem_of_find?_eq_some e, ?_⟩
    simpa using List.find?_some e
section
variable {c : Cx} {m : Lc} {ω : Om} {s : Ws} {σ : MH}
theorem wSI_dcP {a : Addr} {n : Nat} {f : Str → Option V} {x : Str} {v : V} {Q : MH → Prop} (r : σ a = some (.dcS n f)) (hn : n ≤ 1000000) (hf : f x ≠ none) (h : Q (σ.set a (.dcS n fun k => if k = x then some v else f k))) : wSI c (.ref a) (.str x) v m σ Q := fun ro ri rv eo ei ev s hs => by
  obtain rfl := er_ref eo; obtain ⟨u, rfl⟩ := er_str ei; subst ev
  obtain ⟨ob, e1, kvs, hk, hz, hf'⟩ := St.rd hs (.inl r)
  refine wpAny_setItem_pairs (strKind_is _ _ x u) (Heap.dictOf_iff.mpr ⟨ob, e1, hk⟩) (fun h' hd' hsb => ?_) (by unfold sizeLine; (first | lia | omega))
  obtain ⟨ob', e', hk'⟩ := Heap.dictOf_iff.mp hd'
  have hany : kvs.any (fun kv => kv.1 = x) = true := valueAt_some fun e => hf (by rw [← hf', e]; rfl)
  exact ⟨_, St.setAt (d := s.drawn) (o' := .dcS n fun k => if k = x then some (er rv) else f k) hs r hsb e' ⟨_, hk', by unfold stored; rw [if_pos hany, List.length_map]; exact hz, fun k => by rw [valueAt_stored]; split <;> simp [hf', *]⟩, h⟩
theorem wI_m {Q : V → MH → Prop} (h : Wl c.Γ ω s σ) (k : Q (.ref ω.m) σ) : wI c (.ref ω.W) (.str "m") m σ Q := by
  obtain ⟨n, _, e⟩ := h.W
  exact wI_dcS (.inl e) (by simp [dc4]) k
theorem wI_rows {Q : V → MH → Prop} (h : Wl c.Γ ω s σ) (k : Q (.ref ω.R) σ) : wI c (.ref ω.W) (.str "rows") m σ Q := by
  obtain ⟨n, _, e⟩ := h.W
  exact wI_dcS (.inl e) (by rw [wdf, dc4, if_neg (by decide), if_pos rfl]) k
theorem wI_empty {Q : V → MH → Prop} (h : Wl c.Γ ω s σ) (k : Q (.int s.we) σ) : wI c (.ref ω.W) (.str "empty") m σ Q := by
  obtain ⟨n, _, e⟩ := h.W
  exact wI_dcS (.inl e) (by rw [wdf, dc4, if_neg (by decide), if_neg (by decide), if_pos rfl]) k
theorem wI_before {Q : V → MH → Prop} (h : Wl c.Γ ω s σ) (k : Q (.ref s.tb) σ) : wI c (.ref ω.W) (.str "before") m σ Q := by
  obtain ⟨n, _, e⟩ := h.W
  exact wI_dcS (.inl e) (by rw [wdf, dc4, if_neg (by decide), if_neg (by decide), if_neg (by decide), if_pos rfl]) k
theorem Sh.setS {Γ : Gd} {T : List (List Nat)} {th : List Addr} {emp : Emp} {thr : List Int} {a : Addr} {o : MO} (h : Sh Γ ω T th emp thr σ) (ha : a ∈ ω.S) (hn : a ∉ ω.Sn) : Sh Γ ω T th emp thr (σ.set a o) :=
  ⟨h.per.le (.at ha) fun b hb e => by
      by_cases q : b = a
      · subst q; rw [MH.set_self] at e; cases e
      · rw [MH.set_ne q] at e; exact h.per.nw b hb e,
   h.mu.le fun b hb x e => by rw [MH.set_ne]; exact e; rintro rfl; exact hn hb, h.few⟩
theorem wr_ne {ω : Om} (h : OmOk ω) : ω.W ≠ ω.R := by
  have nd := h.nd
  simp only [Om.S, List.nodup_cons, List.mem_cons, not_or] at nd
  exact nd.2.2.2.2.2.2.1.1
theorem wSI_before {Q : MH → Prop} {t : Addr} {x y z : Int} (h : Wl c.Γ ω s σ) (ht : Pd c.Γ ω.S σ t (.tup [.int x, .int y, .int z])) (k : ∀ σ', Le ω.S σ σ' → Wl c.Γ ω { s with tb := t, b1 := x, b2 := y, b3 := z } σ' → Q σ') : wSI c (.ref ω.W) (.str "before") (.ref t) m σ Q := by
  obtain ⟨n, hn, e⟩ := h.W
  refine wSI_dcP e (by first | lia | omega) (by rw [wdf, dc4, if_neg (by decide), if_neg (by decide), if_neg (by decide), if_pos rfl]; simp) ?_
  have hW : ω.W ∈ ω.S := by simp [Om.S]
  refine k _ (.at hW) ⟨h.sh.setS hW (Om.nW h.sh.per.ok).1, ⟨n, hn, ?_⟩, ht.le (.at hW), ?_, Rws.le (.at hW) (fun _ _ e => e) h.rows, h.few⟩
  · rw [MH.set_self]
    congr 2
    funext q
    simp only [wdf, dc4]
    by_cases h1 : q = "before"
    · subst h1; rw [if_pos rfl, if_neg (by decide), if_neg (by decide), if_neg (by decide), if_pos rfl]
    · rw [if_neg h1]; simp only [if_neg h1]
  · rw [MH.set_ne (Ne.symm (wr_ne h.sh.per.ok))]; exact h.R
theorem wSI_empty {Q : MH → Prop} {x : Int} (h : Wl c.Γ ω s σ) (k : ∀ σ', Le ω.S σ σ' → Wl c.Γ ω { s with we := x } σ' → Q σ') : wSI c (.ref ω.W) (.str "empty") (.int x) m σ Q := by
  obtain ⟨n, hn, e⟩ := h.W
  refine wSI_dcP e (by first | lia | omega) (by rw [wdf, dc4, if_neg (by decide), if_neg (by decide), if_pos rfl]; simp) ?_
  have hW : ω.W ∈ ω.S := by simp [Om.S]
  refine k _ (.at hW) ⟨h.sh.setS hW (Om.nW h.sh.per.ok).1, ⟨n, hn, ?_⟩, h.tb.le (.at hW), ?_, Rws.le (.at hW) (fun _ _ e => e) h.rows, h.few⟩
  · rw [MH.set_self]
    congr 2
    funext q
    simp only [wdf, dc4]
    by_cases h1 : q = "empty"
    · subst h1; rw [if_pos rfl, if_neg (by decide), if_neg (by decide), if_pos rfl]
    · rw [if_neg h1]; simp only [if_neg h1]
  · rw [MH.set_ne (Ne.symm (wr_ne h.sh.per.ok))]; exact h.R
theorem wC_addrow {Q : V → MH → Prop} {a : Addr} {p : Row} (h : Wl c.Γ ω s σ) (hz : s.T.length ≤ 100000) (hf : s.rows.length ≤ s.T.length) (ha : RowOk c.Γ ω.S σ s.T a p) (k : ∀ σ', Le ω.S σ σ' → Wl c.Γ ω { s with rows := s.rows ++ [p], rv := s.rv ++ [.ref a] } σ' → Q .none σ') : wC c (.oth (.builtin "list.append")) [.ref ω.R, .ref a] m σ Q := by
  have hR : ω.R ∈ ω.S := by simp [Om.S]
  have hl := h.rows.length
  refine wC_append h.R (by first | lia | omega) ?_
  refine k _ (.at hR) ⟨h.sh.setS hR (Om.nW h.sh.per.ok).2, ?_, h.tb.le (.at hR), MH.set_self, (Rws.le (.at hR) (fun _ _ e => e) h.rows).app (ha.le (.at hR) fun _ _ e => e), by simp; (first | lia | omega)⟩
  obtain ⟨n, hn, e⟩ := h.W
  exact ⟨n, hn, by rw [MH.set_ne (wr_ne h.sh.per.ok)]; exact e⟩
end

theorem Gld.snoc {out : Rn} {p : Int × Int} : Gld (out ++ [p]) ↔ Gld out ∧ 0 ≤ p.1 ∧ p.1 ≤ 1114111 ∧ 0 < p.2 ∧ ∀ q, out.getLast? = some q → q.1 ≠ p.1 := by
  induction out with
  | nil => simp [Gld]
  | cons a r ih =>
    rw [List.cons_append]
    unfold Gld
    rw [ih]
    cases r with
    | nil => simp [Gld]; constructor <;> (rintro ⟨a1, a2, a3, a4, a5⟩; simp_all)
    | cons b t => simp [Gld]; constructor <;> (intro h; simp_all)
theorem Un.tail {p : Int × Int} {r : Rn} (h : Un (p :: r)) : Un r := fun q hq => h q (.tail _ hq)
theorem glueStep_ok {out : Rn} {p : Int × Int} (h : Gld out) (h1 : 0 ≤ p.1) (h2 : p.1 ≤ 1114111) : Gld (glueStep out p) ∧ xp (glueStep out p) = xp out ++ List.replicate p.2.toNat p.1.toNat := by
  unfold glueStep
  by_cases hp : 0 < p.2
  · rw [if_pos hp]
    cases hq : out.getLast? with
    | none =>
      have : out = [] := List.getLast?_eq_none_iff.mp hq
      subst this
      exact ⟨by simp [Gld, h1, h2, hp], by simp [xp]⟩
    | some q =>
      obtain ⟨x, rfl⟩ := List.getLast?_eq_some_iff.mp hq
      have hx := Gld.snoc.mp h
      dsimp only
      by_cases hu : q.1 = p.1
      · rw [if_pos hu]
        refine ⟨?_, ?_⟩
        · simp only [List.dropLast_concat]
          exact Gld.snoc.mpr ⟨hx.1, h1, h2, by dsimp only; (first | lia | omega), by dsimp only; rw [← hu]; exact hx.2.2.2.2⟩
        · simp only [List.dropLast_concat, xp_app, List.append_assoc]
          congr 1
          simp only [xp_cons, xp_nil, List.append_nil]
          rw [hu, List.replicate_append_replicate, show (q.2 + p.2).toNat = q.2.toNat + p.2.toNat from by first | lia | omega]
      · rw [if_neg hu]
        refine ⟨Gld.snoc.mpr ⟨h, h1, h2, hp, fun q' e => ?_⟩, by rw [xp_app, xp_cons, xp_nil, List.append_nil]⟩
        rw [hq] at e; cases e; exact hu
  · rw [if_neg hp]
    exact ⟨h, by rw [show p.2.toNat = 0 from by first | lia | omega]; simp⟩
theorem glue_fold : ∀ (r : Rn) (out : Rn), Gld out → Un r → Gld (r.foldl glueStep out) ∧ xp (r.foldl glueStep out) = xp out ++ xp r
  | [], out, h, _ => ⟨h, by simp [xp_nil]⟩
  | p :: r, out, h, hu => by
    have u := hu p (.head _)
    obtain ⟨a, b⟩ := glueStep_ok h u.1 u.2
    obtain ⟨c, d⟩ := glue_fold r _ a hu.tail
    exact ⟨c, by rw [List.foldl_cons, d, b, xp_cons, List.append_assoc]⟩
theorem gld_glue {r : Rn} (h : Un r) : Gld (glue r) := (glue_fold r [] trivial h).1
theorem xp_glue {r : Rn} (h : Un r) : xp (glue r) = xp r := by rw [glue, (glue_fold r [] trivial h).2]; rfl

theorem xp_head {r : Rn} (h : Gld r) {u : Int} (h0 : 0 ≤ u) (hn : ∀ q, r.head? = some q → u ≠ q.1) : (xp r).head? ≠ some u.toNat := by
  cases r with
  | nil => simp [xp_nil]
  | cons p r =>
    obtain ⟨q, e⟩ := rep_head h.2.2.1 (u := p.1.toNat) (xp r)
    rw [xp_cons, e]
    have := hn p rfl
    have := h.1
    simp; (first | lia | omega)
theorem rep_inj {a b : Nat} {u : Nat} {s t : List Nat} (h1 : s.head? ≠ some u) (h2 : t.head? ≠ some u) (h : List.replicate a u ++ s = List.replicate b u ++ t) : a = b ∧ s = t := by
  induction a generalizing b with
  | zero =>
    cases b with
    | zero => exact ⟨rfl, by simpa using h⟩
    | succ b => rw [List.replicate_succ] at h; simp at h; subst h; simp at h1
  | succ a ih =>
    cases b with
    | zero => rw [List.replicate_succ] at h; simp at h; subst h; simp at h2
    | succ b =>
      rw [List.replicate_succ, List.replicate_succ, List.cons_append, List.cons_append, List.cons.injEq] at h
      obtain ⟨e1, e2⟩ := ih h.2
      exact ⟨by rw [e1], e2⟩
theorem xp_inj : ∀ {a b : Rn}, Gld a → Gld b → xp a = xp b → a = b
  | [], [], _, _, _ => rfl
  | [], p :: r, _, h, e => by
    have := rn_len h
    rw [← e, xp_nil] at this; simp at this
  | p :: r, [], h, _, e => by
    have := rn_len h
    rw [e, xp_nil] at this; simp at this
  | (u, m) :: a, (v, n) :: b, h, k, e => by
    rw [xp_cons, xp_cons] at e
    obtain ⟨q1, e1⟩ := rep_head h.2.2.1 (u := u.toNat) (xp a)
    obtain ⟨q2, e2⟩ := rep_head k.2.2.1 (u := v.toNat) (xp b)
    have e0 := e
    rw [show List.replicate (u, m).2.toNat (u, m).1.toNat ++ xp a = _ from e1, show List.replicate (v, n).2.toNat (v, n).1.toNat ++ xp b = _ from e2, List.cons.injEq] at e0
    have h0 := h.1; have k0 := k.1
    dsimp only at h0 k0
    have huv : u = v := by have := e0.1; (first | lia | omega)
    subst huv
    have ha := xp_head h.2.2.2.2 h0 h.2.2.2.1
    have hb := xp_head k.2.2.2.2 h0 k.2.2.2.1
    obtain ⟨e3, e4⟩ := rep_inj ha hb e
    have h2 := h.2.2.1; have k2 := k.2.2.1
    dsimp only at h2 k2 e3
    rw [xp_inj h.2.2.2.2 k.2.2.2.2 e4, show m = n from by first | lia | omega]
theorem xp_eq {a b : Rn} (h : Gld a) (k : Gld b) : xp a = xp b ↔ a = b := ⟨xp_inj h k, fun e => by rw [e]⟩

theorem un_cut : ∀ {r : Rn} (b c : Int), Un r → Un (cutR r b c)
  | [], _, _, _ => fun _ h => nomatch h
  | (u, m) :: r, b, c, h => fun p hp => by
    rcases List.mem_cons.mp hp with rfl | hp
    · exact h (u, m) (.head _)
    · exact un_cut _ _ h.tail p hp
theorem xp_cut : ∀ {r : Rn} (b c : Int), (∀ p ∈ r, 0 ≤ p.2) → 0 ≤ c → xp (cutR r b c) = ((xp r).take (b + c).toNat).drop b.toNat
  | [], _, _, _, _ => by simp [cutR, xp_nil]
  | (u, m) :: r, b, c, h, hc => by
    have hm := h _ (.head _)
    dsimp only at hm
    rw [cutR, xp_cons, xp_cons, xp_cut (b - m) c (fun p hp => h p (.tail _ hp)) hc, List.take_append, List.drop_append]
    simp only [List.take_replicate, List.drop_replicate, List.length_replicate]
    congr 1
    · have e1 : max 0 b = (b.toNat : Int) := by rw [Int.toNat_eq_max, Int.max_comm]
      have e2 : (min m (b + c)).toNat = min (b + c).toNat m.toNat := by
        rcases Int.le_total m (b + c) with h | h
        · rw [Int.min_eq_left h, Nat.min_eq_right (Int.toNat_le_toNat h)]
        · rw [Int.min_eq_right h, Nat.min_eq_left (Int.toNat_le_toNat h)]
      rw [e1, Int.toNat_sub', e2]
    · by_cases hk : (b + c).toNat ≤ m.toNat
      · rw [show (b - m + c).toNat = 0 from by first | lia | omega, show (b + c).toNat - m.toNat = 0 from by first | lia | omega]
        simp
      · rw [show (b - m + c).toNat = (b + c).toNat - m.toNat from by first | lia | omega, show min (b + c).toNat m.toNat = m.toNat from by first | lia | omega, show b.toNat - m.toNat = (b - m).toNat from by first | lia | omega]
theorem xp_unit : ∀ {r : Rn} (i : Int), Gld r → 0 ≤ i → i < ((xp r).length : Int) → ∃ u : Nat, (xp r)[i.toNat]? = some u ∧ unitR r i = u
  | [], i, _, h0, h1 => by simp [xp_nil] at h1; (first | lia | omega)
  | (u, m) :: r, i, h, h0, h1 => by
    have hm := h.2.2.1; have hu := h.1
    dsimp only at hm hu
    rw [xp_cons] at h1 ⊢
    unfold unitR
    by_cases hi : i < m
    · rw [if_pos hi]
      refine ⟨u.toNat, ?_, by first | lia | omega⟩
      rw [List.getElem?_append_left (by simp; (first | lia | omega)), List.getElem?_replicate_of_lt (by dsimp only; (first | lia | omega))]
    · rw [if_neg hi]
      have hl : (((xp r).length : Nat) : Int) > i - m := by simp at h1; (first | lia | omega)
      obtain ⟨v, e1, e2⟩ := xp_unit (i - m) h.2.2.2.2 (by first | lia | omega) hl
      refine ⟨v, ?_, e2⟩
      rw [List.getElem?_append_right (by simp; (first | lia | omega))]
      simp only [List.length_replicate]
      rw [show i.toNat - m.toNat = (i - m).toNat from by first | lia | omega]
      exact e1

def Occ (l m : List Nat) (i : Nat) : Prop := i + m.length ≤ l.length ∧ (l.drop i).take m.length = m
theorem at_tx {l m : List Nat} {i : Nat} : StrLaws.At (tx l) (tx m) (tx l).length i ↔ Occ l m i := by
  unfold StrLaws.At Occ
  rw [tx_len, tx_len]
  refine and_congr_right fun h => ?_
  show ((tx l).cps.extract i (i + (tx m).length) == (tx m).cps) = true ↔ _
  rw [tx_len, beq_iff_eq]
  constructor
  · intro e
    have := congrArg Array.toList e
    rw [Array.toList_extract] at this
    simpa [tx, List.extract_eq_take_drop] using this
  · intro e
    apply Array.toList_inj.mp
    rw [Array.toList_extract]
    simpa [tx, List.extract_eq_take_drop] using e
theorem occ_rep {l : List Nat} {c u i : Nat} (hc : 0 < c) : Occ l (List.replicate c u) i ↔ ∀ k, k < c → l[i + k]? = some u := by
  unfold Occ
  rw [List.length_replicate]
  constructor
  · rintro ⟨h, e⟩ k hk
    have h1 := congrArg (·[k]?) e
    try dsimp only at h1
    rw [List.getElem?_take_of_lt hk, List.getElem?_drop, List.getElem?_replicate_of_lt hk] at h1
    exact h1
  · intro h
    have h1 := (List.getElem?_eq_some_iff.mp (h (c - 1) (by first | lia | omega))).1
    refine ⟨by first | lia | omega, List.ext_getElem? fun k => ?_⟩
    by_cases hk : k < c
    · rw [List.getElem?_take_of_lt hk, List.getElem?_drop, h k hk, List.getElem?_replicate_of_lt hk]
    · rw [List.getElem?_eq_none (by simp; (first | lia | omega)), List.getElem?_eq_none (by simp; (first | lia | omega))]
theorem seek_spec {u c : Int} (hu : 0 ≤ u) (hc : 0 < c) : ∀ (r : Rn) (p : Int), Gld r →
    (seekR u c r p = -1 ∧ ∀ i, ¬ Occ (xp r) (List.replicate c.toNat u.toNat) i) ∨ ∃ i : Nat, seekR u c r p = p + i ∧ Occ (xp r) (List.replicate c.toNat u.toNat) i ∧ ∀ k, k < i → ¬ Occ (xp r) (List.replicate c.toNat u.toNat) k
  | [], p, _ => .inl ⟨rfl, fun i h => by
      have := (occ_rep (by first | lia | omega)).mp h 0 (by first | lia | omega)
      simp [xp_nil] at this⟩
  | (o, m) :: r, p, h => by
    have hm := h.2.2.1; have ho := h.1
    dsimp only at hm ho
    rw [xp_cons]
    dsimp only
    rw [show seekR u c ((o, m) :: r) p = if o = u ∧ c ≤ m then p else seekR u c r (p + m) from rfl]
    by_cases hh : o = u ∧ c ≤ m
    · rw [if_pos hh]
      refine .inr ⟨0, by simp, (occ_rep (by first | lia | omega)).mpr fun k hk => ?_, fun k hk => absurd hk (by first | lia | omega)⟩
      rw [List.getElem?_append_left (by simp; (first | lia | omega)), List.getElem?_replicate_of_lt (by first | lia | omega), hh.1]
    · rw [if_neg hh]
      have low : ∀ i, i < m.toNat → ¬ Occ (List.replicate m.toNat o.toNat ++ xp r) (List.replicate c.toNat u.toNat) i := by
        intro i hi hO
        have q := (occ_rep (by first | lia | omega)).mp hO
        have q0 := q 0 (by first | lia | omega)
        rw [List.getElem?_append_left (by simp; (first | lia | omega)), List.getElem?_replicate_of_lt (by first | lia | omega)] at q0
        have huo : o = u := by have := Option.some.inj q0; (first | lia | omega)
        have hcm : m < c := by
          by_cases x : c ≤ m
          · exact absurd ⟨huo, x⟩ hh
          · (first | lia | omega)
        have q1 := q (m.toNat - i) (by first | lia | omega)
        rw [List.getElem?_append_right (by simp; (first | lia | omega))] at q1
        simp only [List.length_replicate] at q1
        rw [show i + (m.toNat - i) - m.toNat = 0 from by first | lia | omega] at q1
        have := xp_head h.2.2.2.2 ho h.2.2.2.1
        rw [List.head?_eq_getElem?, q1] at this
        exact this (by rw [huo])
      have shift : ∀ i, Occ (List.replicate m.toNat o.toNat ++ xp r) (List.replicate c.toNat u.toNat) (m.toNat + i) ↔ Occ (xp r) (List.replicate c.toNat u.toNat) i := by
        intro i
        rw [occ_rep (by first | lia | omega), occ_rep (by first | lia | omega)]
        refine forall_congr' fun k => imp_congr_right fun hk => ?_
        rw [List.getElem?_append_right (by simp; (first | lia | omega))]
        simp only [List.length_replicate]
        rw [show m.toNat + i + k - m.toNat = i + k from by first | lia | omega]
      rcases seek_spec hu hc r (p + m) h.2.2.2.2 with ⟨e, n⟩ | ⟨i, e, y, n⟩
      · refine .inl ⟨e, fun i hO => ?_⟩
        by_cases hi : i < m.toNat
        · exact low i hi hO
        · obtain ⟨j, rfl⟩ : ∃ j, i = m.toNat + j := ⟨i - m.toNat, by first | lia | omega⟩
          exact n j ((shift j).mp hO)
      · refine .inr ⟨m.toNat + i, by rw [e]; (first | lia | omega), (shift i).mpr y, fun k hk hO => ?_⟩
        by_cases hi : k < m.toNat
        · exact low k hi hO
        · obtain ⟨j, rfl⟩ : ∃ j, k = m.toNat + j := ⟨k - m.toNat, by first | lia | omega⟩
          exact n j (by first | lia | omega) ((shift j).mp hO)
theorem seek_find {u c : Int} {r : Rn} (hu : 0 ≤ u) (hc : 0 < c) (h : Gld r) : seekR u c r 0 = Txt.find (tx (xp r)) (tx (List.replicate c.toNat u.toNat)) := by
  rcases seek_spec hu hc r 0 h with ⟨e, n⟩ | ⟨i, e, y, n⟩
  · rcases PyProof.Rows.find_whole (tx (xp r)) (tx (List.replicate c.toNat u.toNat)) with ⟨e', _⟩ | ⟨j, _, y', _⟩
    · rw [e, e']
    · exact absurd (at_tx.mp y') (n j)
  · rcases PyProof.Rows.find_whole (tx (xp r)) (tx (List.replicate c.toNat u.toNat)) with ⟨_, n'⟩ | ⟨j, e', y', n'⟩
    · exact absurd (at_tx.mpr y) (n' i)
    · rw [e, e']
      have : i = j := by
        rcases Nat.lt_trichotomy i j with h1 | h1 | h1
        · exact absurd (at_tx.mpr y) (n' i h1)
        · exact h1
        · exact absurd (at_tx.mp y') (n j h1)
      subst this; (first | lia | omega)
section
variable {Γ : Gd} {ω : Om} {s : Ws} {σ : MH} {Q : V → MH → Prop}
theorem Wl.grow {t : List Nat} {x : Addr} {σ' : MH} (H : Wl Γ ω s σ) (l : Le ω.Sn σ σ') (h : Sh Γ ω (s.T ++ [t]) (s.th ++ [x]) s.emp s.thr σ') : Wl Γ ω { s with T := s.T ++ [t], th := s.th ++ [x] } σ' :=
  H.mach l h (fun j y e => by rw [List.getElem?_append_left (List.getElem?_eq_some_iff.mp e).1]; exact e) (by simp)
def LayK (Γ : Gd) (ω : Om) (s : Ws) (σ : MH) (r : Rn) (Q : V → MH → Prop) : Prop :=
  ∀ σ' x ra, Le ω.S σ σ' → Wl Γ ω { s with T := s.T ++ [xp r], th := s.th ++ [x], rows := s.rows ++ [(ad s.T.length, some (glue r))], rv := s.rv ++ [.ref ra] } σ' → Q .none σ'
theorem ok_lay {a : Addr} {r : Rn} (H : Wl Γ ω s σ) (hR : IsRn Γ ω.S σ a r) (hu : Un r) (hc : ∀ p ∈ r, -1000 ≤ p.2) (hz : (xp r).length ≤ 1048577) (hn : s.T.length < 100000) (hl : r.length ≤ 1000) (k : LayK Γ ω s σ r Q) : CallOk Γ 9 892 [.ref ω.W, .ref a] σ Q := by
  refine fn_enter (by k_is) (by kernel_rfl) rfl (by walk_at "bind") rfl rfl rfl rfl rfl [("runs", .ref a), ("w", .ref ω.W)] rfl ?_
  intro A g L hr
  walk_at "S"
  refine wI_m H ?_
  refine wM_mt H.sh.per.m.rd H.sh.per.md.rd H.sh.per.ok.new_text ?_
  walk_at "S"
  refine wC_fn hr ((ok_law_text hR hu hc (by first | lia | omega) ?_).less (by decide))
  walk_at "S"
  refine wC_fn hr ((ok_new_text H.sh hz hn fun σ₁ x r₁ l₁ H₁ hr₁ => ?_).less (by decide))
  have W₁ := H.grow l₁ H₁
  walk_at "S"
  refine wI_rows W₁ ?_
  refine wM_append (.inl W₁.R) ?_
  walk_at "S"
  refine wI_tup hr₁.rd (by decide) (by decide) (by rfl) (by rfl) ?_
  walk_at "S"
  obtain ⟨vs, ht, hp⟩ := hR.le l₁.nS
  refine wC_fn hr ((ok_law_glue (.inl rfl) ht.rd hp W₁.hS (by first | lia | omega) fun σ₂ t l₂ hG => ?_).less (by decide))
  have W₂ := W₁.ex l₂
  walk_at "S"
  refine ⟨le1 rfl, fun ra h3 => ?_⟩
  have W₃ := W₂.new (o := .tup [.int (ad s.T.length), .ref t]) h3
  walk_at "S"
  refine wC_addrow (p := (ad s.T.length, some (glue r))) W₃ (by simp; (first | lia | omega)) (by have := H.few; simp; (first | lia | omega)) ⟨t, s.T.length, .mk (W₂.sh.notS h3) MH.set_self, hG.le (.new h3), rfl, ?_, gld_glue hu⟩ fun σ₄ l₄ W₄ => ?_
  · simp [xp_glue hu]
  refine ⟨rfl, ?_⟩
  walk_at "S"
  exact k _ x ra (((l₁.nS).trans (l₂.le.trans (.new h3))).trans l₄) W₄
/-- the machine asked: what a native of text does, the numbers noted -/
theorem ok_call {C f L : Addr} {i : Int} (H : Wl Γ ω s σ) (hf : s.T.length ≤ 100000) (hi : (i, C) ∈ natTab) [Mt C "call" f] [Fn f]
    (k : ∀ σ' tb kk, Le ω.S σ σ' → Wl Γ ω { s with tb := tb, b1 := s.T.length, b2 := ad s.T.length, b3 := s.T.length } σ' → CallOk Γ 11 f [.ref kk, .ref ω.m, .none, .ref L] σ' Q) : CallOk Γ 12 899 [.ref ω.W, .int i, .ref L] σ Q := by
  refine fn_enter (by k_is) (by kernel_rfl) rfl (by walk_at "bind") rfl rfl rfl rfl rfl [("args", .ref L), ("number", .int i), ("w", .ref ω.W)] rfl ?_
  intro A g L' hr
  walk_at "S"
  refine wI_m H ?_
  walk_at "S"
  refine wA_ga H.sh.per.m.rd H.sh.per.md.rd H.sh.per.ok.heap rfl ?_
  refine wA_ga H.sh.per.h.rd (.inl H.sh.mu.hd) (by rfl) (by rfl) ?_
  walk_at "S"
  refine wA_ga H.sh.per.m.rd H.sh.per.md.rd H.sh.per.ok.heap rfl ?_
  refine wA_ga H.sh.per.h.rd (.inl H.sh.mu.hd) (by rfl) (by rfl) ?_
  walk_at "S"
  refine wA_ga H.sh.per.m.rd H.sh.per.md.rd H.sh.per.ok.heap rfl ?_
  refine wA_ga H.sh.per.h.rd (.inl H.sh.mu.hd) (by rfl) (by rfl) ?_
  walk_at "S"
  refine wC_len_lst (.inl H.sh.mu.things) (by have := H.sh.per.len; simp; (first | lia | omega)) ?_
  rw [show ((s.th.map V.ref).length : Int) = s.T.length from by rw [List.length_map, H.sh.per.len]]
  walk_at "S"
  refine ⟨le1 rfl, fun tb h1 => ?_⟩
  have H₁ := H.new (o := .tup [.int s.T.length, .int (ad s.T.length), .int s.T.length]) h1
  walk_at "S"
  refine wSI_before H₁ (.mk (H.sh.notS h1) MH.set_self) fun σ₂ l₂ H₂ => ?_
  walk_at "S"
  refine wA_ga H₂.sh.per.m.rd H₂.sh.per.md.rd H₂.sh.per.ok.natives rfl ?_
  walk_at "S"
  obtain ⟨nn, hnat⟩ := H₂.sh.per.nat
  obtain ⟨kk, d, e1, e2, e3⟩ := H₂.sh.per.natk _ hi
  refine wI_dcI hnat.rd e1 ?_
  refine wM_mt e2.rd e3.rd rfl ?_
  walk_at "S"
  refine wC_fn hr (CallOk.mono (k σ₂ tb kk ((Le.new h1).trans l₂) H₂) fun v σ' q => ?_)
  walk_at "S"
  exact q
end
theorem eqv3 (a b d x y z : Int) : PyData.eqv (.tuple [.int a, .int b, .int d]) (.tuple [.int x, .int y, .int z]) = decide (a = x ∧ b = y ∧ d = z) := by
  rw [Bool.eq_iff_iff]
  simp [PyData.eqv, PyData.eqvAll]
theorem eqv2 (a b x y : Int) : PyData.eqv (.tuple [.int a, .int b]) (.tuple [.int x, .int y]) = decide (a = x ∧ b = y) := by
  rw [Bool.eq_iff_iff]
  simp [PyData.eqv, PyData.eqvAll]
theorem shaped3 (a b d : Int) : SeqAt.shaped (.tuple [.int a, .int b, .int d]) = true := by
  exact Bool.and_eq_true_iff.mpr ⟨by simp [PyData.canLay0, PyData.canLayAll0], decide_eq_true (by simp [PyData.depth, PyData.depthAll])⟩
theorem shaped2 (a b : Int) : SeqAt.shaped (.tuple [.int a, .int b]) = true := by
  exact Bool.and_eq_true_iff.mpr ⟨by simp [PyData.canLay0, PyData.canLayAll0], decide_eq_true (by simp [PyData.depth, PyData.depthAll])⟩
theorem shapedL1 (a : Int) : SeqAt.shaped (.list [.int a]) = true := by
  exact Bool.and_eq_true_iff.mpr ⟨by simp [PyData.canLay0, PyData.canLayAll0], decide_eq_true (by simp [PyData.depth, PyData.depthAll])⟩
section
variable {Γ : Gd} {ω : Om} {s : Ws} {σ : MH} {Q : V → MH → Prop}
theorem rd3 {S : List Addr} {a : Addr} {x y z : Int} (h : Rd Γ σ a (.tup [.int x, .int y, .int z])) : RdV Γ σ (.ref a) (.tuple [.int x, .int y, .int z]) := RdV.tup h (.cons .int (.cons .int (.cons .int .nil)))
theorem rd2 {a : Addr} {x y : Int} (h : Rd Γ σ a (.tup [.int x, .int y])) : RdV Γ σ (.ref a) (.tuple [.int x, .int y]) := RdV.tup h (.cons .int (.cons .int .nil))
theorem ok_still {n : Nat} (H : Wl Γ ω s σ) (hf : s.T.length ≤ 100000) (h1 : s.b1 = n) (h2 : s.b2 = ad n) (h3 : s.b3 = n) (k : ∀ σ', Ex σ σ' → Q (.bool (decide (s.T.length = n))) σ') : CallOk Γ 1 906 [.ref ω.W] σ Q := by
  refine fn_enter (by k_is) (by kernel_rfl) rfl (by walk_at "bind") rfl rfl rfl rfl rfl [("w", .ref ω.W)] rfl ?_
  intro A g L' hr
  walk_at "S"
  refine wI_m H ?_
  walk_at "S"
  refine wA_ga H.sh.per.m.rd H.sh.per.md.rd H.sh.per.ok.heap rfl ?_
  refine wA_ga H.sh.per.h.rd (.inl H.sh.mu.hd) (by rfl) (by rfl) ?_
  walk_at "S"
  refine wA_ga H.sh.per.m.rd H.sh.per.md.rd H.sh.per.ok.heap rfl ?_
  refine wA_ga H.sh.per.h.rd (.inl H.sh.mu.hd) (by rfl) (by rfl) ?_
  walk_at "S"
  refine wA_ga H.sh.per.m.rd H.sh.per.md.rd H.sh.per.ok.heap rfl ?_
  refine wA_ga H.sh.per.h.rd (.inl H.sh.mu.hd) (by rfl) (by rfl) ?_
  walk_at "S"
  refine wC_len_lst (.inl H.sh.mu.things) (by have := H.sh.per.len; simp; (first | lia | omega)) ?_
  rw [show ((s.th.map V.ref).length : Int) = s.T.length from by rw [List.length_map, H.sh.per.len]]
  walk_at "S"
  refine ⟨le1 rfl, fun t ht => ?_⟩
  walk_at "S"
  refine wI_before (H.new ht) ?_
  refine wCmp_eqD hr (rd3 (S := []) Rd.self) (rd3 (S := []) ((H.new ht).tb.rd)) (shaped3 _ _ _) (shaped3 _ _ _) ?_
  rw [eqv3, h1, h2, h3]
  walk_at "S"
  have e : decide ((s.T.length : Int) = n ∧ ad s.T.length = ad n ∧ (s.T.length : Int) = n) = decide (s.T.length = n) := by
    rw [decide_eq_decide]; unfold ad; (first | lia | omega)
  rw [e]
  exact k _ (Ex.refl.new ht)
theorem Sh.setThr {T : List (List Nat)} {th : List Addr} {emp : Emp} {thr thr' : List Int} (H : Sh Γ ω T th emp thr σ) : Sh Γ ω T th emp thr' (σ.set ω.thr (.lst (thr'.map .int))) := by
  have l : Le ω.Sn σ (σ.set ω.thr (.lst (thr'.map .int))) := .at (by simp [Om.Sn])
  have nd := H.per.ok.nd
  simp only [Om.S, List.nodup_cons, List.mem_cons, not_or] at nd
  have M : Mu ω T.length th emp thr' (σ.set ω.thr (.lst (thr'.map .int))) := by
    obtain ⟨kt, h1, eta⟩ := H.mu.ta
    obtain ⟨kd, h2, ed⟩ := H.mu.itd
    refine ⟨?_, ?_, ⟨kt, h1, ?_⟩, MH.set_self, ⟨kd, h2, ?_⟩, ?_⟩
    · rw [MH.set_ne nd.1.2.2.1]; exact H.mu.hd
    · rw [MH.set_ne nd.2.1.2.1]; exact H.mu.things
    · rw [MH.set_ne nd.2.2.1.1]; exact eta
    · rw [MH.set_ne (Ne.symm nd.2.2.2.1.1)]; exact ed
    · rw [MH.set_ne (Ne.symm nd.2.2.2.1.2.1)]; exact H.mu.itv
  exact ⟨H.per.le l.nS (H.nw' l M), M, H.few⟩
theorem ok_refused {i : Int} (H : Wl Γ ω s σ) (hf : s.T.length ≤ 100000) (ht : s.thr = [i]) (h1 : s.b1 = s.T.length) (h2 : s.b2 = ad s.T.length) (h3 : s.b3 = s.T.length)
    (k : ∀ σ', Le ω.S σ σ' → Wl Γ ω { s with thr := [] } σ' → Q (.bool true) σ') : CallOk Γ 2 913 [.ref ω.W, .int (-2), .int i] σ Q := by
  refine fn_enter (by k_is) (by kernel_rfl) rfl (by walk_at "bind") rfl rfl rfl rfl rfl [("tid", .int i), ("gave", .int (-2)), ("w", .ref ω.W)] rfl ?_
  intro A g L' hr
  walk_at "S"
  refine wI_m H ?_
  walk_at "S"
  walk_at "ite"
  walk_at "S"
  refine wA_ga H.sh.per.m.rd H.sh.per.md.rd H.sh.per.ok.thrown rfl ?_
  walk_at "S"
  refine ⟨le1 rfl, fun t h4 => ?_⟩
  have H₁ := H.new (o := .lst [.int i]) h4
  have hthr := H₁.sh.mu.thr
  rw [ht] at hthr
  refine wCmp_eqD hr (RdV.lst (.inl hthr) (.cons .int .nil)) (RdV.lst Rd.self (.cons .int .nil)) (shapedL1 _) (shapedL1 _) ?_
  rw [show PyData.eqv (.list [.int i]) (.list [.int i]) = true from by simp [PyData.eqv, PyData.eqvAll]]
  walk_at "S"
  walk_at "ite"
  walk_at "S"
  refine wC_fn hr (ok_still H₁ hf h1 h2 h3 fun σ₂ l₂ => ?_)
  have H₂ := H₁.ex l₂
  walk_at "S"
  rw [show decide (s.T.length = s.T.length) = true from by simp]
  walk_at "S"
  refine wA_ga H₂.sh.per.m.rd H₂.sh.per.md.rd H₂.sh.per.ok.thrown rfl ?_
  have hthr := H₂.sh.mu.thr
  rw [ht] at hthr
  refine ⟨_, i, rfl, hthr, ?_⟩
  have l₃ : Le ω.Sn σ₂ (σ₂.set ω.thr (.lst [])) := .at (by simp [Om.Sn])
  have H₃ := H₂.mach l₃ (H₂.sh.setThr (thr' := [])) (fun _ _ e => e) (Nat.le_refl _)
  generalize σ₂.set ω.thr (.lst []) = σ₃ at l₃ H₃
  walk_at "S"
  exact k σ₃ (((Le.new h4).trans l₂.le).trans l₃.nS) H₃
end
theorem slice_rep {pre rest : List Nat} {n k i u : Nat} (h : i + k ≤ n) : ((pre ++ (List.replicate n u ++ rest)).drop (pre.length + i)).take k = List.replicate k u := by
  rw [← List.drop_drop, List.drop_left, List.drop_append, List.take_append]
  simp only [List.drop_replicate, List.length_replicate, List.take_replicate]
  rw [show k - (n - i) = 0 from by first | lia | omega, List.take_zero, List.append_nil, show min k (n - i) = k from by first | lia | omega]
section
variable {Γ : Gd} {ω : Om} {s : Ws} {σ : MH} {Q : V → MH → Prop}
theorem ok_holds {S : List Addr} {x a : Addr} {j : Nat} {r : Rn} (X : IsTh Γ S σ x j (xp r)) (hR : IsRn Γ S σ a r) (hG : Gld r) (hz : (xp r).length ≤ 1048577) (k : Q (.bool true) σ) : CallOk Γ 1 920 [.ref x, .ref a] σ Q := by
  obtain ⟨d, sl, tp, x1, x2, x3, x4⟩ := X.ex
  obtain ⟨vs, ht, hp⟩ := hR
  refine fn_enter (by k_is) (by kernel_rfl) rfl (by walk_at "bind") rfl rfl rfl rfl rfl [("runs", .ref a), ("thing", .ref x)] rfl ?_
  intro A g L' hr
  walk_at "S"
  refine wA_ga x1.rd x2.rd (by rfl) (by rfl) ?_
  walk_at "S"
  walk_at "ite"
  walk_at "S"
  refine wA_ga x1.rd x2.rd (by rfl) (by rfl) ?_
  walk_at "S"
  refine wC_len_lst x3.rd (by simp) ?_
  walk_at "S"
  walk_at "ite"
  walk_at "S"
  refine wA_ga x1.rd x2.rd (by rfl) (by rfl) ?_
  walk_at "S"
  refine wI_lst x3.rd (by decide) (by decide) (by rfl) (by rfl) ?_
  walk_at "S"
  refine wI_tup x4.rd (by decide) (by decide) (by rfl) (by rfl) ?_
  walk_at "S"
  walk_at "ite"
  walk_at "S"
  walk_at "ite"
  walk_at "S"
  refine wA_ga x1.rd x2.rd (by rfl) (by rfl) ?_
  walk_at "S"
  refine wI_lst x3.rd (by decide) (by decide) (by rfl) (by rfl) ?_
  walk_at "S"
  refine wI_tup x4.rd (by decide) (by decide) (by rfl) (by rfl) ?_
  walk_at "S"
  refine w1_for_tuple hr.1 ?_ (by intro _; rfl)
  walk_at "S"
  refine ⟨a, vs, rfl, ht.rd, ?_⟩
  refine wFor_inv (fun vs m σ' => σ' = σ ∧ ∃ r' pre, Prs Γ S σ vs r' ∧ xp r = pre ++ xp r' ∧ Gld r' ∧ m.lookup ("place" : Str) = some (.int (pre.length : Nat)) ∧ m.lookup ("text" : Str) = some (.str (tx (xp r)))) ?_ ?_ _ _ _ ⟨rfl, r, [], hp, rfl, hG, (by walk_at "lk" : _ = some (V.int 0)), by walk_at "lk"⟩
  · rintro m σ' ⟨rfl, r', pre, h1, h2, h3, h4, h5⟩
    cases r' with
    | cons p r' => exact h1.elim
    | nil =>
      rw [xp_nil, List.append_nil] at h2
      walk_at "S"
      refine wC_len_str (by rw [tx_len]; (first | lia | omega)) ?_
      rw [tx_len]
      walk_at "S"
      rw [h2, show decide ((pre.length : Int) = (pre.length : Int)) = true from by simp]
      exact k
  · rintro v vs m σ' ⟨rfl, r', pre, h1, h2, h3, h4, h5⟩ fp
    cases r' with
    | nil => exact h1.elim
    | cons p r' =>
      obtain ⟨⟨b, rfl, hb⟩, h1⟩ := h1
      obtain ⟨u, n⟩ := p
      have g1 := h3.1; have g2 := h3.2.1; have g3 := h3.2.2.1
      dsimp only at hb g1 g2 g3
      rw [xp_cons] at h2
      dsimp only at h2
      have hlen : pre.length + n.toNat ≤ (xp r).length := by rw [h2, List.length_append, List.length_append, List.length_replicate]; (first | lia | omega)
      refine wAs_tuple hr.1 hb.rd ?_ (by rfl) (by rfl)
      walk_at "S"
      refine wC_min hr.1 ?_
      walk_at "S"
      refine wC_chr g1 g2 ?_
      walk_at "S"
      refine wB_mulT (by first | lia | omega) (by first | lia | omega) ?_
      obtain ⟨f, hf⟩ : ∃ f, f = min n 3 := ⟨_, rfl⟩
      rw [← hf]
      walk_at "S"
      refine wE_sliceS ?_
      walk_at "S"
      refine ⟨xp r, _, _, rfl, rfl, rfl, by first | lia | omega, by first | lia | omega, by first | lia | omega, by first | lia | omega, ?_⟩
      have s1 : ((xp r).drop ((pre.length : Int)).toNat).take ((pre.length : Int) + f - pre.length).toNat = List.replicate f.toNat u.toNat := by
        rw [h2, show ((pre.length : Int)).toNat = pre.length + 0 from by first | lia | omega, show ((pre.length : Int) + f - pre.length).toNat = f.toNat from by first | lia | omega]
        exact slice_rep (by first | lia | omega)
      rw [s1]
      walk_at "S"
      refine wCmp_neT ?_
      walk_at "S"
      refine ite_f (by simp) ?_
      walk_at "S"
      have hhalf : 0 ≤ n.fdiv 2 ∧ n.fdiv 2 < n := by rw [Int.fdiv_eq_ediv_of_nonneg _ (by decide)]; (first | lia | omega)
      refine wE_sliceS ?_
      walk_at "S"
      refine ⟨xp r, _, _, rfl, rfl, rfl, by first | lia | omega, by first | lia | omega, by first | lia | omega, by first | lia | omega, ?_⟩
      have s2 : ((xp r).drop ((pre.length : Int) + n.fdiv 2).toNat).take ((pre.length : Int) + n.fdiv 2 + 1 - (pre.length + n.fdiv 2)).toNat = List.replicate 1 u.toNat := by
        rw [h2, show ((pre.length : Int) + n.fdiv 2).toNat = pre.length + (n.fdiv 2).toNat from by first | lia | omega, show ((pre.length : Int) + n.fdiv 2 + 1 - (pre.length + n.fdiv 2)).toNat = 1 from by first | lia | omega]
        exact slice_rep (by first | lia | omega)
      rw [s2]
      walk_at "S"
      refine wC_chr g1 g2 ?_
      rw [chr_tx]
      refine wCmp_neT ?_
      walk_at "S"
      refine ite_f (by simp) ?_
      walk_at "S"
      walk_at "ite"
      walk_at "S"
      refine wE_sliceS ?_
      walk_at "S"
      refine ⟨xp r, _, _, rfl, rfl, rfl, by first | lia | omega, by first | lia | omega, by first | lia | omega, by first | lia | omega, ?_⟩
      have s3 : ((xp r).drop ((pre.length : Int) + n - f).toNat).take ((pre.length : Int) + n - (pre.length + n - f)).toNat = List.replicate f.toNat u.toNat := by
        rw [h2, show ((pre.length : Int) + n - f).toNat = pre.length + (n - f).toNat from by first | lia | omega, show ((pre.length : Int) + n - (pre.length + n - f)).toNat = f.toNat from by first | lia | omega]
        exact slice_rep (by first | lia | omega)
      rw [s3]
      walk_at "S"
      refine wCmp_neT ?_
      walk_at "S"
      refine ite_f (by simp) ?_
      walk_at "S"
      refine ⟨ht.rd, rfl, r', pre ++ List.replicate n.toNat u.toNat, h1, by rw [h2, List.append_assoc], h3.2.2.2.2, ?_, by walk_at "lk"⟩
      rw [show (((pre ++ List.replicate n.toNat u.toNat).length : Nat) : Int) = pre.length + n from by rw [List.length_append, List.length_replicate]; (first | lia | omega)]
      walk_at "lk"
end
section
variable {Γ : Gd} {ω : Om} {s : Ws} {σ : MH} {Q : V → MH → Prop}
theorem ok_law_new {T₀ : List (List Nat)} {r a : Addr} {rr : Rn} (H : Wl Γ ω s σ) (hT : s.T = T₀ ++ [xp rr]) (hR₀ : Rws Γ ω.S σ T₀ s.rv s.rows) (hfr : s.rows.length ≤ T₀.length + 1) (h1 : s.b1 = T₀.length)
    (hP : Pd Γ ω.S σ r (.tup [.int 4, .int (ad T₀.length)])) (hR : IsRn Γ ω.S σ a rr) (hu : Un rr) (hz : (xp rr).length ≤ 1048577) (hl : rr.length ≤ 1100000)
    (k : ∀ σ' ra, Le ω.S σ σ' → Wl Γ ω { s with rows := s.rows ++ [(ad T₀.length, some (glue rr))], rv := s.rv ++ [.ref ra] } σ' → Q (.bool true) σ') : CallOk Γ 2 927 [.ref ω.W, .ref r, .ref a] σ Q := by
  have hlen : s.T.length = T₀.length + 1 := by rw [hT]; simp
  have hfew := H.sh.few
  have hr' := hP.rd
  refine fn_enter (by k_is) (by kernel_rfl) rfl (by walk_at "bind") rfl rfl rfl rfl rfl [("runs", .ref a), ("gave", .ref r), ("w", .ref ω.W)] rfl ?_
  intro A g L' hr
  walk_at "S"
  refine wI_m H ?_
  walk_at "S"
  refine wC_isint_tup hr' ?_
  walk_at "S"
  walk_at "ite"
  walk_at "S"
  refine wI_tup hr' (by decide) (by decide) (by rfl) (by rfl) ?_
  walk_at "S"
  walk_at "ite"
  walk_at "S"
  refine wA_ga H.sh.per.m.rd H.sh.per.md.rd H.sh.per.ok.heap rfl ?_
  refine wA_ga H.sh.per.h.rd (.inl H.sh.mu.hd) (by rfl) (by rfl) ?_
  walk_at "S"
  refine wI_before H ?_
  walk_at "S"
  refine wI_tup H.tb.rd (by decide) (by decide) (by rfl) (by rfl) ?_
  walk_at "S"
  refine ite_f (by rw [h1, hlen]; simp) ?_
  walk_at "S"
  walk_at "ite"
  walk_at "S"
  refine w1_for_list hr.1 ?_ (by intro _; rfl)
  walk_at "S"
  refine wI_rows H ?_
  refine ⟨ω.R, s.rv, rfl, .inl H.R, ?_⟩
  refine wFor_inv (fun vs m σ' => σ' = σ ∧ ∃ r', Rws Γ ω.S σ T₀ vs r' ∧ m.lookup ("gave" : Str) = some (.ref r) ∧ m.lookup ("w" : Str) = some (.ref ω.W) ∧ m.lookup ("runs" : Str) = some (.ref a) ∧ m.lookup ("m" : Str) = some (.ref ω.m)) ?_ ?_ _ _ _ ⟨rfl, _, hR₀, by walk_at "lk", by walk_at "lk", by walk_at "lk", by walk_at "lk"⟩
  · rintro m σ' ⟨rfl, r', h2, h3, h4, h5, h6⟩
    walk_at "S"
    refine wI_rows H ?_
    refine wM_append (.inl H.R) ?_
    walk_at "S"
    refine wI_tup hr' (by decide) (by decide) (by rfl) (by rfl) ?_
    walk_at "S"
    obtain ⟨vs, ht, hp⟩ := hR
    refine wC_fn hr ((ok_law_glue (.inl rfl) ht.rd hp H.hS hl fun σ₂ t l₂ hG => ?_).less (by decide))
    have W₂ := H.ex l₂
    walk_at "S"
    refine ⟨le1 rfl, fun ra h7 => ?_⟩
    have W₃ := W₂.new (o := .tup [.int (ad T₀.length), .ref t]) h7
    have hxg : xp (glue rr) = xp rr := xp_glue hu
    have hTg : s.T[T₀.length]? = some (xp (glue rr)) := by rw [hT, hxg]; simp
    have hPa : Pd Γ ω.S (σ₂.set ra (.tup [.int (ad T₀.length), .ref t])) ra (.tup [.int (ad T₀.length), .ref t]) := .mk (W₂.sh.notS h7) MH.set_self
    have hro : RowOk Γ ω.S (σ₂.set ra (.tup [.int (ad T₀.length), .ref t])) s.T ra (ad T₀.length, some (glue rr)) := ⟨t, T₀.length, hPa, hG.le (.new h7), rfl, hTg, gld_glue hu⟩
    walk_at "S"
    refine wC_addrow (p := (ad T₀.length, some (glue rr))) W₃ hfew (by first | lia | omega) hro fun σ₄ l₄ W₄ => ?_
    have hG₄ : IsRn Γ ω.S σ₄ t (glue rr) := (hG.le (.new h7)).le l₄
    have hP₄ := hPa.le l₄
    have lT : Le ω.S σ' σ₄ := (l₂.le.trans (.new h7)).trans l₄
    generalize σ₂.set ra (.tup [.int (ad T₀.length), .ref t]) = σ₃ at *
    refine ⟨rfl, ?_⟩
    walk_at "S"
    refine wA_ga W₄.sh.per.m.rd W₄.sh.per.md.rd W₄.sh.per.ok.heap rfl ?_
    refine wA_ga W₄.sh.per.h.rd (.inl W₄.sh.mu.hd) (by rfl) (by rfl) ?_
    walk_at "S"
    have hr₄ : Rd Γ σ₄ r (.tup [.int 4, .int (ad T₀.length)]) := (hP.le lT).rd
    refine wI_tup hr₄ (by decide) (by decide) (by rfl) (by rfl) ?_
    obtain ⟨x, e1, e2, X⟩ := W₄.sh.thing hTg
    obtain ⟨kt, _, eta⟩ := W₄.sh.mu.ta
    refine wI_dcI (.inl eta) e2 ?_
    walk_at "S"
    refine wI_rows W₄ ?_
    walk_at "S"
    refine ⟨1, rfl, ?_⟩
    refine wI_lst (.inl W₄.R) (by decide) (by decide) (seqIndex_last (by simp)) (v := .ref ra) (by simp) ?_
    walk_at "S"
    refine wI_tup hP₄.rd (by decide) (by decide) (by rfl) (by rfl) ?_
    walk_at "S"
    refine wC_fn hr ((ok_holds X hG₄ (gld_glue hu) (by rw [hxg]; exact hz) ?_).less (by decide))
    walk_at "S"
    exact k σ₄ ra lT W₄
  · rintro v vs m σ' ⟨rfl, r', h2, h3, h4, h5, h6⟩ fp
    cases r' with
    | nil => exact h2.elim
    | cons p r' =>
      obtain ⟨⟨b, rfl, hb⟩, h2⟩ := h2
      obtain ⟨y, q⟩ := p
      have hy : y ≠ ad T₀.length ∧ ∃ v2, Rd Γ σ' b (.tup [.int y, v2]) := by
        cases q with
        | none => exact ⟨by have := hb.1; have := ad_lo T₀.length; (first | lia | omega), _, by rw [hb.1]; exact hb.2.rd⟩
        | some rr' =>
          obtain ⟨c, j, c1, c2, c3, c4, c5⟩ := hb
          refine ⟨?_, _, c1.rd⟩
          have := (List.getElem?_eq_some_iff.mp c4).1
          rw [c3]; unfold ad; (first | lia | omega)
      obtain ⟨hne, v2, hbr⟩ := hy
      walk_at "S"
      refine wI_tup hbr (by decide) (by decide) (by rfl) (by rfl) ?_
      walk_at "S"
      refine wI_tup hr' (by decide) (by decide) (by rfl) (by rfl) ?_
      walk_at "S"
      refine ite_f (by simpa using hne) ?_
      walk_at "S"
      exact ⟨.inl H.R, rfl, r', h2, by walk_at "lk", by walk_at "lk", by walk_at "lk", by walk_at "lk"⟩
end
structure Good (s : Ws) : Prop where
  thr : s.thr = []
  we : (s.emp = none ∧ s.we = -1) ∨ ∃ j r, s.emp = some (j, r) ∧ s.we = ad j
  nn : ∀ p ∈ s.rows.drop 1, p.2 ≠ none
theorem nn_add {rows : List Row} (h : ∀ p ∈ rows.drop 1, p.2 ≠ none) (x : Int) (r : Rn) : ∀ p ∈ (rows ++ [(x, some r)]).drop 1, p.2 ≠ none := by
  cases rows with
  | nil => simp
  | cons a t =>
    intro p hp
    simp only [List.cons_append, List.drop_succ_cons, List.drop_zero] at hp h
    rcases List.mem_append.mp hp with hp | hp
    · exact h p hp
    · rw [List.mem_singleton] at hp; subst hp; simp
def Pst (Γ : Gd) (ω : Om) (s : Ws) (σ : MH) (n : Nat) (v : V) (Q : V → MH → Prop) : Prop :=
  ∀ s' σ', Le ω.S σ σ' → Wl Γ ω s' σ' → Good s' → (s.rows <+: s'.rows ∧ s.T <+: s'.T) → s'.T.length ≤ s.T.length + n → Q v σ'
def PstG (Γ : Gd) (ω : Om) (s : Ws) (σ : MH) (n : Nat) (v : V) (g : Prop) (Q : V → MH → Prop) : Prop :=
  ∀ s' σ', Le ω.S σ σ' → Wl Γ ω s' σ' → Good s' → (s.rows <+: s'.rows ∧ s.T <+: s'.T) → s'.T.length ≤ s.T.length + n → (g → s.rows.length < s'.rows.length) → Q v σ'
theorem Pst.g {Γ : Gd} {ω : Om} {s : Ws} {σ : MH} {n : Nat} {v : V} {g : Prop} {Q : V → MH → Prop} (k : Pst Γ ω s σ n v Q) : PstG Γ ω s σ n v g Q := fun s' σ' a b d e f _ => k s' σ' a b d e f
theorem gld_un {r : Rn} (h : Gld r) : Un r := fun p hp => ⟨(h.ps p hp).1, (h.ps p hp).2.1⟩
section
variable {Γ : Gd} {ω : Om} {s : Ws} {σ σ' : MH} {Q : V → MH → Prop}
/-- the machine gave what is empty -/
def VoidSt (Γ : Gd) (ω : Om) (s : Ws) (v : V) (σ : MH) : Prop :=
  (∃ j r, s.emp = some (j, r) ∧ v = .ref r ∧ Wl Γ ω s σ) ∨ (s.emp = none ∧ ∃ x r, v = .ref r ∧ Wl Γ ω { s with T := s.T ++ [[]], th := s.th ++ [x], emp := some (s.T.length, r) } σ ∧ Rws Γ ω.S σ s.T s.rv s.rows)
def NewSt (Γ : Gd) (ω : Om) (s : Ws) (t : List Nat) (v : V) (σ : MH) : Prop :=
  ∃ x r, v = .ref r ∧ Pd Γ ω.S σ r (.tup [.int 4, .int (ad s.T.length)]) ∧ Wl Γ ω { s with T := s.T ++ [t], th := s.th ++ [x] } σ ∧ Rws Γ ω.S σ s.T s.rv s.rows
theorem VoidSt.ex {v : V} (h : VoidSt Γ ω s v σ) (l : Ex σ σ') : VoidSt Γ ω s v σ' := by
  rcases h with ⟨j, r, a, b, d⟩ | ⟨a, x, r, b, d, e⟩
  · exact .inl ⟨j, r, a, b, d.ex l⟩
  · exact .inr ⟨a, x, r, b, d.ex l, Rws.le l.le (fun _ _ e => e) e⟩
theorem NewSt.ex {t : List Nat} {v : V} (h : NewSt Γ ω s t v σ) (l : Ex σ σ') : NewSt Γ ω s t v σ' := by
  obtain ⟨x, r, a, b, d, e⟩ := h
  exact ⟨x, r, a, b.le l.le, d.ex l, Rws.le l.le (fun _ _ e => e) e⟩
theorem voidK (H : Wl Γ ω s σ) (k : ∀ v σ', Le ω.S σ σ' → VoidSt Γ ω s v σ' → Q v σ') : VoidK Γ ω s.T s.th s.emp s.thr σ Q :=
  ⟨fun j r e => k _ _ .refl (.inl ⟨j, r, e, rfl, H⟩), fun e σ' x r l h => k _ _ l.nS (.inr ⟨e, x, r, rfl, H.mach l h (fun j y e => by rw [List.getElem?_append_left (List.getElem?_eq_some_iff.mp e).1]; exact e) (by simp), Rws.le l.nS (fun _ _ e => e) H.rows⟩)⟩
theorem madeK {t : List Nat} (H : Wl Γ ω s σ) (k : ∀ v σ', Le ω.S σ σ' → NewSt Γ ω s t v σ' → Q v σ') : MadeK Γ ω s.T s.th s.emp s.thr σ t Q :=
  fun σ' x r l h p => k _ _ l.nS ⟨x, r, rfl, p, H.grow l h, Rws.le l.nS (fun _ _ e => e) H.rows⟩
theorem ok_new' {t : List Nat} {v : V} {a : Addr} {rr : Rn} (N : NewSt Γ ω s t v σ) (G : Good s) (hf : s.rows.length ≤ s.T.length + 1) (h1 : s.b1 = s.T.length) (hR : IsRn Γ ω.S σ a rr) (hx : xp rr = t) (hu : Un rr) (hz : (xp rr).length ≤ 1048577) (hl : rr.length ≤ 1100000)
    (k : PstG Γ ω s σ 1 (.bool true) True Q) : CallOk Γ 2 927 [.ref ω.W, v, .ref a] σ Q := by
  obtain ⟨x, r, rfl, P, W, R⟩ := N
  subst hx
  refine ok_law_new W rfl R hf h1 P hR hu hz hl fun σ' ra l W' => ?_
  exact k _ σ' l W' ⟨G.thr, G.we, nn_add G.nn _ _⟩ ⟨List.prefix_append _ _, List.prefix_append _ _⟩ (by simp) (fun _ => by simp)
theorem ok_void {v : V} (N : VoidSt Γ ω s v σ) (G : Good s) (hf : s.rows.length ≤ s.T.length + 1) (hT : s.T.length ≤ 100000) (h1 : s.b1 = s.T.length) (h2 : s.b2 = ad s.T.length) (h3 : s.b3 = s.T.length)
    (k : PstG Γ ω s σ 1 (.bool true) (s.emp = none) Q) : CallOk Γ 3 934 [.ref ω.W, v] σ Q := by
  rcases N with ⟨j, r, e, rfl, W⟩ | ⟨e, x, r, rfl, W, R⟩
  · have hwe : s.we = ad j := by
      rcases G.we with ⟨a, _⟩ | ⟨j', r', a, b⟩
      · rw [a] at e; cases e
      · rw [a] at e; cases e; exact b
    have hP := (W.sh.per.em j r e).2
    refine fn_enter (by k_is) (by kernel_rfl) rfl (by walk_at "bind") rfl rfl rfl rfl rfl [("gave", .ref r), ("w", .ref ω.W)] rfl ?_
    intro A g L' hr
    walk_at "S"
    refine wI_empty W ?_
    walk_at "S"
    refine ite_f (by rw [hwe]; have := ad_lo j; simp; (first | lia | omega)) ?_
    walk_at "S"
    refine wI_empty W ?_
    walk_at "S"
    refine ⟨le1 rfl, fun t h4 => ?_⟩
    refine wCmp_eqD hr (rd2 (hP.nw h4).rd) (rd2 Rd.self) (shaped2 _ _) (shaped2 _ _) ?_
    rw [eqv2, hwe]
    walk_at "S"
    refine ite_t (by simp) ?_
    walk_at "S"
    refine wC_fn hr ((ok_still (W.new h4) hT h1 h2 h3 fun σ₂ l₂ => ?_).less (by decide))
    walk_at "S"
    rw [show decide (s.T.length = s.T.length) = true from by simp]
    exact k s σ₂ ((Le.new h4).trans l₂.le) ((W.new h4).ex l₂) G ⟨List.prefix_refl _, List.prefix_refl _⟩ (by first | lia | omega) (fun h => by rw [h] at e; cases e)
  · have hwe : s.we = -1 := by
      rcases G.we with ⟨_, a⟩ | ⟨j', r', a, b⟩
      · exact a
      · rw [a] at e; cases e
    have hP := (W.sh.per.em s.T.length r rfl).2
    refine fn_enter (by k_is) (by kernel_rfl) rfl (by walk_at "bind") rfl rfl rfl rfl rfl [("gave", .ref r), ("w", .ref ω.W)] rfl ?_
    intro A g L' hr
    walk_at "S"
    refine wI_empty W ?_
    walk_at "S"
    refine ite_t (by rw [hwe]; decide) ?_
    walk_at "S"
    refine ⟨le1 rfl, fun t h4 => ?_⟩
    have W₁ := W.new (o := .tup []) h4
    walk_at "S"
    refine wC_fn hr (ok_law_new (rr := []) W₁ (by simp [xp_nil]) (Rws.le (.new h4) (fun _ _ e => e) R) hf h1 (hP.nw h4) ⟨[], .mk (W.sh.notS h4) MH.set_self, trivial⟩ (fun _ h => nomatch h) (by simp [xp_nil]) (by simp) fun σ₂ ra l₂ W₂ => ?_)
    walk_at "S"
    walk_at "ite"
    walk_at "S"
    have hP₂ := (hP.nw (o' := .tup []) h4).le l₂
    refine wI_tup hP₂.rd (by decide) (by decide) (by rfl) (by rfl) ?_
    walk_at "S"
    refine wSI_empty W₂ fun σ₃ l₃ W₃ => ?_
    walk_at "S"
    exact k _ σ₃ (((Le.new h4).trans l₂).trans l₃) W₃ ⟨G.thr, .inr ⟨s.T.length, r, rfl, rfl⟩, nn_add G.nn _ _⟩ ⟨List.prefix_append _ _, List.prefix_append _ _⟩ (by simp) (fun _ => by simp)
end
def tr (o : Option Rn) : Rn := o.getD []
theorem tr_gld {o : Option Rn} (h : ∀ r, o = some r → Gld r) : Gld (tr o) := by
  cases o with
  | none => exact trivial
  | some r => exact h r rfl
theorem tt_map (o : Option Rn) : tt (o.map xp) = xp (tr o) := by cases o <;> rfl
section
variable {Γ : Gd} {S : List Addr} {ω : Om} {s : Ws} {σ σ' : MH} {Q : V → MH → Prop} {T : List (List Nat)}
/-- a row, read -/
structure RowG (Γ : Gd) (S : List Addr) (σ : MH) (T : List (List Nat)) (a : Addr) (x : Int) (o : Option Rn) (v : V) : Prop where
  p : Pd Γ S σ a (.tup [.int x, v])
  arg : Arg T x (o.map xp)
  no : o = none → v = .none
  so : ∀ r, o = some r → ∃ b, v = .ref b ∧ IsRn Γ S σ b r
  gl : ∀ r, o = some r → Gld r
theorem RowOk.g {a : Addr} {p : Row} (h : RowOk Γ S σ T a p) : ∃ v, RowG Γ S σ T a p.1 p.2 v := by
  obtain ⟨x, o⟩ := p
  cases o with
  | none => exact ⟨.none, by rw [h.1]; exact h.2, .inl ⟨h.1, rfl⟩, fun _ => rfl, (fun _ e => nomatch e), (fun _ e => nomatch e)⟩
  | some r =>
    obtain ⟨b, j, h1, h2, h3, h4, h5⟩ := h
    exact ⟨.ref b, h1, .inr ⟨j, xp r, h3, h4, rfl⟩, (fun e => nomatch e), fun r' e => by cases e; exact ⟨b, rfl, h2⟩, fun r' e => by cases e; exact h5⟩
theorem RowG.le {a : Addr} {x : Int} {o : Option Rn} {v : V} (h : RowG Γ S σ T a x o v) (l : Le S σ σ') : RowG Γ S σ' T a x o v :=
  ⟨h.p.le l, h.arg, h.no, fun r e => (h.so r e).imp fun b y => ⟨y.1, y.2.le l⟩, h.gl⟩
theorem Arg.mono {T T' : List (List Nat)} {x : Int} {o : Option (List Nat)} (h : Arg T x o) (t : ∀ (j : Nat) y, T[j]? = some y → T'[j]? = some y) : Arg T' x o := h.imp id fun ⟨j, y, a, b, d⟩ => ⟨j, y, a, t _ _ b, d⟩
theorem RowG.tm {T' : List (List Nat)} {a : Addr} {x : Int} {o : Option Rn} {v : V} (h : RowG Γ S σ T a x o v) (t : ∀ (j : Nat) y, T[j]? = some y → T'[j]? = some y) : RowG Γ S σ T' a x o v :=
  ⟨h.p, h.arg.mono t, h.no, h.so, h.gl⟩

variable {c : Cx} {m : Lc}
/-- the runs of a row, none as no runs -/
theorem wE_orE {y : Str} {p1 p2 p3 p4 pos : Pos} {k1 k2 : Nat} {a : Addr} {x : Int} {o : Option Rn} {v : V} {Q : V → MH → Prop} (hl : m.lookup y = some (.ref a)) (hk : c.sc.kind = .function) (hn : (envOf c.q c.sc c.L c.a c.cd).kindOf y = some .local) (hd : (y == ("__debug__" : Str)) = false)
    (hS : ∀ a ∈ S, σ a ≠ none) (h : RowG c.Γ S σ T a x o v) (hz : ∀ r, o = some r → r.length ≤ 2000000) (k : ∀ σ' b, Ex σ σ' → IsRn c.Γ S σ' b (tr o) → Q (.ref b) σ') :
    wE c (.BoolOp .Or [.Subscript (.Name y p1) (.Constant (.int 1) k1 p2) p3, .Tuple [] k2 p4] pos) m σ Q := by
  refine wE_or (wE_sub (wE_local hl ?_ hk hn hd) (by rfl))
  refine wE_int (wI_tup h.p.rd (by decide) (by decide) (by rfl) (by rfl) ?_)
  have none' : ∀ σ, (∀ a ∈ S, σ a ≠ none) → (∀ σ' b, Ex σ σ' → IsRn c.Γ S σ' b [] → Q (.ref b) σ') → wE c (.BoolOp .Or [.Tuple [] k2 p4] pos) m σ Q := fun σ hS k =>
    wE_one (wE_tuple (wEs_nil ⟨le1 rfl, fun b hb => k _ b (Ex.refl.new hb) ⟨[], .mk (fun q => hS b q hb) MH.set_self, trivial⟩⟩))
  cases o with
  | none =>
    rw [h.no rfl]
    exact wTr_none (ite_F rfl (none' σ hS k))
  | some r =>
    obtain ⟨b, rfl, vs, hb1, hb2⟩ := h.so r rfl
    refine wTr_tup hb1.rd (by rw [hb2.length]; exact hz r rfl) ?_
    cases vs with
    | nil =>
      cases r with
      | nil => exact ite_F rfl (none' σ hS k)
      | cons _ _ => exact hb2.elim
    | cons _ _ => exact ite_T rfl (k σ b Ex.refl ⟨_, hb1, hb2⟩)
theorem wT_eqE {y : Str} {p1 p2 pos : Pos} {k1 : Nat} {a : Addr} {r : Rn} {n : Nat} {Q : Bool → MH → Prop} (hr : Room n c.A) (hl : m.lookup y = some (.ref a)) (hk : c.sc.kind = .function) (hn : (envOf c.q c.sc c.L c.a c.cd).kindOf y = some .local) (hd : (y == ("__debug__" : Str)) = false)
    (h : IsRn c.Γ S σ a r) (k : ∀ σ', Ex σ σ' → Q (decide (r = [])) σ') : wT c (.Compare (.Name y p1) [.Eq] [.Tuple [] k1 p2] pos) m σ Q := by
  refine wT_cmp (wE_local hl ?_ hk hn hd) (by with_unfolding_all rfl)
  refine wE_tuple (wEs_nil ⟨le1 rfl, fun b hb => ?_⟩)
  obtain ⟨vs, h1, h2⟩ := h.le (.new (o := .tup []) hb)
  refine wCmp_eqD hr (RdV.tup h1.rd h2.dat) (RdV.tup Rd.self RdVs.nil) (shaped_T r) (shaped_T []) ?_
  rw [show PyData.eqv (.tuple (datR r)) (.tuple []) = decide (r = []) from eqv_TT r []]
  exact wTr_bool (k _ (Ex.refl.new hb))
end
end

section
local macro_rules | `(tactic| walk_at "s") => `(tactic| ((with_reducible refine' wT_eqE ?h1 ?h2 ?h3 ?h4 ?h5 ?h6 ?_); (case h1 => assumption); (case h2 => walk_at "lk"); (case h3 => rfl); (case h4 => rfl); (case h5 => decide); (case h6 => assumption)))
section
local macro_rules | `(tactic| walk_at "s") => `(tactic| with_reducible refine w1_if ?_)
section
variable {Γ : Gd} {ω : Om} {s : Ws} {σ : MH} {Q : V → MH → Prop}
structure Noted (s s₄ : Ws) : Prop where
  T : s₄.T = s.T
  rows : s₄.rows = s.rows
  good : Good s₄
  emp : s₄.emp = s.emp
  b1 : s₄.b1 = s₄.T.length
  b2 : s₄.b2 = ad s₄.T.length
  b3 : s₄.b3 = s₄.T.length
theorem Noted.post {s₄ : Ws} {σ σ' : MH} {n : Nat} {v : V} (N : Noted s s₄) (k : Pst Γ ω s σ n v Q) (l : Le ω.S σ σ') : Pst Γ ω s₄ σ' n v Q :=
  fun s' σ'' l' W' G' p' n' => k s' σ'' (l.trans l') W' G' ⟨by rw [← N.rows]; exact p'.1, by rw [← N.T]; exact p'.2⟩ (by rw [← N.T]; exact n')
theorem Noted.postG {s₄ : Ws} {σ σ' : MH} {n : Nat} {v : V} {g : Prop} (N : Noted s s₄) (k : PstG Γ ω s σ n v g Q) (l : Le ω.S σ σ') : PstG Γ ω s₄ σ' n v g Q :=
  fun s' σ'' l' W' G' p' n' h' => k s' σ'' (l.trans l') W' G' ⟨by rw [← N.rows]; exact p'.1, by rw [← N.T]; exact p'.2⟩ (by rw [← N.T]; exact n') (by rw [← N.rows]; exact h')
theorem noted (G : Good s) (tb : Addr) : Noted s { s with tb := tb, b1 := s.T.length, b2 := ad s.T.length, b3 := s.T.length } := ⟨rfl, rfl, ⟨G.thr, G.we, G.nn⟩, rfl, rfl, rfl, rfl⟩
def JoinSt (Γ : Gd) (ω : Om) (s : Ws) (t₁ t₂ : List Nat) (p q : Addr) (v : V) (σ : MH) : Prop :=
  (t₁ = [] ∧ t₂ = [] ∧ VoidSt Γ ω s v σ) ∨ (t₁ = [] ∧ t₂ ≠ [] ∧ v = .ref q ∧ Wl Γ ω s σ) ∨ (t₁ ≠ [] ∧ t₂ = [] ∧ v = .ref p ∧ Wl Γ ω s σ) ∨
    (t₁ ≠ [] ∧ t₂ ≠ [] ∧ 1048576 < t₁.length + t₂.length ∧ v = .int (-2) ∧ Wl Γ ω { s with thr := [30] } σ) ∨ (t₁ ≠ [] ∧ t₂ ≠ [] ∧ t₁.length + t₂.length ≤ 1048576 ∧ NewSt Γ ω s (t₁ ++ t₂) v σ)
theorem JoinSt.ex {t₁ t₂ : List Nat} {p q : Addr} {v : V} {σ' : MH} (h : JoinSt Γ ω s t₁ t₂ p q v σ) (l : Ex σ σ') : JoinSt Γ ω s t₁ t₂ p q v σ' :=
  h.imp (fun x => ⟨x.1, x.2.1, x.2.2.ex l⟩) (Or.imp (fun x => ⟨x.1, x.2.1, x.2.2.1, x.2.2.2.ex l⟩) (Or.imp (fun x => ⟨x.1, x.2.1, x.2.2.1, x.2.2.2.ex l⟩) (Or.imp (fun x => ⟨x.1, x.2.1, x.2.2.1, x.2.2.2.1, x.2.2.2.2.ex l⟩) (fun x => ⟨x.1, x.2.1, x.2.2.1, x.2.2.2.ex l⟩))))
theorem VoidSt.hS {v : V} (h : VoidSt Γ ω s v σ) : ∀ a ∈ ω.S, σ a ≠ none := by
  rcases h with ⟨_, _, _, _, W⟩ | ⟨_, _, _, _, W, _⟩
  · exact W.hS
  · exact W.hS
theorem JoinSt.hS {t₁ t₂ : List Nat} {p q : Addr} {v : V} (h : JoinSt Γ ω s t₁ t₂ p q v σ) : ∀ a ∈ ω.S, σ a ≠ none := by
  rcases h with h | h | h | h | h
  · exact h.2.2.hS
  · exact h.2.2.2.hS
  · exact h.2.2.2.hS
  · exact h.2.2.2.2.hS
  · obtain ⟨_, _, _, _, W, _⟩ := h.2.2.2; exact W.hS
theorem call_concat {L p q : Addr} {x₁ x₂ : Int} {o₁ o₂ : Option (List Nat)} (H : Wl Γ ω s σ) (G : Good s) (hf : s.T.length < 99000) (hL : Pd Γ ω.S σ L (.lst [.ref p, .ref q])) (hp : Pd Γ ω.S σ p (.tup [.int 4, .int x₁])) (hq : Pd Γ ω.S σ q (.tup [.int 4, .int x₂])) (ha : Arg s.T x₁ o₁) (hb : Arg s.T x₂ o₂) :
    CallOk Γ 12 899 [.ref ω.W, .int 1, .ref L] σ fun v σ' => Le ω.S σ σ' ∧ ∃ s₄, Noted s s₄ ∧ JoinSt Γ ω s₄ (tt o₁) (tt o₂) p q v σ' := by
  refine ok_call (C := 570) (f := 567) H (by first | lia | omega) (by simp [natTab]) fun σ₄ tb kk l₄ H₄ => ?_
  have N := noted G tb
  refine ok_concat H₄.sh (by rw [show ({ s with tb := tb, b1 := (s.T.length : Int), b2 := ad s.T.length, b3 := (s.T.length : Int) } : Ws).thr = [] from G.thr]; simp) (by show s.T.length < 100000; (first | lia | omega)) (hL.le l₄).rd (hp.le l₄).rd (hq.le l₄).rd ha hb ?_ ?_ ?_ ?_ ?_
  · exact fun e1 e2 => voidK H₄ fun v σ' l V => ⟨l₄.trans l, _, N, .inl ⟨e1, e2, V⟩⟩
  · exact fun e1 e2 => ⟨l₄, _, N, .inr (.inl ⟨e1, e2, rfl, H₄⟩)⟩
  · exact fun e1 e2 => ⟨l₄, _, N, .inr (.inr (.inl ⟨e1, e2, rfl, H₄⟩))⟩
  · exact fun e1 e2 e3 σ' l H' => ⟨l₄.trans l.nS, _, N, .inr (.inr (.inr (.inl ⟨e1, e2, e3, rfl, H₄.mach l (by rw [show ({ s with tb := tb, b1 := (s.T.length : Int), b2 := ad s.T.length, b3 := (s.T.length : Int) } : Ws).thr = [] from G.thr] at H'; exact H') (fun _ _ e => e) (Nat.le_refl _)⟩)))⟩
  · exact fun e1 e2 e3 => madeK H₄ fun v σ' l V => ⟨l₄.trans l, _, N, .inr (.inr (.inr (.inr ⟨e1, e2, e3, V⟩)))⟩
theorem xp_emp {r : Rn} (h : Gld r) : xp r = [] ↔ r = [] := by
  constructor
  · intro e; have := rn_len h; rw [e] at this; exact List.eq_nil_of_length_eq_zero (by simpa using this)
  · rintro rfl; rfl
theorem ok_join {a b : Addr} {x₁ x₂ : Int} {o₁ o₂ : Option Rn} {v₁ v₂ : V} (H : Wl Γ ω s σ) (G : Good s) (hf : s.T.length < 99000) (h₁ : RowG Γ ω.S σ s.T a x₁ o₁ v₁) (h₂ : RowG Γ ω.S σ s.T b x₂ o₂ v₂) (k : PstG Γ ω s σ 1 (.bool true) ((xp (tr o₁) = [] ∧ xp (tr o₂) = [] ∧ s.emp = none) ∨ (xp (tr o₁) ≠ [] ∧ xp (tr o₂) ≠ [] ∧ (xp (tr o₁)).length + (xp (tr o₂)).length ≤ 1048576)) Q) :
    CallOk Γ 13 941 [.ref ω.W, .ref a, .ref b] σ Q := by
  refine fn_enter (by k_is) (by kernel_rfl) rfl (by walk_at "bind") rfl rfl rfl rfl rfl [("b", .ref b), ("a", .ref a), ("w", .ref ω.W)] rfl ?_
  intro A g L' hr
  have g₁ := tr_gld h₁.gl
  have g₂ := tr_gld h₂.gl
  have z₁ : (xp (tr o₁)).length ≤ 1048577 := by rw [← tt_map]; exact h₁.arg.le H.sh.per.tz
  have z₂ : (xp (tr o₂)).length ≤ 1048577 := by rw [← tt_map]; exact h₂.arg.le H.sh.per.tz
  have y₁ := rn_len g₁
  have y₂ := rn_len g₂
  walk_at "S"
  refine wI_tup h₁.p.rd (by decide) (by decide) (by rfl) (by rfl) ?_
  walk_at "S"
  refine ⟨le1 rfl, fun p hp => ?_⟩
  walk_at "S"
  refine wI_tup (h₂.p.nw hp).rd (by decide) (by decide) (by rfl) (by rfl) ?_
  walk_at "S"
  refine ⟨le1 rfl, fun q hq => ?_⟩
  walk_at "S"
  refine ⟨le1 rfl, fun L hL => ?_⟩
  have e3 : Ex σ (((σ.set p (.tup [.int 4, .int x₁])).set q (.tup [.int 4, .int x₂])).set L (.lst [.ref p, .ref q])) := ((Ex.refl.new hp).new hq).new hL
  have H₃ := H.ex e3
  have P₃ : Pd Γ ω.S (((σ.set p (.tup [.int 4, .int x₁])).set q (.tup [.int 4, .int x₂])).set L (.lst [.ref p, .ref q])) p (.tup [.int 4, .int x₁]) := .mk (H.sh.notS hp) (MH.set_new (MH.set_new MH.set_self hq) hL)
  have Q₃ : Pd Γ ω.S (((σ.set p (.tup [.int 4, .int x₁])).set q (.tup [.int 4, .int x₂])).set L (.lst [.ref p, .ref q])) q (.tup [.int 4, .int x₂]) := .mk ((H.new hp).sh.notS hq) (MH.set_new MH.set_self hL)
  have L₃ : Pd Γ ω.S (((σ.set p (.tup [.int 4, .int x₁])).set q (.tup [.int 4, .int x₂])).set L (.lst [.ref p, .ref q])) L (.lst [.ref p, .ref q]) := .mk (((H.new hp).new hq).sh.notS hL) MH.set_self
  generalize ((σ.set p (.tup [.int 4, .int x₁])).set q (.tup [.int 4, .int x₂])).set L (.lst [.ref p, .ref q]) = σ₃ at *
  walk_at "S"
  refine wC_fn hr (CallOk.mono (call_concat H₃ G hf L₃ P₃ Q₃ h₁.arg h₂.arg) fun v σ₄ ⟨l₄, s₄, N, J⟩ => ?_)
  rw [tt_map, tt_map] at J
  have l04 : Le ω.S σ σ₄ := e3.le.trans l₄
  have P₄ := P₃.le l₄
  have Q₄ := Q₃.le l₄
  walk_at "S"
  refine wE_orE (by walk_at "lk") rfl rfl (by decide) J.hS (h₁.le l04) (fun r e => by subst e; show (tr (some r)).length ≤ 2000000; (first | lia | omega)) fun σ₅ one l₅ R₁ => ?_
  have J₅ := J.ex l₅
  walk_at "S"
  refine wE_orE (by walk_at "lk") rfl rfl (by decide) J₅.hS (h₂.le (l04.trans l₅.le)) (fun r e => by subst e; show (tr (some r)).length ≤ 2000000; (first | lia | omega)) fun σ₆ two l₆ R₂ => ?_
  have J₆ := J₅.ex l₆
  have R₁ := R₁.le l₆.le
  have l06 := (l04.trans l₅.le).trans l₆.le
  walk_at "S"
  intro σ₇ l₇
  have J₇ := J₆.ex l₇
  have R₁ := R₁.le l₇.le
  have R₂ := R₂.le l₇.le
  have l07 := l06.trans l₇.le
  have f₄ : s₄.rows.length ≤ s₄.T.length + 1 := by rw [N.rows, N.T]; exact H.few
  by_cases e1 : tr o₁ = []
  · have e1' := (xp_emp g₁).mpr e1
    refine ite_t (by simpa using e1) ?_
    walk_at "S"
    intro σ₈ l₈
    have J₈ := J₇.ex l₈
    have R₁ := R₁.le l₈.le
    have R₂ := R₂.le l₈.le
    have l08 := l07.trans l₈.le
    by_cases e2 : tr o₂ = []
    · have e2' := (xp_emp g₂).mpr e2
      refine ite_t (by simpa using e2) ?_
      walk_at "S"
      walk_at "ite"
      walk_at "S"
      have V : VoidSt Γ ω s₄ v σ₈ := by
        rcases J₈ with h | h | h | h | h
        · exact h.2.2
        · exact absurd e2' h.2.1
        · exact absurd e1' h.1
        · exact absurd e1' h.1
        · exact absurd e1' h.1
      refine wC_fn hr ((ok_void V N.good f₄ (by rw [N.T]; (first | lia | omega)) N.b1 N.b2 N.b3 fun s' σ' a1 a2 a3 a4 a5 a6 => ?_).less (by decide))
      walk_at "S"
      exact N.postG k l08 s' σ' a1 a2 a3 a4 a5 (fun g => a6 (by rw [N.emp]; exact g.elim (fun h => h.2.2) fun h => absurd e1' h.1))
    · have e2' := fun e => e2 ((xp_emp g₂).mp e)
      refine ite_f (by simpa using e2) ?_
      walk_at "ite"
      walk_at "S"
      intro σ₈' l₈'
      have l08 := l08.trans l₈'.le
      have J₈ := J₈.ex l₈'
      obtain ⟨rfl, W⟩ : v = .ref q ∧ Wl Γ ω s₄ σ₈' := by
        rcases J₈ with h | h | h | h | h
        · exact absurd h.2.1 e2'
        · exact h.2.2
        · exact absurd e1' h.1
        · exact absurd e1' h.1
        · exact absurd e1' h.1
      refine ite_t (by simpa using e1) ?_
      walk_at "S"
      refine wI_tup (h₂.le l08).p.rd (by decide) (by decide) (by rfl) (by rfl) ?_
      walk_at "S"
      refine ⟨le1 rfl, fun t ht => ?_⟩
      refine wCmp_eqD hr (rd2 (((Q₄.le (l₅.le.trans (l₆.le.trans (l₇.le.trans (l₈.le.trans l₈'.le))))).nw ht).rd)) (rd2 Rd.self) (shaped2 _ _) (shaped2 _ _) ?_
      rw [eqv2]
      walk_at "S"
      refine ite_t (by simp) ?_
      walk_at "S"
      refine wC_fn hr ((ok_still (W.new ht) (by rw [N.T]; (first | lia | omega)) N.b1 N.b2 N.b3 fun σ₉ l₉ => ?_).less (by decide))
      rw [show decide (s₄.T.length = s₄.T.length) = true from by simp]
      walk_at "S"
      exact N.postG k (l08.trans ((Le.new ht).trans l₉.le)) s₄ σ₉ .refl ((W.new ht).ex l₉) N.good ⟨List.prefix_refl _, List.prefix_refl _⟩ (by first | lia | omega) (fun g => g.elim (fun h => absurd h.2.1 e2') fun h => absurd e1' h.1)
  · have e1' := fun e => e1 ((xp_emp g₁).mp e)
    refine ite_f (by simpa using e1) ?_
    walk_at "ite"
    walk_at "S"
    intro σ₈ l₈
    have J₈ := J₇.ex l₈
    have R₁ := R₁.le l₈.le
    have R₂ := R₂.le l₈.le
    have l08 := l07.trans l₈.le
    refine ite_f (by simpa using e1) ?_
    walk_at "S"
    intro σ₈' l₈'
    have l08 := l08.trans l₈'.le
    have J₈ := J₈.ex l₈'
    have R₁ := R₁.le l₈'.le
    have R₂ := R₂.le l₈'.le
    by_cases e2 : tr o₂ = []
    · have e2' := (xp_emp g₂).mpr e2
      refine ite_t (by simpa using e2) ?_
      obtain ⟨rfl, W⟩ : v = .ref p ∧ Wl Γ ω s₄ σ₈' := by
        rcases J₈ with h | h | h | h | h
        · exact absurd h.1 e1'
        · exact absurd h.1 e1'
        · exact h.2.2
        · exact absurd e2' h.2.1
        · exact absurd e2' h.2.1
      walk_at "S"
      refine wI_tup (h₁.le l08).p.rd (by decide) (by decide) (by rfl) (by rfl) ?_
      walk_at "S"
      refine ⟨le1 rfl, fun t ht => ?_⟩
      refine wCmp_eqD hr (rd2 (((P₄.le (l₅.le.trans (l₆.le.trans (l₇.le.trans (l₈.le.trans l₈'.le))))).nw ht).rd)) (rd2 Rd.self) (shaped2 _ _) (shaped2 _ _) ?_
      rw [eqv2]
      walk_at "S"
      refine ite_t (by simp) ?_
      walk_at "S"
      refine wC_fn hr ((ok_still (W.new ht) (by rw [N.T]; (first | lia | omega)) N.b1 N.b2 N.b3 fun σ₉ l₉ => ?_).less (by decide))
      rw [show decide (s₄.T.length = s₄.T.length) = true from by simp]
      walk_at "S"
      exact N.postG k (l08.trans ((Le.new ht).trans l₉.le)) s₄ σ₉ .refl ((W.new ht).ex l₉) N.good ⟨List.prefix_refl _, List.prefix_refl _⟩ (by first | lia | omega) (fun g => g.elim (fun h => absurd h.1 e1') fun h => absurd e2' h.2.1)
    · have e2' := fun e => e2 ((xp_emp g₂).mp e)
      refine ite_f (by simpa using e2) ?_
      walk_at "S"
      refine wC_fn hr ((ok_law_long R₁ (by first | lia | omega) fun σ₉ l₉ => ?_).less (by decide))
      have R₁ := R₁.le l₉.le
      have R₂ := R₂.le l₉.le
      have J₉ := J₈.ex l₉
      have l09 := l08.trans l₉.le
      walk_at "S"
      refine wC_fn hr ((ok_law_long R₂ (by first | lia | omega) fun σ₁₀ l₁₀ => ?_).less (by decide))
      have R₁ := R₁.le l₁₀.le
      have R₂ := R₂.le l₁₀.le
      have J₉ := J₉.ex l₁₀
      have l09 := l09.trans l₁₀.le
      walk_at "S"
      rw [← xp_len g₁, ← xp_len g₂]
      by_cases e3 : 1048576 < (xp (tr o₁)).length + (xp (tr o₂)).length
      · refine ite_t (by simp; (first | lia | omega)) ?_
        walk_at "S"
        obtain ⟨rfl, W⟩ : v = .int (-2) ∧ Wl Γ ω { s₄ with thr := [30] } σ₁₀ := by
          rcases J₉ with h | h | h | h | h
          · exact absurd h.1 e1'
          · exact absurd h.1 e1'
          · exact absurd h.2.1 e2'
          · exact h.2.2.2
          · have := h.2.2.1; (first | lia | omega)
        refine wC_fn hr ((ok_refused W (by show s₄.T.length ≤ _; rw [N.T]; (first | lia | omega)) rfl N.b1 N.b2 N.b3 fun σ₁₁ l₁₁ W' => ?_).less (by decide))
        walk_at "S"
        have W'' : Wl Γ ω s₄ σ₁₁ := by have := N.good.thr; rw [show s₄ = { s₄ with thr := [] } from by rw [← this]]; exact W'
        exact N.postG k (l09.trans l₁₁) s₄ σ₁₁ .refl W'' N.good ⟨List.prefix_refl _, List.prefix_refl _⟩ (by first | lia | omega) (fun g => g.elim (fun h => absurd h.1 e1') fun h => by have := h.2.2; (first | lia | omega))
      · refine ite_f (by simp; (first | lia | omega)) ?_
        walk_at "S"
        have V : NewSt Γ ω s₄ (xp (tr o₁) ++ xp (tr o₂)) v σ₁₀ := by
          rcases J₉ with h | h | h | h | h
          · exact absurd h.1 e1'
          · exact absurd h.1 e1'
          · exact absurd h.2.1 e2'
          · have := h.2.2.1; (first | lia | omega)
          · exact h.2.2.2
        obtain ⟨vs, hv1, hv2⟩ := R₁
        obtain ⟨ws, hw1, hw2⟩ := R₂
        have c1 := hv2.length
        have c2 := hw2.length
        refine wB_addTup hv1.rd hw1.rd (by first | lia | omega) (fun e => e1 (by rw [e] at c1; exact List.eq_nil_of_length_eq_zero c1.symm)) (fun e => e2 (by rw [e] at c2; exact List.eq_nil_of_length_eq_zero c2.symm)) fun t ht => ?_
        have V' := V.ex (Ex.refl.new (o := .tup (vs ++ ws)) ht)
        have hRt : IsRn Γ ω.S (σ₁₀.set t (.tup (vs ++ ws))) t (tr o₁ ++ tr o₂) := ⟨_, .mk (fun q => J₉.hS t q ht) MH.set_self, (hv2.append hw2).le (.new ht)⟩
        walk_at "S"
        refine wC_fn hr ((ok_new' V' N.good f₄ N.b1 hRt (xp_app _ _) (fun p hp => (List.mem_append.mp hp).elim (gld_un g₁ p) (gld_un g₂ p)) (by rw [xp_app, List.length_append]; (first | lia | omega)) (by rw [List.length_append]; (first | lia | omega)) fun s' σ' a1 a2 a3 a4 a5 a6 => ?_).less (by decide))
        walk_at "S"
        exact N.postG k (l09.trans (.new ht)) s' σ' a1 a2 a3 a4 a5 (fun _ => a6 trivial)
end
section
variable {Γ : Gd} {ω : Om} {s : Ws} {σ σ' : MH} {Q : V → MH → Prop}
def ValSt (Γ : Gd) (ω : Om) (s : Ws) (i : Int) (v : V) (σ : MH) : Prop := ∃ t, v = .ref t ∧ Pd Γ ω.S σ t (.tup [.int 1, .int i]) ∧ Wl Γ ω s σ
theorem ValSt.ex {i : Int} {v : V} (h : ValSt Γ ω s i v σ) (l : Ex σ σ') : ValSt Γ ω s i v σ' := let ⟨t, a, b, d⟩ := h; ⟨t, a, b.le l.le, d.ex l⟩
theorem valK {i : Int} (H : Wl Γ ω s σ) {t : Addr} (ht : σ t = none) : ValSt Γ ω s i (.ref t) (σ.set t (.tup [.int 1, .int i])) := ⟨t, rfl, .mk (H.sh.notS ht) MH.set_self, H.new ht⟩
/-- after a call: what was noted, and what is given -/
def Aft (Γ : Gd) (ω : Om) (s : Ws) (σ : MH) (P : Ws → V → MH → Prop) (v : V) (σ' : MH) : Prop := Le ω.S σ σ' ∧ ∃ s₄, Noted s s₄ ∧ P s₄ v σ'
abbrev nt (s : Ws) (tb : Addr) : Ws := { s with tb := tb, b1 := s.T.length, b2 := ad s.T.length, b3 := s.T.length }
theorem nt_thr (G : Good s) (tb : Addr) : (nt s tb).thr = [] := G.thr
theorem aftV {i : Int} {tb t : Addr} {σ₄ : MH} (G : Good s) (l : Le ω.S σ σ₄) (W : Wl Γ ω (nt s tb) σ₄) (ht : σ₄ t = none) : Aft Γ ω s σ (fun s v σ => ValSt Γ ω s i v σ) (.ref t) (σ₄.set t (.tup [.int 1, .int i])) :=
  ⟨l.trans (.new ht), _, noted G tb, valK W ht⟩
theorem call_length {L p : Addr} {j : Nat} {t : List Nat} (H : Wl Γ ω s σ) (G : Good s) (hf : s.T.length < 99000) (hL : Pd Γ ω.S σ L (.lst [.ref p])) (hp : Pd Γ ω.S σ p (.tup [.int 4, .int (ad j)])) (hj : s.T[j]? = some t) :
    CallOk Γ 12 899 [.ref ω.W, .int 2, .ref L] σ (Aft Γ ω s σ fun s v σ => ValSt Γ ω s t.length v σ) :=
  ok_call (C := 589) (f := 586) H (by first | lia | omega) (by simp [natTab]) fun σ₄ tb kk l₄ H₄ => CallOk.less (ok_length H₄.sh (hL.le l₄).rd (hp.le l₄).rd hj fun r hr => aftV G l₄ H₄ hr) (by decide)
theorem call_same {L p q : Addr} {x₁ x₂ : Int} {o₁ o₂ : Option (List Nat)} (H : Wl Γ ω s σ) (G : Good s) (hf : s.T.length < 99000) (hL : Pd Γ ω.S σ L (.lst [.ref p, .ref q])) (hp : Pd Γ ω.S σ p (.tup [.int 4, .int x₁])) (hq : Pd Γ ω.S σ q (.tup [.int 4, .int x₂])) (ha : Arg s.T x₁ o₁) (hb : Arg s.T x₂ o₂) :
    CallOk Γ 12 899 [.ref ω.W, .int 4, .ref L] σ (Aft Γ ω s σ fun s v σ => ValSt Γ ω s (if decide (x₁ = x₂) || decide (∃ s, o₁ = some s ∧ o₂ = some s) then 1 else 0) v σ) :=
  ok_call (C := 627) (f := 624) H (by first | lia | omega) (by simp [natTab]) fun σ₄ tb kk l₄ H₄ => CallOk.less (ok_same H₄.sh (hL.le l₄).rd (hp.le l₄).rd (hq.le l₄).rd ha hb fun r hr => aftV G l₄ H₄ hr) (by decide)
theorem call_equals {L p q : Addr} {j : Nat} {x₂ : Int} {t : List Nat} {o₂ : Option (List Nat)} (H : Wl Γ ω s σ) (G : Good s) (hf : s.T.length < 99000) (hL : Pd Γ ω.S σ L (.lst [.ref p, .ref q])) (hp : Pd Γ ω.S σ p (.tup [.int 4, .int (ad j)])) (hq : Pd Γ ω.S σ q (.tup [.int 4, .int x₂])) (hj : s.T[j]? = some t) (hb : Arg s.T x₂ o₂) :
    CallOk Γ 12 899 [.ref ω.W, .int 5, .ref L] σ (Aft Γ ω s σ fun s v σ => ValSt Γ ω s (if decide (o₂ = some t) then 1 else 0) v σ) :=
  ok_call (C := 646) (f := 643) H (by first | lia | omega) (by simp [natTab]) fun σ₄ tb kk l₄ H₄ => CallOk.less (ok_equals H₄.sh (hL.le l₄).rd (hp.le l₄).rd (hq.le l₄).rd hj hb fun r hr => aftV G l₄ H₄ hr) (by decide)
theorem call_index {L p q : Addr} {j i : Nat} {t u : List Nat} (H : Wl Γ ω s σ) (G : Good s) (hf : s.T.length < 99000) (hL : Pd Γ ω.S σ L (.lst [.ref p, .ref q])) (hp : Pd Γ ω.S σ p (.tup [.int 4, .int (ad j)])) (hq : Pd Γ ω.S σ q (.tup [.int 4, .int (ad i)])) (hj : s.T[j]? = some t) (hi : s.T[i]? = some u) :
    CallOk Γ 12 899 [.ref ω.W, .int 8, .ref L] σ (Aft Γ ω s σ fun s v σ => ValSt Γ ω s (Txt.find (tx t) (tx u)) v σ) :=
  ok_call (C := 703) (f := 700) H (by first | lia | omega) (by simp [natTab]) fun σ₄ tb kk l₄ H₄ => CallOk.less (ok_index H₄.sh (hL.le l₄).rd (hp.le l₄).rd (hq.le l₄).rd hj hi fun r hr => aftV G l₄ H₄ hr) (by decide)
theorem call_compare {L p q : Addr} {j : Nat} {x₂ : Int} {t : List Nat} {o₂ : Option (List Nat)} (H : Wl Γ ω s σ) (G : Good s) (hf : s.T.length < 99000) (hL : Pd Γ ω.S σ L (.lst [.ref p, .ref q])) (hp : Pd Γ ω.S σ p (.tup [.int 4, .int (ad j)])) (hq : Pd Γ ω.S σ q (.tup [.int 4, .int x₂])) (hj : s.T[j]? = some t) (hb : Arg s.T x₂ o₂) :
    CallOk Γ 12 899 [.ref ω.W, .int 9, .ref L] σ (Aft Γ ω s σ fun s v σ => ValSt Γ ω s (cmpO t o₂) v σ) :=
  ok_call (C := 722) (f := 719) H (by first | lia | omega) (by simp [natTab]) fun σ₄ tb kk l₄ H₄ => CallOk.less (ok_compare H₄.sh (hL.le l₄).rd (hp.le l₄).rd (hq.le l₄).rd hj hb fun r hr => aftV G l₄ H₄ hr) (by decide)
def LetSt (Γ : Gd) (ω : Om) (t : List Nat) (i : Int) (s : Ws) (v : V) (σ : MH) : Prop :=
  ((i < 0 ∨ (t.length : Int) ≤ i) ∧ v = .int (-2) ∧ Wl Γ ω { s with thr := [22] } σ) ∨ ∃ n u : Nat, i = n ∧ t[n]? = some u ∧ ValSt Γ ω s u v σ
theorem call_chars {L p q : Addr} {j : Nat} {i : Int} {t : List Nat} {y : V} (H : Wl Γ ω s σ) (G : Good s) (hf : s.T.length < 99000) (hL : Pd Γ ω.S σ L (.lst [.ref p, .ref q])) (hp : Pd Γ ω.S σ p (.tup [.int 4, .int (ad j)])) (hq : Pd Γ ω.S σ q (.tup [y, .int i])) (hj : s.T[j]? = some t) :
    CallOk Γ 12 899 [.ref ω.W, .int 3, .ref L] σ (Aft Γ ω s σ (LetSt Γ ω t i)) :=
  ok_call (C := 608) (f := 605) H (by first | lia | omega) (by simp [natTab]) fun σ₄ tb kk l₄ H₄ => CallOk.less (ok_chars H₄.sh (by rw [show ({ s with tb := tb, b1 := (s.T.length : Int), b2 := ad s.T.length, b3 := (s.T.length : Int) } : Ws).thr = [] from G.thr]; simp) (hL.le l₄).rd (hp.le l₄).rd (hq.le l₄).rd hj
    (fun h σ' l H' => ⟨l₄.trans l.nS, _, noted G tb, .inl ⟨h, rfl, H₄.mach l (by rw [show ({ s with tb := tb, b1 := (s.T.length : Int), b2 := ad s.T.length, b3 := (s.T.length : Int) } : Ws).thr = [] from G.thr] at H'; exact H') (fun _ _ e => e) (Nat.le_refl _)⟩⟩)
    fun n u e1 e2 r hr => ⟨l₄.trans (.new hr), _, noted G tb, .inr ⟨n, u, e1, e2, valK H₄ hr⟩⟩) (by decide)
def PartSt (Γ : Gd) (ω : Om) (t : List Nat) (first count : Int) (p : Addr) (s : Ws) (v : V) (σ : MH) : Prop :=
  ((first < 0 ∨ count < 0 ∨ (t.length : Int) < first + count) ∧ v = .int (-2) ∧ Wl Γ ω { s with thr := [32] } σ) ∨ (0 ≤ first ∧ count = 0 ∧ first ≤ t.length ∧ VoidSt Γ ω s v σ) ∨ (first = 0 ∧ count = t.length ∧ count ≠ 0 ∧ v = .ref p ∧ Wl Γ ω s σ) ∨
    (0 ≤ first ∧ 0 < count ∧ first + count ≤ t.length ∧ count ≠ t.length ∧ NewSt Γ ω s ((t.drop first.toNat).take count.toNat) v σ)
theorem call_part {L p q r : Addr} {j : Nat} {f n : Int} {t : List Nat} {y y' : V} (H : Wl Γ ω s σ) (G : Good s) (hf : s.T.length < 99000) (hL : Pd Γ ω.S σ L (.lst [.ref p, .ref q, .ref r])) (hp : Pd Γ ω.S σ p (.tup [.int 4, .int (ad j)])) (hq : Pd Γ ω.S σ q (.tup [y, .int f])) (hr : Pd Γ ω.S σ r (.tup [y', .int n])) (hj : s.T[j]? = some t) :
    CallOk Γ 12 899 [.ref ω.W, .int 7, .ref L] σ (Aft Γ ω s σ (PartSt Γ ω t f n p)) :=
  ok_call (C := 684) (f := 681) H (by first | lia | omega) (by simp [natTab]) fun σ₄ tb kk l₄ H₄ => ok_part H₄.sh (by rw [show ({ s with tb := tb, b1 := (s.T.length : Int), b2 := ad s.T.length, b3 := (s.T.length : Int) } : Ws).thr = [] from G.thr]; simp) (by show s.T.length < 100000; (first | lia | omega)) (hL.le l₄).rd (hp.le l₄).rd (hq.le l₄).rd (hr.le l₄).rd hj
    (fun h σ' l H' => ⟨l₄.trans l.nS, _, noted G tb, .inl ⟨h, rfl, H₄.mach l (by rw [show ({ s with tb := tb, b1 := (s.T.length : Int), b2 := ad s.T.length, b3 := (s.T.length : Int) } : Ws).thr = [] from G.thr] at H'; exact H') (fun _ _ e => e) (Nat.le_refl _)⟩⟩)
    (fun e1 e2 e3 => voidK H₄ fun v σ' l V => ⟨l₄.trans l, _, noted G tb, .inr (.inl ⟨e1, e2, e3, V⟩)⟩)
    (fun e1 e2 e3 => ⟨l₄, _, noted G tb, .inr (.inr (.inl ⟨e1, e2, e3, rfl, H₄⟩))⟩)
    (fun e1 e2 e3 e4 => madeK H₄ fun v σ' l V => ⟨l₄.trans l, _, noted G tb, .inr (.inr (.inr ⟨e1, e2, e3, e4, V⟩))⟩)
end
section
variable {Γ : Gd} {ω : Om} {s : Ws} {σ σ' : MH} {Q : V → MH → Prop}
theorem Noted.refl' {s₄ : Ws} {σ σ' : MH} {n : Nat} {v : V} (N : Noted s s₄) (k : Pst Γ ω s σ n v Q) (l : Le ω.S σ σ') (W : Wl Γ ω s₄ σ') : Q v σ' :=
  k s₄ σ' l W N.good ⟨by rw [N.rows]; exact List.prefix_refl _, by rw [N.T]; exact List.prefix_refl _⟩ (by rw [N.T]; (first | lia | omega))
theorem thr_back {s₄ : Ws} {i : Int} (N : Noted s s₄) (W : Wl Γ ω { ({ s₄ with thr := [i] } : Ws) with thr := [] } σ) : Wl Γ ω s₄ σ := by
  have := N.good.thr
  rw [show s₄ = { s₄ with thr := [] } from by rw [← this]]; exact W
theorem RowG.some {S : List Addr} {T : List (List Nat)} {a : Addr} {x : Int} {r : Rn} {v : V} (h : RowG Γ S σ T a x (some r) v) : ∃ j b, x = ad j ∧ T[j]? = Option.some (xp r) ∧ v = .ref b ∧ IsRn Γ S σ b r ∧ Gld r := by
  obtain ⟨b, e, hR⟩ := h.so r rfl
  rcases h.arg with ⟨_, e'⟩ | ⟨j, t, e1, e2, e3⟩
  · cases e'
  · simp only [Option.map_some, Option.some.injEq] at e3
    exact ⟨j, b, e1, by rw [e2, ← e3], e, hR, h.gl r rfl⟩
theorem ok_letter {a : Addr} {x i : Int} {r : Rn} {v : V} {n : Int} (H : Wl Γ ω s σ) (G : Good s) (hf : s.T.length < 99000) (h : RowG Γ ω.S σ s.T a x (some r) v) (hn : n = (xp r).length) (k : Pst Γ ω s σ 0 (.bool true) Q) :
    CallOk Γ 13 955 [.ref ω.W, .ref a, .int i, .int n] σ Q := by
  obtain ⟨j, b, rfl, hj, rfl, hR, hG⟩ := h.some
  subst hn
  refine fn_enter (by k_is) (by kernel_rfl) rfl (by walk_at "bind") rfl rfl rfl rfl rfl [("size", .int (xp r).length), ("place", .int i), ("a", .ref a), ("w", .ref ω.W)] rfl ?_
  intro A g L' hr
  walk_at "S"
  refine wI_tup h.p.rd (by decide) (by decide) (by rfl) (by rfl) ?_
  walk_at "S"
  refine ⟨le1 rfl, fun p hp => ?_⟩
  walk_at "S"
  refine ⟨le1 rfl, fun q hq => ?_⟩
  walk_at "S"
  refine ⟨le1 rfl, fun L hL => ?_⟩
  have e3 : Ex σ (((σ.set p (.tup [.int 4, .int (ad j)])).set q (.tup [.int 1, .int i])).set L (.lst [.ref p, .ref q])) := ((Ex.refl.new hp).new hq).new hL
  have H₃ := H.ex e3
  have P₃ : Pd Γ ω.S (((σ.set p (.tup [.int 4, .int (ad j)])).set q (.tup [.int 1, .int i])).set L (.lst [.ref p, .ref q])) p (.tup [.int 4, .int (ad j)]) := .mk (H.sh.notS hp) (MH.set_new (MH.set_new MH.set_self hq) hL)
  have Q₃ : Pd Γ ω.S (((σ.set p (.tup [.int 4, .int (ad j)])).set q (.tup [.int 1, .int i])).set L (.lst [.ref p, .ref q])) q (.tup [.int 1, .int i]) := .mk ((H.new hp).sh.notS hq) (MH.set_new MH.set_self hL)
  have L₃ : Pd Γ ω.S (((σ.set p (.tup [.int 4, .int (ad j)])).set q (.tup [.int 1, .int i])).set L (.lst [.ref p, .ref q])) L (.lst [.ref p, .ref q]) := .mk (((H.new hp).new hq).sh.notS hL) MH.set_self
  generalize ((σ.set p (.tup [.int 4, .int (ad j)])).set q (.tup [.int 1, .int i])).set L (.lst [.ref p, .ref q]) = σ₃ at *
  walk_at "S"
  refine wC_fn hr (CallOk.mono (call_chars H₃ G hf L₃ P₃ Q₃ hj) fun v σ₄ ⟨l₄, s₄, N, J⟩ => ?_)
  have l04 : Le ω.S σ σ₄ := e3.le.trans l₄
  walk_at "S"
  have fin : ∀ {c : Cx} {m : Lc}, True := fun {_ _} => trivial
  rcases J with ⟨hb, rfl, W⟩ | ⟨n, u, rfl, hu, t, rfl, Pt, W⟩
  · have go : ∀ {Q' : V → MH → Prop}, (∀ σ', Le ω.S σ σ' → Wl Γ ω s₄ σ' → Q' (.bool true) σ') → CallOk Γ 2 913 [.ref ω.W, .int (-2), .int 22] σ₄ Q' := fun {Q'} h' => ok_refused W (by show s₄.T.length ≤ _; rw [N.T]; (first | lia | omega)) rfl N.b1 N.b2 N.b3 fun σ₅ l₅ W' => h' σ₅ (l04.trans l₅) (thr_back N W')
    by_cases h0 : i < 0
    · refine ite_t (by simpa using h0) ?_
      walk_at "ite"
      walk_at "S"
      refine wC_fn hr ((go fun σ₅ l₅ W₅ => ?_).less (by decide))
      walk_at "S"
      exact N.refl' k l₅ W₅
    · refine ite_f (by simpa using h0) ?_
      walk_at "S"
      refine ite_t (by simp; (first | lia | omega)) ?_
      walk_at "ite"
      walk_at "S"
      refine wC_fn hr ((go fun σ₅ l₅ W₅ => ?_).less (by decide))
      walk_at "S"
      exact N.refl' k l₅ W₅
  · have hlt := (List.getElem?_eq_some_iff.mp hu).1
    refine ite_f (by simp) ?_
    walk_at "S"
    refine ite_f (by simp; (first | lia | omega)) ?_
    walk_at "S"
    walk_at "ite"
    walk_at "S"
    refine wI_tup (h.le l04).p.rd (by decide) (by decide) (by rfl) (by rfl) ?_
    walk_at "S"
    obtain ⟨u', e1, e2⟩ := xp_unit (n : Int) hG (by first | lia | omega) (by first | lia | omega)
    simp only [Int.toNat_natCast] at e1
    rw [hu] at e1
    cases e1
    refine wC_fn hr ((ok_law_unit (hR.le l04) ?_).less (by decide))
    rw [e2]
    walk_at "S"
    refine ⟨le1 rfl, fun t' ht' => ?_⟩
    refine wCmp_eqD hr (rd2 ((Pt.nw ht').rd)) (rd2 Rd.self) (shaped2 _ _) (shaped2 _ _) ?_
    rw [eqv2]
    walk_at "S"
    rw [show decide ((1 : Int) = 1 ∧ (u : Int) = u) = true from by simp]
    exact N.refl' k (l04.trans (.new ht')) (W.new ht')
end
section
variable {Γ : Gd} {ω : Om} {s : Ws} {σ σ' : MH} {Q : V → MH → Prop}
theorem xp_part {r : Rn} {b n : Int} (h : Gld r) (h0 : 0 ≤ b) (h1 : 0 ≤ n) : xp (cutR r b n) = ((xp r).drop b.toNat).take n.toNat := by
  rw [xp_cut b n (fun p hp => by have := (h.ps p hp).2.2; (first | lia | omega)) h1, List.take_drop, show (b + n).toNat = b.toNat + n.toNat from by first | lia | omega]
theorem cut_len : ∀ (r : Rn) (b n : Int), (cutR r b n).length = r.length
  | [], _, _ => rfl
  | (u, m) :: r, b, n => by rw [cutR, List.length_cons, List.length_cons, cut_len]
theorem glue_len_le : ∀ (r out : Rn), (r.foldl glueStep out).length ≤ out.length + r.length
  | [], out => by simp
  | p :: r, out => by
    rw [List.foldl_cons]
    have := glue_len_le r (glueStep out p)
    have h2 : (glueStep out p).length ≤ out.length + 1 := by
      unfold glueStep
      split
      · split
        · split
          · simp
          · simp
        · simp
      · (first | lia | omega)
    rw [List.length_cons]; (first | lia | omega)
theorem ok_part_law {a : Addr} {x seam z : Int} {r : Rn} {v : V} {n : Int} (H : Wl Γ ω s σ) (G : Good s) (hf : s.T.length < 99000) (h : RowG Γ ω.S σ s.T a x (some r) v) (hn : n = (xp r).length) (k : Pst Γ ω s σ 1 (.bool true) Q) :
    CallOk Γ 13 948 [.ref ω.W, .ref a, .int seam, .int n, .int z] σ Q := by
  obtain ⟨j, b, rfl, hj, rfl, hR, hG⟩ := h.some
  have hz := H.sh.per.tz _ (List.mem_of_getElem? hj)
  have hrl := rn_len hG
  have hfew := H.few
  subst hn
  refine fn_enter (by k_is) (by kernel_rfl) rfl (by walk_at "bind") rfl rfl rfl rfl rfl [("z", .int z), ("size", .int (xp r).length), ("seam", .int seam), ("a", .ref a), ("w", .ref ω.W)] rfl ?_
  intro A g L' hr
  walk_at "S"
  refine ⟨le1 rfl, fun t1 h1 => ?_⟩
  walk_at "S"
  refine ⟨le1 rfl, fun t2 h2 => ?_⟩
  walk_at "S"
  refine ⟨le1 rfl, fun t3 h3 => ?_⟩
  walk_at "S"
  refine ⟨le1 rfl, fun t4 h4 => ?_⟩
  walk_at "S"
  refine ⟨le1 rfl, fun t5 h5 => ?_⟩
  walk_at "S"
  refine ⟨le1 rfl, fun t6 h6 => ?_⟩
  obtain ⟨σ₆, hσ₆⟩ : ∃ σ₆, σ₆ = (((((σ.set t1 (.tup [.int 0, .int (xp r).length])).set t2 (.tup [.int (seam - 1), .int 2])).set t3 (.tup [.int (seam - 1), .int 0])).set t4 (.tup [.int 0, .int ((xp r).length + 1)])).set t5 (.tup [.int (xp r).length, .int 0])).set t6 (.tup [.ref t1, .ref t2, .ref t3, .ref t4, .ref t5]) := ⟨_, rfl⟩
  have e6 : Ex σ σ₆ := by rw [hσ₆]; exact (((((Ex.refl.new h1).new h2).new h3).new h4).new h5).new h6
  have r1 : Rd Γ σ₆ t1 (.tup [.int 0, .int (xp r).length]) := by rw [hσ₆]; exact ((((Rd.self.nw h2).nw h3).nw h4).nw h5).nw h6
  have r2 : Rd Γ σ₆ t2 (.tup [.int (seam - 1), .int 2]) := by rw [hσ₆]; exact (((Rd.self.nw h3).nw h4).nw h5).nw h6
  have r3 : Rd Γ σ₆ t3 (.tup [.int (seam - 1), .int 0]) := by rw [hσ₆]; exact ((Rd.self.nw h4).nw h5).nw h6
  have r4 : Rd Γ σ₆ t4 (.tup [.int 0, .int ((xp r).length + 1)]) := by rw [hσ₆]; exact (Rd.self.nw h5).nw h6
  have r5 : Rd Γ σ₆ t5 (.tup [.int (xp r).length, .int 0]) := by rw [hσ₆]; exact Rd.self.nw h6
  have r6 : Rd Γ σ₆ t6 (.tup [.ref t1, .ref t2, .ref t3, .ref t4, .ref t5]) := by rw [hσ₆]; exact Rd.self
  rw [← hσ₆]
  clear hσ₆ h1 h2 h3 h4 h5 h6
  obtain ⟨f, n, t, e1, e2, e3⟩ : ∃ f n t, ([V.ref t1, .ref t2, .ref t3, .ref t4, .ref t5] : List V)[(z.fmod 5).toNat]? = some (.ref t) ∧ Rd Γ σ₆ t (.tup [.int f, .int n]) ∧ 0 ≤ n := by
    have m0 : 0 ≤ z.fmod 5 := Int.fmod_nonneg_of_pos _ (by decide)
    have m1 : z.fmod 5 < 5 := Int.fmod_lt_of_pos _ (by decide)
    have : (z.fmod 5).toNat = 0 ∨ (z.fmod 5).toNat = 1 ∨ (z.fmod 5).toNat = 2 ∨ (z.fmod 5).toNat = 3 ∨ (z.fmod 5).toNat = 4 := by first | lia | omega
    rcases this with e | e | e | e | e <;> rw [e]
    · exact ⟨_, _, t1, rfl, r1, by first | lia | omega⟩
    · exact ⟨_, _, t2, rfl, r2, by first | lia | omega⟩
    · exact ⟨_, _, t3, rfl, r3, by first | lia | omega⟩
    · exact ⟨_, _, t4, rfl, r4, by first | lia | omega⟩
    · exact ⟨_, _, t5, rfl, r5, by first | lia | omega⟩
  have H₆ := H.ex e6
  have h₆ := h.le (σ' := σ₆) e6.le
  walk_at "S"
  have m0 : 0 ≤ z.fmod 5 := Int.fmod_nonneg_of_pos _ (by decide)
  have m1 : z.fmod 5 < 5 := Int.fmod_lt_of_pos _ (by decide)
  refine wI_tup r6 (by first | lia | omega) (by first | lia | omega) (j := (z.fmod 5).toNat) (by have := seqIndex_nat (n := (z.fmod 5).toNat) (l := 5) (by first | lia | omega); rwa [show (((z.fmod 5).toNat : Nat) : Int) = z.fmod 5 from by first | lia | omega] at this) e1 ?_
  refine wAs_tuple hr.1 e2 ?_ (by rfl) (by rfl)
  walk_at "S"
  refine wI_tup h₆.p.rd (by decide) (by decide) (by rfl) (by rfl) ?_
  walk_at "S"
  refine ⟨le1 rfl, fun p hp => ?_⟩
  walk_at "S"
  refine ⟨le1 rfl, fun q hq => ?_⟩
  walk_at "S"
  refine ⟨le1 rfl, fun o ho => ?_⟩
  walk_at "S"
  refine ⟨le1 rfl, fun L hL => ?_⟩
  have l3 : Ex σ₆ ((((σ₆.set p (.tup [.int 4, .int (ad j)])).set q (.tup [.int 1, .int f])).set o (.tup [.int 1, .int n])).set L (.lst [.ref p, .ref q, .ref o])) := (((Ex.refl.new hp).new hq).new ho).new hL
  have H₃ := H₆.ex l3
  have P₃ : Pd Γ ω.S ((((σ₆.set p (.tup [.int 4, .int (ad j)])).set q (.tup [.int 1, .int f])).set o (.tup [.int 1, .int n])).set L (.lst [.ref p, .ref q, .ref o])) p (.tup [.int 4, .int (ad j)]) := .mk (H₆.sh.notS hp) (MH.set_new (MH.set_new (MH.set_new MH.set_self hq) ho) hL)
  have Q₃ : Pd Γ ω.S ((((σ₆.set p (.tup [.int 4, .int (ad j)])).set q (.tup [.int 1, .int f])).set o (.tup [.int 1, .int n])).set L (.lst [.ref p, .ref q, .ref o])) q (.tup [.int 1, .int f]) := .mk ((H₆.new hp).sh.notS hq) (MH.set_new (MH.set_new MH.set_self ho) hL)
  have O₃ : Pd Γ ω.S ((((σ₆.set p (.tup [.int 4, .int (ad j)])).set q (.tup [.int 1, .int f])).set o (.tup [.int 1, .int n])).set L (.lst [.ref p, .ref q, .ref o])) o (.tup [.int 1, .int n]) := .mk (((H₆.new hp).new hq).sh.notS ho) (MH.set_new MH.set_self hL)
  have L₃ : Pd Γ ω.S ((((σ₆.set p (.tup [.int 4, .int (ad j)])).set q (.tup [.int 1, .int f])).set o (.tup [.int 1, .int n])).set L (.lst [.ref p, .ref q, .ref o])) L (.lst [.ref p, .ref q, .ref o]) := .mk ((((H₆.new hp).new hq).new ho).sh.notS hL) MH.set_self
  generalize (((σ₆.set p (.tup [.int 4, .int (ad j)])).set q (.tup [.int 1, .int f])).set o (.tup [.int 1, .int n])).set L (.lst [.ref p, .ref q, .ref o]) = σ₃ at *
  walk_at "S"
  refine wC_fn hr (CallOk.mono (call_part H₃ G hf L₃ P₃ Q₃ O₃ hj) fun v σ₄ ⟨l₄, s₄, N, J⟩ => ?_)
  have l04 : Le ω.S σ σ₄ := (e6.le.trans l3.le).trans l₄
  have h₄ := h.le l04
  have P₄ := P₃.le l₄
  have f₄ : s₄.rows.length ≤ s₄.T.length + 1 := by rw [N.rows, N.T]; exact hfew
  walk_at "S"
  have bad : (f < 0 ∨ ((xp r).length : Int) < f + n) → ∀ {Q' : V → MH → Prop}, (∀ σ', Le ω.S σ σ' → Wl Γ ω s₄ σ' → Q' (.bool true) σ') → CallOk Γ 2 913 [.ref ω.W, v, .int 32] σ₄ Q' := fun hb {Q'} h' => by
    rcases J with ⟨_, rfl, W⟩ | ⟨a1, a2, a3, _⟩ | ⟨a1, a2, _⟩ | ⟨a1, a2, a3, _⟩
    · exact ok_refused W (by show s₄.T.length ≤ _; rw [N.T]; (first | lia | omega)) rfl N.b1 N.b2 N.b3 fun σ₅ l₅ W' => h' σ₅ (l04.trans l₅) (thr_back N W')
    · (first | lia | omega)
    · (first | lia | omega)
    · (first | lia | omega)
  by_cases h0 : f < 0
  · refine ite_t (by simpa using h0) ?_
    walk_at "ite"
    walk_at "S"
    refine wC_fn hr ((bad (.inl h0) fun σ₅ l₅ W₅ => ?_).less (by decide))
    walk_at "S"
    exact N.post k l₅ s₄ σ₅ .refl W₅ N.good ⟨List.prefix_refl _, List.prefix_refl _⟩ (by first | lia | omega)
  refine ite_f (by simpa using h0) ?_
  walk_at "S"
  by_cases h1 : ((xp r).length : Int) < f + n
  · refine ite_t (by simpa using h1) ?_
    walk_at "ite"
    walk_at "S"
    refine wC_fn hr ((bad (.inr h1) fun σ₅ l₅ W₅ => ?_).less (by decide))
    walk_at "S"
    exact N.post k l₅ s₄ σ₅ .refl W₅ N.good ⟨List.prefix_refl _, List.prefix_refl _⟩ (by first | lia | omega)
  refine ite_f (by simpa using h1) ?_
  walk_at "S"
  walk_at "ite"
  walk_at "S"
  by_cases h2 : n = 0
  · refine ite_t (by simpa using h2) ?_
    walk_at "S"
    have V : VoidSt Γ ω s₄ v σ₄ := by
      rcases J with ⟨hb, _⟩ | ⟨_, _, _, V⟩ | ⟨_, _, a3, _⟩ | ⟨_, a2, _⟩
      · (first | lia | omega)
      · exact V
      · (first | lia | omega)
      · (first | lia | omega)
    refine wC_fn hr ((ok_void V N.good f₄ (by rw [N.T]; (first | lia | omega)) N.b1 N.b2 N.b3 fun s' σ' a1 a2 a3 a4 a5 _ => ?_).less (by decide))
    walk_at "S"
    exact N.post k l04 s' σ' a1 a2 a3 a4 a5
  refine ite_f (by simpa using h2) ?_
  walk_at "S"
  by_cases h3 : n = (xp r).length
  · refine ite_t (by simpa using h3) ?_
    obtain ⟨rfl, W⟩ : v = .ref p ∧ Wl Γ ω s₄ σ₄ := by
      rcases J with ⟨hb, _⟩ | ⟨_, a2, _⟩ | ⟨_, _, _, a4⟩ | ⟨_, _, _, a4, _⟩
      · (first | lia | omega)
      · (first | lia | omega)
      · exact a4
      · (first | lia | omega)
    walk_at "S"
    refine wI_tup h₄.p.rd (by decide) (by decide) (by rfl) (by rfl) ?_
    walk_at "S"
    refine ⟨le1 rfl, fun t ht => ?_⟩
    refine wCmp_eqD hr (rd2 (P₄.nw ht).rd) (rd2 Rd.self) (shaped2 _ _) (shaped2 _ _) ?_
    rw [eqv2]
    walk_at "S"
    refine ite_t (by simp) ?_
    walk_at "S"
    refine wC_fn hr ((ok_still (W.new ht) (by rw [N.T]; (first | lia | omega)) N.b1 N.b2 N.b3 fun σ₉ l₉ => ?_).less (by decide))
    rw [show decide (s₄.T.length = s₄.T.length) = true from by simp]
    walk_at "S"
    exact N.post k (l04.trans ((Le.new ht).trans l₉.le)) s₄ σ₉ .refl ((W.new ht).ex l₉) N.good ⟨List.prefix_refl _, List.prefix_refl _⟩ (by first | lia | omega)
  refine ite_f (by simpa using h3) ?_
  obtain ⟨c0, V⟩ : 0 ≤ f ∧ NewSt Γ ω s₄ (((xp r).drop f.toNat).take n.toNat) v σ₄ := by
    rcases J with ⟨hb, _⟩ | ⟨_, a2, _⟩ | ⟨_, a3, _⟩ | ⟨a1, _, _, _, V⟩
    · (first | lia | omega)
    · (first | lia | omega)
    · (first | lia | omega)
    · exact ⟨a1, V⟩
  have hS₄ : ∀ a ∈ ω.S, σ₄ a ≠ none := by obtain ⟨_, _, _, _, W, _⟩ := V; exact W.hS
  walk_at "S"
  refine wI_tup h₄.p.rd (by decide) (by decide) (by rfl) (by rfl) ?_
  walk_at "S"
  refine wC_fn hr ((ok_law_cut (hR.le l04) hS₄ (by first | lia | omega) fun σ₅ t l₅ hT => ?_).less (by decide))
  walk_at "S"
  have uc := un_cut (r := r) f n (gld_un hG)
  have xg : xp (glue (cutR r f n)) = ((xp r).drop f.toNat).take n.toNat := by rw [xp_glue uc, xp_part hG c0 e3]
  refine wC_fn hr ((ok_new' (V.ex l₅) N.good f₄ N.b1 hT xg (gld_un (gld_glue uc)) (by rw [xg]; simp; (first | lia | omega)) ?_ fun s' σ' a1 a2 a3 a4 a5 _ => ?_).less (by decide))
  · have := glue_len_le (cutR r f n) []
    rw [cut_len] at this
    simp at this
    show (glue (cutR r f n)).length ≤ _
    unfold glue; (first | lia | omega)
  · walk_at "S"
    exact N.post k (l04.trans l₅.le) s' σ' a1 a2 a3 a4 a5
end
/-- steps of the law: from one state to another -/
structure Stp (Γ : Gd) (ω : Om) (s : Ws) (σ : MH) (n : Nat) (s' : Ws) (σ' : MH) : Prop where
  l : Le ω.S σ σ'
  W : Wl Γ ω s' σ'
  G : Good s'
  rows : s.rows <+: s'.rows
  T : s.T <+: s'.T
  len : s'.T.length ≤ s.T.length + n
theorem pre_get {α : Type} {a b : List α} (h : a <+: b) : ∀ (j : Nat) x, a[j]? = some x → b[j]? = some x := by
  obtain ⟨t, rfl⟩ := h
  intro j x e
  rw [List.getElem?_append_left (List.getElem?_eq_some_iff.mp e).1]; exact e
section
variable {Γ : Gd} {ω : Om} {s s' : Ws} {σ σ' σ'' : MH} {Q : V → MH → Prop} {n : Nat}
theorem Stp.start (W : Wl Γ ω s σ) (G : Good s) : Stp Γ ω s σ 0 s σ := ⟨.refl, W, G, List.prefix_refl _, List.prefix_refl _, Nat.le_refl _⟩
theorem Stp.ex (h : Stp Γ ω s σ n s' σ') (l : Ex σ' σ'') : Stp Γ ω s σ n s' σ'' := ⟨h.l.trans l.le, h.W.ex l, h.G, h.rows, h.T, h.len⟩
@[elab_as_elim] theorem newE {s₁ : Ws} {σ₁ : MH} (S : Stp Γ ω s σ n s₁ σ₁) {a : Addr} (h : σ₁ a = none) (o : MO) {motive : MH → Prop} (k : ∀ σ', Ex σ₁ σ' → Pd Γ ω.S σ' a o → motive σ') : motive (σ₁.set a o) :=
  k _ (Ex.refl.new h) (.mk (S.W.sh.notS h) MH.set_self)
theorem Stp.note {s₄ : Ws} (h : Stp Γ ω s σ n s' σ') (N : Noted s' s₄) (l : Le ω.S σ' σ'') (W : Wl Γ ω s₄ σ'') : Stp Γ ω s σ n s₄ σ'' :=
  ⟨h.l.trans l, W, N.good, by rw [N.rows]; exact h.rows, by rw [N.T]; exact h.T, by rw [N.T]; exact h.len⟩
theorem Stp.callK {s₁ : Ws} {σ₁ : MH} {i : Int} {k₁ : Nat} {f : Addr} {vs : List V} (S : Stp Γ ω s σ n s₁ σ₁) (h : CallOk Γ k₁ f vs σ₁ (Aft Γ ω s₁ σ₁ fun s v σ => ValSt Γ ω s i v σ))
    (k : ∀ σ' s' t, Le ω.S σ₁ σ' → Stp Γ ω s σ n s' σ' → Pd Γ ω.S σ' t (.tup [.int 1, .int i]) → Q (.ref t) σ') : CallOk Γ k₁ f vs σ₁ Q :=
  h.mono fun v σ' ⟨l, s', N, t, ev, P, W⟩ => by subst ev; exact k σ' s' t l (S.note N l W) P
theorem Stp.pst {m : Nat} {v : V} (h : Stp Γ ω s σ n s' σ') (k : ∀ s'' σ'', Stp Γ ω s σ (n + m) s'' σ'' → Q v σ'') : Pst Γ ω s' σ' m v Q :=
  fun s'' σ'' l W G p hl => k s'' σ'' ⟨h.l.trans l, W, G, h.rows.trans p.1, h.T.trans p.2, by have := h.len; (first | lia | omega)⟩
theorem Stp.more {m : Nat} (h : Stp Γ ω s σ n s' σ') (hm : n ≤ m) : Stp Γ ω s σ m s' σ' := ⟨h.l, h.W, h.G, h.rows, h.T, Nat.le_trans h.len (by first | lia | omega)⟩
theorem Stp.fin {v : V} (h : Stp Γ ω s σ n s' σ') (k : Pst Γ ω s σ n v Q) : Q v σ' := k s' σ' h.l h.W h.G ⟨h.rows, h.T⟩ h.len
theorem Stp.row {a : Addr} {x : Int} {o : Option Rn} {v : V} (h : Stp Γ ω s σ n s' σ') (g : RowG Γ ω.S σ s.T a x o v) : RowG Γ ω.S σ' s'.T a x o v := (g.le h.l).tm (pre_get h.T)
theorem RowG.dat {S : List Addr} {T : List (List Nat)} {a : Addr} {x : Int} {o : Option Rn} {v : V} (h : RowG Γ S σ T a x o v) : ∃ d, RdV Γ σ v d ∧ SeqAt.shaped d = true ∧ ∀ r, PyData.eqv (.tuple (datR r)) d = decide (o = Option.some r) := by
  cases o with
  | none =>
    rw [h.no rfl]
    exact ⟨.none, RdV.none, rfl, fun r => by simp [PyData.eqv]⟩
  | some r =>
    obtain ⟨b, rfl, vs, h1, h2⟩ := h.so r rfl
    exact ⟨_, RdV.tup h1.rd h2.dat, shaped_T r, fun r' => by rw [eqv_TT, decide_eq_decide]; simp [eq_comm]⟩
theorem same_eq {T : List (List Nat)} {xa xb : Int} {ra : Rn} {ob : Option Rn} (ha : Arg T xa ((some ra).map xp)) (hb : Arg T xb (ob.map xp)) (ga : Gld ra) (gb : ∀ r, ob = some r → Gld r) :
    (decide (xa = xb) || decide (∃ s, (some ra).map xp = some s ∧ ob.map xp = some s)) = decide (ob = some ra) := by
  rw [Bool.eq_iff_iff]
  simp only [Bool.or_eq_true, decide_eq_true_eq]
  constructor
  · rintro (e | ⟨t, e1, e2⟩)
    · subst e
      rcases ha with ⟨_, e'⟩ | ⟨j, t, e1, e2, e3⟩
      · cases e'
      · rcases hb with ⟨e4, _⟩ | ⟨j', t', e4, e5, e6⟩
        · have := ad_lo j; (first | lia | omega)
        · have : j = j' := by unfold ad at *; (first | lia | omega)
          subst this
          rw [e2] at e5; cases e5
          cases ob with
          | none => cases e6
          | some rb =>
            simp only [Option.map_some, Option.some.injEq] at e3 e6
            rw [xp_inj (gb rb rfl) ga (by rw [e6, ← e3])]
    · cases ob with
      | none => cases e2
      | some rb =>
        simp only [Option.map_some, Option.some.injEq] at e1 e2
        rw [xp_inj (gb rb rfl) ga (by rw [e1, e2])]
  · rintro rfl
    exact .inr ⟨xp ra, rfl, rfl⟩
theorem equals_eq {ra : Rn} {ob : Option Rn} (ga : Gld ra) (gb : ∀ r, ob = some r → Gld r) : decide (ob.map xp = some (xp ra)) = decide (ob = some ra) := by
  rw [decide_eq_decide]
  constructor
  · intro e
    cases ob with
    | none => cases e
    | some rb =>
      simp only [Option.map_some, Option.some.injEq] at e
      rw [xp_inj (gb rb rfl) ga e]
  · rintro rfl; rfl
theorem Wl.last {p : Row} {rows : List Row} (W : Wl Γ ω s σ) (e : s.rows = rows ++ [p]) : ∃ a, s.rv[s.rv.length - 1]? = some (.ref a) ∧ 0 < s.rv.length ∧ RowOk Γ ω.S σ s.T a p := by
  have hl := W.rows.length
  have : s.rows[s.rv.length - 1]? = some p := by rw [hl, e]; simp
  obtain ⟨a, h1, h2⟩ := W.rows.get this
  exact ⟨a, h1, by rw [hl, e]; simp, h2⟩
theorem w1_if_join {c : Cx} {m : Lc} {test : Expr} {body orelse : List Stmt} {pos : Pos} {Q : Fl → Lc → MH → Prop} (P : Lc → MH → Prop)
    (h : wT c test m σ fun b σ' => if b = true then wS c body m σ' (fun f m' σ' => f = .next ∧ P m' σ') else wS c orelse m σ' (fun f m' σ' => f = .next ∧ P m' σ')) (k : ∀ m' σ', P m' σ' → Q .next m' σ') : w1 c (.If test body orelse pos) m σ Q := by
  refine w1_if (wG_mono h fun b σ' h' => ?_)
  cases b with
  | true =>
    rw [if_pos rfl] at h' ⊢
    exact wF_mono h' fun f m' σ'' ⟨e, q⟩ => by subst e; exact k _ _ q
  | false =>
    rw [if_neg (by simp)] at h' ⊢
    exact wF_mono h' fun f m' σ'' ⟨e, q⟩ => by subst e; exact k _ _ q
end
end
inductive LookI (Γ : Gd) (ω : Om) (s : Ws) (σ : MH) (t q L tp a b : Addr) (x xb seam z n : Int) (o : MO) (vs : List V) (m : Lc) (σ' : MH) : Prop
  | mk (is : List Int) (e : vs = is.map .int) (s' : Ws) (S : Stp Γ ω s σ 0 s' σ') (Pt : Pd Γ ω.S σ' t (.tup [.int 4, .int x])) (Pq : Pd Γ ω.S σ' q (.tup [.int 4, .int xb])) (PL : Pd Γ ω.S σ' L (.lst [.ref t, .ref q])) (Pp : Pd Γ ω.S σ' tp o)
    (b1 : m.lookup ("seam" : Str) = some (.int seam)) (b2 : m.lookup ("size" : Str) = some (.int n)) (b3 : m.lookup ("z" : Str) = some (.int z)) (b4 : m.lookup ("b" : Str) = some (.ref b)) (b5 : m.lookup ("a" : Str) = some (.ref a))
    (b6 : m.lookup ("w" : Str) = some (.ref ω.W)) (b7 : m.lookup ("this" : Str) = some (.ref t)) (b8 : m.lookup ("pair" : Str) = some (.ref L))
inductive LookJ (Γ : Gd) (ω : Om) (s : Ws) (σ : MH) (a b : Addr) (z n : Int) (m : Lc) (σ' : MH) : Prop
  | mk (S : Stp Γ ω s σ 0 s σ') (seam : Int) (b1 : m.lookup ("seam" : Str) = some (.int seam)) (b2 : m.lookup ("size" : Str) = some (.int n)) (b3 : m.lookup ("z" : Str) = some (.int z)) (b4 : m.lookup ("b" : Str) = some (.ref b)) (b5 : m.lookup ("a" : Str) = some (.ref a))
    (b6 : m.lookup ("w" : Str) = some (.ref ω.W))
inductive LookK (ω : Om) (σ : MH) (t L a b : Addr) (seam z n want : Int) (m : Lc) (σ' : MH) : Prop
  | mk (e : σ' = σ) (b1 : m.lookup ("seam" : Str) = some (.int seam)) (b2 : m.lookup ("size" : Str) = some (.int n)) (b3 : m.lookup ("z" : Str) = some (.int z)) (b4 : m.lookup ("b" : Str) = some (.ref b)) (b5 : m.lookup ("a" : Str) = some (.ref a))
    (b6 : m.lookup ("w" : Str) = some (.ref ω.W)) (b7 : m.lookup ("this" : Str) = some (.ref t)) (b8 : m.lookup ("pair" : Str) = some (.ref L)) (b9 : m.lookup ("want" : Str) = some (.int want))
section
variable {Γ : Gd} {ω : Om} {s : Ws} {σ : MH} {Q : V → MH → Prop}
theorem ok_look {a b : Addr} {xa xb z : Int} {ra : Rn} {ob : Option Rn} {va vb : V} (H : Wl Γ ω s σ) (G : Good s) (hf : s.T.length < 98000) (ha : RowG Γ ω.S σ s.T a xa (some ra) va) (hb : RowG Γ ω.S σ s.T b xb ob vb) (k : Pst Γ ω s σ 2 (.bool true) Q) :
    CallOk Γ 14 962 [.ref ω.W, .ref a, .ref b, .int z] σ Q := by
  obtain ⟨j, ba, rfl, hj, rfl, hR, hG⟩ := ha.some
  have hz := H.sh.per.tz _ (List.mem_of_getElem? hj)
  have hrl := rn_len hG
  have hzb : (xp (tr ob)).length ≤ 1048577 := by rw [← tt_map]; exact hb.arg.le H.sh.per.tz
  have hrb := rn_len (tr_gld hb.gl)
  have S₀ := Stp.start H G
  refine fn_enter (by k_is) (by kernel_rfl) rfl (by walk_at "bind") rfl rfl rfl rfl rfl [("z", .int z), ("b", .ref b), ("a", .ref a), ("w", .ref ω.W)] rfl ?_
  intro A g L' hr
  walk_at "S"
  refine wI_tup ha.p.rd (by decide) (by decide) (by rfl) (by rfl) ?_
  walk_at "S"
  refine wC_fn hr ((ok_law_long hR (by first | lia | omega) fun σ₁ l₁ => ?_).less (by decide))
  rw [← xp_len hG]
  have S₁ := S₀.ex l₁
  clear l₁
  walk_at "S"
  refine w1_if_join (fun m' σ' => LookJ Γ ω s σ a b z (xp ra).length m' σ') ?_ ?_
  · walk_at "S"
    refine wI_tup (S₁.row ha).p.rd (by decide) (by decide) (by rfl) (by rfl) ?_
    walk_at "S"
    refine ⟨le1 rfl, fun e1 h9 => newE S₁ h9 (.tup []) fun σ₂ he1 Pe => ?_⟩
    have S₂ := S₁.ex he1
    obtain ⟨vs, hv1, hv2⟩ := hR.le S₂.l
    refine wCmp_neD hr (RdV.tup hv1.rd hv2.dat) (RdV.tup Pe.rd RdVs.nil) (shaped_T ra) (shaped_T []) ?_
    rw [show PyData.eqv (.tuple (datR ra)) (.tuple []) = decide (ra = []) from eqv_TT ra []]
    walk_at "S"
    cases ra with
    | nil =>
      walk_at "ite"
      walk_at "S"
      exact ⟨rfl, S₂, _, by walk_at "lk", by walk_at "lk", by walk_at "lk", by walk_at "lk", by walk_at "lk", by walk_at "lk"⟩
    | cons p rr =>
      refine ite_t (by simp) ?_
      walk_at "S"
      refine wI_tup (S₂.row ha).p.rd (by decide) (by decide) (by rfl) (by rfl) ?_
      walk_at "S"
      cases vs with
      | nil => exact hv2.elim
      | cons v vs =>
        obtain ⟨⟨pa, rfl, hpa⟩, hv3⟩ := hv2
        refine wI_tup hv1.rd (by decide) (by decide) (seqIndex_nat (n := 0) (by simp)) (by rfl) ?_
        walk_at "S"
        refine wI_tup hpa.rd (by decide) (by decide) (by rfl) (by rfl) ?_
        walk_at "S"
        exact ⟨rfl, S₂, _, by walk_at "lk", by walk_at "lk", by walk_at "lk", by walk_at "lk", by walk_at "lk", by walk_at "lk"⟩
  rintro m₂ σ₂ ⟨S₂, seam, m1, m2, m3, m4, m5, m6⟩
  clear S₁
  walk_at "S"
  refine wI_tup (S₂.row ha).p.rd (by decide) (by decide) (by rfl) (by rfl) ?_
  walk_at "S"
  refine ⟨le1 rfl, fun t h9 => newE S₂ h9 (.tup [.int 4, .int (ad j)]) fun σ₃ ht Pt => ?_⟩
  have S₃ := S₂.ex ht
  walk_at "S"
  refine wI_tup (S₃.row hb).p.rd (by decide) (by decide) (by rfl) (by rfl) ?_
  walk_at "S"
  refine ⟨le1 rfl, fun q h9 => newE S₃ h9 (.tup [.int 4, .int xb]) fun σ₄ hq Pq => ?_⟩
  have S₄ := S₃.ex hq
  have Pt := Pt.le hq.le
  walk_at "S"
  refine ⟨le1 rfl, fun L h9 => newE S₄ h9 (.lst [.ref t, .ref q]) fun σ₅ hL PL => ?_⟩
  have S₅ := S₄.ex hL
  have Pt := Pt.le hL.le
  have Pq := Pq.le hL.le
  walk_at "S"
  refine w1_if ?_
  walk_at "S"
  refine ⟨le1 rfl, fun L₁ h9 => newE S₅ h9 (.lst [.ref t]) fun σ₆ hL₁ PL₁ => ?_⟩
  have S₆ := S₅.ex hL₁
  have Pt := Pt.le hL₁.le
  have Pq := Pq.le hL₁.le
  have PL := PL.le hL₁.le
  walk_at "S"
  refine wC_fn hr ((S₆.callK (call_length S₆.W S₆.G (by have := S₆.len; (first | lia | omega)) PL₁ Pt hj) fun σ₇ s₇ t₇ l₇ S₇ P₇ => ?_).less (by decide))
  have Pt := Pt.le l₇
  have Pq := Pq.le l₇
  have PL := PL.le l₇
  walk_at "S"
  refine ⟨le1 rfl, fun t₈ h9 => newE S₇ h9 (.tup [.int 1, .int (xp ra).length]) fun σ₈ h₈ P₈ => ?_⟩
  have S₈ := S₇.ex h₈
  have Pt := Pt.le h₈.le
  have Pq := Pq.le h₈.le
  have PL := PL.le h₈.le
  refine wCmp_neD hr (rd2 (P₇.le h₈.le).rd) (rd2 P₈.rd) (shaped2 _ _) (shaped2 _ _) ?_
  rw [eqv2]
  walk_at "S"
  refine ite_f (by simp) ?_
  walk_at "S"
  clear S₀ S₂ S₃ S₄ S₅ S₆ S₇ PL₁
  refine w1_for_tuple hr.1 ?_ (by intro _; rfl)
  walk_at "S"
  refine ⟨1, rfl, ?_⟩
  walk_at "S"
  refine ⟨le1 rfl, fun tp htp => ?_⟩
  have S₉ := S₈.ex (Ex.refl.new (o := .tup [.int (-1), .int 0, .int (seam - 1), .int seam, .int ((xp ra).length - 1), .int (xp ra).length]) htp)
  have Pt := Pt.nw (o' := .tup [.int (-1), .int 0, .int (seam - 1), .int seam, .int ((xp ra).length - 1), .int (xp ra).length]) htp
  have Pq := Pq.nw (o' := .tup [.int (-1), .int 0, .int (seam - 1), .int seam, .int ((xp ra).length - 1), .int (xp ra).length]) htp
  have PL := PL.nw (o' := .tup [.int (-1), .int 0, .int (seam - 1), .int seam, .int ((xp ra).length - 1), .int (xp ra).length]) htp
  have Pp : Pd Γ ω.S (σ₈.set tp (.tup [.int (-1), .int 0, .int (seam - 1), .int seam, .int ((xp ra).length - 1), .int (xp ra).length])) tp (.tup [.int (-1), .int 0, .int (seam - 1), .int seam, .int ((xp ra).length - 1), .int (xp ra).length]) := .mk (S₈.W.sh.notS htp) MH.set_self
  refine ⟨tp, _, rfl, Pp.rd, ?_⟩
  refine wFor_inv (fun vs m σ' => LookI Γ ω s σ t q L tp a b (ad j) xb seam z (xp ra).length (.tup [.int (-1), .int 0, .int (seam - 1), .int seam, .int ((xp ra).length - 1), .int (xp ra).length]) vs m σ') ?_ ?_ _ _ _
      ⟨[-1, 0, seam - 1, seam, (xp ra).length - 1, (xp ra).length], rfl, s₇, S₉, Pt, Pq, PL, Pp, by walk_at "lk", by walk_at "lk", by walk_at "lk", by walk_at "lk", by walk_at "lk", by walk_at "lk", by walk_at "lk", by walk_at "lk"⟩
  rotate_left
  · rintro v vs m σ₁ ⟨is, e, s', S', Pt, Pq, PL, Pp, b1, b2, b3, b4, b5, b6, b7, b8⟩ fp
    cases is with
    | nil => cases e
    | cons i is =>
      rw [List.map_cons, List.cons.injEq] at e
      obtain ⟨rfl, e⟩ := e
      walk_at "S"
      refine w1_if ?_
      walk_at "S"
      refine wC_fn hr ((ok_letter S'.W S'.G (by have := S'.len; (first | lia | omega)) (S'.row ha) rfl fun s'' σ'' c1 c2 c3 c4 c5 => ?_).less (by decide))
      walk_at "S"
      walk_at "ite"
      walk_at "S"
      exact ⟨(Pp.le c1).rd, is, e, s'', ⟨S'.l.trans c1, c2, c3, S'.rows.trans c4.1, S'.T.trans c4.2, by have := S'.len; (first | lia | omega)⟩, Pt.le c1, Pq.le c1, PL.le c1, Pp.le c1, by walk_at "lk", by walk_at "lk", by walk_at "lk", by walk_at "lk", by walk_at "lk", by walk_at "lk", by walk_at "lk", by walk_at "lk"⟩
  clear S₈ S₉ Pt Pq PL Pp
  rintro m σ₁ ⟨_, -, s₁, S₁, Pt, Pq, PL, -, b1, b2, b3, b4, b5, b6, b7, b8⟩
  walk_at "S"
  have gb := hb.gl
  refine wI_tup (S₁.row ha).p.rd (by decide) (by decide) (by rfl) (by rfl) ?_
  walk_at "S"
  refine wI_tup (S₁.row hb).p.rd (by decide) (by decide) (by rfl) (by rfl) ?_
  obtain ⟨vs, hv1, hv2⟩ := hR.le S₁.l
  obtain ⟨d, D1, D2, D3⟩ := (S₁.row hb).dat
  refine wCmp_eqD hr (RdV.tup hv1.rd hv2.dat) D1 (shaped_T ra) D2 ?_
  rw [D3]
  clear hv1 hv2 D1 D2 D3
  walk_at "S"
  refine wC_fn hr ((ok_law_bool fun r h₂ => ?_).less (by decide))
  have S₂ := S₁.ex (Ex.refl.new (o := .tup [.int 1, .int (if decide (ob = some ra) then 1 else 0)]) h₂)
  have Pt := Pt.nw (o' := .tup [.int 1, .int (if decide (ob = some ra) then 1 else 0)]) h₂
  have Pq := Pq.nw (o' := .tup [.int 1, .int (if decide (ob = some ra) then 1 else 0)]) h₂
  have PL := PL.nw (o' := .tup [.int 1, .int (if decide (ob = some ra) then 1 else 0)]) h₂
  have Pr : Pd Γ ω.S (σ₁.set r (.tup [.int 1, .int (if decide (ob = some ra) then 1 else 0)])) r (.tup [.int 1, .int (if decide (ob = some ra) then 1 else 0)]) := .mk (S₁.W.sh.notS h₂) MH.set_self
  generalize σ₁.set r (.tup [.int 1, .int (if decide (ob = some ra) then 1 else 0)]) = σ₂ at *
  clear S₁
  walk_at "S"
  refine w1_if ?_
  walk_at "S"
  refine wC_fn hr ((S₂.callK (call_same S₂.W S₂.G (by have := S₂.len; (first | lia | omega)) PL Pt Pq (S₂.row ha).arg (S₂.row hb).arg) fun σ₃ s₃ t₃ l₃ S₃ P₃ => ?_).less (by decide))
  rw [same_eq (S₂.row ha).arg (S₂.row hb).arg hG gb] at P₃
  have Pt := Pt.le l₃
  have Pq := Pq.le l₃
  have PL := PL.le l₃
  have Pr := Pr.le l₃
  walk_at "S"
  refine wCmp_neD hr (rd2 P₃.rd) (rd2 Pr.rd) (shaped2 _ _) (shaped2 _ _) ?_
  rw [eqv2]
  walk_at "S"
  refine ite_f (by simp) ?_
  walk_at "S"
  refine wC_fn hr ((S₃.callK (call_equals S₃.W S₃.G (by have := S₃.len; (first | lia | omega)) PL Pt Pq (pre_get S₃.T _ _ hj) (S₃.row hb).arg) fun σ₄ s₄ t₄ l₄ S₄ P₄ => ?_).less (by decide))
  rw [equals_eq hG gb] at P₄
  have Pt := Pt.le l₄
  have Pq := Pq.le l₄
  have PL := PL.le l₄
  have Pr := Pr.le l₄
  clear S₂ S₃
  walk_at "S"
  refine wCmp_neD hr (rd2 P₄.rd) (rd2 Pr.rd) (shaped2 _ _) (shaped2 _ _) ?_
  rw [eqv2]
  walk_at "S"
  refine ite_f (by simp) ?_
  walk_at "S"
  walk_at "ite"
  walk_at "S"
  refine w1_if_join (fun m' σ' => LookK ω σ₄ t L a b seam z (xp ra).length (cmpO (xp ra) (ob.map xp)) m' σ') ?_ ?_
  · walk_at "S"
    refine wI_tup (S₄.row hb).p.rd (by decide) (by decide) (by rfl) (by rfl) ?_
    walk_at "S"
    cases ob with
    | none =>
      rw [hb.no rfl]
      walk_at "ite"
      walk_at "S"
      exact ⟨rfl, rfl, by walk_at "lk", by walk_at "lk", by walk_at "lk", by walk_at "lk", by walk_at "lk", by walk_at "lk", by walk_at "lk", by walk_at "lk", (by walk_at "lk" : _ = some (V.int 1))⟩
    | some rb =>
      obtain ⟨bb, rfl, hRb⟩ := (S₄.row hb).so rb rfl
      have gb' := gb rb rfl
      refine ite_T rfl ?_
      walk_at "S"
      refine wI_tup (S₄.row ha).p.rd (by decide) (by decide) (by rfl) (by rfl) ?_
      walk_at "S"
      refine wI_tup (S₄.row hb).p.rd (by decide) (by decide) (by rfl) (by rfl) ?_
      walk_at "S"
      refine wC_fn hr ((ok_law_order (hR.le S₄.l) hRb (fun p hp => ⟨(hG.ps p hp).1, (hG.ps p hp).2.2⟩) (fun p hp => ⟨(gb'.ps p hp).1, (gb'.ps p hp).2.2⟩) (by first | lia | omega) (by have : rb.length ≤ 1048577 := Nat.le_trans hrb hzb; (first | lia | omega)) ?_).less (by decide))
      walk_at "S"
      exact ⟨rfl, rfl, by walk_at "lk", by walk_at "lk", by walk_at "lk", by walk_at "lk", by walk_at "lk", by walk_at "lk", by walk_at "lk", by walk_at "lk", (by walk_at "lk" : _ = some (V.int (cmpT (xp ra) (xp rb))))⟩
  clear b1 b2 b3 b4 b5 b6 b7 b8
  rintro m σ' ⟨rfl, b1, b2, b3, b4, b5, b6, b7, b8, b9⟩
  walk_at "S"
  refine w1_if ?_
  walk_at "S"
  refine wC_fn hr ((S₄.callK (call_compare S₄.W S₄.G (by have := S₄.len; (first | lia | omega)) PL Pt Pq (pre_get S₄.T _ _ hj) (S₄.row hb).arg) fun σ₅ s₅ t₅ l₅ S₅ P₅ => ?_).less (by decide))
  have Pt := Pt.le l₅
  clear S₄ Pq PL Pr
  walk_at "S"
  refine ⟨le1 rfl, fun t₆ h9 => newE S₅ h9 (.tup [.int 1, .int (cmpO (xp ra) (ob.map xp))]) fun σ₆ h₆ P₆ => ?_⟩
  refine wCmp_neD hr (rd2 (P₅.le h₆.le).rd) (rd2 P₆.rd) (shaped2 _ _) (shaped2 _ _) ?_
  rw [eqv2]
  have S₆ := S₅.ex h₆
  have Pt := Pt.le h₆.le
  clear S₅
  walk_at "S"
  refine ite_f (by simp) ?_
  walk_at "S"
  refine ⟨le1 rfl, fun t₇ h9 => newE S₆ h9 (.tup [.int 97, .int 65535, .int 98, .int 0, .int 65]) fun σ₇ h₇ Pu' => ?_⟩
  have S₇ := S₆.ex h₇
  have Pt := Pt.le h₇.le
  have Pu := Pu'.rd
  clear S₆
  obtain ⟨ui, hui⟩ : ∃ i, i = (z.fdiv 5).fmod 5 := ⟨_, rfl⟩
  have u0 : 0 ≤ ui := by rw [hui]; exact Int.fmod_nonneg_of_pos _ (by decide)
  have u1 : ui < 5 := by rw [hui]; exact Int.fmod_lt_of_pos _ (by decide)
  obtain ⟨ci, hci⟩ : ∃ i, i = (z.fdiv 25).fmod 2 := ⟨_, rfl⟩
  have c0 : 0 ≤ ci := by rw [hci]; exact Int.fmod_nonneg_of_pos _ (by decide)
  have c1 : ci < 2 := by rw [hci]; exact Int.fmod_lt_of_pos _ (by decide)
  obtain ⟨u, hu, hu0, hu1⟩ : ∃ u : Int, ([V.int 97, .int 65535, .int 98, .int 0, .int 65] : List V)[ui.toNat]? = some (.int u) ∧ 0 ≤ u ∧ u ≤ 1114111 := by
    have : ui.toNat = 0 ∨ ui.toNat = 1 ∨ ui.toNat = 2 ∨ ui.toNat = 3 ∨ ui.toNat = 4 := by first | lia | omega
    rcases this with e | e | e | e | e <;> rw [e] <;> exact ⟨_, rfl, by decide, by decide⟩
  walk_at "S"
  rw [← hui]
  refine wI_tup Pu (by first | lia | omega) (by first | lia | omega) (j := ui.toNat) (by have := seqIndex_nat (n := ui.toNat) (l := 5) (by first | lia | omega); rwa [show ((ui.toNat : Nat) : Int) = ui from by first | lia | omega] at this) hu ?_
  walk_at "S"
  rw [← hci]
  refine ⟨le1 rfl, fun t₈ h9 => newE S₇ h9 (.tup [.int u, .int (1 + ci)]) fun σ₈ h₈ P₈ => ?_⟩
  have S₈ := S₇.ex h₈
  have Pt := Pt.le h₈.le
  walk_at "S"
  refine ⟨le1 rfl, fun t₉ h9 => newE S₈ h9 (.tup [.ref t₈]) fun σ₉ h₉ P₉ => ?_⟩
  have S₉ := S₈.ex h₉
  have Pt := Pt.le h₉.le
  have R₉ : IsRn Γ ω.S σ₉ t₉ [(u, 1 + ci)] := ⟨[.ref t₈], P₉, ⟨t₈, rfl, P₈.le h₉.le⟩, trivial⟩
  clear S₇ S₈
  walk_at "S"
  have un : Un [(u, 1 + ci)] := fun p hp => by
    rw [List.mem_singleton] at hp; subst hp; exact ⟨hu0, hu1⟩
  have xu : xp [(u, 1 + ci)] = List.replicate (1 + ci).toNat u.toNat := by rw [xp_cons, xp_nil, List.append_nil]
  refine wC_fn hr ((ok_lay S₉.W R₉ un (fun p hp => by rw [List.mem_singleton] at hp; subst hp; dsimp only; (first | lia | omega)) (by rw [xu, List.length_replicate]; (first | lia | omega)) (by have := S₉.len; (first | lia | omega)) (by simp) fun σ₁₀ x ra' l₁₀ W₁₀ => ?_).less (by decide))
  have S₁₀ : Stp Γ ω s σ 1 { s₅ with T := s₅.T ++ [xp [(u, 1 + ci)]], th := s₅.th ++ [x], rows := s₅.rows ++ [(ad s₅.T.length, some (glue [(u, 1 + ci)]))], rv := s₅.rv ++ [.ref ra'] } σ₁₀ :=
    ⟨S₉.l.trans l₁₀, W₁₀, ⟨S₉.G.thr, S₉.G.we, nn_add S₉.G.nn _ _⟩, S₉.rows.trans (List.prefix_append _ _), S₉.T.trans (List.prefix_append _ _), by have := S₉.len; simp; (first | lia | omega)⟩
  have Pt := Pt.le l₁₀
  refine ⟨rfl, ?_⟩
  walk_at "S"
  refine wI_rows W₁₀ ?_
  walk_at "S"
  refine ⟨1, rfl, ?_⟩
  obtain ⟨la, hla, hlp, hlr⟩ := W₁₀.last rfl
  obtain ⟨lv, hlg⟩ := hlr.g
  refine wI_lst (.inl W₁₀.R) (by decide) (by decide) (seqIndex_last hlp) hla ?_
  walk_at "S"
  refine wI_tup hlg.p.rd (by decide) (by decide) (by rfl) (by rfl) ?_
  walk_at "S"
  refine ⟨le1 rfl, fun q₂ h9 => newE S₁₀ h9 (.tup [.int 4, .int (ad s₅.T.length)]) fun σ₁₁ hq₂ Pq => ?_⟩
  have S₁₁ := S₁₀.ex hq₂
  have Pt := Pt.le hq₂.le
  walk_at "S"
  refine ⟨le1 rfl, fun L₂ h9 => newE S₁₁ h9 (.lst [.ref t, .ref q₂]) fun σ₁₂ hL₂ PL => ?_⟩
  have S₁₂ := S₁₁.ex hL₂
  have Pt := Pt.le hL₂.le
  have Pq := Pq.le hL₂.le
  clear S₉ S₁₀ S₁₁
  walk_at "S"
  refine wC_fn hr ((S₁₂.callK (call_index S₁₂.W S₁₂.G (by have := S₁₂.len; (first | lia | omega)) PL Pt Pq (pre_get S₁₂.T _ _ hj) (u := xp [(u, 1 + ci)]) (by simp)) fun σ₁₃ s₁₃ t₁₃ l₁₃ S₁₃ P₁₃ => ?_).less (by decide))
  clear S₁₂ Pt Pq PL
  walk_at "S"
  refine wI_tup (S₁₃.row ha).p.rd (by decide) (by decide) (by rfl) (by rfl) ?_
  walk_at "S"
  refine wC_fn hr ((ok_law_seek (hR.le S₁₃.l) ?_).less (by decide))
  walk_at "S"
  refine ⟨le1 rfl, fun t₁₄ h9 => newE S₁₃ h9 (.tup [.int 1, .int (seekR u (1 + ci) ra 0)]) fun σ₁₄ h₁₄ P₁₄ => ?_⟩
  have S₁₄ := S₁₃.ex h₁₄
  refine wCmp_eqD hr (rd2 (P₁₃.le h₁₄.le).rd) (rd2 P₁₄.rd) (shaped2 _ _) (shaped2 _ _) ?_
  rw [eqv2, seek_find hu0 (by first | lia | omega) hG, xu]
  walk_at "S"
  refine ite_t (by simp) ?_
  walk_at "S"
  refine wC_fn hr ((ok_part_law S₁₄.W S₁₄.G (by have := S₁₄.len; (first | lia | omega)) (S₁₄.row ha) rfl (S₁₄.pst fun s'' σ'' Z => ?_)).less (by decide))
  walk_at "S"
  exact Z.fin k
end
section
local macro_rules | `(tactic| walk_at "s") => `(tactic| with_reducible refine w1_if ?_)
section
variable {Γ : Gd} {ω : Om} {s : Ws} {σ : MH} {Q : V → MH → Prop}
theorem ok_idle (W : Wl Γ ω s σ) (G : Good s) (k : ∀ σ', Ex σ σ' → Q (.bool true) σ') : CallOk Γ 1 969 [.ref ω.m] σ Q := by
  refine fn_enter (by k_is) (by kernel_rfl) rfl (by walk_at "bind") rfl rfl rfl rfl rfl [("m", .ref ω.m)] rfl ?_
  intro A g L' hr
  walk_at "S"
  refine wA_ga W.sh.per.m.rd W.sh.per.md.rd W.sh.per.ok.thrown rfl ?_
  walk_at "S"
  refine ⟨le1 rfl, fun t ht => ?_⟩
  have W₁ := W.new (o := .lst []) ht
  have e := W₁.sh.mu.thr
  rw [G.thr] at e
  refine wCmp_eqD hr (RdV.lst (.inl e) RdVs.nil) (RdV.lst Rd.self RdVs.nil) (shaped_L []) (shaped_L []) ?_
  rw [show PyData.eqv (.list []) (.list []) = true from by simp [PyData.eqv, PyData.eqvAll]]
  walk_at "S"
  walk_at "ite"
  walk_at "S"
  refine wA_ga W₁.sh.per.m.rd W₁.sh.per.md.rd W₁.sh.per.ok.told rfl ?_
  walk_at "S"
  refine ⟨le1 rfl, fun t₂ ht₂ => ?_⟩
  have W₂ := W₁.new (o := .lst []) ht₂
  refine wCmp_eqD hr (RdV.lst W₂.sh.per.told.rd RdVs.nil) (RdV.lst Rd.self RdVs.nil) (shaped_L []) (shaped_L []) ?_
  rw [show PyData.eqv (.list []) (.list []) = true from by simp [PyData.eqv, PyData.eqvAll]]
  walk_at "S"
  walk_at "ite"
  walk_at "S"
  refine wA_ga W₂.sh.per.m.rd W₂.sh.per.md.rd W₂.sh.per.ok.state rfl ?_
  walk_at "S"
  exact k _ ((Ex.refl.new ht).new ht₂)
theorem ok_stand (W : Wl Γ ω s σ) (G : Good s) (k : ∀ σ', Ex σ σ' → Q (.bool true) σ') : CallOk Γ 2 1004 [.ref ω.W] σ Q := by
  have hfew := W.few
  have hT := W.sh.few
  have hl := W.rows.length
  refine fn_enter (by k_is) (by kernel_rfl) rfl (by walk_at "bind") rfl rfl rfl rfl rfl [("w", .ref ω.W)] rfl ?_
  intro A g L' hr
  walk_at "S"
  refine w1_for_list hr.1 ?_ (by intro _; rfl)
  refine wE_sliceL_from ?_
  walk_at "S"
  refine wI_rows W ?_
  walk_at "S"
  refine ⟨ω.R, s.rv, 1, rfl, rfl, .inl W.R, by first | lia | omega, fun t ht => ?_⟩
  have W₁ := W.new (o := .lst (s.rv.drop 1)) ht
  refine ⟨t, _, rfl, Rd.self, ?_⟩
  have hd : ∀ (n : Nat) (vs : List V) (r : List Row), Rws Γ ω.S (σ.set t (.lst (s.rv.drop 1))) s.T vs r → Rws Γ ω.S (σ.set t (.lst (s.rv.drop 1))) s.T (vs.drop n) (r.drop n) := by
    intro n
    induction n with
    | zero => intro vs r h; exact h
    | succ n ih =>
      intro vs r h
      cases vs with
      | nil => cases r with
        | nil => exact h
        | cons _ _ => exact h.elim
      | cons v vs => cases r with
        | nil => exact h.elim
        | cons p r => exact ih vs r h.2
  have hrd : Rd Γ (σ.set t (.lst (s.rv.drop 1))) t (.lst (s.rv.drop 1)) := Rd.self
  have e1 : Ex σ (σ.set t (.lst (s.rv.drop 1))) := Ex.refl.new ht
  refine wFor_inv (fun vs m σ' => σ' = σ.set t (.lst (s.rv.drop 1)) ∧ ∃ r', Rws Γ ω.S σ' s.T vs r' ∧ (∀ p ∈ r', p.2 ≠ none) ∧ m.lookup ("w" : Str) = some (.ref ω.W)) ?_ ?_ _ _ _ ⟨rfl, s.rows.drop 1, hd 1 _ _ W₁.rows, G.nn, by walk_at "lk"⟩
  · rintro m σ' ⟨rfl, r', -, -, -⟩
    walk_at "S"
    exact k _ e1
  · rintro v vs m σ' ⟨rfl, r', h1, h2, h3⟩ fp
    generalize σ.set t (.lst (s.rv.drop 1)) = σ₁ at *
    cases r' with
    | nil => exact h1.elim
    | cons p r' =>
      obtain ⟨⟨a, rfl, ha⟩, h1⟩ := h1
      obtain ⟨x, o⟩ := p
      have hne := h2 _ (.head _)
      cases o with
      | none => exact absurd rfl hne
      | some r =>
        obtain ⟨b, j, c1, c2, c3, c4, c5⟩ := ha
        subst c3
        have hz := W.sh.per.tz _ (List.mem_of_getElem? c4)
        obtain ⟨y, e1, e2, X⟩ := W₁.sh.thing c4
        obtain ⟨kt, _, eta⟩ := W₁.sh.mu.ta
        refine wAs_tuple hr.1 c1.rd ?_ (by rfl) (by rfl)
        walk_at "S"
        refine wI_m W₁ ?_
        refine wA_ga W₁.sh.per.m.rd W₁.sh.per.md.rd W₁.sh.per.ok.heap rfl ?_
        refine wA_ga W₁.sh.per.h.rd (.inl W₁.sh.mu.hd) (by rfl) (by rfl) ?_
        walk_at "S"
        refine wI_dcI (.inl eta) e2 ?_
        walk_at "S"
        refine wC_fn hr ((ok_holds X c2 c5 hz ?_).less (by decide))
        walk_at "S"
        walk_at "ite"
        walk_at "S"
        exact ⟨hrd, rfl, r', h1, fun p hp => h2 p (.tail _ hp), by walk_at "lk"⟩
theorem Wl.row {i : Nat} (W : Wl Γ ω s σ) (hi : i < s.rows.length) : ∃ a p v, s.rows[i]? = some p ∧ s.rv[i]? = some (.ref a) ∧ i < s.rv.length ∧ RowG Γ ω.S σ s.T a p.1 p.2 v := by
  have e : s.rows[i]? = some s.rows[i] := List.getElem?_eq_getElem hi
  obtain ⟨a, h1, h2⟩ := W.rows.get e
  obtain ⟨v, h3⟩ := h2.g
  exact ⟨a, _, v, e, h1, by rw [W.rows.length]; exact hi, h3⟩
theorem Wl.rowK {i : Nat} {R : Prop} (W : Wl Γ ω s σ) (hi : i < s.rows.length) (k : ∀ a p v, s.rows[i]? = some p → s.rv[i]? = some (.ref a) → i < s.rv.length → RowG Γ ω.S σ s.T a p.1 p.2 v → R) : R := by
  obtain ⟨a, p, v, h1, h2, h3, h4⟩ := W.row hi
  exact k a p v h1 h2 h3 h4
theorem Good.row {i : Nat} {p : Row} (G : Good s) (h1 : 1 ≤ i) (e : s.rows[i]? = some p) : ∃ r, p.2 = some r := by
  have : p ∈ s.rows.drop 1 := by
    refine List.mem_of_getElem? (i := i - 1) ?_
    rw [List.getElem?_drop, show 1 + (i - 1) = i from by first | lia | omega]; exact e
  have := G.nn p this
  cases h : p.2 with
  | none => exact absurd h this
  | some r => exact ⟨r, rfl⟩
theorem ok_step {x : Int} (W : Wl Γ ω s σ) (G : Good s) (h7 : 7 ≤ s.rows.length) (hf : s.T.length < 98000) (k : Pst Γ ω s σ 2 (.bool true) Q) : CallOk Γ 15 983 [.ref ω.W, .int x] σ Q := by
  have hfew := W.few
  have hl := W.rows.length
  refine fn_enter (by k_is) (by kernel_rfl) rfl (by walk_at "bind") rfl rfl rfl rfl rfl [("x", .int x), ("w", .ref ω.W)] rfl ?_
  intro A g L' hr
  walk_at "S"
  refine wI_rows W ?_
  walk_at "S"
  refine wC_len_lst (.inl W.R) (by first | lia | omega) ?_
  walk_at "S"
  rw [hl]
  have n0 : (0 : Int) < s.rows.length := by first | lia | omega
  obtain ⟨i, hi⟩ : ∃ i, i = (x.fdiv 3).fmod s.rows.length := ⟨_, rfl⟩
  have i0 : 0 ≤ i := by rw [hi]; exact Int.fmod_nonneg_of_pos _ n0
  have i1 : i < s.rows.length := by rw [hi]; exact Int.fmod_lt_of_pos _ n0
  obtain ⟨i', hi'⟩ : ∃ i, i = ((x.fdiv 3).fdiv s.rows.length).fmod s.rows.length := ⟨_, rfl⟩
  have i0' : 0 ≤ i' := by rw [hi']; exact Int.fmod_nonneg_of_pos _ n0
  have i1' : i' < s.rows.length := by rw [hi']; exact Int.fmod_lt_of_pos _ n0
  refine Wl.rowK W (i := i.toNat) (by first | lia | omega) fun a p va e1 e2 e3 ga => ?_
  refine Wl.rowK W (i := i'.toNat) (by first | lia | omega) fun b q vb f1 f2 f3 gb => ?_
  refine Wl.rowK W (i := 6) (by first | lia | omega) fun a6 p6 v6 g1 g2 g3 g6 => ?_
  refine Wl.rowK W (i := 1) (by first | lia | omega) fun a1 p1 v1 k1 k2 k3 k4 => ?_
  have idx : ∀ {i : Int}, 0 ≤ i → i < s.rows.length → seqIndex? i s.rv.length = some i.toNat := fun {i} h0 h1 => by
    have := seqIndex_nat (n := i.toNat) (l := s.rv.length) (by first | lia | omega)
    rwa [show ((i.toNat : Nat) : Int) = i from by first | lia | omega] at this
  refine wB_mod (by first | lia | omega) ?_
  rw [← hi]
  refine wI_lst (.inl W.R) (by first | lia | omega) (by first | lia | omega) (idx i0 i1) e2 ?_
  walk_at "S"
  refine wB_div n0 (by first | lia | omega) ?_
  walk_at "S"
  refine wB_mod (by first | lia | omega) ?_
  rw [← hi']
  refine wI_lst (.inl W.R) (by first | lia | omega) (by first | lia | omega) (idx i0' i1') f2 ?_
  walk_at "S"
  refine ite_p (fun hx => ?_) fun hx => ?_
  · walk_at "S"
    refine wI_tup ga.p.rd (by decide) (by decide) (by rfl) (by rfl) ?_
    walk_at "S"
    obtain ⟨xa, oa⟩ := p
    obtain ⟨r6, hr6⟩ := G.row (by decide) g1
    obtain ⟨x6, o6⟩ := p6
    dsimp only at hr6 g6 ga
    subst hr6
    cases oa with
    | none =>
      rw [ga.no rfl]
      walk_at "ite"
      walk_at "S"
      refine wI_lst (.inl W.R) (by decide) (by decide) (idx (i := 6) (by first | lia | omega) (by first | lia | omega)) g2 ?_
      walk_at "S"
      refine wB_div n0 (by first | lia | omega) ?_
      walk_at "S"
      refine wB_div n0 (by first | lia | omega) ?_
      walk_at "S"
      refine wC_fn hr ((ok_look W G hf g6 gb fun s'' σ'' a1 a2 a3 a4 a5 => ?_).less (by decide))
      walk_at "S"
      exact k s'' σ'' a1 a2 a3 a4 a5
    | some r =>
      obtain ⟨ba, rfl, hRa⟩ := ga.so r rfl
      refine ite_F rfl ?_
      walk_at "S"
      refine wB_div n0 (by first | lia | omega) ?_
      walk_at "S"
      refine wB_div n0 (by first | lia | omega) ?_
      walk_at "S"
      refine wC_fn hr ((ok_look W G hf ga gb fun s'' σ'' a1 a2 a3 a4 a5 => ?_).less (by decide))
      walk_at "S"
      exact k s'' σ'' a1 a2 a3 a4 a5
  · have za : ∀ r, p.2 = some r → r.length ≤ 1048577 := fun r e => Nat.le_trans (rn_len (ga.gl r e)) (ga.arg.le W.sh.per.tz |> fun h => by rw [e] at h; exact h)
    have zb : ∀ r, q.2 = some r → r.length ≤ 1048577 := fun r e => Nat.le_trans (rn_len (gb.gl r e)) (gb.arg.le W.sh.per.tz |> fun h => by rw [e] at h; exact h)
    have ya : (tr p.2).length ≤ 1048577 := by cases e : p.2 with | none => simp [tr] | some r => exact za r e
    have yb : (tr q.2).length ≤ 1048577 := by cases e : q.2 with | none => simp [tr] | some r => exact zb r e
    walk_at "S"
    refine wE_orE (by walk_at "lk") rfl rfl (by decide) W.hS ga (fun r e => by have := za r e; (first | lia | omega)) fun σ₁ one l₁ R₁ => ?_
    have S₁ := (Stp.start W G).ex l₁
    walk_at "S"
    refine wC_fn hr ((ok_law_long R₁ (by first | lia | omega) fun σ₂ l₂ => ?_).less (by decide))
    have S₂ := S₁.ex l₂
    walk_at "S"
    refine wE_orE (by walk_at "lk") rfl rfl (by decide) S₂.W.hS (S₂.row gb) (fun r e => by have := zb r e; (first | lia | omega)) fun σ₃ two l₃ R₂ => ?_
    have S₃ := S₂.ex l₃
    walk_at "S"
    refine wC_fn hr ((ok_law_long R₂ (by first | lia | omega) fun σ₄ l₄ => ?_).less (by decide))
    have S₄ := S₃.ex l₄
    clear S₁ S₂ S₃
    walk_at "S"
    refine ite_p (fun _ => ?_) fun _ => ?_
    · walk_at "S"
      refine ite_p (fun _ => ?_) fun _ => ?_
      · walk_at "S"
        refine ite_p (fun _ => ?_) fun _ => ?_
        · walk_at "S"
          refine ite_p (fun _ => ?_) fun _ => ?_
          · walk_at "S"
            walk_at "ite"
            walk_at "S"
            refine wI_lst (.inl S₄.W.R) (by decide) (by decide) (idx (i := 1) (by first | lia | omega) (by first | lia | omega)) k2 ?_
            walk_at "S"
            refine wC_fn hr ((ok_join S₄.W S₄.G (by first | lia | omega) (S₄.row ga) (S₄.row k4) (Pst.g (S₄.pst (m := 1) fun s'' σ'' Z => ?_))).less (by decide))
            walk_at "S"
            exact (Z.more (by decide)).fin k
          · repeat walk_at "ite"
            walk_at "S"
            refine wC_fn hr ((ok_join S₄.W S₄.G (by first | lia | omega) (S₄.row ga) (S₄.row gb) (Pst.g (S₄.pst (m := 1) fun s'' σ'' Z => ?_))).less (by decide))
            walk_at "S"
            exact (Z.more (by decide)).fin k
        · repeat walk_at "ite"
          walk_at "S"
          refine wC_fn hr ((ok_join S₄.W S₄.G (by first | lia | omega) (S₄.row ga) (S₄.row gb) (Pst.g (S₄.pst (m := 1) fun s'' σ'' Z => ?_))).less (by decide))
          walk_at "S"
          exact (Z.more (by decide)).fin k
      · repeat walk_at "ite"
        walk_at "S"
        refine wC_fn hr ((ok_join S₄.W S₄.G (by first | lia | omega) (S₄.row ga) (S₄.row gb) (Pst.g (S₄.pst (m := 1) fun s'' σ'' Z => ?_))).less (by decide))
        walk_at "S"
        exact (Z.more (by decide)).fin k
    · repeat walk_at "ite"
      walk_at "S"
      refine wC_fn hr ((ok_join S₄.W S₄.G (by first | lia | omega) (S₄.row ga) (S₄.row gb) (Pst.g (S₄.pst (m := 1) fun s'' σ'' Z => ?_))).less (by decide))
      walk_at "S"
      exact (Z.more (by decide)).fin k
end
section
variable {Γ : Gd} {ω : Om} {s s₁ : Ws} {σ σ₁ : MH} {Q : V → MH → Prop} {n : Nat}
theorem ok_lay1 {t : Addr} {u c : Int} (S : Stp Γ ω s σ n s₁ σ₁) (R : IsRn Γ ω.S σ₁ t [(u, c)]) (u0 : 0 ≤ u) (u1 : u ≤ 1114111) (c0 : -1000 ≤ c) (c1 : c ≤ 1048577) (hf : s₁.T.length < 99000)
    (k : ∀ s' σ', Stp Γ ω s σ (n + 1) s' σ' → s'.rows = s₁.rows ++ [(ad s₁.T.length, some (glue [(u, c)]))] → s'.emp = s₁.emp → s'.T.length = s₁.T.length + 1 → Q .none σ') : CallOk Γ 9 892 [.ref ω.W, .ref t] σ₁ Q := by
  have xu : xp [(u, c)] = List.replicate c.toNat u.toNat := by rw [xp_cons, xp_nil, List.append_nil]
  refine ok_lay S.W R (fun p hp => by rw [List.mem_singleton] at hp; subst hp; exact ⟨u0, u1⟩) (fun p hp => by rw [List.mem_singleton] at hp; subst hp; exact c0) (by rw [xu, List.length_replicate]; (first | lia | omega)) (by first | lia | omega) (by simp) fun σ₂ x ra l W => ?_
  exact k _ σ₂ ⟨S.l.trans l, W, ⟨S.G.thr, S.G.we, nn_add S.G.nn _ _⟩, S.rows.trans (List.prefix_append _ _), S.T.trans (List.prefix_append _ _), by have := S.len; simp; (first | lia | omega)⟩ rfl rfl (by simp)
theorem rn1 {S : List Addr} {σ : MH} {a t : Addr} {u c : Int} (P : Pd Γ S σ a (.tup [.int u, .int c])) (R : Pd Γ S σ t (.tup [.ref a])) : IsRn Γ S σ t [(u, c)] := ⟨[.ref a], R, ⟨a, rfl, P⟩, trivial⟩
theorem idx_of {i : Nat} {σ : MH} (W : Wl Γ ω s σ) (hi : i < s.rows.length) : seqIndex? (i : Int) s.rv.length = some i := seqIndex_nat (by rw [W.rows.length]; exact hi)
theorem ok_border {x lack : Int} (W : Wl Γ ω s σ) (G : Good s) (h7 : 7 ≤ s.rows.length) (hf : s.T.length < 97000) (k0 : -1 ≤ lack) (k1 : lack ≤ 5) (k : Pst Γ ω s σ 5 (.bool true) Q) : CallOk Γ 15 990 [.ref ω.W, .int x, .int lack] σ Q := by
  refine fn_enter (by k_is) (by kernel_rfl) rfl (by walk_at "bind") rfl rfl rfl rfl rfl [("lack", .int lack), ("x", .int x), ("w", .ref ω.W)] rfl ?_
  intro A g L' hr
  walk_at "S"
  refine wI_rows W ?_
  walk_at "S"
  refine wC_max hr.1 ?_
  walk_at "S"
  refine ⟨le1 rfl, fun t1 h9 => newE (Stp.start W G) h9 (.tup [.int 97, .int (max 0 lack + 1)]) fun σ₁ h1 P₁ => ?_⟩
  have S₁ := (Stp.start W G).ex h1
  walk_at "S"
  refine ⟨le1 rfl, fun t2 h9 => newE S₁ h9 (.tup [.ref t1]) fun σ₂ h2 P₂ => ?_⟩
  have S₂ := S₁.ex h2
  have R₂ := rn1 (P₁.le h2.le) P₂
  walk_at "S"
  refine wC_fn hr ((ok_lay1 S₂ R₂ (by decide) (by decide) (by first | lia | omega) (by first | lia | omega) (by first | lia | omega) fun s₃ σ₃ S₃ e₃ _ _ => ?_).less (by decide))
  have n3 : s₃.rows.length = s.rows.length + 1 := by rw [e₃]; simp
  refine ⟨rfl, ?_⟩
  walk_at "S"
  refine ⟨1, rfl, ?_⟩
  obtain ⟨la, hla, hlp, hlr⟩ := S₃.W.last e₃
  obtain ⟨lv, gl⟩ := hlr.g
  refine Wl.rowK S₃.W (i := 6) (by first | lia | omega) fun a6 p6 v6 g1 g2 g3 g6 => ?_
  refine wI_lst (.inl S₃.W.R) (by decide) (by decide) (seqIndex_last hlp) hla ?_
  walk_at "S"
  refine wI_lstN (n := 6) (.inl S₃.W.R) (by decide) g2 ?_
  walk_at "S"
  have m3 := S₃.len
  refine wC_fn hr ((ok_join S₃.W S₃.G (by first | lia | omega) g6 gl (fun s₄ σ₄ l₄ W₄ G₄ p₄ q₄ _ => ?_)).less (by decide))
  have S₄ : Stp Γ ω s σ 2 s₄ σ₄ := ⟨S₃.l.trans l₄, W₄, G₄, S₃.rows.trans p₄.1, S₃.T.trans p₄.2, by first | lia | omega⟩
  have n4 := p₄.1.length_le
  have gl := (gl.le l₄).tm (pre_get p₄.2)
  clear S₁ S₂ S₃ g2 g6 R₂ P₁ hla hlr
  walk_at "S"
  walk_at "ite"
  walk_at "S"
  refine Wl.rowK S₄.W (i := 6) (by first | lia | omega) fun a6 p6 v6 g1 g2 g3 g6 => ?_
  refine wI_lstN (n := 6) (.inl S₄.W.R) (by decide) g2 ?_
  walk_at "S"
  have m4 := S₄.len
  refine wC_fn hr ((ok_join S₄.W S₄.G (by first | lia | omega) gl g6 (fun s₅ σ₅ l₅ W₅ G₅ p₅ q₅ _ => ?_)).less (by decide))
  have S₅ : Stp Γ ω s σ 3 s₅ σ₅ := ⟨S₄.l.trans l₅, W₅, G₅, S₄.rows.trans p₅.1, S₄.T.trans p₅.2, by first | lia | omega⟩
  have n5 := p₅.1.length_le
  clear S₄ g2 g6 gl
  walk_at "S"
  walk_at "ite"
  walk_at "S"
  walk_at "ite"
  walk_at "S"
  refine ite_p (fun hk => ?_) fun hk => ?_
  · walk_at "S"
    exact (S₅.more (by decide)).fin k
  walk_at "S"
  refine ⟨le1 rfl, fun t3 h9 => newE S₅ h9 (.tup [.int 97, .int lack]) fun σ₆ h3 P₆ => ?_⟩
  have S₆ := S₅.ex h3
  walk_at "S"
  refine ⟨le1 rfl, fun t4 h9 => newE S₆ h9 (.tup [.ref t3]) fun σ₇ h4 P₇ => ?_⟩
  have S₇ := S₆.ex h4
  have R₇ := rn1 (P₆.le h4.le) P₇
  have m5 := S₅.len
  walk_at "S"
  refine wC_fn hr ((ok_lay1 S₇ R₇ (by decide) (by decide) (by first | lia | omega) (by first | lia | omega) (by first | lia | omega) fun s₈ σ₈ S₈ e₈ _ _ => ?_).less (by decide))
  have n8 : s₈.rows.length = s₅.rows.length + 1 := by rw [e₈]; simp
  have m8 := S₈.len
  clear S₅ S₆ S₇ P₆ R₇
  refine ⟨rfl, ?_⟩
  obtain ⟨la, hla, hlp, hlr⟩ := S₈.W.last e₈
  obtain ⟨lv, gl⟩ := hlr.g
  refine Wl.rowK S₈.W (i := 6) (by first | lia | omega) fun a6 p6 v6 g1 g2 g3 g6 => ?_
  walk_at "S"
  refine ite_p (fun _ => ?_) fun _ => ?_
  · walk_at "S"
    refine ⟨1, rfl, ?_⟩
    refine wI_lst (.inl S₈.W.R) (by decide) (by decide) (seqIndex_last hlp) hla ?_
    walk_at "S"
    refine wI_lstN (n := 6) (.inl S₈.W.R) (by decide) g2 ?_
    walk_at "S"
    refine wC_fn hr ((ok_join S₈.W S₈.G (by first | lia | omega) gl g6 (Pst.g (S₈.pst (m := 1) fun s'' σ'' Z => ?_))).less (by decide))
    walk_at "S"
    exact (Z.more (by decide)).fin k
  · walk_at "S"
    refine wI_lstN (n := 6) (.inl S₈.W.R) (by decide) g2 ?_
    walk_at "S"
    refine ⟨1, rfl, ?_⟩
    refine wI_lst (.inl S₈.W.R) (by decide) (by decide) (seqIndex_last hlp) hla ?_
    walk_at "S"
    refine wC_fn hr ((ok_join S₈.W S₈.G (by first | lia | omega) g6 gl (Pst.g (S₈.pst (m := 1) fun s'' σ'' Z => ?_))).less (by decide))
    walk_at "S"
    exact (Z.more (by decide)).fin k
end
theorem Ini.ext {x dx C : Addr} {fs : List (Str × V)} {F : List (Addr × MO)} {σ₀ σ σ' : MH} (H : Ini x dx C fs F σ₀ σ) (l : Ex σ σ') : Ini x dx C fs F σ₀ σ' :=
  ⟨l _ _ H.i, l _ _ H.n, fun p hp => l _ _ (H.f p hp), H.nd, H.nw, fun a o e => l _ _ (H.ex a o e)⟩
section
variable {Γ : Gd} {σ₀ σ : MH} {Q : V → MH → Prop} {x dx : Addr}
theorem ok_heap_init (H : Ini x dx 117 [] [] σ₀ σ)
    (k : ∀ σ' th ta ca fi re, (ta == sysModules) = false → Ini x dx 117 [("things", .ref th), ("at", .ref ta), ("top", .int 16), ("limit", .int 4000), ("cards", .ref ca), ("card_bits", .int 4), ("fresh", .int 0), ("young_limit", .int 1001), ("finals", .ref fi), ("ready", .ref re), ("moved", .int 0), ("made", .int 0)]
      [(re, .lst []), (fi, .lst []), (ca, .dcI 0 fun _ => none), (ta, .dcI 0 fun _ => none), (th, .lst [])] σ₀ σ' → Q .none σ') : CallOk Γ 1 114 [.ref x, .int 4000, .int 4] σ Q := by
  refine fn_enter (by k_is) (by kernel_rfl) rfl (by walk_at "bind") rfl rfl rfl rfl rfl [("card_bits", .int 4), ("limit", .int 4000), ("self", .ref x)] rfl ?_
  intro A g L' hr
  walk_at "S"
  refine ⟨le1 rfl, fun a1 h1 => ?_⟩
  replace H := H.new h1 (o := .lst [])
  walk_at "S"
  refine H.put ?_; clear H; intro σ H
  walk_at "S"
  refine wE_dict0 fun a2 h2 s2 => ?_
  replace H := H.new h2 (o := .dcI 0 fun _ => none)
  walk_at "S"
  refine H.put ?_; clear H; intro σ H
  walk_at "S"
  refine H.put ?_; clear H; intro σ H
  walk_at "S"
  refine H.put ?_; clear H; intro σ H
  walk_at "S"
  refine wE_dict0 fun a3 h3 s3 => ?_
  replace H := H.new h3 (o := .dcI 0 fun _ => none)
  walk_at "S"
  refine H.put ?_; clear H; intro σ H
  walk_at "S"
  refine H.put ?_; clear H; intro σ H
  walk_at "S"
  refine H.put ?_; clear H; intro σ H
  walk_at "S"
  refine H.put ?_; clear H; intro σ H
  walk_at "S"
  refine ⟨le1 rfl, fun a4 h4 => ?_⟩
  replace H := H.new h4 (o := .lst [])
  walk_at "S"
  refine H.put ?_; clear H; intro σ H
  walk_at "S"
  refine ⟨le1 rfl, fun a5 h5 => ?_⟩
  replace H := H.new h5 (o := .lst [])
  walk_at "S"
  refine H.put ?_; clear H; intro σ H
  walk_at "S"
  refine H.put ?_; clear H; intro σ H
  walk_at "S"
  refine H.put ?_; clear H; intro σ H
  walk_at "S"
  exact k σ a1 a2 a3 a4 a5 s2 H
theorem ok_bare_init (H : Ini x dx 790 [] [] σ₀ σ) (k : ∀ σ' fs F, fs.lookup ("kt" : Str) = some .none → Ini x dx 790 fs F σ₀ σ' → Q .none σ') : CallOk Γ 1 745 [.ref x, .none] σ Q := by
  refine fn_enter (by k_is) (by kernel_rfl) rfl (by walk_at "bind") rfl rfl rfl rfl rfl [("kt", .none), ("self", .ref x)] rfl ?_
  intro A g L' hr
  walk_at "S"
  refine H.put ?_; clear H; intro σ H
  walk_at "S"
  refine wE_dict0 fun a1 h1 s1 => ?_
  replace H := H.new h1 (o := .dcI 0 fun _ => none)
  walk_at "S"
  refine H.put ?_; clear H; intro σ H
  walk_at "S"
  refine wE_dict0 fun a2 h2 s2 => ?_
  replace H := H.new h2 (o := .dcI 0 fun _ => none)
  walk_at "S"
  refine H.put ?_; clear H; intro σ H
  walk_at "S"
  refine wE_dict0 fun a3 h3 s3 => ?_
  replace H := H.new h3 (o := .dcI 0 fun _ => none)
  walk_at "S"
  refine H.put ?_; clear H; intro σ H
  walk_at "S"
  refine wE_dict0 fun a4 h4 s4 => ?_
  replace H := H.new h4 (o := .dcI 0 fun _ => none)
  walk_at "S"
  refine H.put ?_; clear H; intro σ H
  walk_at "S"
  refine wE_dict0 fun a5 h5 s5 => ?_
  replace H := H.new h5 (o := .dcI 0 fun _ => none)
  walk_at "S"
  refine H.put ?_; clear H; intro σ H
  walk_at "S"
  refine wE_dict0 fun a6 h6 s6 => ?_
  replace H := H.new h6 (o := .dcI 0 fun _ => none)
  walk_at "S"
  refine H.put ?_; clear H; intro σ H
  walk_at "S"
  refine wE_dict0 fun a7 h7 s7 => ?_
  replace H := H.new h7 (o := .dcI 0 fun _ => none)
  walk_at "S"
  refine H.put ?_; clear H; intro σ H
  walk_at "S"
  refine wE_dict0 fun a8 h8 s8 => ?_
  replace H := H.new h8 (o := .dcI 0 fun _ => none)
  walk_at "S"
  refine H.put ?_; clear H; intro σ H
  walk_at "S"
  exact k σ _ _ (by rfl) H
theorem ok_place_init {a b d : V} (H : Ini x dx 145 [] [] σ₀ σ) (k : ∀ σ', Ex σ₀ σ' → Q .none σ') : CallOk Γ 1 142 [.ref x, a, b, d] σ Q := by
  refine fn_enter (by k_is) (by kernel_rfl) rfl (by walk_at "bind") rfl rfl rfl rfl rfl [("statics", d), ("frames", b), ("heap", a), ("self", .ref x)] rfl ?_
  intro A g L' hr
  walk_at "S"
  refine H.put ?_; clear H; intro σ H
  walk_at "S"
  refine H.put ?_; clear H; intro σ H
  walk_at "S"
  refine H.put ?_; clear H; intro σ H
  walk_at "S"
  exact k σ H.ex
end
structure ShI (x dx h : Addr) (σ₀ σ : MH) (mfs : List (Str × V)) (told thr itd itv nat sw swd : Addr) : Prop where
  i : σ x = some (.ins 446 dx)
  n : σ dx = some (.ns mfs)
  v_told : σ told = some (.lst [])
  v_thr : σ thr = some (.lst [])
  v_itd : σ itd = some (.dcI 0 fun _ => none)
  v_itv : σ itv = some (.lst [])
  v_nat : σ nat = some (.dcI 0 fun _ => none)
  v_sw : σ sw = some (.ins 222 swd)
  v_swd : σ swd = some (.ns [])
  nd : [x, dx, sw, swd, itv, itd, thr, told, nat].Nodup
  nw : ∀ a ∈ [x, dx, sw, swd, itv, itd, thr, told, nat], σ₀ a = none
  ex : Ex σ₀ σ
  itm : (itd == sysModules) = false
  heap : mfs.lookup ("heap" : Str) = some (.ref h)
  state : mfs.lookup ("state" : Str) = some (.int 0)
  l1 : mfs.lookup ("thrown" : Str) = some (.ref thr)
  l2 : mfs.lookup ("told" : Str) = some (.ref told)
  l3 : mfs.lookup ("interned" : Str) = some (.ref itd)
  l4 : mfs.lookup ("internv" : Str) = some (.ref itv)
  l5 : mfs.lookup ("natives" : Str) = some (.ref nat)
  l6 : mfs.lookup ("sweeper" : Str) = some (.ref sw)
  m1 : mfs.lookup ("alloc" : Str) = none
  m2 : mfs.lookup ("throw_new" : Str) = none
  m3 : mfs.lookup ("text_of" : Str) = none
  m4 : mfs.lookup ("text_ref" : Str) = none
  m5 : mfs.lookup ("new_text" : Str) = none
instance : Ga 446 "by_number" := ⟨fun P => ⟨by kernel_rfl, by kernel_rfl, by kernel_rfl, by kernel_rfl⟩⟩
instance : Ga 446 "statics" := ⟨fun P => ⟨by kernel_rfl, by kernel_rfl, by kernel_rfl, by kernel_rfl⟩⟩
instance {a b : List (Str × V)} {k l : Nat} [x : Sz a k] [y : Sz b l] : Sz (List.append a b) (k + l) := ⟨by show (a ++ b).length ≤ _; rw [List.length_append]; exact Nat.add_le_add x.le y.le⟩
section
variable {Γ : Gd} {σ₀ σ : MH} {Q : V → MH → Prop} {x dx : Addr}
set_option maxHeartbeats 0 in
theorem ok_shelf_init {bh bd h : Addr} {fsb : List (Str × V)} (H : Ini x dx 446 [] [] σ₀ σ) (hb1 : σ₀ bh = some (.ins 790 bd)) (hb2 : σ₀ bd = some (.ns fsb)) (hkt : fsb.lookup ("kt" : Str) = some .none)
    (k : ∀ σ' mfs told thr itd itv nat sw swd, ShI x dx h σ₀ σ' mfs told thr itd itv nat sw swd → Q .none σ') : CallOk Γ 3 394 [.ref x, .ref bh, .ref h] σ Q := by
  refine fn_enter (by k_is) (by kernel_rfl) rfl (by walk_at "bind") rfl rfl rfl rfl rfl [("heap", .ref h), ("store", .ref bh), ("self", .ref x)] rfl ?_
  intro A g L' hr
  walk_at "S"
  refine H.put' [("store", .ref bh)] rfl ?_; clear H; intro σ H
  walk_at "S"
  refine wA_ga (.inl (H.ex _ _ hb1)) (.inl (H.ex _ _ hb2)) hkt (by rfl) ?_
  walk_at "S"
  refine H.put' [("store", .ref bh), ("kt", .none)] rfl ?_; clear H; intro σ H
  walk_at "S"
  refine H.put' [("store", .ref bh), ("kt", .none), ("heap", .ref h)] rfl ?_; clear H; intro σ H
  walk_at "S"
  refine wE_dict0 fun a1 h1 s1 => ?_
  replace H := H.new h1 (o := .dcI 0 fun _ => none)
  walk_at "S"
  refine H.put' [("store", .ref bh), ("kt", .none), ("heap", .ref h), ("kin", .ref a1)] rfl ?_; clear H; intro σ H
  walk_at "S"
  refine wE_dict0 fun a2 h2 s2 => ?_
  replace H := H.new h2 (o := .dcI 0 fun _ => none)
  walk_at "S"
  refine H.put' [("store", .ref bh), ("kt", .none), ("heap", .ref h), ("kin", .ref a1), ("rows", .ref a2)] rfl ?_; clear H; intro σ H
  walk_at "S"
  refine wE_dict0 fun a3 h3 s3 => ?_
  replace H := H.new h3 (o := .dcI 0 fun _ => none)
  walk_at "S"
  refine H.put' [("store", .ref bh), ("kt", .none), ("heap", .ref h), ("kin", .ref a1), ("rows", .ref a2), ("targets", .ref a3)] rfl ?_; clear H; intro σ H
  walk_at "S"
  refine wE_dict0 fun a4 h4 s4 => ?_
  replace H := H.new h4 (o := .dcI 0 fun _ => none)
  walk_at "S"
  refine H.put' [("store", .ref bh), ("kt", .none), ("heap", .ref h), ("kin", .ref a1), ("rows", .ref a2), ("targets", .ref a3), ("defaults", .ref a4)] rfl ?_; clear H; intro σ H
  walk_at "S"
  refine wE_dict0 fun a5 h5 s5 => ?_
  replace H := H.new h5 (o := .dcI 0 fun _ => none)
  walk_at "S"
  refine H.put' [("store", .ref bh), ("kt", .none), ("heap", .ref h), ("kin", .ref a1), ("rows", .ref a2), ("targets", .ref a3), ("defaults", .ref a4), ("unders", .ref a5)] rfl ?_; clear H; intro σ H
  walk_at "S"
  refine wE_dict0 fun a6 h6 s6 => ?_
  replace H := H.new h6 (o := .dcI 0 fun _ => none)
  walk_at "S"
  refine H.put' [("store", .ref bh), ("kt", .none), ("heap", .ref h), ("kin", .ref a1), ("rows", .ref a2), ("targets", .ref a3), ("defaults", .ref a4), ("unders", .ref a5), ("finals", .ref a6)] rfl ?_; clear H; intro σ H
  walk_at "S"
  refine ⟨le1 rfl, fun a7 h7 => ?_⟩
  replace H := H.new h7 (o := .lst [])
  walk_at "S"
  refine H.put' [("store", .ref bh), ("kt", .none), ("heap", .ref h), ("kin", .ref a1), ("rows", .ref a2), ("targets", .ref a3), ("defaults", .ref a4), ("unders", .ref a5), ("finals", .ref a6), ("frames", .ref a7)] rfl ?_; clear H; intro σ H
  walk_at "S"
  refine wE_dict0 fun a8 h8 s8 => ?_
  replace H := H.new h8 (o := .dcI 0 fun _ => none)
  walk_at "S"
  refine H.put' [("store", .ref bh), ("kt", .none), ("heap", .ref h), ("kin", .ref a1), ("rows", .ref a2), ("targets", .ref a3), ("defaults", .ref a4), ("unders", .ref a5), ("finals", .ref a6), ("frames", .ref a7), ("by_number", .ref a8)] rfl ?_; clear H; intro σ H
  walk_at "S"
  refine wE_dict0 fun a9 h9 s9 => ?_
  replace H := H.new h9 (o := .dcI 0 fun _ => none)
  walk_at "S"
  refine H.put' [("store", .ref bh), ("kt", .none), ("heap", .ref h), ("kin", .ref a1), ("rows", .ref a2), ("targets", .ref a3), ("defaults", .ref a4), ("unders", .ref a5), ("finals", .ref a6), ("frames", .ref a7), ("by_number", .ref a8), ("statics", .ref a9)] rfl ?_; clear H; intro σ H
  walk_at "S"
  refine wE_dict0 fun a10 h10 s10 => ?_
  replace H := H.new h10 (o := .dcI 0 fun _ => none)
  walk_at "S"
  refine H.put' [("store", .ref bh), ("kt", .none), ("heap", .ref h), ("kin", .ref a1), ("rows", .ref a2), ("targets", .ref a3), ("defaults", .ref a4), ("unders", .ref a5), ("finals", .ref a6), ("frames", .ref a7), ("by_number", .ref a8), ("statics", .ref a9), ("inits", .ref a10)] rfl ?_; clear H; intro σ H
  walk_at "S"
  refine wE_dict0 fun a11 h11 s11 => ?_
  replace H := H.new h11 (o := .dcI 0 fun _ => none)
  walk_at "S"
  refine H.put' [("store", .ref bh), ("kt", .none), ("heap", .ref h), ("kin", .ref a1), ("rows", .ref a2), ("targets", .ref a3), ("defaults", .ref a4), ("unders", .ref a5), ("finals", .ref a6), ("frames", .ref a7), ("by_number", .ref a8), ("statics", .ref a9), ("inits", .ref a10), ("fails", .ref a11)] rfl ?_; clear H; intro σ H
  walk_at "S"
  refine wE_dict0 fun a12 h12 s12 => ?_
  replace H := H.new h12 (o := .dcI 0 fun _ => none)
  walk_at "S"
  refine H.put' [("store", .ref bh), ("kt", .none), ("heap", .ref h), ("kin", .ref a1), ("rows", .ref a2), ("targets", .ref a3), ("defaults", .ref a4), ("unders", .ref a5), ("finals", .ref a6), ("frames", .ref a7), ("by_number", .ref a8), ("statics", .ref a9), ("inits", .ref a10), ("fails", .ref a11), ("ops", .ref a12)] rfl ?_; clear H; intro σ H
  walk_at "S"
  refine wE_dict0 fun a13 h13 s13 => ?_
  replace H := H.new h13 (o := .dcI 0 fun _ => none)
  walk_at "S"
  refine H.put' [("store", .ref bh), ("kt", .none), ("heap", .ref h), ("kin", .ref a1), ("rows", .ref a2), ("targets", .ref a3), ("defaults", .ref a4), ("unders", .ref a5), ("finals", .ref a6), ("frames", .ref a7), ("by_number", .ref a8), ("statics", .ref a9), ("inits", .ref a10), ("fails", .ref a11), ("ops", .ref a12), ("natives", .ref a13)] rfl ?_; clear H; intro σ H
  walk_at "S"
  refine H.put' [("store", .ref bh), ("kt", .none), ("heap", .ref h), ("kin", .ref a1), ("rows", .ref a2), ("targets", .ref a3), ("defaults", .ref a4), ("unders", .ref a5), ("finals", .ref a6), ("frames", .ref a7), ("by_number", .ref a8), ("statics", .ref a9), ("inits", .ref a10), ("fails", .ref a11), ("ops", .ref a12), ("natives", .ref a13), ("state", .int 0)] rfl ?_; clear H; intro σ H
  walk_at "S"
  refine ⟨le1 rfl, fun a14 h14 => ?_⟩
  replace H := H.new h14 (o := .lst [])
  walk_at "S"
  refine H.put' [("store", .ref bh), ("kt", .none), ("heap", .ref h), ("kin", .ref a1), ("rows", .ref a2), ("targets", .ref a3), ("defaults", .ref a4), ("unders", .ref a5), ("finals", .ref a6), ("frames", .ref a7), ("by_number", .ref a8), ("statics", .ref a9), ("inits", .ref a10), ("fails", .ref a11), ("ops", .ref a12), ("natives", .ref a13), ("state", .int 0), ("told", .ref a14)] rfl ?_; clear H; intro σ H
  walk_at "S"
  refine ⟨le1 rfl, fun a15 h15 => ?_⟩
  replace H := H.new h15 (o := .lst [])
  walk_at "S"
  refine H.put' [("store", .ref bh), ("kt", .none), ("heap", .ref h), ("kin", .ref a1), ("rows", .ref a2), ("targets", .ref a3), ("defaults", .ref a4), ("unders", .ref a5), ("finals", .ref a6), ("frames", .ref a7), ("by_number", .ref a8), ("statics", .ref a9), ("inits", .ref a10), ("fails", .ref a11), ("ops", .ref a12), ("natives", .ref a13), ("state", .int 0), ("told", .ref a14), ("thrown", .ref a15)] rfl ?_; clear H; intro σ H
  walk_at "S"
  refine ⟨le1 rfl, fun a16 h16 => ?_⟩
  replace H := H.new h16 (o := .lst [])
  walk_at "S"
  refine H.put' [("store", .ref bh), ("kt", .none), ("heap", .ref h), ("kin", .ref a1), ("rows", .ref a2), ("targets", .ref a3), ("defaults", .ref a4), ("unders", .ref a5), ("finals", .ref a6), ("frames", .ref a7), ("by_number", .ref a8), ("statics", .ref a9), ("inits", .ref a10), ("fails", .ref a11), ("ops", .ref a12), ("natives", .ref a13), ("state", .int 0), ("told", .ref a14), ("thrown", .ref a15), ("calls", .ref a16)] rfl ?_; clear H; intro σ H
  walk_at "S"
  refine ⟨le1 rfl, fun a17 h17 => ?_⟩
  replace H := H.new h17 (o := .lst [])
  walk_at "S"
  refine H.put' [("store", .ref bh), ("kt", .none), ("heap", .ref h), ("kin", .ref a1), ("rows", .ref a2), ("targets", .ref a3), ("defaults", .ref a4), ("unders", .ref a5), ("finals", .ref a6), ("frames", .ref a7), ("by_number", .ref a8), ("statics", .ref a9), ("inits", .ref a10), ("fails", .ref a11), ("ops", .ref a12), ("natives", .ref a13), ("state", .int 0), ("told", .ref a14), ("thrown", .ref a15), ("calls", .ref a16), ("pushed", .ref a17)] rfl ?_; clear H; intro σ H
  walk_at "S"
  refine ⟨le1 rfl, fun a18 h18 => ?_⟩
  replace H := H.new h18 (o := .lst [])
  walk_at "S"
  refine H.put' [("store", .ref bh), ("kt", .none), ("heap", .ref h), ("kin", .ref a1), ("rows", .ref a2), ("targets", .ref a3), ("defaults", .ref a4), ("unders", .ref a5), ("finals", .ref a6), ("frames", .ref a7), ("by_number", .ref a8), ("statics", .ref a9), ("inits", .ref a10), ("fails", .ref a11), ("ops", .ref a12), ("natives", .ref a13), ("state", .int 0), ("told", .ref a14), ("thrown", .ref a15), ("calls", .ref a16), ("pushed", .ref a17), ("chases", .ref a18)] rfl ?_; clear H; intro σ H
  walk_at "S"
  refine wE_dict0 fun a19 h19 s19 => ?_
  replace H := H.new h19 (o := .dcI 0 fun _ => none)
  walk_at "S"
  refine H.put' [("store", .ref bh), ("kt", .none), ("heap", .ref h), ("kin", .ref a1), ("rows", .ref a2), ("targets", .ref a3), ("defaults", .ref a4), ("unders", .ref a5), ("finals", .ref a6), ("frames", .ref a7), ("by_number", .ref a8), ("statics", .ref a9), ("inits", .ref a10), ("fails", .ref a11), ("ops", .ref a12), ("natives", .ref a13), ("state", .int 0), ("told", .ref a14), ("thrown", .ref a15), ("calls", .ref a16), ("pushed", .ref a17), ("chases", .ref a18), ("interned", .ref a19)] rfl ?_; clear H; intro σ H
  walk_at "S"
  refine ⟨le1 rfl, fun a20 h20 => ?_⟩
  replace H := H.new h20 (o := .lst [])
  walk_at "S"
  refine H.put' [("store", .ref bh), ("kt", .none), ("heap", .ref h), ("kin", .ref a1), ("rows", .ref a2), ("targets", .ref a3), ("defaults", .ref a4), ("unders", .ref a5), ("finals", .ref a6), ("frames", .ref a7), ("by_number", .ref a8), ("statics", .ref a9), ("inits", .ref a10), ("fails", .ref a11), ("ops", .ref a12), ("natives", .ref a13), ("state", .int 0), ("told", .ref a14), ("thrown", .ref a15), ("calls", .ref a16), ("pushed", .ref a17), ("chases", .ref a18), ("interned", .ref a19), ("internv", .ref a20)] rfl ?_; clear H; intro σ H
  walk_at "S"
  refine ⟨le1 rfl, fun a21 h21 => ?_⟩
  replace H := H.new h21 (o := .lst [])
  walk_at "S"
  refine H.put ?_; clear H; intro σ H
  replace H : Ini x dx 446 (@List.append (Str × V) [("store", .ref bh), ("kt", .none), ("heap", .ref h), ("kin", .ref a1), ("rows", .ref a2), ("targets", .ref a3), ("defaults", .ref a4), ("unders", .ref a5), ("finals", .ref a6), ("frames", .ref a7), ("by_number", .ref a8), ("statics", .ref a9), ("inits", .ref a10), ("fails", .ref a11), ("ops", .ref a12), ("natives", .ref a13), ("state", .int 0), ("told", .ref a14), ("thrown", .ref a15), ("calls", .ref a16), ("pushed", .ref a17), ("chases", .ref a18), ("interned", .ref a19), ("internv", .ref a20)] [("held", .ref a21)]) _ σ₀ σ := H
  walk_at "S"
  refine H.put ?_; clear H; intro σ H
  replace H : Ini x dx 446 (@List.append (Str × V) [("store", .ref bh), ("kt", .none), ("heap", .ref h), ("kin", .ref a1), ("rows", .ref a2), ("targets", .ref a3), ("defaults", .ref a4), ("unders", .ref a5), ("finals", .ref a6), ("frames", .ref a7), ("by_number", .ref a8), ("statics", .ref a9), ("inits", .ref a10), ("fails", .ref a11), ("ops", .ref a12), ("natives", .ref a13), ("state", .int 0), ("told", .ref a14), ("thrown", .ref a15), ("calls", .ref a16), ("pushed", .ref a17), ("chases", .ref a18), ("interned", .ref a19), ("internv", .ref a20)] [("held", .ref a21), ("result", .none)]) _ σ₀ σ := H
  walk_at "S"
  refine H.put ?_; clear H; intro σ H
  replace H : Ini x dx 446 (@List.append (Str × V) [("store", .ref bh), ("kt", .none), ("heap", .ref h), ("kin", .ref a1), ("rows", .ref a2), ("targets", .ref a3), ("defaults", .ref a4), ("unders", .ref a5), ("finals", .ref a6), ("frames", .ref a7), ("by_number", .ref a8), ("statics", .ref a9), ("inits", .ref a10), ("fails", .ref a11), ("ops", .ref a12), ("natives", .ref a13), ("state", .int 0), ("told", .ref a14), ("thrown", .ref a15), ("calls", .ref a16), ("pushed", .ref a17), ("chases", .ref a18), ("interned", .ref a19), ("internv", .ref a20)] [("held", .ref a21), ("result", .none), ("last", .none)]) _ σ₀ σ := H
  walk_at "S"
  refine ⟨le1 rfl, fun a22 h22 => ?_⟩
  replace H := H.new h22 (o := .lst [])
  walk_at "S"
  refine H.put ?_; clear H; intro σ H
  replace H : Ini x dx 446 (@List.append (Str × V) [("store", .ref bh), ("kt", .none), ("heap", .ref h), ("kin", .ref a1), ("rows", .ref a2), ("targets", .ref a3), ("defaults", .ref a4), ("unders", .ref a5), ("finals", .ref a6), ("frames", .ref a7), ("by_number", .ref a8), ("statics", .ref a9), ("inits", .ref a10), ("fails", .ref a11), ("ops", .ref a12), ("natives", .ref a13), ("state", .int 0), ("told", .ref a14), ("thrown", .ref a15), ("calls", .ref a16), ("pushed", .ref a17), ("chases", .ref a18), ("interned", .ref a19), ("internv", .ref a20)] [("held", .ref a21), ("result", .none), ("last", .none), ("unhandled", .ref a22)]) _ σ₀ σ := H
  walk_at "S"
  refine H.put ?_; clear H; intro σ H
  replace H : Ini x dx 446 (@List.append (Str × V) [("store", .ref bh), ("kt", .none), ("heap", .ref h), ("kin", .ref a1), ("rows", .ref a2), ("targets", .ref a3), ("defaults", .ref a4), ("unders", .ref a5), ("finals", .ref a6), ("frames", .ref a7), ("by_number", .ref a8), ("statics", .ref a9), ("inits", .ref a10), ("fails", .ref a11), ("ops", .ref a12), ("natives", .ref a13), ("state", .int 0), ("told", .ref a14), ("thrown", .ref a15), ("calls", .ref a16), ("pushed", .ref a17), ("chases", .ref a18), ("interned", .ref a19), ("internv", .ref a20)] [("held", .ref a21), ("result", .none), ("last", .none), ("unhandled", .ref a22), ("handles", .none)]) _ σ₀ σ := H
  walk_at "S"
  refine wA_ga (.inl H.i) (.inl H.n) (by rfl) (by rfl) ?_
  walk_at "S"
  refine wA_ga (.inl H.i) (.inl H.n) (by rfl) (by rfl) ?_
  walk_at "S"
  refine wC_mk hr fun y dy g1 g2 g3 => ok_place_init (Ini.start g1 g2 g3) fun σ' l => ⟨rfl, ?_⟩
  replace H := H.ext l
  clear l g1 g2 g3
  walk_at "S"
  refine H.put ?_; clear H; intro σ H
  replace H : Ini x dx 446 (@List.append (Str × V) [("store", .ref bh), ("kt", .none), ("heap", .ref h), ("kin", .ref a1), ("rows", .ref a2), ("targets", .ref a3), ("defaults", .ref a4), ("unders", .ref a5), ("finals", .ref a6), ("frames", .ref a7), ("by_number", .ref a8), ("statics", .ref a9), ("inits", .ref a10), ("fails", .ref a11), ("ops", .ref a12), ("natives", .ref a13), ("state", .int 0), ("told", .ref a14), ("thrown", .ref a15), ("calls", .ref a16), ("pushed", .ref a17), ("chases", .ref a18), ("interned", .ref a19), ("internv", .ref a20)] [("held", .ref a21), ("result", .none), ("last", .none), ("unhandled", .ref a22), ("handles", .none), ("places", .ref y)]) _ σ₀ σ := H
  walk_at "S"
  refine wC_mk0 fun y23 d23 g1 g2 g3 => ?_
  replace H := (H.new g1 (o := .ns [])).new (by rw [MH.set_ne g3]; exact g2) (o := .ins 201 d23)
  clear g1 g2 g3
  walk_at "S"
  refine H.put ?_; clear H; intro σ H
  replace H : Ini x dx 446 (@List.append (Str × V) [("store", .ref bh), ("kt", .none), ("heap", .ref h), ("kin", .ref a1), ("rows", .ref a2), ("targets", .ref a3), ("defaults", .ref a4), ("unders", .ref a5), ("finals", .ref a6), ("frames", .ref a7), ("by_number", .ref a8), ("statics", .ref a9), ("inits", .ref a10), ("fails", .ref a11), ("ops", .ref a12), ("natives", .ref a13), ("state", .int 0), ("told", .ref a14), ("thrown", .ref a15), ("calls", .ref a16), ("pushed", .ref a17), ("chases", .ref a18), ("interned", .ref a19), ("internv", .ref a20)] [("held", .ref a21), ("result", .none), ("last", .none), ("unhandled", .ref a22), ("handles", .none), ("places", .ref y), ("starter", .ref y23)]) _ σ₀ σ := H
  walk_at "S"
  refine wC_mk0 fun y24 d24 g1 g2 g3 => ?_
  replace H := (H.new g1 (o := .ns [])).new (by rw [MH.set_ne g3]; exact g2) (o := .ins 250 d24)
  clear g1 g2 g3
  walk_at "S"
  refine H.put ?_; clear H; intro σ H
  replace H : Ini x dx 446 (@List.append (Str × V) [("store", .ref bh), ("kt", .none), ("heap", .ref h), ("kin", .ref a1), ("rows", .ref a2), ("targets", .ref a3), ("defaults", .ref a4), ("unders", .ref a5), ("finals", .ref a6), ("frames", .ref a7), ("by_number", .ref a8), ("statics", .ref a9), ("inits", .ref a10), ("fails", .ref a11), ("ops", .ref a12), ("natives", .ref a13), ("state", .int 0), ("told", .ref a14), ("thrown", .ref a15), ("calls", .ref a16), ("pushed", .ref a17), ("chases", .ref a18), ("interned", .ref a19), ("internv", .ref a20)] [("held", .ref a21), ("result", .none), ("last", .none), ("unhandled", .ref a22), ("handles", .none), ("places", .ref y), ("starter", .ref y23), ("closer", .ref y24)]) _ σ₀ σ := H
  walk_at "S"
  refine wC_mk0 fun y25 d25 g1 g2 g3 => ?_
  replace H := (H.new g1 (o := .ns [])).new (by rw [MH.set_ne g3]; exact g2) (o := .ins 222 d25)
  clear g1 g2 g3
  walk_at "S"
  refine H.put ?_; clear H; intro σ H
  replace H : Ini x dx 446 (@List.append (Str × V) [("store", .ref bh), ("kt", .none), ("heap", .ref h), ("kin", .ref a1), ("rows", .ref a2), ("targets", .ref a3), ("defaults", .ref a4), ("unders", .ref a5), ("finals", .ref a6), ("frames", .ref a7), ("by_number", .ref a8), ("statics", .ref a9), ("inits", .ref a10), ("fails", .ref a11), ("ops", .ref a12), ("natives", .ref a13), ("state", .int 0), ("told", .ref a14), ("thrown", .ref a15), ("calls", .ref a16), ("pushed", .ref a17), ("chases", .ref a18), ("interned", .ref a19), ("internv", .ref a20)] [("held", .ref a21), ("result", .none), ("last", .none), ("unhandled", .ref a22), ("handles", .none), ("places", .ref y), ("starter", .ref y23), ("closer", .ref y24), ("sweeper", .ref y25)]) _ σ₀ σ := H
  walk_at "S"
  have sub : List.Sublist [x, dx, y25, d25, a20, a19, a15, a14, a13] (x :: dx :: [y25, d25, y24, d24, y23, d23, a22, a21, a20, a19, a18, a17, a16, a15, a14, a13, a12, a11, a10, a9, a8, a7, a6, a5, a4, a3, a2, a1]) := by
    repeat first | exact List.nil_sublist _ | apply List.Sublist.cons_cons | apply List.Sublist.cons
  refine k σ _ a14 a15 a19 a20 a13 y25 d25 ⟨H.i, H.n, H.f (a14, .lst []) (List.mem_of_getElem? (i := 14) rfl), H.f (a15, .lst []) (List.mem_of_getElem? (i := 13) rfl), H.f (a19, .dcI 0 fun _ => none) (List.mem_of_getElem? (i := 9) rfl),
    H.f (a20, .lst []) (List.mem_of_getElem? (i := 8) rfl), H.f (a13, .dcI 0 fun _ => none) (List.mem_of_getElem? (i := 15) rfl), H.f (y25, .ins 222 d25) (List.mem_of_getElem? (i := 0) rfl), H.f (d25, .ns []) (List.mem_of_getElem? (i := 1) rfl),
    sub.nodup H.nd, fun a ha => H.nw a (sub.mem ha), H.ex, s19, ?_, ?_, ?_, ?_, ?_, ?_, ?_, ?_, ?_, ?_, ?_, ?_, ?_⟩
  all_goals rfl
end
theorem Le.none1 {n : Addr} {σ σ' : MH} (l : Le [n] σ σ') (hn : σ' n ≠ none) {a : Addr} (h : σ' a = none) : σ a = none := by
  cases e : σ a with
  | none => rfl
  | some o =>
    have : a ∉ [n] := by
      intro q; rw [List.mem_singleton] at q; subst q; exact hn h
    rw [l a o this e] at h; cases h
section
variable {Γ : Gd} {σ₀ : MH} {Q : V → MH → Prop}
theorem ok_install {m md nat : Addr} {mfs : List (Str × V)} (hm : Pd Γ [nat] σ₀ m (.ins 446 md)) (hd : Pd Γ [nat] σ₀ md (.ns mfs)) (hl : mfs.lookup ("natives" : Str) = some (.ref nat)) (hn : σ₀ nat = some (.dcI 0 fun _ => none))
    (k : ∀ σ' nk n, Le [nat] σ₀ σ' → σ' nat = some (.dcI n nk) → (∀ p ∈ natTab, ∃ kk d, nk p.1 = some (.ref kk) ∧ σ' kk = some (.ins p.2 d) ∧ σ' d = some (.ns []) ∧ σ₀ kk = none ∧ σ₀ d = none) → Q .none σ') : CallOk Γ 1 731 [.ref m] σ₀ Q := by
  refine fn_enter (by k_is) (by kernel_rfl) rfl (by walk_at "bind") rfl rfl rfl rfl rfl [("m", .ref m)] rfl ?_
  intro A g L' hr
  have C₀ : Cells [(nat, .dcI 0 fun _ => none)] σ₀ := ⟨by simp, fun p hp => by rw [List.mem_singleton] at hp; subst hp; exact hn⟩
  obtain ⟨σ, hσ⟩ : ∃ σ, σ = σ₀ := ⟨_, rfl⟩
  have C : Cells [(nat, .dcI 0 fun _ => none)] σ := by rw [hσ]; exact C₀
  have l : Le [nat] σ₀ σ := by rw [hσ]; exact .refl
  rw [← hσ]
  clear hσ C₀
  walk_at "S"
  refine wC_mk0 fun x1 d1 g1 g2 g3 => ?_
  have f1 : σ₀ d1 = none := l.none1 (by rw [C.get 0 rfl]; simp) g1
  have e1 : σ₀ x1 = none := l.none1 (by rw [C.get 0 rfl]; simp) g2
  have g2' : (σ.set d1 (.ns [])) x1 = none := by rw [MH.set_ne g3]; exact g2
  replace C := (C.new g1 (o := .ns [])).new g2' (o := .ins 570 d1)
  replace l := (l.trans (.new g1 (o := .ns []))).trans (.new g2' (o := .ins 570 d1))
  clear g1 g2 g3 g2'
  walk_at "S"
  refine wA_ga (hm.le l).rd (hd.le l).rd hl (by rfl) ?_
  walk_at "S"
  refine C.dcI 2 rfl (by first | lia | omega) l (.inl (by simp)) ?_; clear C l; intro σ C l
  walk_at "S"
  refine wC_mk0 fun x2 d2 g1 g2 g3 => ?_
  have f2 : σ₀ d2 = none := l.none1 (by rw [C.get 2 rfl]; simp) g1
  have e2 : σ₀ x2 = none := l.none1 (by rw [C.get 2 rfl]; simp) g2
  have g2' : (σ.set d2 (.ns [])) x2 = none := by rw [MH.set_ne g3]; exact g2
  replace C := (C.new g1 (o := .ns [])).new g2' (o := .ins 589 d2)
  replace l := (l.trans (.new g1 (o := .ns []))).trans (.new g2' (o := .ins 589 d2))
  clear g1 g2 g3 g2'
  walk_at "S"
  refine wA_ga (hm.le l).rd (hd.le l).rd hl (by rfl) ?_
  walk_at "S"
  refine C.dcI 4 rfl (by first | lia | omega) l (.inl (by simp)) ?_; clear C l; intro σ C l
  walk_at "S"
  refine wC_mk0 fun x3 d3 g1 g2 g3 => ?_
  have f3 : σ₀ d3 = none := l.none1 (by rw [C.get 4 rfl]; simp) g1
  have e3 : σ₀ x3 = none := l.none1 (by rw [C.get 4 rfl]; simp) g2
  have g2' : (σ.set d3 (.ns [])) x3 = none := by rw [MH.set_ne g3]; exact g2
  replace C := (C.new g1 (o := .ns [])).new g2' (o := .ins 608 d3)
  replace l := (l.trans (.new g1 (o := .ns []))).trans (.new g2' (o := .ins 608 d3))
  clear g1 g2 g3 g2'
  walk_at "S"
  refine wA_ga (hm.le l).rd (hd.le l).rd hl (by rfl) ?_
  walk_at "S"
  refine C.dcI 6 rfl (by first | lia | omega) l (.inl (by simp)) ?_; clear C l; intro σ C l
  walk_at "S"
  refine wC_mk0 fun x4 d4 g1 g2 g3 => ?_
  have f4 : σ₀ d4 = none := l.none1 (by rw [C.get 6 rfl]; simp) g1
  have e4 : σ₀ x4 = none := l.none1 (by rw [C.get 6 rfl]; simp) g2
  have g2' : (σ.set d4 (.ns [])) x4 = none := by rw [MH.set_ne g3]; exact g2
  replace C := (C.new g1 (o := .ns [])).new g2' (o := .ins 627 d4)
  replace l := (l.trans (.new g1 (o := .ns []))).trans (.new g2' (o := .ins 627 d4))
  clear g1 g2 g3 g2'
  walk_at "S"
  refine wA_ga (hm.le l).rd (hd.le l).rd hl (by rfl) ?_
  walk_at "S"
  refine C.dcI 8 rfl (by first | lia | omega) l (.inl (by simp)) ?_; clear C l; intro σ C l
  walk_at "S"
  refine wC_mk0 fun x5 d5 g1 g2 g3 => ?_
  have f5 : σ₀ d5 = none := l.none1 (by rw [C.get 8 rfl]; simp) g1
  have e5 : σ₀ x5 = none := l.none1 (by rw [C.get 8 rfl]; simp) g2
  have g2' : (σ.set d5 (.ns [])) x5 = none := by rw [MH.set_ne g3]; exact g2
  replace C := (C.new g1 (o := .ns [])).new g2' (o := .ins 646 d5)
  replace l := (l.trans (.new g1 (o := .ns []))).trans (.new g2' (o := .ins 646 d5))
  clear g1 g2 g3 g2'
  walk_at "S"
  refine wA_ga (hm.le l).rd (hd.le l).rd hl (by rfl) ?_
  walk_at "S"
  refine C.dcI 10 rfl (by first | lia | omega) l (.inl (by simp)) ?_; clear C l; intro σ C l
  walk_at "S"
  refine wC_mk0 fun x6 d6 g1 g2 g3 => ?_
  have f6 : σ₀ d6 = none := l.none1 (by rw [C.get 10 rfl]; simp) g1
  have e6 : σ₀ x6 = none := l.none1 (by rw [C.get 10 rfl]; simp) g2
  have g2' : (σ.set d6 (.ns [])) x6 = none := by rw [MH.set_ne g3]; exact g2
  replace C := (C.new g1 (o := .ns [])).new g2' (o := .ins 665 d6)
  replace l := (l.trans (.new g1 (o := .ns []))).trans (.new g2' (o := .ins 665 d6))
  clear g1 g2 g3 g2'
  walk_at "S"
  refine wA_ga (hm.le l).rd (hd.le l).rd hl (by rfl) ?_
  walk_at "S"
  refine C.dcI 12 rfl (by first | lia | omega) l (.inl (by simp)) ?_; clear C l; intro σ C l
  walk_at "S"
  refine wC_mk0 fun x7 d7 g1 g2 g3 => ?_
  have f7 : σ₀ d7 = none := l.none1 (by rw [C.get 12 rfl]; simp) g1
  have e7 : σ₀ x7 = none := l.none1 (by rw [C.get 12 rfl]; simp) g2
  have g2' : (σ.set d7 (.ns [])) x7 = none := by rw [MH.set_ne g3]; exact g2
  replace C := (C.new g1 (o := .ns [])).new g2' (o := .ins 684 d7)
  replace l := (l.trans (.new g1 (o := .ns []))).trans (.new g2' (o := .ins 684 d7))
  clear g1 g2 g3 g2'
  walk_at "S"
  refine wA_ga (hm.le l).rd (hd.le l).rd hl (by rfl) ?_
  walk_at "S"
  refine C.dcI 14 rfl (by first | lia | omega) l (.inl (by simp)) ?_; clear C l; intro σ C l
  walk_at "S"
  refine wC_mk0 fun x8 d8 g1 g2 g3 => ?_
  have f8 : σ₀ d8 = none := l.none1 (by rw [C.get 14 rfl]; simp) g1
  have e8 : σ₀ x8 = none := l.none1 (by rw [C.get 14 rfl]; simp) g2
  have g2' : (σ.set d8 (.ns [])) x8 = none := by rw [MH.set_ne g3]; exact g2
  replace C := (C.new g1 (o := .ns [])).new g2' (o := .ins 703 d8)
  replace l := (l.trans (.new g1 (o := .ns []))).trans (.new g2' (o := .ins 703 d8))
  clear g1 g2 g3 g2'
  walk_at "S"
  refine wA_ga (hm.le l).rd (hd.le l).rd hl (by rfl) ?_
  walk_at "S"
  refine C.dcI 16 rfl (by first | lia | omega) l (.inl (by simp)) ?_; clear C l; intro σ C l
  walk_at "S"
  refine wC_mk0 fun x9 d9 g1 g2 g3 => ?_
  have f9 : σ₀ d9 = none := l.none1 (by rw [C.get 16 rfl]; simp) g1
  have e9 : σ₀ x9 = none := l.none1 (by rw [C.get 16 rfl]; simp) g2
  have g2' : (σ.set d9 (.ns [])) x9 = none := by rw [MH.set_ne g3]; exact g2
  replace C := (C.new g1 (o := .ns [])).new g2' (o := .ins 722 d9)
  replace l := (l.trans (.new g1 (o := .ns []))).trans (.new g2' (o := .ins 722 d9))
  clear g1 g2 g3 g2'
  walk_at "S"
  refine wA_ga (hm.le l).rd (hd.le l).rd hl (by rfl) ?_
  walk_at "S"
  refine C.dcI 18 rfl (by first | lia | omega) l (.inl (by simp)) ?_; clear C l; intro σ C l
  walk_at "S"
  refine k σ _ _ l (C.get 18 rfl) fun p hp => ?_
  simp only [natTab, List.mem_cons, List.not_mem_nil, or_false] at hp
  rcases hp with rfl | rfl | rfl | rfl | rfl | rfl | rfl | rfl
  · exact ⟨x1, d1, by simp, C.get 16 rfl, C.get 17 rfl, e1, f1⟩
  · exact ⟨x2, d2, by simp, C.get 14 rfl, C.get 15 rfl, e2, f2⟩
  · exact ⟨x3, d3, by simp, C.get 12 rfl, C.get 13 rfl, e3, f3⟩
  · exact ⟨x4, d4, by simp, C.get 10 rfl, C.get 11 rfl, e4, f4⟩
  · exact ⟨x5, d5, by simp, C.get 8 rfl, C.get 9 rfl, e5, f5⟩
  · exact ⟨x7, d7, by simp, C.get 4 rfl, C.get 5 rfl, e7, f7⟩
  · exact ⟨x8, d8, by simp, C.get 2 rfl, C.get 3 rfl, e8, f8⟩
  · exact ⟨x9, d9, by simp, C.get 0 rfl, C.get 1 rfl, e9, f9⟩
end
def SV : List V := [.ref 796, .ref 797, .ref 798, .ref 799, .ref 800]
def SL : List (Int × Int) := [(97, 0), (97, 1), (65535, 1), (0, 2), (55357, 3)]
theorem sl_at {Γ : Gd} {σ : MH} : ∀ k, k < 5 → ∃ a u c, SV[k]? = some (.ref a) ∧ SL[k]? = some (u, c) ∧ 0 ≤ u ∧ u ≤ 1114111 ∧ -1000 ≤ c ∧ c ≤ 1048577 ∧ Rd Γ σ a (.tup [.int u, .int c])
  | 0, _ => ⟨796, 97, 0, rfl, rfl, by decide, by decide, by decide, by decide, tp_of⟩
  | 1, _ => ⟨797, 97, 1, rfl, rfl, by decide, by decide, by decide, by decide, tp_of⟩
  | 2, _ => ⟨798, 65535, 1, rfl, rfl, by decide, by decide, by decide, by decide, tp_of⟩
  | 3, _ => ⟨799, 0, 2, rfl, rfl, by decide, by decide, by decide, by decide, tp_of⟩
  | 4, _ => ⟨800, 55357, 3, rfl, rfl, by decide, by decide, by decide, by decide, tp_of⟩
  | n + 5, h => absurd h (Nat.not_lt.mpr (Nat.le_add_left 5 n))
section
variable {Γ : Gd} {σ : MH} {Q : V → MH → Prop}
set_option maxHeartbeats 0 in
theorem ok_scene {u n : Int} (u0 : 0 ≤ u) (u1 : u ≤ 1114111) (n0 : 0 < n) (n1 : n ≤ 1048577)
    (k : ∀ ω s σ', (∀ a ∈ ω.S, σ a = none) → Ex σ σ' → Wl Γ ω s σ' → Good s → s.emp = none → s.T.length = 6 → s.rows.map (·.2) = [none, some (glue [(97, 0)]), some (glue [(97, 1)]), some (glue [(65535, 1)]), some (glue [(0, 2)]), some (glue [(55357, 3)]), some (glue [(u, n)])] → Q (.ref ω.W) σ') : CallOk Γ 14 976 [.int n, .int u] σ Q := by
  refine fn_enter (by k_is) (by kernel_rfl) rfl (by walk_at "bind") rfl rfl rfl rfl rfl [("unit", .int u), ("size", .int n)] rfl ?_
  intro A g L' hr
  walk_at "S"
  refine wC_mk hr fun bh bd g1 g2 g3 => (ok_bare_init (Ini.start g1 g2 g3) fun σ₁ fsb F hkt I₁ => ⟨rfl, ?_⟩).less (by decide)
  clear g1 g2 g3
  walk_at "S"
  refine wC_mk hr fun h hd g1 g2 g3 => (ok_heap_init (Ini.start g1 g2 g3) fun σ₂ th ta ca fi re sm I₂ => ⟨rfl, ?_⟩).less (by decide)
  clear g1 g2 g3
  walk_at "S"
  refine wC_mk hr fun m md g1 g2 g3 => (ok_shelf_init (Ini.start g1 g2 g3) (I₂.ex _ _ I₁.i) (I₂.ex _ _ I₁.n) hkt fun σ₃ mfs told thr itd itv nat sw swd X => ⟨rfl, ?_⟩).less (by decide)
  clear g1 g2 g3
  walk_at "S"
  have ne : ∀ {σ : MH} {a b : Addr}, σ a ≠ none → σ b = none → a ≠ b := fun h1 h2 e => h1 (e ▸ h2)
  have nm : m ≠ nat := (nd_ne X.nd 0 8 rfl rfl rfl)
  have nmd : md ≠ nat := (nd_ne X.nd 1 8 rfl rfl rfl)
  refine wC_fn hr ((ok_install (.mk (by simpa using nm) X.i) (.mk (by simpa using nmd) X.n) X.l5 X.v_nat fun σ₄ nk nn l₄ e₄ hk => ?_).less (by decide))
  refine ⟨rfl, ?_⟩
  walk_at "S"
  refine wE_dict4 (by decide) fun fp => ?_
  walk_at "S"
  refine ⟨le1 rfl, fun r0 h5 => ?_⟩
  walk_at "S"
  refine ⟨le1 rfl, fun R h6 => ?_⟩
  walk_at "S"
  refine ⟨1, rfl, ?_⟩
  walk_at "S"
  refine ⟨le1 rfl, fun tb h7 => ?_⟩
  walk_at "S"
  intro W hW
  obtain ⟨σ₅, hσ₅⟩ : ∃ x, x = σ₄.set r0 (.tup [.int 0, .none]) := ⟨_, rfl⟩
  have j5 : Ex σ₄ σ₅ := by rw [hσ₅]; exact Ex.refl.new h5
  have v5 : σ₅ r0 = some (.tup [.int 0, .none]) := by rw [hσ₅]; exact MH.set_self
  rw [← hσ₅] at h6 h7 hW ⊢
  clear hσ₅
  obtain ⟨σ₆, hσ₆⟩ : ∃ x, x = σ₅.set R (.lst [.ref r0]) := ⟨_, rfl⟩
  have j6 : Ex σ₅ σ₆ := by rw [hσ₆]; exact Ex.refl.new h6
  have v6 : σ₆ R = some (.lst [.ref r0]) := by rw [hσ₆]; exact MH.set_self
  rw [← hσ₆] at h7 hW ⊢
  clear hσ₆
  obtain ⟨σ₇, hσ₇⟩ : ∃ x, x = σ₆.set tb (.tup [.int 0, .int 0, .int 0]) := ⟨_, rfl⟩
  have j7 : Ex σ₆ σ₇ := by rw [hσ₇]; exact Ex.refl.new h7
  have v7 : σ₇ tb = some (.tup [.int 0, .int 0, .int 0]) := by rw [hσ₇]; exact MH.set_self
  rw [← hσ₇] at hW ⊢
  clear hσ₇
  obtain ⟨wf, hwf⟩ : ∃ x, x = dc4 "m" "rows" "empty" "before" (.ref m) (.ref R) (.int (-1)) (.ref tb) := ⟨_, rfl⟩
  obtain ⟨σ₈, hσ₈⟩ : ∃ x, x = σ₇.set W (.dcS 4 (dc4 "m" "rows" "empty" "before" (.ref m) (.ref R) (.int (-1)) (.ref tb))) := ⟨_, rfl⟩
  have j8 : Ex σ₇ σ₈ := by rw [hσ₈]; exact Ex.refl.new hW
  have v8 : σ₈ W = some (.dcS 4 (dc4 "m" "rows" "empty" "before" (.ref m) (.ref R) (.int (-1)) (.ref tb))) := by rw [hσ₈]; exact MH.set_self
  rw [← hσ₈]
  clear hσ₈ hwf wf
  refine sq_next ?_
  have d2_h : σ₂ h ≠ none := by rw [I₂.i]; simp
  have d2_hd : σ₂ hd ≠ none := by rw [I₂.n]; simp
  have d2_th : σ₂ th ≠ none := by rw [I₂.f (th, .lst []) (by simp)]; simp
  have d2_ta : σ₂ ta ≠ none := by rw [I₂.f (ta, .dcI 0 fun _ => none) (by simp)]; simp
  have exd : ∀ {σ σ' : MH} {a : Addr}, Ex σ σ' → σ a ≠ none → σ' a ≠ none := fun {σ σ' a} l h e => h (l.none e)
  have k23 : ∀ {a}, σ₂ a ≠ none → σ₃ a ≠ none := fun h => exd X.ex h
  have k34 : ∀ {a}, σ₃ a ≠ none → σ₄ a ≠ none := fun h e => h (l₄.none1 (by rw [e₄]; simp) e)
  have k45 : ∀ {a}, σ₄ a ≠ none → σ₅ a ≠ none := fun h => exd j5 h
  have k56 : ∀ {a}, σ₅ a ≠ none → σ₆ a ≠ none := fun h => exd j6 h
  have k67 : ∀ {a}, σ₆ a ≠ none → σ₇ a ≠ none := fun h => exd j7 h
  have d3 : ∀ a ∈ [m, md, sw, swd, itv, itd, thr, told, nat], σ₃ a ≠ none := by
    intro a ha
    simp only [List.mem_cons, List.not_mem_nil, or_false] at ha
    rcases ha with rfl | rfl | rfl | rfl | rfl | rfl | rfl | rfl | rfl
    · rw [X.i]; simp
    · rw [X.n]; simp
    · rw [X.v_sw]; simp
    · rw [X.v_swd]; simp
    · rw [X.v_itv]; simp
    · rw [X.v_itd]; simp
    · rw [X.v_thr]; simp
    · rw [X.v_told]; simp
    · rw [X.v_nat]; simp
  have d5_r0 : σ₅ r0 ≠ none := by rw [v5]; simp
  have d6_R : σ₆ R ≠ none := by rw [v6]; simp
  have d7_tb : σ₇ tb ≠ none := by rw [v7]; simp
  have up48 : Ex σ₄ σ₈ := ((j5.trans j6).trans j7).trans j8
  have itd_nat : itd ≠ nat := (nd_ne X.nd 5 8 rfl rfl rfl)
  have hitd : σ₈ itd = some (.dcI 0 fun _ => none) := up48 _ _ (l₄ _ _ (by simpa using itd_nat) X.v_itd)
  refine wS_asS (a := itd) hitd ?_
  obtain ⟨σ₉, hσ₉⟩ : ∃ x, x = σ₈.set itd (.dcS 0 fun _ => none) := ⟨_, rfl⟩
  have u8 : ∀ a o, a ≠ itd → σ₈ a = some o → σ₉ a = some o := fun a o q e => by rw [hσ₉, MH.set_ne q]; exact e
  have v9 : σ₉ itd = some (.dcS 0 fun _ => none) := by rw [hσ₉]; exact MH.set_self
  rw [← hσ₉]
  clear hσ₉
  have u4 : ∀ a o, a ≠ itd → σ₄ a = some o → σ₉ a = some o := fun a o q e => u8 a o q (up48 _ _ e)
  have u3 : ∀ a o, a ≠ nat → a ≠ itd → σ₃ a = some o → σ₉ a = some o := fun a o q q' e => u4 a o q' (l₄ _ _ (by simpa using q) e)
  have u2 : ∀ a o, σ₂ a = some o → σ₉ a = some o := fun a o e => u3 a o (ne (by rw [e]; simp) (X.nw nat (List.mem_of_getElem? (i := 8) rfl))) (ne (by rw [e]; simp) (X.nw itd (List.mem_of_getElem? (i := 5) rfl))) (X.ex _ _ e)
  have d4_R5 : True := trivial
  have W₀ : Wl Γ (⟨m, md, h, hd, th, ta, thr, itd, itv, told, nat, sw, swd, W, R, mfs, nk, .ref ca, .ref fi, .ref re⟩ : Om) (⟨[], [], none, [], [(0, none)], [.ref r0], -1, tb, 0, 0, 0⟩ : Ws) σ₉ := by
    have c_hd := u2 _ _ I₂.n
    have c_th := u2 _ _ (I₂.f (th, .lst []) (by simp))
    have c_ta := u2 _ _ (I₂.f (ta, .dcI 0 fun _ => none) (by simp))
    have c_thr := u3 _ _ (nd_ne X.nd 6 8 rfl rfl rfl) (nd_ne X.nd 6 5 rfl rfl rfl) X.v_thr
    have c_itv := u3 _ _ (nd_ne X.nd 4 8 rfl rfl rfl) (nd_ne X.nd 4 5 rfl rfl rfl) X.v_itv
    have c_W := u8 _ _ (ne (k67 (k56 (k45 (k34 (d3 itd (List.mem_of_getElem? (i := 5) rfl)))))) hW).symm v8
    have c_R := u8 _ _ (ne (k45 (k34 (d3 itd (List.mem_of_getElem? (i := 5) rfl)))) h6).symm (j8 _ _ (j7 _ _ v6))
    refine ⟨⟨⟨⟨?_, X.heap, X.state, X.l1, X.l2, X.l3, X.l4, X.l5, X.l6, X.m1, X.m2, X.m3, X.m4, X.m5, sm, X.itm, rfl, rfl, rfl⟩, .mk (nin8 (ne (d2_hd) (X.nw m (List.mem_of_getElem? (i := 0) rfl))).symm (ne (d2_th) (X.nw m (List.mem_of_getElem? (i := 0) rfl))).symm (ne (d2_ta) (X.nw m (List.mem_of_getElem? (i := 0) rfl))).symm (nd_ne X.nd 0 6 rfl rfl rfl) (nd_ne X.nd 0 5 rfl rfl rfl) (nd_ne X.nd 0 4 rfl rfl rfl) (ne (k67 (k56 (k45 (k34 (d3 m (List.mem_of_getElem? (i := 0) rfl)))))) hW) (ne (k45 (k34 (d3 m (List.mem_of_getElem? (i := 0) rfl)))) h6)) (u3 _ _ nm (nd_ne X.nd 0 5 rfl rfl rfl) X.i), .mk (nin8 (ne (d2_hd) (X.nw md (List.mem_of_getElem? (i := 1) rfl))).symm (ne (d2_th) (X.nw md (List.mem_of_getElem? (i := 1) rfl))).symm (ne (d2_ta) (X.nw md (List.mem_of_getElem? (i := 1) rfl))).symm (nd_ne X.nd 1 6 rfl rfl rfl) (nd_ne X.nd 1 5 rfl rfl rfl) (nd_ne X.nd 1 4 rfl rfl rfl) (ne (k67 (k56 (k45 (k34 (d3 md (List.mem_of_getElem? (i := 1) rfl)))))) hW) (ne (k45 (k34 (d3 md (List.mem_of_getElem? (i := 1) rfl)))) h6)) (u3 _ _ nmd (nd_ne X.nd 1 5 rfl rfl rfl) X.n), .mk (nin8 (nd_ne I₂.nd 0 1 rfl rfl rfl) (nd_ne I₂.nd 0 6 rfl rfl rfl) (nd_ne I₂.nd 0 5 rfl rfl rfl) (ne (d2_h) (X.nw thr (List.mem_of_getElem? (i := 6) rfl))) (ne (d2_h) (X.nw itd (List.mem_of_getElem? (i := 5) rfl))) (ne (d2_h) (X.nw itv (List.mem_of_getElem? (i := 4) rfl))) (ne (k67 (k56 (k45 (k34 (k23 (d2_h)))))) hW) (ne (k45 (k34 (k23 (d2_h)))) h6)) (u2 _ _ I₂.i),
      .mk (nin8 (ne (d2_hd) (X.nw sw (List.mem_of_getElem? (i := 2) rfl))).symm (ne (d2_th) (X.nw sw (List.mem_of_getElem? (i := 2) rfl))).symm (ne (d2_ta) (X.nw sw (List.mem_of_getElem? (i := 2) rfl))).symm (nd_ne X.nd 2 6 rfl rfl rfl) (nd_ne X.nd 2 5 rfl rfl rfl) (nd_ne X.nd 2 4 rfl rfl rfl) (ne (k67 (k56 (k45 (k34 (d3 sw (List.mem_of_getElem? (i := 2) rfl)))))) hW) (ne (k45 (k34 (d3 sw (List.mem_of_getElem? (i := 2) rfl)))) h6)) (u3 _ _ (nd_ne X.nd 2 8 rfl rfl rfl) (nd_ne X.nd 2 5 rfl rfl rfl) X.v_sw), .mk (nin8 (ne (d2_hd) (X.nw swd (List.mem_of_getElem? (i := 3) rfl))).symm (ne (d2_th) (X.nw swd (List.mem_of_getElem? (i := 3) rfl))).symm (ne (d2_ta) (X.nw swd (List.mem_of_getElem? (i := 3) rfl))).symm (nd_ne X.nd 3 6 rfl rfl rfl) (nd_ne X.nd 3 5 rfl rfl rfl) (nd_ne X.nd 3 4 rfl rfl rfl) (ne (k67 (k56 (k45 (k34 (d3 swd (List.mem_of_getElem? (i := 3) rfl)))))) hW) (ne (k45 (k34 (d3 swd (List.mem_of_getElem? (i := 3) rfl)))) h6)) (u3 _ _ (nd_ne X.nd 3 8 rfl rfl rfl) (nd_ne X.nd 3 5 rfl rfl rfl) X.v_swd), .mk (nin8 (ne (d2_hd) (X.nw told (List.mem_of_getElem? (i := 7) rfl))).symm (ne (d2_th) (X.nw told (List.mem_of_getElem? (i := 7) rfl))).symm (ne (d2_ta) (X.nw told (List.mem_of_getElem? (i := 7) rfl))).symm (nd_ne X.nd 7 6 rfl rfl rfl) (nd_ne X.nd 7 5 rfl rfl rfl) (nd_ne X.nd 7 4 rfl rfl rfl) (ne (k67 (k56 (k45 (k34 (d3 told (List.mem_of_getElem? (i := 7) rfl)))))) hW) (ne (k45 (k34 (d3 told (List.mem_of_getElem? (i := 7) rfl)))) h6)) (u3 _ _ (nd_ne X.nd 7 8 rfl rfl rfl) (nd_ne X.nd 7 5 rfl rfl rfl) X.v_told), ⟨nn, .mk (nin8 (ne (d2_hd) (X.nw nat (List.mem_of_getElem? (i := 8) rfl))).symm (ne (d2_th) (X.nw nat (List.mem_of_getElem? (i := 8) rfl))).symm (ne (d2_ta) (X.nw nat (List.mem_of_getElem? (i := 8) rfl))).symm (nd_ne X.nd 8 6 rfl rfl rfl) (nd_ne X.nd 8 5 rfl rfl rfl) (nd_ne X.nd 8 4 rfl rfl rfl) (ne (k67 (k56 (k45 (k34 (d3 nat (List.mem_of_getElem? (i := 8) rfl)))))) hW) (ne (k45 (k34 (d3 nat (List.mem_of_getElem? (i := 8) rfl)))) h6)) (u4 _ _ (nd_ne X.nd 8 5 rfl rfl rfl) e₄)⟩, fun p hp => ?_, rfl, (fun j a t e => by simp at e), (fun _ h => nomatch h), (fun j tp e => nomatch e), ?_⟩,
      ⟨c_hd, c_th, ⟨0, Nat.le_refl _, ?_⟩, c_thr, ⟨0, Nat.zero_le _, ?_⟩, c_itv⟩, Nat.zero_le _⟩, ⟨4, Nat.le_refl _, c_W⟩, .mk (nin8 (ne (k56 (k45 (k34 (k23 (d2_hd))))) h7).symm (ne (k56 (k45 (k34 (k23 (d2_th))))) h7).symm (ne (k56 (k45 (k34 (k23 (d2_ta))))) h7).symm (ne (k56 (k45 (k34 (d3 thr (List.mem_of_getElem? (i := 6) rfl))))) h7).symm (ne (k56 (k45 (k34 (d3 itd (List.mem_of_getElem? (i := 5) rfl))))) h7).symm (ne (k56 (k45 (k34 (d3 itv (List.mem_of_getElem? (i := 4) rfl))))) h7).symm (ne d7_tb hW) (ne d6_R h7).symm) (u8 _ _ (ne (k56 (k45 (k34 (d3 itd (List.mem_of_getElem? (i := 5) rfl))))) h7).symm (j8 _ _ v7)), c_R, ⟨⟨r0, rfl, rfl, .mk (nin8 (ne (k34 (k23 (d2_hd))) h5).symm (ne (k34 (k23 (d2_th))) h5).symm (ne (k34 (k23 (d2_ta))) h5).symm (ne (k34 (d3 thr (List.mem_of_getElem? (i := 6) rfl))) h5).symm (ne (k34 (d3 itd (List.mem_of_getElem? (i := 5) rfl))) h5).symm (ne (k34 (d3 itv (List.mem_of_getElem? (i := 4) rfl))) h5).symm (ne (k67 (k56 d5_r0)) hW) (ne d5_r0 h6)) (u8 _ _ (ne (k34 (d3 itd (List.mem_of_getElem? (i := 5) rfl))) h5).symm (j8 _ _ (j7 _ _ (j6 _ _ v5))))⟩, trivial⟩, by simp⟩
    · show [hd, th, ta, thr, itd, itv, W, R].Nodup
      exact (ndc (nic (nd_ne I₂.nd 1 6 rfl rfl rfl) (nic (nd_ne I₂.nd 1 5 rfl rfl rfl) (nic (ne (d2_hd) (X.nw thr (List.mem_of_getElem? (i := 6) rfl))) (nic (ne (d2_hd) (X.nw itd (List.mem_of_getElem? (i := 5) rfl))) (nic (ne (d2_hd) (X.nw itv (List.mem_of_getElem? (i := 4) rfl))) (nic (ne (k67 (k56 (k45 (k34 (k23 (d2_hd)))))) hW) (nic (ne (k45 (k34 (k23 (d2_hd)))) h6) List.not_mem_nil))))))) (ndc (nic (nd_ne I₂.nd 6 5 rfl rfl rfl) (nic (ne (d2_th) (X.nw thr (List.mem_of_getElem? (i := 6) rfl))) (nic (ne (d2_th) (X.nw itd (List.mem_of_getElem? (i := 5) rfl))) (nic (ne (d2_th) (X.nw itv (List.mem_of_getElem? (i := 4) rfl))) (nic (ne (k67 (k56 (k45 (k34 (k23 (d2_th)))))) hW) (nic (ne (k45 (k34 (k23 (d2_th)))) h6) List.not_mem_nil)))))) (ndc (nic (ne (d2_ta) (X.nw thr (List.mem_of_getElem? (i := 6) rfl))) (nic (ne (d2_ta) (X.nw itd (List.mem_of_getElem? (i := 5) rfl))) (nic (ne (d2_ta) (X.nw itv (List.mem_of_getElem? (i := 4) rfl))) (nic (ne (k67 (k56 (k45 (k34 (k23 (d2_ta)))))) hW) (nic (ne (k45 (k34 (k23 (d2_ta)))) h6) List.not_mem_nil))))) (ndc (nic (nd_ne X.nd 6 5 rfl rfl rfl) (nic (nd_ne X.nd 6 4 rfl rfl rfl) (nic (ne (k67 (k56 (k45 (k34 (d3 thr (List.mem_of_getElem? (i := 6) rfl)))))) hW) (nic (ne (k45 (k34 (d3 thr (List.mem_of_getElem? (i := 6) rfl)))) h6) List.not_mem_nil)))) (ndc (nic (nd_ne X.nd 5 4 rfl rfl rfl) (nic (ne (k67 (k56 (k45 (k34 (d3 itd (List.mem_of_getElem? (i := 5) rfl)))))) hW) (nic (ne (k45 (k34 (d3 itd (List.mem_of_getElem? (i := 5) rfl)))) h6) List.not_mem_nil))) (ndc (nic (ne (k67 (k56 (k45 (k34 (d3 itv (List.mem_of_getElem? (i := 4) rfl)))))) hW) (nic (ne (k45 (k34 (d3 itv (List.mem_of_getElem? (i := 4) rfl)))) h6) List.not_mem_nil)) (ndc (nic (ne (k67 d6_R) hW).symm List.not_mem_nil) (ndc List.not_mem_nil List.nodup_nil))))))))
    · obtain ⟨kk, d, e, e1, e2, n_kk, n_d⟩ := hk p hp
      have d4_kk : σ₄ kk ≠ none := by rw [e1]; simp
      have d4_d : σ₄ d ≠ none := by rw [e2]; simp
      exact ⟨kk, d, e, .mk (nin8 (ne (k23 (d2_hd)) n_kk).symm (ne (k23 (d2_th)) n_kk).symm (ne (k23 (d2_ta)) n_kk).symm (ne (d3 thr (List.mem_of_getElem? (i := 6) rfl)) n_kk).symm (ne (d3 itd (List.mem_of_getElem? (i := 5) rfl)) n_kk).symm (ne (d3 itv (List.mem_of_getElem? (i := 4) rfl)) n_kk).symm (ne (k67 (k56 (k45 d4_kk))) hW) (ne (k45 d4_kk) h6)) (u4 _ _ (ne (d3 itd (List.mem_of_getElem? (i := 5) rfl)) n_kk).symm e1), .mk (nin8 (ne (k23 (d2_hd)) n_d).symm (ne (k23 (d2_th)) n_d).symm (ne (k23 (d2_ta)) n_d).symm (ne (d3 thr (List.mem_of_getElem? (i := 6) rfl)) n_d).symm (ne (d3 itd (List.mem_of_getElem? (i := 5) rfl)) n_d).symm (ne (d3 itv (List.mem_of_getElem? (i := 4) rfl)) n_d).symm (ne (k67 (k56 (k45 d4_d))) hW) (ne (k45 d4_d) h6)) (u4 _ _ (ne (d3 itd (List.mem_of_getElem? (i := 5) rfl)) n_d).symm e2)⟩
    · intro a ha
      simp only [Om.S, List.mem_cons, List.not_mem_nil, or_false] at ha
      rcases ha with rfl | rfl | rfl | rfl | rfl | rfl | rfl | rfl
      · rw [c_hd]; simp
      · rw [c_th]; simp
      · rw [c_ta]; simp
      · rw [c_thr]; simp
      · rw [v9]; simp
      · rw [c_itv]; simp
      · rw [c_W]; simp
      · rw [c_R]; simp
    · rw [c_ta]
      show some (MO.dcI 0 _) = some (MO.dcI 0 _)
      congr 2; funext q; simp [atf]
    · rw [v9]; congr 2
  have E₀ : Ex σ σ₉ := fun a o e => u2 a o (I₂.ex _ _ (I₁.ex _ _ e))
  have N₀ : ∀ a ∈ (⟨m, md, h, hd, th, ta, thr, itd, itv, told, nat, sw, swd, W, R, mfs, nk, .ref ca, .ref fi, .ref re⟩ : Om).S, σ a = none := by
    have z2 : ∀ a, σ₂ a = none → σ a = none := fun a e => Ex.none I₁.ex (Ex.none I₂.ex e)
    have z4 : ∀ a, σ₄ a = none → σ a = none := fun a e => z2 a (Ex.none X.ex (l₄.none1 (by rw [e₄]; simp) e))
    intro a ha
    simp only [Om.S, List.mem_cons, List.not_mem_nil, or_false] at ha
    rcases ha with rfl | rfl | rfl | rfl | rfl | rfl | rfl | rfl
    · exact Ex.none I₁.ex (I₂.nw _ (by simp))
    · exact Ex.none I₁.ex (I₂.nw _ (by simp))
    · exact Ex.none I₁.ex (I₂.nw _ (by simp))
    · exact z2 _ (X.nw _ (by simp))
    · exact z2 _ (X.nw _ (by simp))
    · exact z2 _ (X.nw _ (by simp))
    · exact z4 _ (Ex.none j5 (Ex.none j6 (Ex.none j7 hW)))
    · exact z4 _ (Ex.none j5 h6)
  obtain ⟨ω, W₁, rfl, rfl, N₁⟩ : ∃ ω : Om, Wl Γ ω (⟨[], [], none, [], [(0, none)], [.ref r0], -1, tb, 0, 0, 0⟩ : Ws) σ₉ ∧ W = ω.W ∧ m = ω.m ∧ (∀ a ∈ ω.S, σ a = none) := ⟨_, W₀, rfl, rfl, N₀⟩
  have G₁ : Good (⟨[], [], none, [], [(0, none)], [.ref r0], -1, tb, 0, 0, 0⟩ : Ws) := ⟨rfl, .inl ⟨rfl, rfl⟩, by simp⟩
  clear W₀ N₀
  clear X I₁ I₂ hk l₄ e₄ j5 j6 j7 j8 u8 u4 u3 u2 up48 v5 v6 v7 v8 v9 hitd k23 k34 k45 k56 k67 d3 d2_h d2_hd d2_th d2_ta d5_r0 d6_R d7_tb h5 h6 h7 hW exd ne
  obtain ⟨s0, hs0⟩ : ∃ x, x = (⟨[], [], none, [], [(0, none)], [.ref r0], -1, tb, 0, 0, 0⟩ : Ws) := ⟨_, rfl⟩
  rw [← hs0] at W₁ G₁
  have b1 : s0.rows = [(0, none)] := by rw [hs0]
  have b2 : s0.emp = none := by rw [hs0]
  have b3 : s0.T.length = 0 := by rw [hs0]; rfl
  clear hs0
  have S0 := Stp.start W₁ G₁
  walk_at "S"
  refine w1_for_tuple ?a ?b ?c
  case a => exact hr.1
  case c => intro _; rfl
  walk_at "S"
  refine ⟨801, SV, rfl, tp_of, ?_⟩
  refine wFor_inv (fun vs m' σ' => ∃ kk s', kk ≤ 5 ∧ vs = SV.drop kk ∧ Stp Γ ω s0 σ₉ kk s' σ' ∧ s'.rows.map (·.2) = none :: (SL.take kk).map (fun p => some (glue [p])) ∧ s'.emp = none ∧ s'.T.length = kk ∧ m'.lookup ("w" : Str) = some (.ref ω.W) ∧ m'.lookup ("size" : Str) = some (.int n) ∧ m'.lookup ("unit" : Str) = some (.int u)) ?_ ?_ _ _ _ ⟨0, s0, by decide, rfl, S0, by rw [b1]; rfl, b2, b3, by walk_at "lk", by walk_at "lk", by walk_at "lk"⟩
  rotate_left
  · rintro v vs m' σ₁ ⟨kk, s', k0, e, S, er, ee, et, q1, q2, q3⟩ fp
    have hk : kk < 5 := by
      rcases Nat.lt_or_ge kk 5 with h | h
      · exact h
      · rw [List.drop_of_length_le (by exact h)] at e; cases e
    obtain ⟨a, c0, d0, e1, e2, u0', u1', c1', c2', hR⟩ := sl_at (Γ := Γ) (σ := σ₁) kk hk
    obtain ⟨hkl, e1'⟩ := List.getElem?_eq_some_iff.mp e1
    rw [List.drop_eq_getElem_cons hkl, e1', List.cons.injEq] at e
    obtain ⟨rfl, rfl⟩ := e
    refine wAs_tuple ?_ hR ?_ (by rfl) (by rfl)
    · exact hr.1
    walk_at "S"
    refine ⟨le1 rfl, fun t1 h9 => newE S h9 (.tup [.int c0, .int d0]) fun σa la Pa => ?_⟩
    walk_at "S"
    refine ⟨le1 rfl, fun t2 h9 => newE (S.ex la) h9 (.tup [.ref t1]) fun σb lb Rb => ?_⟩
    walk_at "S"
    refine wC_fn hr ((ok_lay1 ((S.ex la).ex lb) (rn1 (Pa.le lb.le) Rb) u0' u1' c1' c2' (by first | lia | omega) fun s1 τ1 S1 r1 e3 m1 => ?_).less (by decide))
    refine ⟨rfl, ?_⟩
    walk_at "S"
    exact ⟨tp_of, kk + 1, s1, hk, rfl, S1, by rw [r1, List.map_append, er, List.take_add_one, e2]; simp, e3.trans ee, by rw [m1, et], by walk_at "lk", by walk_at "lk", by walk_at "lk"⟩
  · rintro m' σ₁ ⟨kk, s5, k0, e, S, er, ee, et, q1, q2, q3⟩
    have hk : kk = 5 := by
      rcases Nat.lt_or_ge kk 5 with h | h
      · have := congrArg List.length e
        simp [SV] at this; (first | lia | omega)
      · (first | lia | omega)
    subst hk
    walk_at "S"
    refine ⟨le1 rfl, fun t1 h9 => newE S h9 (.tup [.int u, .int n]) fun σa la Pa => ?_⟩
    walk_at "S"
    refine ⟨le1 rfl, fun t2 h9 => newE (S.ex la) h9 (.tup [.ref t1]) fun σb lb Rb => ?_⟩
    walk_at "S"
    refine wC_fn hr ((ok_lay1 ((S.ex la).ex lb) (rn1 (Pa.le lb.le) Rb) u0 u1 (by first | lia | omega) n1 (by first | lia | omega) fun s6 τ6 S6 r6 e6 m6 => ?_).less (by decide))
    refine ⟨rfl, ?_⟩
    walk_at "S"
    refine k ω s6 τ6 N₁ ?_ S6.W S6.G (e6.trans ee) (by rw [m6, et]) ?_
    · exact fun a o e => S6.l a o (fun q => by rw [N₁ a q] at e; cases e) (E₀ a o e)
    · rw [r6, List.map_append, er]; rfl
end
def JL : List (Nat × Nat) := [(0, 0), (6, 2), (6, 4), (4, 6), (8, 2), (2, 8), (6, 6), (8, 8), (8, 6), (6, 8), (8, 0), (0, 8), (8, 1), (1, 8), (8, 7), (7, 8), (6, 1), (0, 6), (6, 5), (2, 4), (1, 7), (5, 3)]
def LL : List (Nat × Nat × Nat) := [(8, 6, 1), (6, 8, 0), (8, 0, 10), (9, 8, 3), (1, 7, 9), (6, 4, 4)]
def jv : List V := [.ref 802, .ref 803, .ref 804, .ref 805, .ref 806, .ref 807, .ref 808, .ref 809, .ref 810, .ref 811, .ref 812, .ref 813, .ref 814, .ref 815, .ref 816, .ref 817, .ref 818, .ref 819, .ref 820, .ref 821, .ref 822, .ref 823]
def lo (k : Nat) : Nat := if k = 0 then 7 else if k = 1 then 8 else if k < 20 then 9 else 10
theorem jv_at {Γ : Gd} {σ : MH} : ∀ k, k < 22 → ∃ a i j, jv[k]? = some (.ref a) ∧ JL[k]? = some (i, j) ∧ i < lo k ∧ j < lo k ∧ Rd Γ σ a (.tup [.int (i : Nat), .int (j : Nat)])
  | 0, _ => ⟨802, 0, 0, rfl, rfl, by decide, by decide, tp_of⟩
  | 1, _ => ⟨803, 6, 2, rfl, rfl, by decide, by decide, tp_of⟩
  | 2, _ => ⟨804, 6, 4, rfl, rfl, by decide, by decide, tp_of⟩
  | 3, _ => ⟨805, 4, 6, rfl, rfl, by decide, by decide, tp_of⟩
  | 4, _ => ⟨806, 8, 2, rfl, rfl, by decide, by decide, tp_of⟩
  | 5, _ => ⟨807, 2, 8, rfl, rfl, by decide, by decide, tp_of⟩
  | 6, _ => ⟨808, 6, 6, rfl, rfl, by decide, by decide, tp_of⟩
  | 7, _ => ⟨809, 8, 8, rfl, rfl, by decide, by decide, tp_of⟩
  | 8, _ => ⟨810, 8, 6, rfl, rfl, by decide, by decide, tp_of⟩
  | 9, _ => ⟨811, 6, 8, rfl, rfl, by decide, by decide, tp_of⟩
  | 10, _ => ⟨812, 8, 0, rfl, rfl, by decide, by decide, tp_of⟩
  | 11, _ => ⟨813, 0, 8, rfl, rfl, by decide, by decide, tp_of⟩
  | 12, _ => ⟨814, 8, 1, rfl, rfl, by decide, by decide, tp_of⟩
  | 13, _ => ⟨815, 1, 8, rfl, rfl, by decide, by decide, tp_of⟩
  | 14, _ => ⟨816, 8, 7, rfl, rfl, by decide, by decide, tp_of⟩
  | 15, _ => ⟨817, 7, 8, rfl, rfl, by decide, by decide, tp_of⟩
  | 16, _ => ⟨818, 6, 1, rfl, rfl, by decide, by decide, tp_of⟩
  | 17, _ => ⟨819, 0, 6, rfl, rfl, by decide, by decide, tp_of⟩
  | 18, _ => ⟨820, 6, 5, rfl, rfl, by decide, by decide, tp_of⟩
  | 19, _ => ⟨821, 2, 4, rfl, rfl, by decide, by decide, tp_of⟩
  | 20, _ => ⟨822, 1, 7, rfl, rfl, by decide, by decide, tp_of⟩
  | 21, _ => ⟨823, 5, 3, rfl, rfl, by decide, by decide, tp_of⟩
  | n + 22, h => absurd h (Nat.not_lt.mpr (Nat.le_add_left 22 n))
theorem lv_at {Γ : Gd} {σ : MH} : ∀ k, k < 6 → ∃ a i j z, ([.ref 825, .ref 826, .ref 827, .ref 828, .ref 829, .ref 830] : List V)[k]? = some (.ref a) ∧ 1 ≤ i ∧ i < 10 ∧ j < 10 ∧ Rd Γ σ a (.tup [.int (i : Nat), .int (j : Nat), .int z])
  | 0, _ => ⟨825, 8, 6, 1, rfl, by decide, by decide, by decide, tp_of⟩
  | 1, _ => ⟨826, 6, 8, 0, rfl, by decide, by decide, by decide, tp_of⟩
  | 2, _ => ⟨827, 8, 0, 10, rfl, by decide, by decide, by decide, tp_of⟩
  | 3, _ => ⟨828, 9, 8, 3, rfl, by decide, by decide, by decide, tp_of⟩
  | 4, _ => ⟨829, 1, 7, 9, rfl, by decide, by decide, by decide, tp_of⟩
  | 5, _ => ⟨830, 6, 4, 4, rfl, by decide, by decide, by decide, tp_of⟩
  | n + 6, h => absurd h (Nat.not_lt.mpr (Nat.le_add_left 6 n))
theorem xp_g1 {u c : Int} (h0 : 0 ≤ u) (h1 : u ≤ 1114111) : xp (glue [(u, c)]) = List.replicate c.toNat u.toNat := by
  rw [xp_glue (fun p hp => by rw [List.mem_singleton] at hp; subst hp; exact ⟨h0, h1⟩), xp_cons, xp_nil, List.append_nil]
section
variable {Γ : Gd} {σ : MH} {Q : V → MH → Prop}
theorem ok_fixed (k : ∀ σ', Ex σ σ' → Q (.bool true) σ') : CallOk Γ 16 997 [] σ Q := by
  refine fn_enter (by k_is) (by kernel_rfl) rfl (by walk_at "bind") rfl rfl rfl rfl rfl [] rfl ?_
  intro A g L' hr
  walk_at "S"
  refine wC_fn hr ((ok_scene (by decide) (by decide) (by decide) (by decide) fun ω s σ₁ N E W G em tl rw' => ?_).less (by decide))
  have hrow : ∀ (i : Nat) p, s.rows[i]? = some p → ([none, some (glue [(97, 0)]), some (glue [(97, 1)]), some (glue [(65535, 1)]), some (glue [(0, 2)]), some (glue [(55357, 3)]), some (glue [(98, 1048575)])] : List (Option Rn))[i]? = some p.2 := fun i p e => by rw [← rw', List.getElem?_map, e]; rfl
  have len7 : s.rows.length = 7 := by have := congrArg List.length rw'; simpa using this
  walk_at "S"
  refine w1_for_tuple hr.1 ?_ (by intro _; rfl)
  walk_at "S"
  refine ⟨824, jv, rfl, tp_of, ?_⟩
  refine wFor_inv (fun vs m σ' => ∃ k s', k ≤ 22 ∧ vs = jv.drop k ∧ Stp Γ ω s σ₁ k s' σ' ∧ lo k ≤ s'.rows.length ∧ (k = 0 → s'.emp = none) ∧ m.lookup ("w" : Str) = some (.ref ω.W)) ?_ ?_ _ _ _ ⟨0, s, by decide, rfl, Stp.start W G, by rw [len7]; decide, fun _ => em, by walk_at "lk"⟩
  rotate_left
  · rintro v vs m σ₂ ⟨kk, s₂, k0, e, S, hlo, hem, hw⟩ fp
    have hk : kk < 22 := by
      rcases Nat.lt_or_ge kk 22 with h | h
      · exact h
      · rw [List.drop_of_length_le (by exact h)] at e; cases e
    obtain ⟨a, i, j, e1, e2, i1, j1, hR⟩ := jv_at (Γ := Γ) (σ := σ₂) kk hk
    obtain ⟨hkl, e1'⟩ := List.getElem?_eq_some_iff.mp e1
    rw [List.drop_eq_getElem_cons hkl, e1', List.cons.injEq] at e
    obtain ⟨rfl, rfl⟩ := e
    refine Wl.rowK S.W (i := i) (by first | lia | omega) fun ai p vi f1 f2 f3 gi => ?_
    refine Wl.rowK S.W (i := j) (by first | lia | omega) fun aj q vj g1 g2 g3 gj => ?_
    have hl := S.W.rows.length
    have hT := S.len
    refine wAs_tuple hr.1 hR ?_ (by rfl) (by rfl)
    walk_at "S"
    refine wI_rows S.W ?_
    walk_at "S"
    refine wI_lstN (.inl S.W.R) (by have := S.W.few; (first | lia | omega)) f2 ?_
    walk_at "S"
    refine wI_rows S.W ?_
    walk_at "S"
    refine wI_lstN (.inl S.W.R) (by have := S.W.few; (first | lia | omega)) g2 ?_
    walk_at "S"
    refine wC_fn hr ((ok_join S.W S.G (by first | lia | omega) gi gj (fun s₃ σ₃ l₃ W₃ G₃ p₃ q₃ h₃ => ?_)).less (by decide))
    have S₃ : Stp Γ ω s σ₁ (kk + 1) s₃ σ₃ := ⟨S.l.trans l₃, W₃, G₃, S.rows.trans p₃.1, S.T.trans p₃.2, by first | lia | omega⟩
    have n3 := p₃.1.length_le
    have grow : lo (kk + 1) ≤ s₃.rows.length := by
      have pr : ∀ (i : Nat) p, i < 7 → s₂.rows[i]? = some p → ([none, some (glue [(97, 0)]), some (glue [(97, 1)]), some (glue [(65535, 1)]), some (glue [(0, 2)]), some (glue [(55357, 3)]), some (glue [(98, 1048575)])] : List (Option Rn))[i]? = some p.2 := fun i p hi e => by
        obtain ⟨t, ht⟩ := S.rows
        rw [← ht, List.getElem?_append_left (by first | lia | omega)] at e
        exact hrow i p e
      by_cases c0 : kk = 0
      · subst c0
        obtain ⟨rfl, rfl⟩ : i = 0 ∧ j = 0 := by simpa [JL, eq_comm] using e2
        have a1 := pr 0 p (by decide) f1
        have a2 := pr 0 q (by decide) g1
        simp only [List.getElem?_cons_zero, Option.some.injEq] at a1 a2
        have := h₃ (.inl ⟨by rw [← a1]; rfl, by rw [← a2]; rfl, hem rfl⟩)
        have h7 : 7 ≤ s₂.rows.length := hlo
        show 8 ≤ _
        (first | lia | omega)
      by_cases c1 : kk = 1
      · subst c1
        obtain ⟨rfl, rfl⟩ : i = 6 ∧ j = 2 := by simpa [JL, eq_comm] using e2
        have a1 := pr 6 p (by decide) f1
        have a2 := pr 2 q (by decide) g1
        simp only [List.getElem?_cons_zero, List.getElem?_cons_succ, Option.some.injEq] at a1 a2
        have x1 : xp (tr p.2) = List.replicate 1048575 98 := by rw [← a1]; exact xp_g1 (by decide) (by decide)
        have x2 : xp (tr q.2) = List.replicate 1 97 := by rw [← a2]; exact xp_g1 (by decide) (by decide)
        have := h₃ (.inr ⟨fun e => by have := congrArg List.length e; rw [x1, List.length_replicate] at this; simp at this, fun e => by rw [x2] at e; simp at e, by rw [x1, x2, List.length_replicate, List.length_replicate]; decide⟩)
        have h7 : 8 ≤ s₂.rows.length := hlo
        show 9 ≤ _
        (first | lia | omega)
      by_cases c2 : kk = 19
      · subst c2
        obtain ⟨rfl, rfl⟩ : i = 2 ∧ j = 4 := by simpa [JL, eq_comm] using e2
        have a1 := pr 2 p (by decide) f1
        have a2 := pr 4 q (by decide) g1
        simp only [List.getElem?_cons_zero, List.getElem?_cons_succ, Option.some.injEq] at a1 a2
        have x1 : xp (tr p.2) = List.replicate 1 97 := by rw [← a1]; exact xp_g1 (by decide) (by decide)
        have x2 : xp (tr q.2) = List.replicate 2 0 := by rw [← a2]; exact xp_g1 (by decide) (by decide)
        have := h₃ (.inr ⟨fun e => by rw [x1] at e; simp at e, fun e => by rw [x2] at e; simp at e, by rw [x1, x2, List.length_replicate, List.length_replicate]; decide⟩)
        have h7 : 9 ≤ s₂.rows.length := hlo
        show 10 ≤ _
        (first | lia | omega)
      · have : lo (kk + 1) = lo kk := by
          unfold lo
          rw [if_neg (by first | lia | omega), if_neg (by first | lia | omega), if_neg c0, if_neg c1]
          by_cases q : kk < 20
          · rw [if_pos q, if_pos (by first | lia | omega)]
          · rw [if_neg q, if_neg (by first | lia | omega)]
        (first | lia | omega)
    walk_at "S"
    walk_at "ite"
    walk_at "S"
    refine wI_m W₃ ?_
    walk_at "S"
    refine wC_fn hr ((ok_idle W₃ G₃ fun σ₄ l₄ => ?_).less (by decide))
    walk_at "S"
    repeat walk_at "ite"
    walk_at "S"
    repeat walk_at "ite"
    walk_at "S"
    exact ⟨tp_of, kk + 1, s₃, by first | lia | omega, rfl, S₃.ex l₄, grow, fun h => by first | lia | omega, by walk_at "lk"⟩
  · rintro m σ₂ ⟨kk, s₂, k0, e, S, hlo, hem, hw⟩
    have hk : kk = 22 := by
      rcases Nat.lt_or_ge kk 22 with h | h
      · have := congrArg List.length e
        simp [jv] at this; (first | lia | omega)
      · (first | lia | omega)
    subst hk
    clear hem e
    have h10 : 10 ≤ s₂.rows.length := hlo
    walk_at "S"
    refine w1_for_tuple hr.1 ?_ (by intro _; rfl)
    walk_at "S"
    refine ⟨831, _, rfl, tp_of, ?_⟩
    refine wFor_inv (fun vs m σ' => ∃ k s', k ≤ 6 ∧ vs = ([.ref 825, .ref 826, .ref 827, .ref 828, .ref 829, .ref 830] : List V).drop k ∧ Stp Γ ω s σ₁ (22 + 2 * k) s' σ' ∧ 10 ≤ s'.rows.length ∧ m.lookup ("w" : Str) = some (.ref ω.W)) ?_ ?_ _ _ _ ⟨0, s₂, by decide, rfl, S, h10, by walk_at "lk"⟩
    rotate_left
    · rintro v vs m σ₃ ⟨kk, s₃, k0, e, S₃, hlo, hw⟩ fp
      have hk : kk < 6 := by
        rcases Nat.lt_or_ge kk 6 with h | h
        · exact h
        · rw [List.drop_of_length_le (by exact h)] at e; cases e
      obtain ⟨a, i, j, z, e1, i1, i2, j1, hR⟩ := lv_at (Γ := Γ) (σ := σ₃) kk hk
      obtain ⟨hkl, e1'⟩ := List.getElem?_eq_some_iff.mp e1
      rw [List.drop_eq_getElem_cons hkl, e1', List.cons.injEq] at e
      obtain ⟨rfl, rfl⟩ := e
      refine Wl.rowK S₃.W (i := i) (by first | lia | omega) fun ai p vi f1 f2 f3 gi => ?_
      refine Wl.rowK S₃.W (i := j) (by first | lia | omega) fun aj q vj g1 g2 g3 gj => ?_
      obtain ⟨rp, hrp⟩ := S₃.G.row i1 f1
      have hl := S₃.W.rows.length
      have hT := S₃.len
      obtain ⟨px, po⟩ := p
      dsimp only at hrp gi
      subst hrp
      refine wAs_tuple hr.1 hR ?_ (by rfl) (by rfl)
      walk_at "S"
      refine wI_rows S₃.W ?_
      walk_at "S"
      refine wI_lstN (.inl S₃.W.R) (by have := S₃.W.few; (first | lia | omega)) f2 ?_
      walk_at "S"
      refine wI_rows S₃.W ?_
      walk_at "S"
      refine wI_lstN (.inl S₃.W.R) (by have := S₃.W.few; (first | lia | omega)) g2 ?_
      walk_at "S"
      refine wC_fn hr ((ok_look S₃.W S₃.G (by first | lia | omega) gi gj (fun s₄ σ₄ l₄ W₄ G₄ p₄ q₄ => ?_)).less (by decide))
      have S₄ : Stp Γ ω s σ₁ (22 + 2 * (kk + 1)) s₄ σ₄ := ⟨S₃.l.trans l₄, W₄, G₄, S₃.rows.trans p₄.1, S₃.T.trans p₄.2, by first | lia | omega⟩
      have n4 := p₄.1.length_le
      walk_at "S"
      repeat walk_at "ite"
      walk_at "S"
      refine wI_m W₄ ?_
      walk_at "S"
      refine wC_fn hr ((ok_idle W₄ G₄ fun σ₅ l₅ => ?_).less (by decide))
      walk_at "S"
      repeat walk_at "ite"
      walk_at "S"
      repeat walk_at "ite"
      walk_at "S"
      exact ⟨tp_of, kk + 1, s₄, by first | lia | omega, rfl, S₄.ex l₅, by first | lia | omega, by walk_at "lk"⟩
    · rintro m σ₃ ⟨kk, s₃, k0, e, S₃, hlo, hw⟩
      walk_at "S"
      refine wC_fn hr ((ok_stand S₃.W S₃.G fun σ₄ l₄ => ?_).less (by decide))
      walk_at "S"
      exact k σ₄ fun a o ea => l₄ _ _ (S₃.l a o (fun q => by rw [N a q] at ea; cases ea) (E a o ea))
end
end
theorem canInts (r : List Int) : PyData.canLayAll0 (r.map PyData.int) = true := by
  induction r with
  | nil => rfl
  | cons p r ih => show (PyData.canLay0 (.int p) && PyData.canLayAll0 (r.map PyData.int)) = true; rw [ih]; rfl
theorem depInts (r : List Int) : PyData.depthAll (r.map PyData.int) = 0 := by
  induction r with
  | nil => simp [PyData.depthAll]
  | cons p r ih =>
    show max (PyData.depth (.int p)) (PyData.depthAll (r.map PyData.int)) = 0
    rw [ih]; simp [PyData.depth]
theorem shapedInts (r : List Int) : SeqAt.shaped (.list (r.map PyData.int)) = true :=
  Bool.and_eq_true_iff.mpr ⟨by simp only [PyData.canLay0, canInts], decide_eq_true (by simp only [PyData.depth, depInts]; (first | lia | omega))⟩
theorem rdInts {Γ : Gd} {σ : MH} : ∀ r : List Int, RdVs Γ σ (r.map V.int) (r.map PyData.int)
  | [] => RdVs.nil
  | _ :: r => RdVs.cons RdV.int (rdInts r)
theorem eqInts (r : List Int) : PyData.eqv (.list (r.map PyData.int)) (.list []) = decide (r = []) := by
  cases r <;> simp [PyData.eqv, PyData.eqvAll]
section
variable {Γ : Gd} {σ : MH} {Q : V → MH → Prop}
set_option maxHeartbeats 0 in
theorem ok_law {t : Addr} {ns : List Int} (ht : Rd Γ σ t (.lst (ns.map .int))) (hz : ns.length ≤ 63) (k : ∀ σ', Q (.bool true) σ') : CallOk Γ 18 1009 [.ref t] σ Q := by
  refine fn_enter (by k_is) (by kernel_rfl) rfl (by walk_at "bind") rfl rfl rfl rfl rfl [("script", .ref t)] rfl ?_
  intro A g L' hr
  walk_at "S"
  refine w1_comp_mod (by exact hr.1) ?_ (by rfl) (by decide) rfl (by decide) (by rfl) (by decide) (by decide) (by intro _; rfl) (by with_unfolding_all rfl) rfl (by rfl)
  refine wE_sliceL_to ?_
  walk_at "S"
  refine ⟨t, ns.map .int, 16, rfl, rfl, ht, by simp; (first | lia | omega), fun a1 h1 => ?_⟩
  refine ⟨a1, ns.take 16, rfl, .inl (by rw [MH.set_self, List.map_take]), by simp; (first | lia | omega), fun a2 h2 => ?_⟩
  generalize σ.set a1 (.lst (List.take 16 (ns.map .int))) = σ₁ at *
  obtain ⟨ms, hms⟩ : ∃ ms : List Int, ms = (ns.take 16).map fun n => n.fmod 1000003 := ⟨_, rfl⟩
  have e2 : (σ₁.set a2 (.lst ((ns.take 16).map fun n => V.int (n.fmod 1000003)))) a2 = some (.lst (ms.map .int)) := by rw [MH.set_self, hms, List.map_map]; rfl
  have m0 : ∀ n ∈ ms, 0 ≤ n := fun n hn => by
    rw [hms] at hn
    obtain ⟨q, _, rfl⟩ := List.mem_map.mp hn
    exact Int.fmod_nonneg_of_pos _ (by decide)
  have mz : ms.length ≤ 16 := by rw [hms]; simp; (first | lia | omega)
  generalize σ₁.set a2 (.lst ((ns.take 16).map fun n => V.int (n.fmod 1000003))) = σ₂ at *
  clear hms h2
  walk_at "S"
  refine w1_if ?_
  walk_at "S"
  refine wC_fn hr ((ok_fixed fun σ₃ l₃ => ?_).less (by decide))
  have e3 := l₃ _ _ e2
  walk_at "S"
  walk_at "ite"
  walk_at "S"
  refine w1_if_join (fun m' σ' => Ex σ₃ σ' ∧ ∃ x : Int, 0 ≤ x ∧ m'.lookup ("x" : Str) = some (.int x) ∧ m'.lookup ("nums" : Str) = some (.ref a2)) ?_ ?_
  · walk_at "S"
    refine ⟨le1 rfl, fun e1 he1 => ?_⟩
    have e4 := MH.set_new (o := .lst []) e3 he1
    refine wCmp_neD hr (RdV.lst (.inl e4) (rdInts ms)) (RdV.lst Rd.self RdVs.nil) (shapedInts ms) (shaped_L []) ?_
    rw [eqInts]
    walk_at "S"
    cases ms with
    | nil =>
      walk_at "ite"
      walk_at "S"
      exact ⟨rfl, Ex.refl.new he1, 0, by decide, by walk_at "lk", by walk_at "lk"⟩
    | cons q ms =>
      refine ite_t (by simp) ?_
      walk_at "S"
      refine wI_lst (.inl e4) (by decide) (by decide) (seqIndex_nat (n := 0) (by simp)) (by rfl) ?_
      walk_at "S"
      exact ⟨rfl, Ex.refl.new he1, q, m0 q (.head _), by walk_at "lk", by walk_at "lk"⟩
  rintro m₄ σ₄ ⟨l₄, x, x0, b1, b2⟩
  have e4 := l₄ _ _ e3
  walk_at "S"
  have i0 : 0 ≤ (x.fdiv 7).fmod 4 := Int.fmod_nonneg_of_pos _ (by decide)
  have i1 : (x.fdiv 7).fmod 4 < 4 := Int.fmod_lt_of_pos _ (by decide)
  obtain ⟨i, hi⟩ : ∃ i, i = (x.fdiv 7).fmod 4 := ⟨_, rfl⟩
  rw [← hi] at i0 i1 ⊢
  obtain ⟨u, hu, hu0, hu1⟩ : ∃ u : Int, ([V.int 98, .int 0, .int 65, .int 65535] : List V)[i.toNat]? = some (.int u) ∧ 0 ≤ u ∧ u ≤ 1114111 := by
    have : i.toNat = 0 ∨ i.toNat = 1 ∨ i.toNat = 2 ∨ i.toNat = 3 := by first | lia | omega
    rcases this with e | e | e | e <;> rw [e] <;> exact ⟨_, rfl, by decide, by decide⟩
  obtain ⟨r, hr7⟩ : ∃ r, r = (x + 6).fmod 7 := ⟨_, rfl⟩
  have r0 : 0 ≤ r := by rw [hr7]; exact Int.fmod_nonneg_of_pos _ (by decide)
  have r1 : r < 7 := by rw [hr7]; exact Int.fmod_lt_of_pos _ (by decide)
  rw [← hr7]
  refine wI_tup (tp_of (vs := [V.int 98, .int 0, .int 65, .int 65535])) (by first | lia | omega) (by first | lia | omega) (j := i.toNat) (by have := seqIndex_nat (n := i.toNat) (l := 4) (by first | lia | omega); rwa [show ((i.toNat : Nat) : Int) = i from by first | lia | omega] at this) hu ?_
  walk_at "S"
  refine wC_fn hr ((ok_scene hu0 hu1 (by first | lia | omega) (by first | lia | omega) fun ω s τ0 N E W G em tl rw' => ?_).less (by decide))
  have len7 : s.rows.length = 7 := by have := congrArg List.length rw'; simpa using this
  have S0 := Stp.start W G
  have ea : τ0 a2 = some (.lst (ms.map .int)) := E _ _ e4
  have na : a2 ∉ ω.S := fun q => by have := N a2 q; rw [e4] at this; cases this
  walk_at "S"
  refine wI_rows W ?_
  walk_at "S"
  refine w1_for_tuple ?a ?b ?c
  case a => exact hr.1
  case c => intro _; rfl
  walk_at "S"
  refine ⟨le1 rfl, fun t0 h9 => newE S0 h9 (.tup [.int 1, .int 0]) fun τ1 x0 P0 => ?_⟩
  have S1 := S0.ex x0
  walk_at "S"
  refine ⟨le1 rfl, fun t1 h9 => newE S1 h9 (.tup [.int 6, .int 0]) fun τ2 x1 P1 => ?_⟩
  have S2 := S1.ex x1
  walk_at "S"
  refine ⟨le1 rfl, fun t2 h9 => newE S2 h9 (.tup [.int 1, .int 6]) fun τ3 x2 P2 => ?_⟩
  have S3 := S2.ex x2
  walk_at "S"
  refine ⟨le1 rfl, fun t3 h9 => newE S3 h9 (.tup [.int 6, .int 6]) fun τ4 x3 P3 => ?_⟩
  have S4 := S3.ex x3
  walk_at "S"
  refine ⟨le1 rfl, fun t4 h9 => newE S4 h9 (.tup [.int 2, .int 3]) fun τ5 x4 P4 => ?_⟩
  have S5 := S4.ex x4
  walk_at "S"
  refine ⟨le1 rfl, fun tp h9 => newE S5 h9 (.tup [.ref t0, .ref t1, .ref t2, .ref t3, .ref t4]) fun τ6 x5 Pp => ?_⟩
  refine ⟨tp, _, rfl, Pp.rd, ?_⟩
  refine wFor_inv (fun vs m σ' => vs.length ≤ 5 ∧ (∀ v ∈ vs, ∃ a, ∃ i j : Nat, v = .ref a ∧ i < 7 ∧ j < 7 ∧ Pd Γ ω.S σ' a (.tup [.int i, .int j])) ∧ Pd Γ ω.S σ' tp (.tup [.ref t0, .ref t1, .ref t2, .ref t3, .ref t4]) ∧ ∃ s', Stp Γ ω s τ0 (5 - vs.length) s' σ' ∧
      m.lookup ("w" : Str) = some (.ref ω.W) ∧ m.lookup ("rows" : Str) = some (.ref ω.R) ∧ m.lookup ("x" : Str) = some (.int x) ∧ m.lookup ("nums" : Str) = some (.ref a2) ∧ m.lookup ("size" : Str) = some (.int (1048571 + r))) ?_ ?_ _ _ _
      ⟨Nat.le_refl _, fun v hv => by
        simp only [List.mem_cons, List.not_mem_nil, or_false] at hv
        rcases hv with rfl | rfl | rfl | rfl | rfl
        · exact ⟨t0, 1, 0, rfl, by decide, by decide, P0.le (x1.trans (x2.trans (x3.trans (x4.trans x5)))).le⟩
        · exact ⟨t1, 6, 0, rfl, by decide, by decide, P1.le (x2.trans (x3.trans (x4.trans x5))).le⟩
        · exact ⟨t2, 1, 6, rfl, by decide, by decide, P2.le (x3.trans (x4.trans x5)).le⟩
        · exact ⟨t3, 6, 6, rfl, by decide, by decide, P3.le (x4.trans x5).le⟩
        · exact ⟨t4, 2, 3, rfl, by decide, by decide, P4.le x5.le⟩, Pp, s, (S5.ex x5).more (Nat.zero_le _), by walk_at "lk", by walk_at "lk", by walk_at "lk", by walk_at "lk", by walk_at "lk"⟩
  rotate_left
  · rintro v vs m σ₃ ⟨hv5, hv, hP, s₂, S, q1, q2, q3, q4, q5⟩ fp
    obtain ⟨a, i, j, rfl, i7, j7, Pa⟩ := hv _ (.head _)
    have n2 := S.rows.length_le
    have hl := S.W.rows.length
    have hT := S.len
    have hfew := S.W.few
    rw [List.length_cons] at hv5 hT
    refine Wl.rowK S.W (i := i) (by first | lia | omega) fun ai p vi f1 f2 f3 gi => ?_
    refine Wl.rowK S.W (i := j) (by first | lia | omega) fun aj q vj g1 g2 g3 gj => ?_
    refine wAs_tuple (by exact hr.1) Pa.rd ?_ (by rfl) (by rfl)
    walk_at "S"
    refine w1_if ?_
    walk_at "S"
    refine wI_lstN (.inl S.W.R) (by first | lia | omega) f2 ?_
    walk_at "S"
    refine wI_lstN (.inl S.W.R) (by first | lia | omega) g2 ?_
    walk_at "S"
    refine wC_fn hr ((ok_join S.W S.G (by first | lia | omega) gi gj (fun s₃ σ₄ l₃ W₃ G₃ p₃ q₃ _ => ?_)).less (by decide))
    have S₃ : Stp Γ ω s τ0 (5 - vs.length) s₃ σ₄ := ⟨S.l.trans l₃, W₃, G₃, S.rows.trans p₃.1, S.T.trans p₃.2, by first | lia | omega⟩
    walk_at "S"
    walk_at "ite"
    walk_at "S"
    exact ⟨(hP.le l₃).rd, by first | lia | omega, fun v h => (hv v (.tail _ h)).imp fun a h => h.imp fun i h => h.imp fun j h => ⟨h.1, h.2.1, h.2.2.1, h.2.2.2.le l₃⟩, hP.le l₃, s₃, S₃, by walk_at "lk", by walk_at "lk", by walk_at "lk", by walk_at "lk", by walk_at "lk"⟩
  · rintro m σ₃ ⟨-, -, -, s₂, S, q1, q2, q3, q4, q5⟩
    have n2 := S.rows.length_le
    have hT := S.len
    have tl' : s₂.T.length ≤ 11 := by simp at hT; (first | lia | omega)
    walk_at "S"
    refine w1_if ?_
    walk_at "S"
    refine wC_fn hr ((ok_border S.W S.G (by first | lia | omega) (by first | lia | omega) (by first | lia | omega) (by first | lia | omega) fun s₃ σ₄ l₃ W₃ G₃ p₃ q₃ => ?_).less (by decide))
    have S₃ : Stp Γ ω s τ0 10 s₃ σ₄ := ⟨S.l.trans l₃, W₃, G₃, S.rows.trans p₃.1, S.T.trans p₃.2, by first | lia | omega⟩
    clear l₃ W₃ G₃ p₃ q₃ S n2 hT tl'
    walk_at "S"
    repeat walk_at "ite"
    walk_at "S"
    refine wI_m S₃.W ?_
    walk_at "S"
    refine wC_fn hr ((ok_idle S₃.W S₃.G fun σ₅ l₅ => ?_).less (by decide))
    have S₅ := S₃.ex l₅
    clear S₃ l₅
    have e5 : σ₅ a2 = some (.lst (ms.map .int)) := S₅.l _ _ na ea
    walk_at "S"
    repeat walk_at "ite"
    walk_at "S"
    repeat walk_at "ite"
    walk_at "S"
    refine w1_for_list (by exact hr.1) ?_ (by intro _; rfl)
    refine wE_sliceL_from ?_
    walk_at "S"
    refine ⟨a2, ms.map .int, 1, rfl, rfl, .inl e5, by simp; (first | lia | omega), fun t h9 => newE S₅ h9 (.lst (List.drop 1 (ms.map .int))) fun σ₆ x₆ P₆ => ?_⟩
    have S₆ := S₅.ex x₆
    refine ⟨t, _, rfl, P₆.rd, ?_⟩
    refine wFor_inv (fun vs m σ' => ∃ ks : List Int, vs = ks.map .int ∧ ks.length ≤ 16 ∧ Pd Γ ω.S σ' t (.lst (List.drop 1 (ms.map .int))) ∧ ∃ s', Stp Γ ω s τ0 (50 - 2 * ks.length) s' σ' ∧
      m.lookup ("w" : Str) = some (.ref ω.W) ∧ m.lookup ("rows" : Str) = some (.ref ω.R)) ?_ ?_ _ _ _
      ⟨ms.drop 1, by rw [List.map_drop], by simp; (first | lia | omega), P₆, s₃, S₆.more (by simp; (first | lia | omega)), by walk_at "lk", by walk_at "lk"⟩
    rotate_left
    · rintro v vs m σ₇ ⟨ks, e, hk, hP, s₄, S, q1, q2⟩ fp
      have n2 := S.rows.length_le
      have hT := S.len
      cases ks with
      | nil => cases e
      | cons n ks =>
      rw [List.map_cons, List.cons.injEq] at e
      obtain ⟨rfl, rfl⟩ := e
      rw [List.length_cons] at hk hT
      refine wAs_name ?_ rfl rfl
      walk_at "S"
      refine w1_if ?_
      walk_at "S"
      refine wC_fn hr ((ok_step S.W S.G (by first | lia | omega) (by first | lia | omega) (fun s₅ σ₈ l₃ W₃ G₃ p₃ q₃ => ?_)).less (by decide))
      have S₃ : Stp Γ ω s τ0 (50 - 2 * ks.length) s₅ σ₈ := ⟨S.l.trans l₃, W₃, G₃, S.rows.trans p₃.1, S.T.trans p₃.2, by first | lia | omega⟩
      walk_at "S"
      repeat walk_at "ite"
      walk_at "S"
      refine wI_m W₃ ?_
      walk_at "S"
      refine wC_fn hr ((ok_idle W₃ G₃ fun σ₉ l₉ => ?_).less (by decide))
      walk_at "S"
      repeat walk_at "ite"
      walk_at "S"
      repeat walk_at "ite"
      walk_at "S"
      exact ⟨((hP.le l₃).le l₉.le).rd, ks, rfl, by first | lia | omega, (hP.le l₃).le l₉.le, s₅, S₃.ex l₉, by walk_at "lk", by walk_at "lk"⟩
    · rintro m σ₇ ⟨ks, -, -, -, s₄, S, q1, q2⟩
      have n2 := S.rows.length_le
      have hT := S.len
      have hl := S.W.rows.length
      have hfew := S.W.few
      refine Wl.rowK S.W (i := s₄.rows.length - 1) (by first | lia | omega) fun aj q vj g1 g2 g3 gj => ?_
      refine Wl.rowK S.W (i := 6) (by first | lia | omega) fun ai p vi f1 f2 f3 gi => ?_
      obtain ⟨rq, hrq⟩ := S.G.row (by first | lia | omega) g1
      obtain ⟨qx, qo⟩ := q
      dsimp only at hrq gj
      subst hrq
      walk_at "S"
      refine wC_len_lst (.inl S.W.R) (by first | lia | omega) ?_
      walk_at "S"
      refine wI_lst (.inl S.W.R) (by first | lia | omega) (by first | lia | omega) (by have := idx_of (i := s₄.rows.length - 1) S.W (by first | lia | omega); rwa [show ((s₄.rows.length - 1 : Nat) : Int) = (s₄.rv.length : Int) - 1 from by first | lia | omega] at this) g2 ?_
      walk_at "S"
      refine wI_lstN (n := 6) (.inl S.W.R) (by decide) f2 ?_
      walk_at "S"
      refine wC_fn hr ((ok_look S.W S.G (by first | lia | omega) gj gi (fun s₆ σ₈ l₆ W₆ G₆ p₆ q₆ => ?_)).less (by decide))
      walk_at "S"
      repeat walk_at "ite"
      walk_at "S"
      refine wI_m W₆ ?_
      walk_at "S"
      refine wC_fn hr ((ok_idle W₆ G₆ fun σ₉ l₉ => ?_).less (by decide))
      walk_at "S"
      repeat walk_at "ite"
      walk_at "S"
      refine wC_fn hr ((ok_stand (W₆.ex l₉) G₆ fun σ' l' => ?_).less (by decide))
      walk_at "S"
      exact k σ'
end
end

theorem wellInts {P : Params} {h : Heap} : ∀ {ns : List Int} {vs : List Value}, WellAll P h vs (ofPys (ns.map PyData.int)) → vs.map er = ns.map V.int
  | [], vs, w => by
    simp only [List.map_nil, ofPys] at w
    cases w; rfl
  | n :: ns, vs, w => by
    simp only [List.map_cons, ofPys, ofPy] at w
    cases w with
    | cons a b =>
      cases a
      rw [List.map_cons, List.map_cons, wellInts b]; rfl
end Mine
theorem PySem.Challenge.cw_xm0336_01_holds : PySem.Challenge.rw_xm0336_01.Holds := by
  refine holds_law Mine.hd.said fun said => ?_
  refine holds_open (q := Mine.hd.view_39) (loose := Mine.hd.loose) (Xt := Mine.hd.Xt) (XP := XL Mine.hd.view_39 []) (Yf := Mine.hd.hook.obs) (Ya := Mine.hd.hook.val) (YP := Mine.hd.hook.says) (N := 9400) Mine.hd.left Mine.hd.hook.of Mine.hd.hook.keeps (fun s e => xl_of s (Bool.and_eq_true_iff.mp e).1) XL.keeps (by rfl) (by rfl) (by rfl) (fun s e => recFacts_of (Bool.and_eq_true_iff.mp e).2) (by rfl) said Mine.hd.ok ⟨rfl, rfl, rfl, rfl, rfl, by decide +kernel⟩ ?hw ?hc
  case hw => exact ⟨[.list [.int 3, .int 1]], by decide +kernel, by decide +kernel⟩
  intro w s₀ s₁ mg mb G Y fa o pm cd doc dV kV ho hd hcd hD hmg hg args vals as hpre hlay hrd hwl hlo
  have KX := kIn_of Y
  refine Ground.open G ?_
  intro T B D TE TW
  clear hd ho hcd hD
  wrow_args hpre hlay hrd hwl hlo
  rename_i ns hs hlay0 hL1 hr1 hl2 as4 as3 t xs as0 hL ra wl r0 hI hr hz hz'
  clear hs hlay0 hL1 hr1 hl2 hL ra r0 hI hr hz'
  have hz : ns.length ≤ 63 := by first | lia | omega
  simp only [ofPy] at wl
  cases wl with
  | list e wa =>
  obtain rfl : fa = 1009 := by
    have h := mg_of (n := "law") (v := .ref 1009) KX T.g (by kernel_rfl)
    have h' := h.symm.trans hmg
    cases h'; rfl
  have H := Mine.ok_law (Γ := { p := Challenge.rw_xm0336_01.row.prog, pt := Mine.hd.view_39, w := w, B := s₁.heap, mg := mg, mb := mb, loose := _, X := KX, T := topRead_of T, os := s₁.os })
    (σ := fun _ => none) (Q := fun v _ => v = .bool true) (t := t) (ns := ns) (.inr ⟨_, e, _, _, rfl, by simpa using Mine.wellInts wa⟩) hz (fun _ => rfl)
  refine wpAny_call (codeAny_mono (H callerA s₁ [.ref t] rfl ⟨rfl, by decide, by decide⟩ ⟨⟨[], Mine.Led.nil, fun _ h => nomatch h⟩, fun b o e => e, hg, rfl⟩) ?_)
  rintro r s' ⟨v, σ', rfl, h', ch, hq⟩
  obtain rfl := Mine.er_bool hq
  refine GoodW.toG ⟨.inl ⟨_, .bool true, [], rfl, fun cls => rfl, .bool true, ?_, fun _ => ⟨List.nodup_nil, fun a h => nomatch h⟩⟩, fun b o e => ch.1 b o e rfl, h'.os, h'.gens⟩
  wrow_post
