import PyProof.Rows.All
import Wide.All
import OpenK.AllK
import Wide.FinOn
import PyProof.ListMulAny
import PySem.Challenge.RW_nm0148_01
set_option Elab.async false
set_option maxRecDepth 100000
set_option linter.unusedVariables false
namespace Mine
open PySem PySem.W PyProof.Rows PySem.Calls PySem.Spec

/-- the text's statements -/
noncomputable def stAt (l : List Stmt) (i : Nat) : Stmt := match l[i]? with | some s => s | none => .Pass default
noncomputable def stBody : Stmt → List Stmt
  | .FunctionDef _ _ b _ _ _ _ _ _ _ => b
  | .ClassDef _ _ _ b _ _ _ _ _ _ _ => b
  | _ => []
noncomputable def stScope : Stmt → Scope
  | .FunctionDef _ _ _ _ _ _ s _ _ _ => s
  | .ClassDef _ _ _ _ _ _ s _ _ _ _ => s
  | _ => default
noncomputable def stParams : Stmt → Arguments
  | .FunctionDef _ p _ _ _ _ _ _ _ _ => p
  | _ => default
noncomputable section
noncomputable def topS (i : Nat) : Stmt := stAt PySem.Challenge.pw_nm0148_01.main.body i
noncomputable def metS (i j : Nat) : Stmt := stAt (stBody (topS i)) j
namespace Hd
noncomputable def pw : Program := PySem.Challenge.pw_nm0148_01

/-- the objects that the text's top leaves -/
noncomputable def tp (l : List Value) : Obj := { cls := .type "tuple", data := .seq l.toArray }
noncomputable def fl (l : List Value) : Obj := { cls := .none, data := .fields l.toArray }
noncomputable def ob (c : String) (l : List Value) : Obj := { cls := .type c, data := .fields l.toArray }
noncomputable def co (l : List Value) : Obj := { cls := .type "code", data := .fields l.toArray }
noncomputable def fm (l : List (Option Value)) : Obj := { cls := .type "frame", slots := l.toArray }
noncomputable def es (P : Params) (s : Str) (t : Nat) (v : Value) : DictEntry := ⟨PyData.keyHash P s, .str s t, v⟩
noncomputable def u (l : List Nat) : Str := ⟨l.toArray⟩
noncomputable def ei (i : Int) (t : Nat) (v : Value) : DictEntry := ⟨i, .int i t, v⟩
noncomputable def dc (l : List DictEntry) (e : Nat) : Obj := { cls := .type "dict", data := .dict l.toArray e }
noncomputable def cl (n : Str) (bases mro : List Value) (ns : Addr) (l : List (Option Value)) : Obj :=
  { cls := .type "type", data := .cls { name := n, bases := bases, mro := mro, ns := ns, qualname := n }, slots := l.toArray }
noncomputable def sh (n q : Str) (s : Stmt) : Obj :=
  { cls := .none, data := .func { name := n, qualname := q, params := stParams s, body := .stmts (stBody s), scope := stScope s, globals := 0, closure := [], defaults := .none, kwdefaults := .none } }
noncomputable def fn (n q : Str) (s : Stmt) (df mod code : Value) : Obj :=
  { cls := .type "function", data := .func { name := n, qualname := q, params := stParams s, body := .stmts (stBody s), scope := stScope s, globals := 3, closure := [], defaults := df, kwdefaults := .none, pyModule := mod, code := code } }

noncomputable def bootRest (P : Params) : List DictEntry := match (boot_o_3 P).data with | .dict a _ => a.toList.drop 1 | _ => []
noncomputable def glb (P : Params) : List DictEntry := bootRest P ++ [es P "_wall" 193 (.ref 21), es P "I32" 196 (.int (-1) 195), es P "I64" 199 (.int (-2) 198), es P "FUNCREF" 202 (.int (-16) 201), es P "EMPTY" 205 (.int (-64) 204), es P "FUNCTION" 207 (.int 0 206), es P "UNREACHABLE" 211 (.int 0 210), es P "NOP" 213 (.int 1 212), es P "BLOCK" 215 (.int 2 214), es P "LOOP" 217 (.int 3 216), es P "IF" 219 (.int 4 218), es P "ELSE" 221 (.int 5 220), es P "END" 223 (.int 11 222), es P "BR" 225 (.int 12 224), es P "BR_IF" 227 (.int 13 226), es P "BR_TABLE" 229 (.int 14 228), es P "RETURN" 231 (.int 15 230), es P "CALL" 233 (.int 16 232), es P "CALL_INDIRECT" 235 (.int 17 234), es P "RETURN_CALL" 237 (.int 18 236), es P "RETURN_CALL_INDIRECT" 239 (.int 19 238), es P "DROP" 241 (.int 26 240), es P "SELECT" 243 (.int 27 242), es P "SELECT_KINDS" 245 (.int 28 244), es P "LOCAL_GET" 247 (.int 32 246), es P "LOCAL_SET" 249 (.int 33 248), es P "LOCAL_TEE" 251 (.int 34 250), es P "GLOBAL_GET" 253 (.int 35 252), es P "GLOBAL_SET" 255 (.int 36 254), es P "TABLE_GET" 257 (.int 37 256), es P "TABLE_SET" 259 (.int 38 258), es P "MEMORY_SIZE" 261 (.int 63 260), es P "MEMORY_GROW" 263 (.int 64 262), es P "I32_CONST" 265 (.int 65 264), es P "I64_CONST" 267 (.int 66 266), es P "REF_NULL" 269 (.int 208 268), es P "REF_IS_NULL" 271 (.int 209 270), es P "REF_FUNC" 273 (.int 210 272), es P "MEMORY_INIT" 275 (.int 64520 274), es P "DATA_DROP" 277 (.int 64521 276), es P "MEMORY_COPY" 279 (.int 64522 278), es P "MEMORY_FILL" 281 (.int 64523 280), es P "TABLE_INIT" 283 (.int 64524 282), es P "ELEM_DROP" 285 (.int 64525 284), es P "TABLE_COPY" 287 (.int 64526 286), es P "TABLE_GROW" 289 (.int 64527 288), es P "TABLE_SIZE" 291 (.int 64528 290), es P "TABLE_FILL" 293 (.int 64529 292), es P "LOADS" 342 (.ref 22), es P "STORES" 364 (.ref 35), es P "FIXED" 379 (.ref 43), es P "NUMBERS" 404 (.ref 122), es P "number_kind" 415 (.ref 129), es P "stack_of" 422 (.ref 136), es P "LAST" 425 (.ref 137), es P "COUNTS" 471 (.ref 138), es P "Piece" 525 (.ref 191), es P "pieces_of" 536 (.ref 202), es P "put_pieces" 545 (.ref 209), es P "body_of" 553 (.ref 216), es P "Arities" 632 (.ref 268), es P "Ends" 700 (.ref 308), es P "Import" 744 (.ref 336), es P "Func" 784 (.ref 364), es P "Module" 926 (.ref 479), es P "parts_of" 932 (.ref 488), es P "_law_next" 941 (.ref 495), es P "_law_deeds" 947 (.ref 502), es P "_law_both" 956 (.ref 509), es P "_law_high" 966 (.ref 516), es P "_law_plain" 982 (.ref 523), es P "_law_block" 988 (.ref 528), es P "_law_end" 1008 (.ref 535), es P "_law_list" 1026 (.ref 542), es P "law" 1032 (.ref 547)]
noncomputable def d3 (n : Str) (t k e : Nat) (P : Params) : Obj := dc (es P "__name__" 165 (.str n t) :: (glb P).take k) e
noncomputable def o_3 (P : Params) : Obj := dc (es P "__name__" 165 (.str "law_nm0148_01" 933) :: glb P) 84
noncomputable def tab : List Value := [.int 1 0, .int 0 0, .ref 20, .int 56 0, .int 0 0, .ref 128, .int 61 0, .int 0 0, .ref 135, .int 72 0, .int 0 0, .ref 159, .int 88 0, .int 0 0, .ref 201, .int 105 0, .int 0 0, .ref 208, .int 114 0, .int 0 0, .ref 215, .int 119 0, .int 0 0, .ref 222, .int 161 0, .int 0 0, .ref 278, .int 197 0, .int 0 0, .ref 318, .int 207 0, .int 0 0, .ref 346, .int 216 0, .int 0 0, .ref 374, .int 276 0, .int 0 0, .ref 487, .int 279 0, .int 0 0, .ref 494, .int 281 0, .int 0 0, .ref 501, .int 283 0, .int 0 0, .ref 508, .int 286 0, .int 0 0, .ref 515, .int 289 0, .int 0 0, .ref 522, .int 303 0, .int 0 0, .ref 527, .int 316 0, .int 0 0, .ref 534, .int 337 0, .int 0 0, .ref 541, .int 354 0, .int 0 0, .ref 546]
noncomputable def o_11 : Obj := tp []
noncomputable def o_12 : Obj := fl tab
noncomputable def o_13 : Obj := co [.str "<module>" 182, .str "<module>" 183, .str "/claim/cut.py" 184, .int 1 0, .int 0 0, .int 0 0, .int 0 0, .int 0 0, .ref 11, .bool false, .int 181 0, .ref 12, .none, .none, .none, .none, .int 185 0, .int 1 0, .str "/claim/cut.py" 186]
noncomputable def o_14 : Obj := fm [some (.ref 13), some (.ref 3), some (.ref 3), none, some (.str "__main__" 164), none, some (.ref 0)]
noncomputable def o_15 : Obj := tp []
noncomputable def o_16 : Obj := fl []
noncomputable def o_17 : Obj := tp [.str "k" 190]
noncomputable def o_18 : Obj := tp []
noncomputable def o_19 : Obj := sh "_wall" "_wall" (topS 0)
noncomputable def o_20 : Obj := co [.str "_wall" 187, .str "_wall" 188, .str "/claim/cut.py" 189, .int 1 0, .int 1 0, .int 0 0, .int 0 0, .int 3 0, .ref 15, .bool true, .int 181 0, .ref 16, .none, .ref 17, .ref 18, .ref 19, .int 191 0, .int 1 0, .str "/claim/cut.py" 192]
noncomputable def o_21 : Obj := fn "_wall" "_wall" (topS 0) .none (.str "__main__" 164) (.ref 20)
noncomputable def o_22 : Obj := dc [ei 40 294 (.ref 23), ei 41 297 (.ref 24), ei 44 300 (.ref 25), ei 45 303 (.ref 26), ei 46 306 (.ref 27), ei 47 309 (.ref 28), ei 48 312 (.ref 29), ei 49 315 (.ref 30), ei 50 318 (.ref 31), ei 51 321 (.ref 32), ei 52 324 (.ref 33), ei 53 327 (.ref 34)] 12
noncomputable def o_23 : Obj := tp [.int (-1) 195, .int 4 295, .int 0 296]
noncomputable def o_24 : Obj := tp [.int (-2) 198, .int 8 298, .int 0 299]
noncomputable def o_25 : Obj := tp [.int (-1) 195, .int 1 301, .int 1 302]
noncomputable def o_26 : Obj := tp [.int (-1) 195, .int 1 304, .int 0 305]
noncomputable def o_27 : Obj := tp [.int (-1) 195, .int 2 307, .int 1 308]
noncomputable def o_28 : Obj := tp [.int (-1) 195, .int 2 310, .int 0 311]
noncomputable def o_29 : Obj := tp [.int (-2) 198, .int 1 313, .int 1 314]
noncomputable def o_30 : Obj := tp [.int (-2) 198, .int 1 316, .int 0 317]
noncomputable def o_31 : Obj := tp [.int (-2) 198, .int 2 319, .int 1 320]
noncomputable def o_32 : Obj := tp [.int (-2) 198, .int 2 322, .int 0 323]
noncomputable def o_33 : Obj := tp [.int (-2) 198, .int 4 325, .int 1 326]
noncomputable def o_34 : Obj := tp [.int (-2) 198, .int 4 328, .int 0 329]
noncomputable def o_35 : Obj := dc [ei 54 343 (.ref 36), ei 55 345 (.ref 37), ei 58 347 (.ref 38), ei 59 349 (.ref 39), ei 60 351 (.ref 40), ei 61 353 (.ref 41), ei 62 355 (.ref 42)] 7
noncomputable def o_36 : Obj := tp [.int (-1) 195, .int 4 344]
noncomputable def o_37 : Obj := tp [.int (-2) 198, .int 8 346]
noncomputable def o_38 : Obj := tp [.int (-1) 195, .int 1 348]
noncomputable def o_39 : Obj := tp [.int (-1) 195, .int 2 350]
noncomputable def o_40 : Obj := tp [.int (-2) 198, .int 1 352]
noncomputable def o_41 : Obj := tp [.int (-2) 198, .int 2 354]
noncomputable def o_42 : Obj := tp [.int (-2) 198, .int 4 356]
noncomputable def o_43 : Obj := dc [ei 1 212 (.ref 46), ei 63 260 (.ref 49), ei 64 262 (.ref 52), ei 65 264 (.ref 55), ei 66 266 (.ref 58), ei 210 272 (.ref 61), ei 64520 274 (.ref 64), ei 64521 276 (.ref 67), ei 64522 278 (.ref 70), ei 64523 280 (.ref 73), ei 64524 282 (.ref 76), ei 64525 284 (.ref 79), ei 64526 286 (.ref 82), ei 64528 290 (.ref 85)] 14
noncomputable def o_44 : Obj := tp []
noncomputable def o_45 : Obj := tp []
noncomputable def o_46 : Obj := tp [.ref 44, .ref 45]
noncomputable def o_47 : Obj := tp []
noncomputable def o_48 : Obj := tp [.int (-1) 195]
noncomputable def o_49 : Obj := tp [.ref 47, .ref 48]
noncomputable def o_50 : Obj := tp [.int (-1) 195]
noncomputable def o_51 : Obj := tp [.int (-1) 195]
noncomputable def o_52 : Obj := tp [.ref 50, .ref 51]
noncomputable def o_53 : Obj := tp []
noncomputable def o_54 : Obj := tp [.int (-1) 195]
noncomputable def o_55 : Obj := tp [.ref 53, .ref 54]
noncomputable def o_56 : Obj := tp []
noncomputable def o_57 : Obj := tp [.int (-2) 198]
noncomputable def o_58 : Obj := tp [.ref 56, .ref 57]
noncomputable def o_59 : Obj := tp []
noncomputable def o_60 : Obj := tp [.int (-16) 201]
noncomputable def o_61 : Obj := tp [.ref 59, .ref 60]
noncomputable def o_62 : Obj := tp [.int (-1) 195, .int (-1) 195, .int (-1) 195]
noncomputable def o_63 : Obj := tp []
noncomputable def o_64 : Obj := tp [.ref 62, .ref 63]
noncomputable def o_65 : Obj := tp []
noncomputable def o_66 : Obj := tp []
noncomputable def o_67 : Obj := tp [.ref 65, .ref 66]
noncomputable def o_68 : Obj := tp [.int (-1) 195, .int (-1) 195, .int (-1) 195]
noncomputable def o_69 : Obj := tp []
noncomputable def o_70 : Obj := tp [.ref 68, .ref 69]
noncomputable def o_71 : Obj := tp [.int (-1) 195, .int (-1) 195, .int (-1) 195]
noncomputable def o_72 : Obj := tp []
noncomputable def o_73 : Obj := tp [.ref 71, .ref 72]
noncomputable def o_74 : Obj := tp [.int (-1) 195, .int (-1) 195, .int (-1) 195]
noncomputable def o_75 : Obj := tp []
noncomputable def o_76 : Obj := tp [.ref 74, .ref 75]
noncomputable def o_77 : Obj := tp []
noncomputable def o_78 : Obj := tp []
noncomputable def o_79 : Obj := tp [.ref 77, .ref 78]
noncomputable def o_80 : Obj := tp [.int (-1) 195, .int (-1) 195, .int (-1) 195]
noncomputable def o_81 : Obj := tp []
noncomputable def o_82 : Obj := tp [.ref 80, .ref 81]
noncomputable def o_83 : Obj := tp []
noncomputable def o_84 : Obj := tp [.int (-1) 195]
noncomputable def o_85 : Obj := tp [.ref 83, .ref 84]
noncomputable def o_86 : Obj := tp [.int (-1) 195]
noncomputable def o_87 : Obj := tp [.int (-1) 195]
noncomputable def o_88 : Obj := tp [.int 69 380, .int 69 381, .ref 86, .ref 87]
noncomputable def o_89 : Obj := tp [.int (-1) 195, .int (-1) 195]
noncomputable def o_90 : Obj := tp [.int (-1) 195]
noncomputable def o_91 : Obj := tp [.int 70 382, .int 79 383, .ref 89, .ref 90]
noncomputable def o_92 : Obj := tp [.int (-2) 198]
noncomputable def o_93 : Obj := tp [.int (-1) 195]
noncomputable def o_94 : Obj := tp [.int 80 384, .int 80 385, .ref 92, .ref 93]
noncomputable def o_95 : Obj := tp [.int (-2) 198, .int (-2) 198]
noncomputable def o_96 : Obj := tp [.int (-1) 195]
noncomputable def o_97 : Obj := tp [.int 81 386, .int 90 387, .ref 95, .ref 96]
noncomputable def o_98 : Obj := tp [.int (-1) 195]
noncomputable def o_99 : Obj := tp [.int (-1) 195]
noncomputable def o_100 : Obj := tp [.int 103 388, .int 105 389, .ref 98, .ref 99]
noncomputable def o_101 : Obj := tp [.int (-1) 195, .int (-1) 195]
noncomputable def o_102 : Obj := tp [.int (-1) 195]
noncomputable def o_103 : Obj := tp [.int 106 390, .int 120 391, .ref 101, .ref 102]
noncomputable def o_104 : Obj := tp [.int (-2) 198]
noncomputable def o_105 : Obj := tp [.int (-2) 198]
noncomputable def o_106 : Obj := tp [.int 121 392, .int 123 393, .ref 104, .ref 105]
noncomputable def o_107 : Obj := tp [.int (-2) 198, .int (-2) 198]
noncomputable def o_108 : Obj := tp [.int (-2) 198]
noncomputable def o_109 : Obj := tp [.int 124 394, .int 138 395, .ref 107, .ref 108]
noncomputable def o_110 : Obj := tp [.int (-2) 198]
noncomputable def o_111 : Obj := tp [.int (-1) 195]
noncomputable def o_112 : Obj := tp [.int 167 396, .int 167 397, .ref 110, .ref 111]
noncomputable def o_113 : Obj := tp [.int (-1) 195]
noncomputable def o_114 : Obj := tp [.int (-2) 198]
noncomputable def o_115 : Obj := tp [.int 172 398, .int 173 399, .ref 113, .ref 114]
noncomputable def o_116 : Obj := tp [.int (-1) 195]
noncomputable def o_117 : Obj := tp [.int (-1) 195]
noncomputable def o_118 : Obj := tp [.int 192 400, .int 193 401, .ref 116, .ref 117]
noncomputable def o_119 : Obj := tp [.int (-2) 198]
noncomputable def o_120 : Obj := tp [.int (-2) 198]
noncomputable def o_121 : Obj := tp [.int 194 402, .int 196 403, .ref 119, .ref 120]
noncomputable def o_122 : Obj := tp [.ref 88, .ref 91, .ref 94, .ref 97, .ref 100, .ref 103, .ref 106, .ref 109, .ref 112, .ref 115, .ref 118, .ref 121]
noncomputable def o_123 : Obj := tp []
noncomputable def o_124 : Obj := fl []
noncomputable def o_125 : Obj := tp [.str "code" 408, .str "least" 409, .str "most" 410, .str "params" 411, .str "results" 412]
noncomputable def o_126 : Obj := tp []
noncomputable def o_127 : Obj := sh "number_kind" "number_kind" (topS 53)
noncomputable def o_128 : Obj := co [.str "number_kind" 405, .str "number_kind" 406, .str "/claim/cut.py" 407, .int 56 0, .int 1 0, .int 0 0, .int 0 0, .int 3 0, .ref 123, .bool true, .int 181 0, .ref 124, .none, .ref 125, .ref 126, .ref 127, .int 413 0, .int 56 0, .str "/claim/cut.py" 414]
noncomputable def o_129 : Obj := fn "number_kind" "number_kind" (topS 53) .none (.str "wasmcore.codes" 208) (.ref 128)
noncomputable def o_130 : Obj := tp []
noncomputable def o_131 : Obj := fl []
noncomputable def o_132 : Obj := tp [.str "code" 419]
noncomputable def o_133 : Obj := tp []
noncomputable def o_134 : Obj := sh "stack_of" "stack_of" (topS 54)
noncomputable def o_135 : Obj := co [.str "stack_of" 416, .str "stack_of" 417, .str "/claim/cut.py" 418, .int 61 0, .int 1 0, .int 0 0, .int 0 0, .int 3 0, .ref 130, .bool true, .int 181 0, .ref 131, .none, .ref 132, .ref 133, .ref 134, .int 420 0, .int 61 0, .str "/claim/cut.py" 421]
noncomputable def o_136 : Obj := fn "stack_of" "stack_of" (topS 54) .none (.str "wasmcore.codes" 208) (.ref 135)
noncomputable def o_137 : Obj := tp [.int 0 210, .int 12 224, .int 14 228, .int 15 230, .int 18 236, .int 19 238]
noncomputable def o_138 : Obj := dc [ei 13 226 (.ref 139), ei 26 240 (.ref 140), ei 27 242 (.ref 141), ei 28 244 (.ref 142), ei 32 246 (.ref 143), ei 33 248 (.ref 144), ei 34 250 (.ref 145), ei 35 252 (.ref 146), ei 36 254 (.ref 147), ei 37 256 (.ref 148), ei 38 258 (.ref 149), ei 208 268 (.ref 150), ei 209 270 (.ref 151), ei 64527 288 (.ref 152), ei 64529 292 (.ref 153)] 15
noncomputable def o_139 : Obj := tp [.int 1 426, .int 0 427]
noncomputable def o_140 : Obj := tp [.int 1 428, .int 0 429]
noncomputable def o_141 : Obj := tp [.int 3 430, .int 1 431]
noncomputable def o_142 : Obj := tp [.int 3 432, .int 1 433]
noncomputable def o_143 : Obj := tp [.int 0 434, .int 1 435]
noncomputable def o_144 : Obj := tp [.int 1 436, .int 0 437]
noncomputable def o_145 : Obj := tp [.int 1 438, .int 1 439]
noncomputable def o_146 : Obj := tp [.int 0 440, .int 1 441]
noncomputable def o_147 : Obj := tp [.int 1 442, .int 0 443]
noncomputable def o_148 : Obj := tp [.int 1 444, .int 1 445]
noncomputable def o_149 : Obj := tp [.int 2 446, .int 0 447]
noncomputable def o_150 : Obj := tp [.int 0 448, .int 1 449]
noncomputable def o_151 : Obj := tp [.int 1 450, .int 1 451]
noncomputable def o_152 : Obj := tp [.int 2 452, .int 1 453]
noncomputable def o_153 : Obj := tp [.int 3 454, .int 0 455]
noncomputable def o_154 : Obj := tp []
noncomputable def o_155 : Obj := ob "builtin_function_or_method" [.builtin "type.__prepare__", .type "type"]
noncomputable def o_156 (P : Params) : Obj := dc [es P "__module__" 479 (.str "wasmcore.pieces" 423), es P "__qualname__" 481 (.str "Piece" 480), es P "__firstlineno__" 483 (.int 72 482), es P "__init__" 493 (.ref 168), es P "code" 501 (.ref 176), es P "parts" 507 (.ref 181), es P "labels" 514 (.ref 188), es P "__static_attributes__" 518 (.ref 189)] 8
noncomputable def o_157 : Obj := tp []
noncomputable def o_158 : Obj := fl [.int 74 0, .int 4 0, .ref 167, .int 80 0, .int 4 0, .ref 174, .int 83 0, .int 4 0, .ref 180, .int 86 0, .int 4 0, .ref 187]
noncomputable def o_159 : Obj := co [.str "Piece" 474, .str "Piece" 475, .str "/claim/cut.py" 476, .int 72 0, .int 0 0, .int 0 0, .int 0 0, .int 0 0, .ref 157, .bool false, .int 181 0, .ref 158, .none, .none, .none, .none, .int 477 0, .int 72 0, .str "/claim/cut.py" 478]
noncomputable def o_160 : Obj := fm [some (.ref 159), some (.ref 3), some (.ref 156), none, some (.str "wasmcore.pieces" 423), none, some (.ref 0)]
noncomputable def o_161 : Obj := tp [.none, .none]
noncomputable def o_162 : Obj := tp []
noncomputable def o_163 : Obj := fl []
noncomputable def o_164 : Obj := tp [.str "self" 487, .str "plain" 488, .str "first" 489, .str "second" 490]
noncomputable def o_165 : Obj := tp []
noncomputable def o_166 : Obj := sh "__init__" "Piece.__init__" (metS 58 0)
noncomputable def o_167 : Obj := co [.str "__init__" 484, .str "Piece.__init__" 485, .str "/claim/cut.py" 486, .int 74 0, .int 4 0, .int 0 0, .int 0 0, .int 3 0, .ref 162, .bool true, .int 181 0, .ref 163, .none, .ref 164, .ref 165, .ref 166, .int 491 0, .int 74 0, .str "/claim/cut.py" 492]
noncomputable def o_168 : Obj := fn "__init__" "Piece.__init__" (metS 58 0) (.ref 161) (.str "wasmcore.pieces" 423) (.ref 167)
noncomputable def o_169 : Obj := tp []
noncomputable def o_170 : Obj := fl []
noncomputable def o_171 : Obj := tp [.str "self" 497]
noncomputable def o_172 : Obj := tp []
noncomputable def o_173 : Obj := sh "code" "Piece.code" (metS 58 1)
noncomputable def o_174 : Obj := co [.str "code" 494, .str "Piece.code" 495, .str "/claim/cut.py" 496, .int 79 0, .int 1 0, .int 0 0, .int 0 0, .int 3 0, .ref 169, .bool true, .int 181 0, .ref 170, .none, .ref 171, .ref 172, .ref 173, .int 498 0, .int 79 0, .str "/claim/cut.py" 499]
noncomputable def o_175 : Obj := fn "code" "Piece.code" (metS 58 1) .none (.str "wasmcore.pieces" 423) (.ref 174)
noncomputable def o_176 : Obj := ob "property" [.ref 175, .none, .none, .none, .str "code" 501, .bool false]
noncomputable def o_177 : Obj := tp []
noncomputable def o_178 : Obj := fl []
noncomputable def o_179 : Obj := sh "parts" "Piece.parts" (metS 58 2)
noncomputable def o_180 : Obj := co [.str "parts" 502, .str "Piece.parts" 503, .str "/claim/cut.py" 504, .int 83 0, .int 1 0, .int 0 0, .int 0 0, .int 3 0, .ref 177, .bool true, .int 181 0, .ref 178, .none, .none, .none, .ref 179, .int 505 0, .int 83 0, .str "/claim/cut.py" 506]
noncomputable def o_181 : Obj := fn "parts" "Piece.parts" (metS 58 2) .none (.str "wasmcore.pieces" 423) (.ref 180)
noncomputable def o_182 : Obj := tp []
noncomputable def o_183 : Obj := fl []
noncomputable def o_184 : Obj := tp [.str "self" 511]
noncomputable def o_185 : Obj := tp []
noncomputable def o_186 : Obj := sh "labels" "Piece.labels" (metS 58 3)
noncomputable def o_187 : Obj := co [.str "labels" 508, .str "Piece.labels" 509, .str "/claim/cut.py" 510, .int 86 0, .int 1 0, .int 0 0, .int 0 0, .int 3 0, .ref 182, .bool true, .int 181 0, .ref 183, .none, .ref 184, .ref 185, .ref 186, .int 512 0, .int 86 0, .str "/claim/cut.py" 513]
noncomputable def o_188 : Obj := fn "labels" "Piece.labels" (metS 58 3) .none (.str "wasmcore.pieces" 423) (.ref 187)
noncomputable def o_189 : Obj := tp [.str "first" 515, .str "plain" 516, .str "second" 517]
noncomputable def o_190 (P : Params) : Obj := dc [es P "__module__" 479 (.str "wasmcore.pieces" 423), es P "__firstlineno__" 483 (.int 72 482), es P "__init__" 493 (.ref 168), es P "code" 501 (.ref 176), es P "parts" 507 (.ref 181), es P "labels" 514 (.ref 188), es P "__static_attributes__" 518 (.ref 189), es P "__dict__" 520 (.ref 192), es P "__weakref__" 522 (.ref 193), es P "__doc__" 523 .none] 4
noncomputable def o_191 : Obj := cl "Piece" [.type "object"] [.ref 191, .type "object"] 190 [none, none, some (.str "Piece" 472), some (.str "Piece" 480), some (.builtin "object.__new__"), some (.bool true)]
noncomputable def o_192 : Obj := ob "getset_descriptor" [.str "__dict__" 519, .ref 191, .builtin "function.__dict__", .builtin "function.__dict__#set"]
noncomputable def o_193 : Obj := ob "getset_descriptor" [.str "__weakref__" 521, .ref 191, .builtin "ExceptionGroup.__weakref__", .none]
noncomputable def o_194 : Obj := ob "super" [.ref 191, .ref 191, .ref 191]
noncomputable def o_195 : Obj := ob "builtin_function_or_method" [.builtin "object.__init_subclass__", .ref 191]
noncomputable def o_196 : Obj := tp []
noncomputable def o_197 : Obj := fl []
noncomputable def o_198 : Obj := tp [.str "body" 529, .str "here" 530, .str "opened" 531, .str "plain" 532, .str "piece" 533]
noncomputable def o_199 : Obj := tp []
noncomputable def o_200 : Obj := sh "pieces_of" "pieces_of" (topS 59)
noncomputable def o_201 : Obj := co [.str "pieces_of" 526, .str "pieces_of" 527, .str "/claim/cut.py" 528, .int 88 0, .int 1 0, .int 0 0, .int 0 0, .int 3 0, .ref 196, .bool true, .int 181 0, .ref 197, .none, .ref 198, .ref 199, .ref 200, .int 534 0, .int 88 0, .str "/claim/cut.py" 535]
noncomputable def o_202 : Obj := fn "pieces_of" "pieces_of" (topS 59) .none (.str "wasmcore.pieces" 423) (.ref 201)
noncomputable def o_203 : Obj := tp []
noncomputable def o_204 : Obj := fl []
noncomputable def o_205 : Obj := tp [.str "pieces" 540, .str "body" 541, .str "piece" 542]
noncomputable def o_206 : Obj := tp []
noncomputable def o_207 : Obj := sh "put_pieces" "put_pieces" (topS 60)
noncomputable def o_208 : Obj := co [.str "put_pieces" 537, .str "put_pieces" 538, .str "/claim/cut.py" 539, .int 105 0, .int 2 0, .int 0 0, .int 0 0, .int 3 0, .ref 203, .bool true, .int 181 0, .ref 204, .none, .ref 205, .ref 206, .ref 207, .int 543 0, .int 105 0, .str "/claim/cut.py" 544]
noncomputable def o_209 : Obj := fn "put_pieces" "put_pieces" (topS 60) .none (.str "wasmcore.pieces" 423) (.ref 208)
noncomputable def o_210 : Obj := tp []
noncomputable def o_211 : Obj := fl []
noncomputable def o_212 : Obj := tp [.str "pieces" 549, .str "body" 550]
noncomputable def o_213 : Obj := tp []
noncomputable def o_214 : Obj := sh "body_of" "body_of" (topS 61)
noncomputable def o_215 : Obj := co [.str "body_of" 546, .str "body_of" 547, .str "/claim/cut.py" 548, .int 114 0, .int 1 0, .int 0 0, .int 0 0, .int 3 0, .ref 210, .bool true, .int 181 0, .ref 211, .none, .ref 212, .ref 213, .ref 214, .int 551 0, .int 114 0, .str "/claim/cut.py" 552]
noncomputable def o_216 : Obj := fn "body_of" "body_of" (topS 61) .none (.str "wasmcore.pieces" 423) (.ref 215)
noncomputable def o_217 : Obj := tp []
noncomputable def o_218 : Obj := ob "builtin_function_or_method" [.builtin "type.__prepare__", .type "type"]
noncomputable def o_219 (P : Params) : Obj := dc [es P "__module__" 561 (.str "wasmcore.pieces" 423), es P "__qualname__" 563 (.str "Arities" 562), es P "__firstlineno__" 565 (.int 119 564), es P "__init__" 573 (.ref 230), es P "of_kind" 583 (.ref 237), es P "of_block" 591 (.ref 244), es P "of" 601 (.ref 251), es P "behind" 612 (.ref 258), es P "behind_all" 622 (.ref 265), es P "__static_attributes__" 625 (.ref 266)] 10
noncomputable def o_220 : Obj := tp []
noncomputable def o_221 : Obj := fl [.int 121 0, .int 4 0, .ref 229, .int 125 0, .int 4 0, .ref 236, .int 129 0, .int 4 0, .ref 243, .int 134 0, .int 4 0, .ref 250, .int 145 0, .int 4 0, .ref 257, .int 154 0, .int 4 0, .ref 264]
noncomputable def o_222 : Obj := co [.str "Arities" 556, .str "Arities" 557, .str "/claim/cut.py" 558, .int 119 0, .int 0 0, .int 0 0, .int 0 0, .int 0 0, .ref 220, .bool false, .int 181 0, .ref 221, .none, .none, .none, .none, .int 559 0, .int 119 0, .str "/claim/cut.py" 560]
noncomputable def o_223 : Obj := fm [some (.ref 222), some (.ref 3), some (.ref 219), none, some (.str "wasmcore.pieces" 423), none, some (.ref 0)]
noncomputable def o_224 : Obj := tp []
noncomputable def o_225 : Obj := fl []
noncomputable def o_226 : Obj := tp [.str "self" 569, .str "module" 570]
noncomputable def o_227 : Obj := tp []
noncomputable def o_228 : Obj := sh "__init__" "Arities.__init__" (metS 62 0)
noncomputable def o_229 : Obj := co [.str "__init__" 566, .str "Arities.__init__" 567, .str "/claim/cut.py" 568, .int 121 0, .int 2 0, .int 0 0, .int 0 0, .int 3 0, .ref 224, .bool true, .int 181 0, .ref 225, .none, .ref 226, .ref 227, .ref 228, .int 571 0, .int 121 0, .str "/claim/cut.py" 572]
noncomputable def o_230 : Obj := fn "__init__" "Arities.__init__" (metS 62 0) .none (.str "wasmcore.pieces" 423) (.ref 229)
noncomputable def o_231 : Obj := tp []
noncomputable def o_232 : Obj := fl []
noncomputable def o_233 : Obj := tp [.str "self" 577, .str "index" 578, .str "params" 579, .str "results" 580]
noncomputable def o_234 : Obj := tp []
noncomputable def o_235 : Obj := sh "of_kind" "Arities.of_kind" (metS 62 1)
noncomputable def o_236 : Obj := co [.str "of_kind" 574, .str "Arities.of_kind" 575, .str "/claim/cut.py" 576, .int 125 0, .int 2 0, .int 0 0, .int 0 0, .int 3 0, .ref 231, .bool true, .int 181 0, .ref 232, .none, .ref 233, .ref 234, .ref 235, .int 581 0, .int 125 0, .str "/claim/cut.py" 582]
noncomputable def o_237 : Obj := fn "of_kind" "Arities.of_kind" (metS 62 1) .none (.str "wasmcore.pieces" 423) (.ref 236)
noncomputable def o_238 : Obj := tp []
noncomputable def o_239 : Obj := fl []
noncomputable def o_240 : Obj := tp [.str "self" 587, .str "about" 588]
noncomputable def o_241 : Obj := tp []
noncomputable def o_242 : Obj := sh "of_block" "Arities.of_block" (metS 62 2)
noncomputable def o_243 : Obj := co [.str "of_block" 584, .str "Arities.of_block" 585, .str "/claim/cut.py" 586, .int 129 0, .int 2 0, .int 0 0, .int 0 0, .int 3 0, .ref 238, .bool true, .int 181 0, .ref 239, .none, .ref 240, .ref 241, .ref 242, .int 589 0, .int 129 0, .str "/claim/cut.py" 590]
noncomputable def o_244 : Obj := fn "of_block" "Arities.of_block" (metS 62 2) .none (.str "wasmcore.pieces" 423) (.ref 243)
noncomputable def o_245 : Obj := tp []
noncomputable def o_246 : Obj := fl []
noncomputable def o_247 : Obj := tp [.str "self" 595, .str "plain" 596, .str "takes" 597, .str "puts" 598]
noncomputable def o_248 : Obj := tp []
noncomputable def o_249 : Obj := sh "of" "Arities.of" (metS 62 3)
noncomputable def o_250 : Obj := co [.str "of" 592, .str "Arities.of" 593, .str "/claim/cut.py" 594, .int 134 0, .int 2 0, .int 0 0, .int 0 0, .int 3 0, .ref 245, .bool true, .int 181 0, .ref 246, .none, .ref 247, .ref 248, .ref 249, .int 599 0, .int 134 0, .str "/claim/cut.py" 600]
noncomputable def o_251 : Obj := fn "of" "Arities.of" (metS 62 3) .none (.str "wasmcore.pieces" 423) (.ref 250)
noncomputable def o_252 : Obj := tp []
noncomputable def o_253 : Obj := fl []
noncomputable def o_254 : Obj := tp [.str "self" 605, .str "piece" 606, .str "height" 607, .str "takes" 608, .str "puts" 609]
noncomputable def o_255 : Obj := tp []
noncomputable def o_256 : Obj := sh "behind" "Arities.behind" (metS 62 4)
noncomputable def o_257 : Obj := co [.str "behind" 602, .str "Arities.behind" 603, .str "/claim/cut.py" 604, .int 145 0, .int 3 0, .int 0 0, .int 0 0, .int 3 0, .ref 252, .bool true, .int 181 0, .ref 253, .none, .ref 254, .ref 255, .ref 256, .int 610 0, .int 145 0, .str "/claim/cut.py" 611]
noncomputable def o_258 : Obj := fn "behind" "Arities.behind" (metS 62 4) .none (.str "wasmcore.pieces" 423) (.ref 257)
noncomputable def o_259 : Obj := tp []
noncomputable def o_260 : Obj := fl []
noncomputable def o_261 : Obj := tp [.str "self" 616, .str "pieces" 617, .str "height" 618, .str "piece" 619]
noncomputable def o_262 : Obj := tp []
noncomputable def o_263 : Obj := sh "behind_all" "Arities.behind_all" (metS 62 5)
noncomputable def o_264 : Obj := co [.str "behind_all" 613, .str "Arities.behind_all" 614, .str "/claim/cut.py" 615, .int 154 0, .int 3 0, .int 0 0, .int 0 0, .int 3 0, .ref 259, .bool true, .int 181 0, .ref 260, .none, .ref 261, .ref 262, .ref 263, .int 620 0, .int 154 0, .str "/claim/cut.py" 621]
noncomputable def o_265 : Obj := fn "behind_all" "Arities.behind_all" (metS 62 5) .none (.str "wasmcore.pieces" 423) (.ref 264)
noncomputable def o_266 : Obj := tp [.str "funcs" 623, .str "kinds" 624]
noncomputable def o_267 (P : Params) : Obj := dc [es P "__module__" 561 (.str "wasmcore.pieces" 423), es P "__firstlineno__" 565 (.int 119 564), es P "__init__" 573 (.ref 230), es P "of_kind" 583 (.ref 237), es P "of_block" 591 (.ref 244), es P "of" 601 (.ref 251), es P "behind" 612 (.ref 258), es P "behind_all" 622 (.ref 265), es P "__static_attributes__" 625 (.ref 266), es P "__dict__" 627 (.ref 269), es P "__weakref__" 629 (.ref 270), es P "__doc__" 630 .none] 4
noncomputable def o_268 : Obj := cl "Arities" [.type "object"] [.ref 268, .type "object"] 267 [none, none, some (.str "Arities" 554), some (.str "Arities" 562), some (.builtin "object.__new__"), some (.bool true)]
noncomputable def o_269 : Obj := ob "getset_descriptor" [.str "__dict__" 626, .ref 268, .builtin "function.__dict__", .builtin "function.__dict__#set"]
noncomputable def o_270 : Obj := ob "getset_descriptor" [.str "__weakref__" 628, .ref 268, .builtin "ExceptionGroup.__weakref__", .none]
noncomputable def o_271 : Obj := ob "super" [.ref 268, .ref 268, .ref 268]
noncomputable def o_272 : Obj := ob "builtin_function_or_method" [.builtin "object.__init_subclass__", .ref 268]
noncomputable def o_273 : Obj := tp []
noncomputable def o_274 : Obj := ob "builtin_function_or_method" [.builtin "type.__prepare__", .type "type"]
noncomputable def o_275 (P : Params) : Obj := dc [es P "__module__" 642 (.str "wasmcore.passes" 633), es P "__qualname__" 644 (.str "Ends" 643), es P "__firstlineno__" 646 (.int 161 645), es P "__init__" 654 (.ref 286), es P "cut" 670 (.ref 293), es P "cut_within" 676 (.ref 298), es P "cut_last" 691 (.ref 305), es P "__static_attributes__" 693 (.ref 306)] 8
noncomputable def o_276 : Obj := tp []
noncomputable def o_277 : Obj := fl [.int 163 0, .int 4 0, .ref 285, .int 166 0, .int 4 0, .ref 292, .int 177 0, .int 4 0, .ref 297, .int 185 0, .int 4 0, .ref 304]
noncomputable def o_278 : Obj := co [.str "Ends" 637, .str "Ends" 638, .str "/claim/cut.py" 639, .int 161 0, .int 0 0, .int 0 0, .int 0 0, .int 0 0, .ref 276, .bool false, .int 181 0, .ref 277, .none, .none, .none, .none, .int 640 0, .int 161 0, .str "/claim/cut.py" 641]
noncomputable def o_279 : Obj := fm [some (.ref 278), some (.ref 3), some (.ref 275), none, some (.str "wasmcore.passes" 633), none, some (.ref 0)]
noncomputable def o_280 : Obj := tp []
noncomputable def o_281 : Obj := fl []
noncomputable def o_282 : Obj := tp [.str "self" 650, .str "arities" 651]
noncomputable def o_283 : Obj := tp []
noncomputable def o_284 : Obj := sh "__init__" "Ends.__init__" (metS 64 0)
noncomputable def o_285 : Obj := co [.str "__init__" 647, .str "Ends.__init__" 648, .str "/claim/cut.py" 649, .int 163 0, .int 2 0, .int 0 0, .int 0 0, .int 3 0, .ref 280, .bool true, .int 181 0, .ref 281, .none, .ref 282, .ref 283, .ref 284, .int 652 0, .int 163 0, .str "/claim/cut.py" 653]
noncomputable def o_286 : Obj := fn "__init__" "Ends.__init__" (metS 64 0) .none (.str "wasmcore.passes" 633) (.ref 285)
noncomputable def o_287 : Obj := tp []
noncomputable def o_288 : Obj := fl []
noncomputable def o_289 : Obj := tp [.str "self" 658, .str "pieces" 659, .str "height" 660, .str "results" 661, .str "tails" 662, .str "depth" 663, .str "at" 664, .str "place" 665, .str "piece" 666, .str "is_last" 667]
noncomputable def o_290 : Obj := tp []
noncomputable def o_291 : Obj := sh "cut" "Ends.cut" (metS 64 1)
noncomputable def o_292 : Obj := co [.str "cut" 655, .str "Ends.cut" 656, .str "/claim/cut.py" 657, .int 166 0, .int 6 0, .int 0 0, .int 0 0, .int 3 0, .ref 287, .bool true, .int 181 0, .ref 288, .none, .ref 289, .ref 290, .ref 291, .int 668 0, .int 166 0, .str "/claim/cut.py" 669]
noncomputable def o_293 : Obj := fn "cut" "Ends.cut" (metS 64 1) .none (.str "wasmcore.passes" 633) (.ref 292)
noncomputable def o_294 : Obj := tp []
noncomputable def o_295 : Obj := fl []
noncomputable def o_296 : Obj := sh "cut_within" "Ends.cut_within" (metS 64 2)
noncomputable def o_297 : Obj := co [.str "cut_within" 671, .str "Ends.cut_within" 672, .str "/claim/cut.py" 673, .int 177 0, .int 6 0, .int 0 0, .int 0 0, .int 3 0, .ref 294, .bool true, .int 181 0, .ref 295, .none, .none, .none, .ref 296, .int 674 0, .int 177 0, .str "/claim/cut.py" 675]
noncomputable def o_298 : Obj := fn "cut_within" "Ends.cut_within" (metS 64 2) .none (.str "wasmcore.passes" 633) (.ref 297)
noncomputable def o_299 : Obj := tp []
noncomputable def o_300 : Obj := fl []
noncomputable def o_301 : Obj := tp [.str "self" 680, .str "pieces" 681, .str "height" 682, .str "results" 683, .str "tails" 684, .str "depth" 685, .str "last" 686, .str "label" 687, .str "ahead" 688]
noncomputable def o_302 : Obj := tp []
noncomputable def o_303 : Obj := sh "cut_last" "Ends.cut_last" (metS 64 3)
noncomputable def o_304 : Obj := co [.str "cut_last" 677, .str "Ends.cut_last" 678, .str "/claim/cut.py" 679, .int 185 0, .int 6 0, .int 0 0, .int 0 0, .int 3 0, .ref 299, .bool true, .int 181 0, .ref 300, .none, .ref 301, .ref 302, .ref 303, .int 689 0, .int 185 0, .str "/claim/cut.py" 690]
noncomputable def o_305 : Obj := fn "cut_last" "Ends.cut_last" (metS 64 3) .none (.str "wasmcore.passes" 633) (.ref 304)
noncomputable def o_306 : Obj := tp [.str "arities" 692]
noncomputable def o_307 (P : Params) : Obj := dc [es P "__module__" 642 (.str "wasmcore.passes" 633), es P "__firstlineno__" 646 (.int 161 645), es P "__init__" 654 (.ref 286), es P "cut" 670 (.ref 293), es P "cut_within" 676 (.ref 298), es P "cut_last" 691 (.ref 305), es P "__static_attributes__" 693 (.ref 306), es P "__dict__" 695 (.ref 309), es P "__weakref__" 697 (.ref 310), es P "__doc__" 698 .none] 4
noncomputable def o_308 : Obj := cl "Ends" [.type "object"] [.ref 308, .type "object"] 307 [none, none, some (.str "Ends" 635), some (.str "Ends" 643), some (.builtin "object.__new__"), some (.bool true)]
noncomputable def o_309 : Obj := ob "getset_descriptor" [.str "__dict__" 694, .ref 308, .builtin "function.__dict__", .builtin "function.__dict__#set"]
noncomputable def o_310 : Obj := ob "getset_descriptor" [.str "__weakref__" 696, .ref 308, .builtin "ExceptionGroup.__weakref__", .none]
noncomputable def o_311 : Obj := ob "super" [.ref 308, .ref 308, .ref 308]
noncomputable def o_312 : Obj := ob "builtin_function_or_method" [.builtin "object.__init_subclass__", .ref 308]
noncomputable def o_313 : Obj := tp []
noncomputable def o_314 : Obj := ob "builtin_function_or_method" [.builtin "type.__prepare__", .type "type"]
noncomputable def o_315 (P : Params) : Obj := dc [es P "__module__" 710 (.str "wasmcore.modules" 701), es P "__qualname__" 712 (.str "Import" 711), es P "__firstlineno__" 714 (.int 197 713), es P "__init__" 725 (.ref 326), es P "plain" 732 (.ref 333), es P "__static_attributes__" 737 (.ref 334)] 6
noncomputable def o_316 : Obj := tp []
noncomputable def o_317 : Obj := fl [.int 199 0, .int 4 0, .ref 325, .int 205 0, .int 4 0, .ref 332]
noncomputable def o_318 : Obj := co [.str "Import" 705, .str "Import" 706, .str "/claim/cut.py" 707, .int 197 0, .int 0 0, .int 0 0, .int 0 0, .int 0 0, .ref 316, .bool false, .int 181 0, .ref 317, .none, .none, .none, .none, .int 708 0, .int 197 0, .str "/claim/cut.py" 709]
noncomputable def o_319 : Obj := fm [some (.ref 318), some (.ref 3), some (.ref 315), none, some (.str "wasmcore.modules" 701), none, some (.ref 0)]
noncomputable def o_320 : Obj := tp []
noncomputable def o_321 : Obj := fl []
noncomputable def o_322 : Obj := tp [.str "self" 718, .str "place" 719, .str "name" 720, .str "sort" 721, .str "about" 722]
noncomputable def o_323 : Obj := tp []
noncomputable def o_324 : Obj := sh "__init__" "Import.__init__" (metS 66 0)
noncomputable def o_325 : Obj := co [.str "__init__" 715, .str "Import.__init__" 716, .str "/claim/cut.py" 717, .int 199 0, .int 5 0, .int 0 0, .int 0 0, .int 3 0, .ref 320, .bool true, .int 181 0, .ref 321, .none, .ref 322, .ref 323, .ref 324, .int 723 0, .int 199 0, .str "/claim/cut.py" 724]
noncomputable def o_326 : Obj := fn "__init__" "Import.__init__" (metS 66 0) .none (.str "wasmcore.modules" 701) (.ref 325)
noncomputable def o_327 : Obj := tp []
noncomputable def o_328 : Obj := fl []
noncomputable def o_329 : Obj := tp [.str "self" 729]
noncomputable def o_330 : Obj := tp []
noncomputable def o_331 : Obj := sh "plain" "Import.plain" (metS 66 1)
noncomputable def o_332 : Obj := co [.str "plain" 726, .str "Import.plain" 727, .str "/claim/cut.py" 728, .int 205 0, .int 1 0, .int 0 0, .int 0 0, .int 3 0, .ref 327, .bool true, .int 181 0, .ref 328, .none, .ref 329, .ref 330, .ref 331, .int 730 0, .int 205 0, .str "/claim/cut.py" 731]
noncomputable def o_333 : Obj := fn "plain" "Import.plain" (metS 66 1) .none (.str "wasmcore.modules" 701) (.ref 332)
noncomputable def o_334 : Obj := tp [.str "about" 733, .str "name" 734, .str "place" 735, .str "sort" 736]
noncomputable def o_335 (P : Params) : Obj := dc [es P "__module__" 710 (.str "wasmcore.modules" 701), es P "__firstlineno__" 714 (.int 197 713), es P "__init__" 725 (.ref 326), es P "plain" 732 (.ref 333), es P "__static_attributes__" 737 (.ref 334), es P "__dict__" 739 (.ref 337), es P "__weakref__" 741 (.ref 338), es P "__doc__" 742 .none] 4
noncomputable def o_336 : Obj := cl "Import" [.type "object"] [.ref 336, .type "object"] 335 [none, none, some (.str "Import" 703), some (.str "Import" 711), some (.builtin "object.__new__"), some (.bool true)]
noncomputable def o_337 : Obj := ob "getset_descriptor" [.str "__dict__" 738, .ref 336, .builtin "function.__dict__", .builtin "function.__dict__#set"]
noncomputable def o_338 : Obj := ob "getset_descriptor" [.str "__weakref__" 740, .ref 336, .builtin "ExceptionGroup.__weakref__", .none]
noncomputable def o_339 : Obj := ob "super" [.ref 336, .ref 336, .ref 336]
noncomputable def o_340 : Obj := ob "builtin_function_or_method" [.builtin "object.__init_subclass__", .ref 336]
noncomputable def o_341 : Obj := tp []
noncomputable def o_342 : Obj := ob "builtin_function_or_method" [.builtin "type.__prepare__", .type "type"]
noncomputable def o_343 (P : Params) : Obj := dc [es P "__module__" 752 (.str "wasmcore.modules" 701), es P "__qualname__" 754 (.str "Func" 753), es P "__firstlineno__" 756 (.int 207 755), es P "__init__" 766 (.ref 354), es P "plain" 773 (.ref 361), es P "__static_attributes__" 777 (.ref 362)] 6
noncomputable def o_344 : Obj := tp []
noncomputable def o_345 : Obj := fl [.int 209 0, .int 4 0, .ref 353, .int 214 0, .int 4 0, .ref 360]
noncomputable def o_346 : Obj := co [.str "Func" 747, .str "Func" 748, .str "/claim/cut.py" 749, .int 207 0, .int 0 0, .int 0 0, .int 0 0, .int 0 0, .ref 344, .bool false, .int 181 0, .ref 345, .none, .none, .none, .none, .int 750 0, .int 207 0, .str "/claim/cut.py" 751]
noncomputable def o_347 : Obj := fm [some (.ref 346), some (.ref 3), some (.ref 343), none, some (.str "wasmcore.modules" 701), none, some (.ref 0)]
noncomputable def o_348 : Obj := tp []
noncomputable def o_349 : Obj := fl []
noncomputable def o_350 : Obj := tp [.str "self" 760, .str "kind" 761, .str "locals_now" 762, .str "body" 763]
noncomputable def o_351 : Obj := tp []
noncomputable def o_352 : Obj := sh "__init__" "Func.__init__" (metS 67 0)
noncomputable def o_353 : Obj := co [.str "__init__" 757, .str "Func.__init__" 758, .str "/claim/cut.py" 759, .int 209 0, .int 4 0, .int 0 0, .int 0 0, .int 3 0, .ref 348, .bool true, .int 181 0, .ref 349, .none, .ref 350, .ref 351, .ref 352, .int 764 0, .int 209 0, .str "/claim/cut.py" 765]
noncomputable def o_354 : Obj := fn "__init__" "Func.__init__" (metS 67 0) .none (.str "wasmcore.modules" 701) (.ref 353)
noncomputable def o_355 : Obj := tp []
noncomputable def o_356 : Obj := fl []
noncomputable def o_357 : Obj := tp [.str "self" 770]
noncomputable def o_358 : Obj := tp []
noncomputable def o_359 : Obj := sh "plain" "Func.plain" (metS 67 1)
noncomputable def o_360 : Obj := co [.str "plain" 767, .str "Func.plain" 768, .str "/claim/cut.py" 769, .int 214 0, .int 1 0, .int 0 0, .int 0 0, .int 3 0, .ref 355, .bool true, .int 181 0, .ref 356, .none, .ref 357, .ref 358, .ref 359, .int 771 0, .int 214 0, .str "/claim/cut.py" 772]
noncomputable def o_361 : Obj := fn "plain" "Func.plain" (metS 67 1) .none (.str "wasmcore.modules" 701) (.ref 360)
noncomputable def o_362 : Obj := tp [.str "body" 774, .str "kind" 775, .str "locals" 776]
noncomputable def o_363 (P : Params) : Obj := dc [es P "__module__" 752 (.str "wasmcore.modules" 701), es P "__firstlineno__" 756 (.int 207 755), es P "__init__" 766 (.ref 354), es P "plain" 773 (.ref 361), es P "__static_attributes__" 777 (.ref 362), es P "__dict__" 779 (.ref 365), es P "__weakref__" 781 (.ref 366), es P "__doc__" 782 .none] 4
noncomputable def o_364 : Obj := cl "Func" [.type "object"] [.ref 364, .type "object"] 363 [none, none, some (.str "Func" 745), some (.str "Func" 753), some (.builtin "object.__new__"), some (.bool true)]
noncomputable def o_365 : Obj := ob "getset_descriptor" [.str "__dict__" 778, .ref 364, .builtin "function.__dict__", .builtin "function.__dict__#set"]
noncomputable def o_366 : Obj := ob "getset_descriptor" [.str "__weakref__" 780, .ref 364, .builtin "ExceptionGroup.__weakref__", .none]
noncomputable def o_367 : Obj := ob "super" [.ref 364, .ref 364, .ref 364]
noncomputable def o_368 : Obj := ob "builtin_function_or_method" [.builtin "object.__init_subclass__", .ref 364]
noncomputable def o_369 : Obj := tp []
noncomputable def o_370 : Obj := ob "builtin_function_or_method" [.builtin "type.__prepare__", .type "type"]
noncomputable def o_371 (P : Params) : Obj := dc [es P "__module__" 792 (.str "wasmcore.modules" 701), es P "__qualname__" 794 (.str "Module" 793), es P "__firstlineno__" 796 (.int 216 795), es P "__init__" 803 (.ref 382), es P "imported" 811 (.ref 389), es P "abouts" 817 (.ref 394), es P "func_kinds" 823 (.ref 399), es P "table_kinds" 830 (.ref 406), es P "memory_kinds" 837 (.ref 413), es P "global_kinds" 844 (.ref 420), es P "many" 853 (.ref 427), es P "func" 862 (.ref 434), es P "kind_of_func" 870 (.ref 441), es P (u [101, 120, 112, 111, 114, 116]) 878 (.ref 448), es P "plain" 886 (.ref 455), es P "bodies" 893 (.ref 462), es P "constants" 900 (.ref 469), es P "copy" 907 (.ref 476), es P "__static_attributes__" 919 (.ref 477)] 19
noncomputable def o_372 : Obj := tp []
noncomputable def o_373 : Obj := fl [.int 218 0, .int 4 0, .ref 381, .int 231 0, .int 4 0, .ref 388, .int 234 0, .int 4 0, .ref 393, .int 237 0, .int 4 0, .ref 398, .int 240 0, .int 4 0, .ref 405, .int 243 0, .int 4 0, .ref 412, .int 246 0, .int 4 0, .ref 419, .int 249 0, .int 4 0, .ref 426, .int 253 0, .int 4 0, .ref 433, .int 257 0, .int 4 0, .ref 440, .int 260 0, .int 4 0, .ref 447, .int 263 0, .int 4 0, .ref 454, .int 268 0, .int 4 0, .ref 461, .int 271 0, .int 4 0, .ref 468, .int 274 0, .int 4 0, .ref 475]
noncomputable def o_374 : Obj := co [.str "Module" 787, .str "Module" 788, .str "/claim/cut.py" 789, .int 216 0, .int 0 0, .int 0 0, .int 0 0, .int 0 0, .ref 372, .bool false, .int 181 0, .ref 373, .none, .none, .none, .none, .int 790 0, .int 216 0, .str "/claim/cut.py" 791]
noncomputable def o_375 : Obj := fm [some (.ref 374), some (.ref 3), some (.ref 371), none, some (.str "wasmcore.modules" 701), none, some (.ref 0)]
noncomputable def o_376 : Obj := tp []
noncomputable def o_377 : Obj := fl []
noncomputable def o_378 : Obj := tp [.str "self" 800]
noncomputable def o_379 : Obj := tp []
noncomputable def o_380 : Obj := sh "__init__" "Module.__init__" (metS 68 0)
noncomputable def o_381 : Obj := co [.str "__init__" 797, .str "Module.__init__" 798, .str "/claim/cut.py" 799, .int 218 0, .int 1 0, .int 0 0, .int 0 0, .int 3 0, .ref 376, .bool true, .int 181 0, .ref 377, .none, .ref 378, .ref 379, .ref 380, .int 801 0, .int 218 0, .str "/claim/cut.py" 802]
noncomputable def o_382 : Obj := fn "__init__" "Module.__init__" (metS 68 0) .none (.str "wasmcore.modules" 701) (.ref 381)
noncomputable def o_383 : Obj := tp []
noncomputable def o_384 : Obj := fl []
noncomputable def o_385 : Obj := tp [.str "self" 807, .str "sort" 808]
noncomputable def o_386 : Obj := tp []
noncomputable def o_387 : Obj := sh "imported" "Module.imported" (metS 68 1)
noncomputable def o_388 : Obj := co [.str "imported" 804, .str "Module.imported" 805, .str "/claim/cut.py" 806, .int 231 0, .int 2 0, .int 0 0, .int 0 0, .int 3 0, .ref 383, .bool true, .int 181 0, .ref 384, .none, .ref 385, .ref 386, .ref 387, .int 809 0, .int 231 0, .str "/claim/cut.py" 810]
noncomputable def o_389 : Obj := fn "imported" "Module.imported" (metS 68 1) .none (.str "wasmcore.modules" 701) (.ref 388)
noncomputable def o_390 : Obj := tp []
noncomputable def o_391 : Obj := fl []
noncomputable def o_392 : Obj := sh "abouts" "Module.abouts" (metS 68 2)
noncomputable def o_393 : Obj := co [.str "abouts" 812, .str "Module.abouts" 813, .str "/claim/cut.py" 814, .int 234 0, .int 2 0, .int 0 0, .int 0 0, .int 3 0, .ref 390, .bool true, .int 181 0, .ref 391, .none, .none, .none, .ref 392, .int 815 0, .int 234 0, .str "/claim/cut.py" 816]
noncomputable def o_394 : Obj := fn "abouts" "Module.abouts" (metS 68 2) .none (.str "wasmcore.modules" 701) (.ref 393)
noncomputable def o_395 : Obj := tp []
noncomputable def o_396 : Obj := fl []
noncomputable def o_397 : Obj := sh "func_kinds" "Module.func_kinds" (metS 68 3)
noncomputable def o_398 : Obj := co [.str "func_kinds" 818, .str "Module.func_kinds" 819, .str "/claim/cut.py" 820, .int 237 0, .int 1 0, .int 0 0, .int 0 0, .int 3 0, .ref 395, .bool true, .int 181 0, .ref 396, .none, .none, .none, .ref 397, .int 821 0, .int 237 0, .str "/claim/cut.py" 822]
noncomputable def o_399 : Obj := fn "func_kinds" "Module.func_kinds" (metS 68 3) .none (.str "wasmcore.modules" 701) (.ref 398)
noncomputable def o_400 : Obj := tp []
noncomputable def o_401 : Obj := fl []
noncomputable def o_402 : Obj := tp [.str "self" 827]
noncomputable def o_403 : Obj := tp []
noncomputable def o_404 : Obj := sh "table_kinds" "Module.table_kinds" (metS 68 4)
noncomputable def o_405 : Obj := co [.str "table_kinds" 824, .str "Module.table_kinds" 825, .str "/claim/cut.py" 826, .int 240 0, .int 1 0, .int 0 0, .int 0 0, .int 3 0, .ref 400, .bool true, .int 181 0, .ref 401, .none, .ref 402, .ref 403, .ref 404, .int 828 0, .int 240 0, .str "/claim/cut.py" 829]
noncomputable def o_406 : Obj := fn "table_kinds" "Module.table_kinds" (metS 68 4) .none (.str "wasmcore.modules" 701) (.ref 405)
noncomputable def o_407 : Obj := tp []
noncomputable def o_408 : Obj := fl []
noncomputable def o_409 : Obj := tp [.str "self" 834]
noncomputable def o_410 : Obj := tp []
noncomputable def o_411 : Obj := sh "memory_kinds" "Module.memory_kinds" (metS 68 5)
noncomputable def o_412 : Obj := co [.str "memory_kinds" 831, .str "Module.memory_kinds" 832, .str "/claim/cut.py" 833, .int 243 0, .int 1 0, .int 0 0, .int 0 0, .int 3 0, .ref 407, .bool true, .int 181 0, .ref 408, .none, .ref 409, .ref 410, .ref 411, .int 835 0, .int 243 0, .str "/claim/cut.py" 836]
noncomputable def o_413 : Obj := fn "memory_kinds" "Module.memory_kinds" (metS 68 5) .none (.str "wasmcore.modules" 701) (.ref 412)
noncomputable def o_414 : Obj := tp []
noncomputable def o_415 : Obj := fl []
noncomputable def o_416 : Obj := tp [.str "self" 841]
noncomputable def o_417 : Obj := tp []
noncomputable def o_418 : Obj := sh "global_kinds" "Module.global_kinds" (metS 68 6)
noncomputable def o_419 : Obj := co [.str "global_kinds" 838, .str "Module.global_kinds" 839, .str "/claim/cut.py" 840, .int 246 0, .int 1 0, .int 0 0, .int 0 0, .int 3 0, .ref 414, .bool true, .int 181 0, .ref 415, .none, .ref 416, .ref 417, .ref 418, .int 842 0, .int 246 0, .str "/claim/cut.py" 843]
noncomputable def o_420 : Obj := fn "global_kinds" "Module.global_kinds" (metS 68 6) .none (.str "wasmcore.modules" 701) (.ref 419)
noncomputable def o_421 : Obj := tp []
noncomputable def o_422 : Obj := fl []
noncomputable def o_423 : Obj := tp [.str "self" 848, .str "sort" 849, .str "own" 850]
noncomputable def o_424 : Obj := tp []
noncomputable def o_425 : Obj := sh "many" "Module.many" (metS 68 7)
noncomputable def o_426 : Obj := co [.str "many" 845, .str "Module.many" 846, .str "/claim/cut.py" 847, .int 249 0, .int 2 0, .int 0 0, .int 0 0, .int 3 0, .ref 421, .bool true, .int 181 0, .ref 422, .none, .ref 423, .ref 424, .ref 425, .int 851 0, .int 249 0, .str "/claim/cut.py" 852]
noncomputable def o_427 : Obj := fn "many" "Module.many" (metS 68 7) .none (.str "wasmcore.modules" 701) (.ref 426)
noncomputable def o_428 : Obj := tp []
noncomputable def o_429 : Obj := fl []
noncomputable def o_430 : Obj := tp [.str "self" 857, .str "index" 858, .str "place" 859]
noncomputable def o_431 : Obj := tp []
noncomputable def o_432 : Obj := sh "func" "Module.func" (metS 68 8)
noncomputable def o_433 : Obj := co [.str "func" 854, .str "Module.func" 855, .str "/claim/cut.py" 856, .int 253 0, .int 2 0, .int 0 0, .int 0 0, .int 3 0, .ref 428, .bool true, .int 181 0, .ref 429, .none, .ref 430, .ref 431, .ref 432, .int 860 0, .int 253 0, .str "/claim/cut.py" 861]
noncomputable def o_434 : Obj := fn "func" "Module.func" (metS 68 8) .none (.str "wasmcore.modules" 701) (.ref 433)
noncomputable def o_435 : Obj := tp []
noncomputable def o_436 : Obj := fl []
noncomputable def o_437 : Obj := tp [.str "self" 866, .str "index" 867]
noncomputable def o_438 : Obj := tp []
noncomputable def o_439 : Obj := sh "kind_of_func" "Module.kind_of_func" (metS 68 9)
noncomputable def o_440 : Obj := co [.str "kind_of_func" 863, .str "Module.kind_of_func" 864, .str "/claim/cut.py" 865, .int 257 0, .int 2 0, .int 0 0, .int 0 0, .int 3 0, .ref 435, .bool true, .int 181 0, .ref 436, .none, .ref 437, .ref 438, .ref 439, .int 868 0, .int 257 0, .str "/claim/cut.py" 869]
noncomputable def o_441 : Obj := fn "kind_of_func" "Module.kind_of_func" (metS 68 9) .none (.str "wasmcore.modules" 701) (.ref 440)
noncomputable def o_442 : Obj := tp []
noncomputable def o_443 : Obj := fl []
noncomputable def o_444 : Obj := tp [.str "self" 874, .str "name" 875]
noncomputable def o_445 : Obj := tp []
noncomputable def o_446 : Obj := sh (u [101, 120, 112, 111, 114, 116]) (u [77, 111, 100, 117, 108, 101, 46, 101, 120, 112, 111, 114, 116]) (metS 68 10)
noncomputable def o_447 : Obj := co [.str (u [101, 120, 112, 111, 114, 116]) 871, .str (u [77, 111, 100, 117, 108, 101, 46, 101, 120, 112, 111, 114, 116]) 872, .str "/claim/cut.py" 873, .int 260 0, .int 2 0, .int 0 0, .int 0 0, .int 3 0, .ref 442, .bool true, .int 181 0, .ref 443, .none, .ref 444, .ref 445, .ref 446, .int 876 0, .int 260 0, .str "/claim/cut.py" 877]
noncomputable def o_448 : Obj := fn (u [101, 120, 112, 111, 114, 116]) (u [77, 111, 100, 117, 108, 101, 46, 101, 120, 112, 111, 114, 116]) (metS 68 10) .none (.str "wasmcore.modules" 701) (.ref 447)
noncomputable def o_449 : Obj := tp []
noncomputable def o_450 : Obj := fl []
noncomputable def o_451 : Obj := tp [.str "self" 882, .str "own" 883]
noncomputable def o_452 : Obj := tp []
noncomputable def o_453 : Obj := sh "plain" "Module.plain" (metS 68 11)
noncomputable def o_454 : Obj := co [.str "plain" 879, .str "Module.plain" 880, .str "/claim/cut.py" 881, .int 263 0, .int 1 0, .int 0 0, .int 0 0, .int 3 0, .ref 449, .bool true, .int 181 0, .ref 450, .none, .ref 451, .ref 452, .ref 453, .int 884 0, .int 263 0, .str "/claim/cut.py" 885]
noncomputable def o_455 : Obj := fn "plain" "Module.plain" (metS 68 11) .none (.str "wasmcore.modules" 701) (.ref 454)
noncomputable def o_456 : Obj := tp []
noncomputable def o_457 : Obj := fl []
noncomputable def o_458 : Obj := tp [.str "self" 890]
noncomputable def o_459 : Obj := tp []
noncomputable def o_460 : Obj := sh "bodies" "Module.bodies" (metS 68 12)
noncomputable def o_461 : Obj := co [.str "bodies" 887, .str "Module.bodies" 888, .str "/claim/cut.py" 889, .int 268 0, .int 1 0, .int 0 0, .int 0 0, .int 3 0, .ref 456, .bool true, .int 181 0, .ref 457, .none, .ref 458, .ref 459, .ref 460, .int 891 0, .int 268 0, .str "/claim/cut.py" 892]
noncomputable def o_462 : Obj := fn "bodies" "Module.bodies" (metS 68 12) .none (.str "wasmcore.modules" 701) (.ref 461)
noncomputable def o_463 : Obj := tp []
noncomputable def o_464 : Obj := fl []
noncomputable def o_465 : Obj := tp [.str "self" 897]
noncomputable def o_466 : Obj := tp []
noncomputable def o_467 : Obj := sh "constants" "Module.constants" (metS 68 13)
noncomputable def o_468 : Obj := co [.str "constants" 894, .str "Module.constants" 895, .str "/claim/cut.py" 896, .int 271 0, .int 1 0, .int 0 0, .int 0 0, .int 3 0, .ref 463, .bool true, .int 181 0, .ref 464, .none, .ref 465, .ref 466, .ref 467, .int 898 0, .int 271 0, .str "/claim/cut.py" 899]
noncomputable def o_469 : Obj := fn "constants" "Module.constants" (metS 68 13) .none (.str "wasmcore.modules" 701) (.ref 468)
noncomputable def o_470 : Obj := tp []
noncomputable def o_471 : Obj := fl []
noncomputable def o_472 : Obj := tp [.str "self" 904]
noncomputable def o_473 : Obj := tp []
noncomputable def o_474 : Obj := sh "copy" "Module.copy" (metS 68 14)
noncomputable def o_475 : Obj := co [.str "copy" 901, .str "Module.copy" 902, .str "/claim/cut.py" 903, .int 274 0, .int 1 0, .int 0 0, .int 0 0, .int 3 0, .ref 470, .bool true, .int 181 0, .ref 471, .none, .ref 472, .ref 473, .ref 474, .int 905 0, .int 274 0, .str "/claim/cut.py" 906]
noncomputable def o_476 : Obj := fn "copy" "Module.copy" (metS 68 14) .none (.str "wasmcore.modules" 701) (.ref 475)
noncomputable def o_477 : Obj := tp [.str "customs" 908, .str "datas" 909, .str "elems" 910, .str "exports" 911, .str "funcs" 912, .str "globals" 913, .str "imports" 914, .str "kinds" 915, .str "memories" 916, .str "start" 917, .str "tables" 918]
noncomputable def o_478 (P : Params) : Obj := dc [es P "__module__" 792 (.str "wasmcore.modules" 701), es P "__firstlineno__" 796 (.int 216 795), es P "__init__" 803 (.ref 382), es P "imported" 811 (.ref 389), es P "abouts" 817 (.ref 394), es P "func_kinds" 823 (.ref 399), es P "table_kinds" 830 (.ref 406), es P "memory_kinds" 837 (.ref 413), es P "global_kinds" 844 (.ref 420), es P "many" 853 (.ref 427), es P "func" 862 (.ref 434), es P "kind_of_func" 870 (.ref 441), es P (u [101, 120, 112, 111, 114, 116]) 878 (.ref 448), es P "plain" 886 (.ref 455), es P "bodies" 893 (.ref 462), es P "constants" 900 (.ref 469), es P "copy" 907 (.ref 476), es P "__static_attributes__" 919 (.ref 477), es P "__dict__" 921 (.ref 480), es P "__weakref__" 923 (.ref 481), es P "__doc__" 924 .none] 4
noncomputable def o_479 : Obj := cl "Module" [.type "object"] [.ref 479, .type "object"] 478 [none, none, some (.str "Module" 785), some (.str "Module" 793), some (.builtin "object.__new__"), some (.bool true)]
noncomputable def o_480 : Obj := ob "getset_descriptor" [.str "__dict__" 920, .ref 479, .builtin "function.__dict__", .builtin "function.__dict__#set"]
noncomputable def o_481 : Obj := ob "getset_descriptor" [.str "__weakref__" 922, .ref 479, .builtin "ExceptionGroup.__weakref__", .none]
noncomputable def o_482 : Obj := ob "super" [.ref 479, .ref 479, .ref 479]
noncomputable def o_483 : Obj := ob "builtin_function_or_method" [.builtin "object.__init_subclass__", .ref 479]
noncomputable def o_484 : Obj := tp []
noncomputable def o_485 : Obj := fl []
noncomputable def o_486 : Obj := sh "parts_of" "parts_of" (topS 69)
noncomputable def o_487 : Obj := co [.str "parts_of" 927, .str "parts_of" 928, .str "/claim/cut.py" 929, .int 276 0, .int 1 0, .int 0 0, .int 0 0, .int 3 0, .ref 484, .bool true, .int 181 0, .ref 485, .none, .none, .none, .ref 486, .int 930 0, .int 276 0, .str "/claim/cut.py" 931]
noncomputable def o_488 : Obj := fn "parts_of" "parts_of" (topS 69) .none (.str "wasmcore.modules" 701) (.ref 487)
noncomputable def o_489 : Obj := tp []
noncomputable def o_490 : Obj := fl []
noncomputable def o_491 : Obj := tp [.str "tape" 938]
noncomputable def o_492 : Obj := tp []
noncomputable def o_493 : Obj := sh "_law_next" "_law_next" (topS 71)
noncomputable def o_494 : Obj := co [.str "_law_next" 935, .str "_law_next" 936, .str "/claim/cut.py" 937, .int 279 0, .int 1 0, .int 0 0, .int 0 0, .int 3 0, .ref 489, .bool true, .int 181 0, .ref 490, .none, .ref 491, .ref 492, .ref 493, .int 939 0, .int 279 0, .str "/claim/cut.py" 940]
noncomputable def o_495 : Obj := fn "_law_next" "_law_next" (topS 71) .none (.str "law_nm0148_01" 933) (.ref 494)
noncomputable def o_496 : Obj := tp []
noncomputable def o_497 : Obj := fl []
noncomputable def o_498 : Obj := tp []
noncomputable def o_499 : Obj := tp []
noncomputable def o_500 : Obj := sh "_law_deeds" "_law_deeds" (topS 72)
noncomputable def o_501 : Obj := co [.str "_law_deeds" 942, .str "_law_deeds" 943, .str "/claim/cut.py" 944, .int 281 0, .int 0 0, .int 0 0, .int 0 0, .int 3 0, .ref 496, .bool true, .int 181 0, .ref 497, .none, .ref 498, .ref 499, .ref 500, .int 945 0, .int 281 0, .str "/claim/cut.py" 946]
noncomputable def o_502 : Obj := fn "_law_deeds" "_law_deeds" (topS 72) .none (.str "law_nm0148_01" 933) (.ref 501)
noncomputable def o_503 : Obj := tp []
noncomputable def o_504 : Obj := fl []
noncomputable def o_505 : Obj := tp [.str "near" 951, .str "far" 952, .str "some" 953]
noncomputable def o_506 : Obj := tp []
noncomputable def o_507 : Obj := sh "_law_both" "_law_both" (topS 73)
noncomputable def o_508 : Obj := co [.str "_law_both" 948, .str "_law_both" 949, .str "/claim/cut.py" 950, .int 283 0, .int 3 0, .int 0 0, .int 0 0, .int 3 0, .ref 503, .bool true, .int 181 0, .ref 504, .none, .ref 505, .ref 506, .ref 507, .int 954 0, .int 283 0, .str "/claim/cut.py" 955]
noncomputable def o_509 : Obj := fn "_law_both" "_law_both" (topS 73) .none (.str "law_nm0148_01" 933) (.ref 508)
noncomputable def o_510 : Obj := tp []
noncomputable def o_511 : Obj := fl []
noncomputable def o_512 : Obj := tp [.str "near" 960, .str "far" 961, .str "high" 962, .str "wanted" 963]
noncomputable def o_513 : Obj := tp []
noncomputable def o_514 : Obj := sh "_law_high" "_law_high" (topS 74)
noncomputable def o_515 : Obj := co [.str "_law_high" 957, .str "_law_high" 958, .str "/claim/cut.py" 959, .int 286 0, .int 4 0, .int 0 0, .int 0 0, .int 3 0, .ref 510, .bool true, .int 181 0, .ref 511, .none, .ref 512, .ref 513, .ref 514, .int 964 0, .int 286 0, .str "/claim/cut.py" 965]
noncomputable def o_516 : Obj := fn "_law_high" "_law_high" (topS 74) .none (.str "law_nm0148_01" 933) (.ref 515)
noncomputable def o_517 : Obj := tp []
noncomputable def o_518 : Obj := fl []
noncomputable def o_519 : Obj := tp [.str "tape" 970, .str "near" 971, .str "far" 972, .str "high" 973, .str "pick" 974, .str "some" 975, .str "takes" 976, .str "puts" 977, .str "index" 978, .str "kind" 979]
noncomputable def o_520 : Obj := tp []
noncomputable def o_521 : Obj := sh "_law_plain" "_law_plain" (topS 75)
noncomputable def o_522 : Obj := co [.str "_law_plain" 967, .str "_law_plain" 968, .str "/claim/cut.py" 969, .int 289 0, .int 4 0, .int 0 0, .int 0 0, .int 3 0, .ref 517, .bool true, .int 181 0, .ref 518, .none, .ref 519, .ref 520, .ref 521, .int 980 0, .int 289 0, .str "/claim/cut.py" 981]
noncomputable def o_523 : Obj := fn "_law_plain" "_law_plain" (topS 75) .none (.str "law_nm0148_01" 933) (.ref 522)
noncomputable def o_524 : Obj := tp []
noncomputable def o_525 : Obj := fl []
noncomputable def o_526 : Obj := sh "_law_block" "_law_block" (topS 76)
noncomputable def o_527 : Obj := co [.str "_law_block" 983, .str "_law_block" 984, .str "/claim/cut.py" 985, .int 303 0, .int 8 0, .int 0 0, .int 0 0, .int 3 0, .ref 524, .bool true, .int 181 0, .ref 525, .none, .none, .none, .ref 526, .int 986 0, .int 303 0, .str "/claim/cut.py" 987]
noncomputable def o_528 : Obj := fn "_law_block" "_law_block" (topS 76) .none (.str "law_nm0148_01" 933) (.ref 527)
noncomputable def o_529 : Obj := tp []
noncomputable def o_530 : Obj := fl []
noncomputable def o_531 : Obj := tp [.str "tape" 992, .str "near" 993, .str "far" 994, .str "high" 995, .str "results" 996, .str "tails" 997, .str "labels" 998, .str "way" 999, .str "label" 1000, .str "many" 1001, .str "plain" 1002, .str "more" 1003, .str "asks" 1004, .str "is_cut" 1005]
noncomputable def o_532 : Obj := tp []
noncomputable def o_533 : Obj := sh "_law_end" "_law_end" (topS 77)
noncomputable def o_534 : Obj := co [.str "_law_end" 989, .str "_law_end" 990, .str "/claim/cut.py" 991, .int 316 0, .int 7 0, .int 0 0, .int 0 0, .int 3 0, .ref 529, .bool true, .int 181 0, .ref 530, .none, .ref 531, .ref 532, .ref 533, .int 1006 0, .int 316 0, .str "/claim/cut.py" 1007]
noncomputable def o_535 : Obj := fn "_law_end" "_law_end" (topS 77) .none (.str "law_nm0148_01" 933) (.ref 534)
noncomputable def o_536 : Obj := tp []
noncomputable def o_537 : Obj := fl []
noncomputable def o_538 : Obj := tp [.str "tape" 1012, .str "near" 1013, .str "far" 1014, .str "high" 1015, .str "results" 1016, .str "tails" 1017, .str "labels" 1018, .str "depth" 1019, .str "k" 1020, .str "takes" 1021, .str "puts" 1022, .str "beneath" 1023]
noncomputable def o_539 : Obj := tp []
noncomputable def o_540 : Obj := sh "_law_list" "_law_list" (topS 78)
noncomputable def o_541 : Obj := co [.str "_law_list" 1009, .str "_law_list" 1010, .str "/claim/cut.py" 1011, .int 337 0, .int 8 0, .int 0 0, .int 0 0, .int 3 0, .ref 536, .bool true, .int 181 0, .ref 537, .none, .ref 538, .ref 539, .ref 540, .int 1024 0, .int 337 0, .str "/claim/cut.py" 1025]
noncomputable def o_542 : Obj := fn "_law_list" "_law_list" (topS 78) .none (.str "law_nm0148_01" 933) (.ref 541)
noncomputable def o_543 : Obj := tp []
noncomputable def o_544 : Obj := fl []
noncomputable def o_545 : Obj := sh "law" "law" (topS 79)
noncomputable def o_546 : Obj := co [.str "law" 1027, .str "law" 1028, .str "/claim/cut.py" 1029, .int 354 0, .int 1 0, .int 0 0, .int 0 0, .int 3 0, .ref 543, .bool true, .int 181 0, .ref 544, .none, .none, .none, .ref 545, .int 1030 0, .int 354 0, .str "/claim/cut.py" 1031]
noncomputable def o_547 : Obj := fn "law" "law" (topS 79) .none (.str "law_nm0148_01" 933) (.ref 546)
noncomputable def objs (P : Params) : List Obj := [boot_o_0 P, boot_o_1 P, boot_o_2 P, o_3 P, boot_o_4 P, boot_o_5 P, boot_o_6 P, boot_o_7 P, boot_o_8 P, boot_o_9 P, boot_o_10 P, o_11, o_12, o_13, o_14, o_15, o_16, o_17, o_18, o_19, o_20, o_21, o_22, o_23, o_24, o_25, o_26, o_27, o_28, o_29, o_30, o_31, o_32, o_33, o_34, o_35, o_36, o_37, o_38, o_39, o_40, o_41, o_42, o_43, o_44, o_45, o_46, o_47, o_48, o_49, o_50, o_51, o_52, o_53, o_54, o_55, o_56, o_57, o_58, o_59, o_60, o_61, o_62, o_63, o_64, o_65, o_66, o_67, o_68, o_69, o_70, o_71, o_72, o_73, o_74, o_75, o_76, o_77, o_78, o_79, o_80, o_81, o_82, o_83, o_84, o_85, o_86, o_87, o_88, o_89, o_90, o_91, o_92, o_93, o_94, o_95, o_96, o_97, o_98, o_99, o_100, o_101, o_102, o_103, o_104, o_105, o_106, o_107, o_108, o_109, o_110, o_111, o_112, o_113, o_114, o_115, o_116, o_117, o_118, o_119, o_120, o_121, o_122, o_123, o_124, o_125, o_126, o_127, o_128, o_129, o_130, o_131, o_132, o_133, o_134, o_135, o_136, o_137, o_138, o_139, o_140, o_141, o_142, o_143, o_144, o_145, o_146, o_147, o_148, o_149, o_150, o_151, o_152, o_153, o_154, o_155, o_156 P, o_157, o_158, o_159, o_160, o_161, o_162, o_163, o_164, o_165, o_166, o_167, o_168, o_169, o_170, o_171, o_172, o_173, o_174, o_175, o_176, o_177, o_178, o_179, o_180, o_181, o_182, o_183, o_184, o_185, o_186, o_187, o_188, o_189, o_190 P, o_191, o_192, o_193, o_194, o_195, o_196, o_197, o_198, o_199, o_200, o_201, o_202, o_203, o_204, o_205, o_206, o_207, o_208, o_209, o_210, o_211, o_212, o_213, o_214, o_215, o_216, o_217, o_218, o_219 P, o_220, o_221, o_222, o_223, o_224, o_225, o_226, o_227, o_228, o_229, o_230, o_231, o_232, o_233, o_234, o_235, o_236, o_237, o_238, o_239, o_240, o_241, o_242, o_243, o_244, o_245, o_246, o_247, o_248, o_249, o_250, o_251, o_252, o_253, o_254, o_255, o_256, o_257, o_258, o_259, o_260, o_261, o_262, o_263, o_264, o_265, o_266, o_267 P, o_268, o_269, o_270, o_271, o_272, o_273, o_274, o_275 P, o_276, o_277, o_278, o_279, o_280, o_281, o_282, o_283, o_284, o_285, o_286, o_287, o_288, o_289, o_290, o_291, o_292, o_293, o_294, o_295, o_296, o_297, o_298, o_299, o_300, o_301, o_302, o_303, o_304, o_305, o_306, o_307 P, o_308, o_309, o_310, o_311, o_312, o_313, o_314, o_315 P, o_316, o_317, o_318, o_319, o_320, o_321, o_322, o_323, o_324, o_325, o_326, o_327, o_328, o_329, o_330, o_331, o_332, o_333, o_334, o_335 P, o_336, o_337, o_338, o_339, o_340, o_341, o_342, o_343 P, o_344, o_345, o_346, o_347, o_348, o_349, o_350, o_351, o_352, o_353, o_354, o_355, o_356, o_357, o_358, o_359, o_360, o_361, o_362, o_363 P, o_364, o_365, o_366, o_367, o_368, o_369, o_370, o_371 P, o_372, o_373, o_374, o_375, o_376, o_377, o_378, o_379, o_380, o_381, o_382, o_383, o_384, o_385, o_386, o_387, o_388, o_389, o_390, o_391, o_392, o_393, o_394, o_395, o_396, o_397, o_398, o_399, o_400, o_401, o_402, o_403, o_404, o_405, o_406, o_407, o_408, o_409, o_410, o_411, o_412, o_413, o_414, o_415, o_416, o_417, o_418, o_419, o_420, o_421, o_422, o_423, o_424, o_425, o_426, o_427, o_428, o_429, o_430, o_431, o_432, o_433, o_434, o_435, o_436, o_437, o_438, o_439, o_440, o_441, o_442, o_443, o_444, o_445, o_446, o_447, o_448, o_449, o_450, o_451, o_452, o_453, o_454, o_455, o_456, o_457, o_458, o_459, o_460, o_461, o_462, o_463, o_464, o_465, o_466, o_467, o_468, o_469, o_470, o_471, o_472, o_473, o_474, o_475, o_476, o_477, o_478 P, o_479, o_480, o_481, o_482, o_483, o_484, o_485, o_486, o_487, o_488, o_489, o_490, o_491, o_492, o_493, o_494, o_495, o_496, o_497, o_498, o_499, o_500, o_501, o_502, o_503, o_504, o_505, o_506, o_507, o_508, o_509, o_510, o_511, o_512, o_513, o_514, o_515, o_516, o_517, o_518, o_519, o_520, o_521, o_522, o_523, o_524, o_525, o_526, o_527, o_528, o_529, o_530, o_531, o_532, o_533, o_534, o_535, o_536, o_537, o_538, o_539, o_540, o_541, o_542, o_543, o_544, o_545, o_546, o_547]
noncomputable def heap (P : Params) : Frag := [(nat_lit 2, boot_o_2 P), (nat_lit 3, o_3 P), (nat_lit 15, o_15), (nat_lit 17, o_17), (nat_lit 18, o_18), (nat_lit 20, o_20), (nat_lit 21, o_21), (nat_lit 22, o_22), (nat_lit 23, o_23), (nat_lit 24, o_24), (nat_lit 25, o_25), (nat_lit 26, o_26), (nat_lit 27, o_27), (nat_lit 28, o_28), (nat_lit 29, o_29), (nat_lit 30, o_30), (nat_lit 31, o_31), (nat_lit 32, o_32), (nat_lit 33, o_33), (nat_lit 34, o_34), (nat_lit 35, o_35), (nat_lit 36, o_36), (nat_lit 37, o_37), (nat_lit 38, o_38), (nat_lit 39, o_39), (nat_lit 40, o_40), (nat_lit 41, o_41), (nat_lit 42, o_42), (nat_lit 43, o_43), (nat_lit 44, o_44), (nat_lit 45, o_45), (nat_lit 46, o_46), (nat_lit 47, o_47), (nat_lit 48, o_48), (nat_lit 49, o_49), (nat_lit 50, o_50), (nat_lit 51, o_51), (nat_lit 52, o_52), (nat_lit 53, o_53), (nat_lit 54, o_54), (nat_lit 55, o_55), (nat_lit 56, o_56), (nat_lit 57, o_57), (nat_lit 58, o_58), (nat_lit 59, o_59), (nat_lit 60, o_60), (nat_lit 61, o_61), (nat_lit 62, o_62), (nat_lit 63, o_63), (nat_lit 64, o_64), (nat_lit 65, o_65), (nat_lit 66, o_66), (nat_lit 67, o_67), (nat_lit 68, o_68), (nat_lit 69, o_69), (nat_lit 70, o_70), (nat_lit 71, o_71), (nat_lit 72, o_72), (nat_lit 73, o_73), (nat_lit 74, o_74), (nat_lit 75, o_75), (nat_lit 76, o_76), (nat_lit 77, o_77), (nat_lit 78, o_78), (nat_lit 79, o_79), (nat_lit 80, o_80), (nat_lit 81, o_81), (nat_lit 82, o_82), (nat_lit 83, o_83), (nat_lit 84, o_84), (nat_lit 85, o_85), (nat_lit 86, o_86), (nat_lit 87, o_87), (nat_lit 88, o_88), (nat_lit 89, o_89), (nat_lit 90, o_90), (nat_lit 91, o_91), (nat_lit 92, o_92), (nat_lit 93, o_93), (nat_lit 94, o_94), (nat_lit 95, o_95), (nat_lit 96, o_96), (nat_lit 97, o_97), (nat_lit 98, o_98), (nat_lit 99, o_99), (nat_lit 100, o_100), (nat_lit 101, o_101), (nat_lit 102, o_102), (nat_lit 103, o_103), (nat_lit 104, o_104), (nat_lit 105, o_105), (nat_lit 106, o_106), (nat_lit 107, o_107), (nat_lit 108, o_108), (nat_lit 109, o_109), (nat_lit 110, o_110), (nat_lit 111, o_111), (nat_lit 112, o_112), (nat_lit 113, o_113), (nat_lit 114, o_114), (nat_lit 115, o_115), (nat_lit 116, o_116), (nat_lit 117, o_117), (nat_lit 118, o_118), (nat_lit 119, o_119), (nat_lit 120, o_120), (nat_lit 121, o_121), (nat_lit 122, o_122), (nat_lit 123, o_123), (nat_lit 125, o_125), (nat_lit 126, o_126), (nat_lit 128, o_128), (nat_lit 129, o_129), (nat_lit 130, o_130), (nat_lit 132, o_132), (nat_lit 133, o_133), (nat_lit 135, o_135), (nat_lit 136, o_136), (nat_lit 137, o_137), (nat_lit 138, o_138), (nat_lit 139, o_139), (nat_lit 140, o_140), (nat_lit 141, o_141), (nat_lit 142, o_142), (nat_lit 143, o_143), (nat_lit 144, o_144), (nat_lit 145, o_145), (nat_lit 146, o_146), (nat_lit 147, o_147), (nat_lit 148, o_148), (nat_lit 149, o_149), (nat_lit 150, o_150), (nat_lit 151, o_151), (nat_lit 152, o_152), (nat_lit 153, o_153), (nat_lit 161, o_161), (nat_lit 162, o_162), (nat_lit 164, o_164), (nat_lit 165, o_165), (nat_lit 167, o_167), (nat_lit 168, o_168), (nat_lit 169, o_169), (nat_lit 171, o_171), (nat_lit 172, o_172), (nat_lit 174, o_174), (nat_lit 175, o_175), (nat_lit 176, o_176), (nat_lit 177, o_177), (nat_lit 180, o_180), (nat_lit 181, o_181), (nat_lit 182, o_182), (nat_lit 184, o_184), (nat_lit 185, o_185), (nat_lit 187, o_187), (nat_lit 188, o_188), (nat_lit 189, o_189), (nat_lit 190, o_190 P), (nat_lit 191, o_191), (nat_lit 192, o_192), (nat_lit 193, o_193), (nat_lit 196, o_196), (nat_lit 198, o_198), (nat_lit 199, o_199), (nat_lit 201, o_201), (nat_lit 202, o_202), (nat_lit 203, o_203), (nat_lit 205, o_205), (nat_lit 206, o_206), (nat_lit 208, o_208), (nat_lit 209, o_209), (nat_lit 210, o_210), (nat_lit 212, o_212), (nat_lit 213, o_213), (nat_lit 215, o_215), (nat_lit 216, o_216), (nat_lit 224, o_224), (nat_lit 226, o_226), (nat_lit 227, o_227), (nat_lit 229, o_229), (nat_lit 230, o_230), (nat_lit 231, o_231), (nat_lit 233, o_233), (nat_lit 234, o_234), (nat_lit 236, o_236), (nat_lit 237, o_237), (nat_lit 238, o_238), (nat_lit 240, o_240), (nat_lit 241, o_241), (nat_lit 243, o_243), (nat_lit 244, o_244), (nat_lit 245, o_245), (nat_lit 247, o_247), (nat_lit 248, o_248), (nat_lit 250, o_250), (nat_lit 251, o_251), (nat_lit 252, o_252), (nat_lit 254, o_254), (nat_lit 255, o_255), (nat_lit 257, o_257), (nat_lit 258, o_258), (nat_lit 259, o_259), (nat_lit 261, o_261), (nat_lit 262, o_262), (nat_lit 264, o_264), (nat_lit 265, o_265), (nat_lit 266, o_266), (nat_lit 267, o_267 P), (nat_lit 268, o_268), (nat_lit 269, o_269), (nat_lit 270, o_270), (nat_lit 280, o_280), (nat_lit 282, o_282), (nat_lit 283, o_283), (nat_lit 285, o_285), (nat_lit 286, o_286), (nat_lit 287, o_287), (nat_lit 289, o_289), (nat_lit 290, o_290), (nat_lit 292, o_292), (nat_lit 293, o_293), (nat_lit 294, o_294), (nat_lit 297, o_297), (nat_lit 298, o_298), (nat_lit 299, o_299), (nat_lit 301, o_301), (nat_lit 302, o_302), (nat_lit 304, o_304), (nat_lit 305, o_305), (nat_lit 306, o_306), (nat_lit 307, o_307 P), (nat_lit 308, o_308), (nat_lit 309, o_309), (nat_lit 310, o_310), (nat_lit 320, o_320), (nat_lit 322, o_322), (nat_lit 323, o_323), (nat_lit 325, o_325), (nat_lit 326, o_326), (nat_lit 327, o_327), (nat_lit 329, o_329), (nat_lit 330, o_330), (nat_lit 332, o_332), (nat_lit 333, o_333), (nat_lit 334, o_334), (nat_lit 335, o_335 P), (nat_lit 336, o_336), (nat_lit 337, o_337), (nat_lit 338, o_338), (nat_lit 348, o_348), (nat_lit 350, o_350), (nat_lit 351, o_351), (nat_lit 353, o_353), (nat_lit 354, o_354), (nat_lit 355, o_355), (nat_lit 357, o_357), (nat_lit 358, o_358), (nat_lit 360, o_360), (nat_lit 361, o_361), (nat_lit 362, o_362), (nat_lit 363, o_363 P), (nat_lit 364, o_364), (nat_lit 365, o_365), (nat_lit 366, o_366), (nat_lit 376, o_376), (nat_lit 378, o_378), (nat_lit 379, o_379), (nat_lit 381, o_381), (nat_lit 382, o_382), (nat_lit 383, o_383), (nat_lit 385, o_385), (nat_lit 386, o_386), (nat_lit 388, o_388), (nat_lit 389, o_389), (nat_lit 390, o_390), (nat_lit 393, o_393), (nat_lit 394, o_394), (nat_lit 395, o_395), (nat_lit 398, o_398), (nat_lit 399, o_399), (nat_lit 400, o_400), (nat_lit 402, o_402), (nat_lit 403, o_403), (nat_lit 405, o_405), (nat_lit 406, o_406), (nat_lit 407, o_407), (nat_lit 409, o_409), (nat_lit 410, o_410), (nat_lit 412, o_412), (nat_lit 413, o_413), (nat_lit 414, o_414), (nat_lit 416, o_416), (nat_lit 417, o_417), (nat_lit 419, o_419), (nat_lit 420, o_420), (nat_lit 421, o_421), (nat_lit 423, o_423), (nat_lit 424, o_424), (nat_lit 426, o_426), (nat_lit 427, o_427), (nat_lit 428, o_428), (nat_lit 430, o_430), (nat_lit 431, o_431), (nat_lit 433, o_433), (nat_lit 434, o_434), (nat_lit 435, o_435), (nat_lit 437, o_437), (nat_lit 438, o_438), (nat_lit 440, o_440), (nat_lit 441, o_441), (nat_lit 442, o_442), (nat_lit 444, o_444), (nat_lit 445, o_445), (nat_lit 447, o_447), (nat_lit 448, o_448), (nat_lit 449, o_449), (nat_lit 451, o_451), (nat_lit 452, o_452), (nat_lit 454, o_454), (nat_lit 455, o_455), (nat_lit 456, o_456), (nat_lit 458, o_458), (nat_lit 459, o_459), (nat_lit 461, o_461), (nat_lit 462, o_462), (nat_lit 463, o_463), (nat_lit 465, o_465), (nat_lit 466, o_466), (nat_lit 468, o_468), (nat_lit 469, o_469), (nat_lit 470, o_470), (nat_lit 472, o_472), (nat_lit 473, o_473), (nat_lit 475, o_475), (nat_lit 476, o_476), (nat_lit 477, o_477), (nat_lit 478, o_478 P), (nat_lit 479, o_479), (nat_lit 480, o_480), (nat_lit 481, o_481), (nat_lit 484, o_484), (nat_lit 487, o_487), (nat_lit 488, o_488), (nat_lit 489, o_489), (nat_lit 491, o_491), (nat_lit 492, o_492), (nat_lit 494, o_494), (nat_lit 495, o_495), (nat_lit 496, o_496), (nat_lit 498, o_498), (nat_lit 499, o_499), (nat_lit 501, o_501), (nat_lit 502, o_502), (nat_lit 503, o_503), (nat_lit 505, o_505), (nat_lit 506, o_506), (nat_lit 508, o_508), (nat_lit 509, o_509), (nat_lit 510, o_510), (nat_lit 512, o_512), (nat_lit 513, o_513), (nat_lit 515, o_515), (nat_lit 516, o_516), (nat_lit 517, o_517), (nat_lit 519, o_519), (nat_lit 520, o_520), (nat_lit 522, o_522), (nat_lit 523, o_523), (nat_lit 524, o_524), (nat_lit 527, o_527), (nat_lit 528, o_528), (nat_lit 529, o_529), (nat_lit 531, o_531), (nat_lit 532, o_532), (nat_lit 534, o_534), (nat_lit 535, o_535), (nat_lit 536, o_536), (nat_lit 538, o_538), (nat_lit 539, o_539), (nat_lit 541, o_541), (nat_lit 542, o_542), (nat_lit 543, o_543), (nat_lit 546, o_546), (nat_lit 547, o_547)]
noncomputable def keys : List Addr := [2, 3, 15, 17, 18, 20, 21, 22, 23, 24, 25, 26, 27, 28, 29, 30, 31, 32, 33, 34, 35, 36, 37, 38, 39, 40, 41, 42, 43, 44, 45, 46, 47, 48, 49, 50, 51, 52, 53, 54, 55, 56, 57, 58, 59, 60, 61, 62, 63, 64, 65, 66, 67, 68, 69, 70, 71, 72, 73, 74, 75, 76, 77, 78, 79, 80, 81, 82, 83, 84, 85, 86, 87, 88, 89, 90, 91, 92, 93, 94, 95, 96, 97, 98, 99, 100, 101, 102, 103, 104, 105, 106, 107, 108, 109, 110, 111, 112, 113, 114, 115, 116, 117, 118, 119, 120, 121, 122, 123, 125, 126, 128, 129, 130, 132, 133, 135, 136, 137, 138, 139, 140, 141, 142, 143, 144, 145, 146, 147, 148, 149, 150, 151, 152, 153, 161, 162, 164, 165, 167, 168, 169, 171, 172, 174, 175, 176, 177, 180, 181, 182, 184, 185, 187, 188, 189, 190, 191, 192, 193, 196, 198, 199, 201, 202, 203, 205, 206, 208, 209, 210, 212, 213, 215, 216, 224, 226, 227, 229, 230, 231, 233, 234, 236, 237, 238, 240, 241, 243, 244, 245, 247, 248, 250, 251, 252, 254, 255, 257, 258, 259, 261, 262, 264, 265, 266, 267, 268, 269, 270, 280, 282, 283, 285, 286, 287, 289, 290, 292, 293, 294, 297, 298, 299, 301, 302, 304, 305, 306, 307, 308, 309, 310, 320, 322, 323, 325, 326, 327, 329, 330, 332, 333, 334, 335, 336, 337, 338, 348, 350, 351, 353, 354, 355, 357, 358, 360, 361, 362, 363, 364, 365, 366, 376, 378, 379, 381, 382, 383, 385, 386, 388, 389, 390, 393, 394, 395, 398, 399, 400, 402, 403, 405, 406, 407, 409, 410, 412, 413, 414, 416, 417, 419, 420, 421, 423, 424, 426, 427, 428, 430, 431, 433, 434, 435, 437, 438, 440, 441, 442, 444, 445, 447, 448, 449, 451, 452, 454, 455, 456, 458, 459, 461, 462, 463, 465, 466, 468, 469, 470, 472, 473, 475, 476, 477, 478, 479, 480, 481, 484, 487, 488, 489, 491, 492, 494, 495, 496, 498, 499, 501, 502, 503, 505, 506, 508, 509, 510, 512, 513, 515, 516, 517, 519, 520, 522, 523, 524, 527, 528, 529, 531, 532, 534, 535, 536, 538, 539, 541, 542, 543, 546, 547]

/-- the states between the pieces -/
noncomputable def alt : List Obj → List Obj × List Obj
  | [] => ([], [])
  | x :: l => match alt l with
    | (a, b) => (x :: b, a)
noncomputable def mkT : Nat → List Obj → BT
  | 0, _ => .nil
  | n + 1, l => match l with
    | [] => .nil
    | x :: l => match alt l with
      | (a, b) => .node x (mkT n a) (mkT n b)

noncomputable def stO (P : Params) (x y : Obj) (n : Nat) : BT := mkT 12 ((((objs P).set 3 x).set 12 y).take n)
noncomputable def T0 (P : Params) : BT := stO P (boot_o_3 P) (fl []) 15
noncomputable def T1 (P : Params) : BT := stO P (d3 "wasmcore.codes" 208 47 48 P) (fl (tab.take 3)) 22
noncomputable def T2 (P : Params) : BT := stO P (d3 "wasmcore.codes" 208 59 60 P) (fl (tab.take 3)) 86
noncomputable def T3 (P : Params) : BT := stO P (d3 "wasmcore.pieces" 423 63 64 P) (fl (tab.take 9)) 138
noncomputable def T4 (P : Params) : BT := stO P (d3 "wasmcore.pieces" 423 64 65 P) (fl (tab.take 9)) 154
noncomputable def T5 (P : Params) : BT := stO P (d3 "wasmcore.pieces" 423 68 69 P) (fl (tab.take 21)) 217
noncomputable def T6 (P : Params) : BT := stO P (d3 "wasmcore.modules" 701 70 71 P) (fl (tab.take 27)) 313
noncomputable def T7 (P : Params) : BT := stO P (d3 "wasmcore.modules" 701 72 73 P) (fl (tab.take 33)) 369
noncomputable def T8 (P : Params) : BT := stO P (d3 "wasmcore.modules" 701 73 74 P) (fl (tab.take 36)) 484
noncomputable def T9 (P : Params) : BT := mkT 12 (objs P)
noncomputable def loose : List Str := ["_wall", "I32", "I64", "FUNCREF", "EMPTY", "FUNCTION", "UNREACHABLE", "NOP", "BLOCK", "LOOP", "IF", "ELSE", "END", "BR", "BR_IF", "BR_TABLE", "RETURN", "CALL", "CALL_INDIRECT", "RETURN_CALL", "RETURN_CALL_INDIRECT", "DROP", "SELECT", "SELECT_KINDS", "LOCAL_GET", "LOCAL_SET", "LOCAL_TEE", "GLOBAL_GET", "GLOBAL_SET", "TABLE_GET", "TABLE_SET", "MEMORY_SIZE", "MEMORY_GROW", "I32_CONST", "I64_CONST", "REF_NULL", "REF_IS_NULL", "REF_FUNC", "MEMORY_INIT", "DATA_DROP", "MEMORY_COPY", "MEMORY_FILL", "TABLE_INIT", "ELEM_DROP", "TABLE_COPY", "TABLE_GROW", "TABLE_SIZE", "TABLE_FILL", "LOADS", "STORES", "FIXED", "NUMBERS", "number_kind", "stack_of", "LAST", "COUNTS", "Piece", "pieces_of", "put_pieces", "body_of", "Arities", "Ends", "Import", "Func", "Module", "parts_of", "_law_next", "_law_deeds", "_law_both", "_law_high", "_law_plain", "_law_block", "_law_end", "_law_list"].map Str.ofString
noncomputable def heapF (P : Params) : Heap := ⟨(objs P).toArray, {}⟩
noncomputable def sT (t : BT) (n k : Nat) (os : OsState) : SharedT := ⟨t, n, {}, #[], {}, k, os⟩
noncomputable def body : List Stmt := behindTheImports pw
noncomputable def envT : Env := { scope := pw.main.scope, locals := mainNs, globals := mainNs, cells := [], code := .ref 13, frame := some 14 }
noncomputable def cdT : Code := .body body envT
noncomputable def z0 : Pos := ⟨0, 0, 0, 0⟩
noncomputable def B0 : List Frame := [topFrame z0]
noncomputable def an : Option Value := some (.ref 6)
theorem h_pre (w : World) (os : OsState) : topGo treeTable pw w 11 an 12 ⟨boot_heap w.params, #[], boot_drawn, boot_toks, os⟩ (topStub pw) = some ((sT (T0 w.params) 15 187 os).abs, ⟨denote treeTable cdT, cdT, z0, B0⟩) := by
  rewrite [PySem.W.Fast.te15667345088766844465, PySem.W.Fast.te14364793385576792824, PySem.W.Fast.te11892475500146522536]
  kernel_rfl
theorem h_blk (w : World) (os : OsState) : segRun treeTable pw w 11 an 1 1 (sT (T0 w.params) 15 187 os).abs (blockOf body envT cdT z0 B0) = some (.next, (sT (T0 w.params) 15 187 os).abs, cdT, z0) := by
  rewrite [PySem.W.Fast.te14374325043358763698, PySem.W.Fast.te14364793385576792824]
  kernel_rfl
noncomputable def l1 : List Stmt := (body.drop 0).take 40
noncomputable def r1 : Pos := ⟨42, 0, 42, 11⟩
noncomputable def l2 : List Stmt := (body.drop 40).take 12
noncomputable def r2 : Pos := ⟨54, 0, 54, 5⟩
noncomputable def l3 : List Stmt := (body.drop 52).take 5
noncomputable def r3 : Pos := ⟨70, 0, 70, 4⟩
noncomputable def l4 : List Stmt := (body.drop 57).take 1
noncomputable def r4 : Pos := ⟨71, 0, 71, 6⟩
noncomputable def l5 : List Stmt := (body.drop 58).take 4
noncomputable def r5 : Pos := ⟨114, 0, 118, 15⟩
noncomputable def l6 : List Stmt := (body.drop 62).take 4
noncomputable def r6 : Pos := ⟨196, 0, 196, 8⟩
noncomputable def l7 : List Stmt := (body.drop 66).take 2
noncomputable def r7 : Pos := ⟨207, 0, 215, 64⟩
noncomputable def l8 : List Stmt := (body.drop 68).take 1
noncomputable def r8 : Pos := ⟨216, 0, 275, 16⟩
noncomputable def l9 : List Stmt := (body.drop 69).take 11
noncomputable def r9 : Pos := ⟨354, 0, 365, 43⟩
theorem body_eq : l1 ++ (l2 ++ (l3 ++ (l4 ++ (l5 ++ (l6 ++ (l7 ++ (l8 ++ (l9 ++ [])))))))) = body := by kernel_rfl
theorem h_1 (w : World) : (fun os => segRunT treeTable pw w 11 an 1 800 (sT (T0 w.params) 15 187 os) (piecesOf l1 envT cdT z0 B0)) = fun os => some (.next, sT (T1 w.params) 22 276 os, cdT, r1) := by
  rewrite [PySem.W.Fast.te10110043849684766642, PySem.W.Fast.te14364793385576792824]
  kernel_rfl
theorem h_2f (w : World) : (fun os => segRunT treeTable pw (w.withFollow "special-get-raises" false) 11 an 1 800 (sT (T1 ((w.withFollow "special-get-raises" false)).params) 22 276 os) (piecesOf l2 envT cdT r1 B0)) = fun os => some (.next, sT (T2 ((w.withFollow "special-get-raises" false)).params) 86 380 os, cdT, r2) := by
  rewrite [PySem.W.Fast.te10110043849684766642, PySem.W.Fast.te14364793385576792824]
  kernel_rfl
theorem h_2t (w : World) : (fun os => segRunT treeTable pw (w.withFollow "special-get-raises" true) 11 an 1 800 (sT (T1 ((w.withFollow "special-get-raises" true)).params) 22 276 os) (piecesOf l2 envT cdT r1 B0)) = fun os => some (.next, sT (T2 ((w.withFollow "special-get-raises" true)).params) 86 380 os, cdT, r2) := by
  rewrite [PySem.W.Fast.te10110043849684766642, PySem.W.Fast.te14364793385576792824]
  kernel_rfl
theorem h_2 (w : World) : (fun os => segRunT treeTable pw w 11 an 1 800 (sT (T1 w.params) 22 276 os) (piecesOf l2 envT cdT r1 B0)) = fun os => some (.next, sT (T2 w.params) 86 380 os, cdT, r2) :=
  byRow2 "special-get-raises" (P := fun w => (fun os => segRunT treeTable pw w 11 an 1 800 (sT (T1 w.params) 22 276 os) (piecesOf l2 envT cdT r1 B0)) = fun os => some (.next, sT (T2 w.params) 86 380 os, cdT, r2)) h_2f h_2t w
theorem h_3 (w : World) : (fun os => segRunT treeTable pw w 11 an 1 800 (sT (T2 w.params) 86 380 os) (piecesOf l3 envT cdT r2 B0)) = fun os => some (.next, sT (T3 w.params) 138 426 os, cdT, r3) := by
  rewrite [PySem.W.Fast.te10110043849684766642, PySem.W.Fast.te14364793385576792824]
  kernel_rfl
theorem h_4f (w : World) : (fun os => segRunT treeTable pw (w.withFollow "special-get-raises" false) 11 an 1 800 (sT (T3 ((w.withFollow "special-get-raises" false)).params) 138 426 os) (piecesOf l4 envT cdT r3 B0)) = fun os => some (.next, sT (T4 ((w.withFollow "special-get-raises" false)).params) 154 472 os, cdT, r4) := by
  rewrite [PySem.W.Fast.te10110043849684766642, PySem.W.Fast.te14364793385576792824]
  kernel_rfl
theorem h_4t (w : World) : (fun os => segRunT treeTable pw (w.withFollow "special-get-raises" true) 11 an 1 800 (sT (T3 ((w.withFollow "special-get-raises" true)).params) 138 426 os) (piecesOf l4 envT cdT r3 B0)) = fun os => some (.next, sT (T4 ((w.withFollow "special-get-raises" true)).params) 154 472 os, cdT, r4) := by
  rewrite [PySem.W.Fast.te10110043849684766642, PySem.W.Fast.te14364793385576792824]
  kernel_rfl
theorem h_4 (w : World) : (fun os => segRunT treeTable pw w 11 an 1 800 (sT (T3 w.params) 138 426 os) (piecesOf l4 envT cdT r3 B0)) = fun os => some (.next, sT (T4 w.params) 154 472 os, cdT, r4) :=
  byRow2 "special-get-raises" (P := fun w => (fun os => segRunT treeTable pw w 11 an 1 800 (sT (T3 w.params) 138 426 os) (piecesOf l4 envT cdT r3 B0)) = fun os => some (.next, sT (T4 w.params) 154 472 os, cdT, r4)) h_4f h_4t w
theorem h_5 (w : World) : (fun os => segRunT treeTable pw w 11 an 1 800 (sT (T4 w.params) 154 472 os) (piecesOf l5 envT cdT r4 B0)) = fun os => some (.next, sT (T5 w.params) 217 554 os, cdT, r5) := by
  rewrite [PySem.W.Fast.te10110043849684766642, PySem.W.Fast.te14364793385576792824]
  kernel_rfl
theorem h_6 (w : World) : (fun os => segRunT treeTable pw w 11 an 1 800 (sT (T5 w.params) 217 554 os) (piecesOf l6 envT cdT r5 B0)) = fun os => some (.next, sT (T6 w.params) 313 703 os, cdT, r6) := by
  rewrite [PySem.W.Fast.te10110043849684766642, PySem.W.Fast.te14364793385576792824]
  kernel_rfl
theorem h_7 (w : World) : (fun os => segRunT treeTable pw w 11 an 1 800 (sT (T6 w.params) 313 703 os) (piecesOf l7 envT cdT r6 B0)) = fun os => some (.next, sT (T7 w.params) 369 785 os, cdT, r7) := by
  rewrite [PySem.W.Fast.te10110043849684766642, PySem.W.Fast.te14364793385576792824]
  kernel_rfl
theorem h_8 (w : World) : (fun os => segRunT treeTable pw w 11 an 1 800 (sT (T7 w.params) 369 785 os) (piecesOf l8 envT cdT r7 B0)) = fun os => some (.next, sT (T8 w.params) 484 927 os, cdT, r8) := by
  rewrite [PySem.W.Fast.te10110043849684766642, PySem.W.Fast.te14364793385576792824]
  kernel_rfl
theorem h_9 (w : World) : (fun os => segRunT treeTable pw w 11 an 1 800 (sT (T8 w.params) 484 927 os) (piecesOf l9 envT cdT r8 B0)) = fun os => some (.next, sT (T9 w.params) 548 1033 os, cdT, r9) := by
  rewrite [PySem.W.Fast.te10110043849684766642, PySem.W.Fast.te14364793385576792824]
  kernel_rfl
theorem h_fin (w : World) (os : OsState) : topRun treeTable pw w 11 an 2 (sT (T9 w.params) 548 1033 os).abs ⟨doneF .next, cdT, r9, B0⟩ = some ⟨heapF w.params, #[], {}, 1033, os⟩ := by
  rewrite [PySem.W.Fast.te14082659384304107361, PySem.W.Fast.te14364793385576792824]
  kernel_rfl
theorem h_run (w : World) (os : OsState) : topRun treeTable pw w 11 an (12 + (1 + (800 + (800 + (800 + (800 + (800 + (800 + (800 + (800 + (800 + 2))))))))))) ⟨boot_heap w.params, #[], boot_drawn, boot_toks, os⟩ (topStub pw) = some ⟨heapF w.params, #[], {}, 1033, os⟩ := by
  refine go_top (h_pre w os) (piece_block (h_blk w os) ?_)
  have k : topRun treeTable pw w 11 an (800 + (800 + (800 + (800 + (800 + (800 + (800 + (800 + (800 + 2))))))))) (sT (T0 w.params) 15 187 os).abs (restOf (l1 ++ (l2 ++ (l3 ++ (l4 ++ (l5 ++ (l6 ++ (l7 ++ (l8 ++ (l9 ++ []))))))))) envT cdT z0 B0) = some ⟨heapF w.params, #[], {}, 1033, os⟩ :=
    piece_app (segRun_of (congrFun (h_1 w) os)) (piece_app (segRun_of (congrFun (h_2 w) os)) (piece_app (segRun_of (congrFun (h_3 w) os)) (piece_app (segRun_of (congrFun (h_4 w) os)) (piece_app (segRun_of (congrFun (h_5 w) os)) (piece_app (segRun_of (congrFun (h_6 w) os)) (piece_app (segRun_of (congrFun (h_7 w) os)) (piece_app (segRun_of (congrFun (h_8 w) os)) (piece_app (segRun_of (congrFun (h_9 w) os)) (piece_nil (h_fin w os))))))))))
  rewrite [body_eq] at k
  exact k
theorem h_open (w : World) : (fencedOpening treeTable pw w 9000).map (fun s => (s.heap, s.gens, s.drawn, s.toks)) = some (boot_heap w.params, #[], boot_drawn, boot_toks) :=
  boot_open (p := pw) (N := 9000) (by kernel_rfl) (by decide) (fun s => by kernel_rfl) w
theorem h_size (w : World) : ((boot_heap w.params).isNs mainGlobals && (#[] : Array GenState).size == 0, (boot_heap w.params).objs.size, (boot_heap w.params).nsMap mainGlobals "__annotations__") = (true, 11, an) := by
  kernel_rfl
end Hd
end
end Mine

namespace Mine
open PySem PySem.W PyProof.Rows PySem.Calls PySem.Spec
noncomputable section
namespace Hd
/-- the view: the law's def alone -/
noncomputable def vw : Program := { pw with main := { pw.main with body := [topS 79] } }
theorem and2 {a b : Bool} (x : a = true) (y : b = true) : (a && b) = true := by rw [x, y]; rfl
theorem roads_app (lk : Look) (b : List Stmt) : ∀ a : List Stmt, noRoadLSs lk a = true → noRoadLSs lk b = true → noRoadLSs lk (a ++ b) = true
  | [], _, y => y
  | s :: a, x, y => by
    have x' : (noRoadLS lk s && noRoadLSs lk a) = true := x
    obtain ⟨h1, h2⟩ := Bool.and_eq_true_iff.mp x'
    exact (and2 h1 (roads_app lk b a h2 y) : (noRoadLS lk s && noRoadLSs lk (a ++ b)) = true)
noncomputable def lkT : Look := { strict := !(importedModules pw.main.body).all cThrough.contains, foot := none, bare := (["vars", "dir", "locals"] : List Str).filter (readsOut pw pw.main.body) }
theorem lkT_eq : lkT = { strict := false, foot := none, bare := [] } := by
  unfold lkT
  rewrite [PySem.W.Fast.te5923862056798008813, PySem.W.Fast.te13343964577679436407]
  kernel_rfl
theorem roads (i n : Nat) (b : List Stmt) (x : noRoadLSs { strict := false, foot := none, bare := [] } ((pw.main.body.drop i).take n) = true) (y : noRoadLSs lkT (pw.main.body.drop (i + n)) = true) : noRoadLSs lkT (pw.main.body.drop i) = true := by
  have e : pw.main.body.drop i = (pw.main.body.drop i).take n ++ pw.main.body.drop (i + n) := by
    rw [← List.drop_drop, List.take_append_drop]
  rw [e]
  exact roads_app lkT _ _ (by rw [lkT_eq]; exact x) y
theorem q3 : namesResolve pw = true := by
  rewrite [PySem.W.Fast.te8377067652309620493]
  kernel_rfl
theorem q6 : (namesMeet pw pw.main.body fun _ n => attrL n) = true := by
  rewrite [PySem.W.Fast.te17119622794617984870, PySem.W.Fast.te17868728402115742887]
  kernel_rfl
theorem q5a : noRoadLSs { strict := false, foot := none, bare := [] } ((pw.main.body.drop 0).take 58) = true := by
  rewrite [PySem.W.Fast.te8326940854005059898]
  kernel_rfl
theorem q5b : noRoadLSs { strict := false, foot := none, bare := [] } ((pw.main.body.drop 58).take 13) = true := by
  rewrite [PySem.W.Fast.te8326940854005059898]
  kernel_rfl
theorem q5c : noRoadLSs { strict := false, foot := none, bare := [] } ((pw.main.body.drop 71).take 9) = true := by
  rewrite [PySem.W.Fast.te8326940854005059898]
  kernel_rfl
theorem q5 : noRoadLSs lkT (pw.main.body.drop 0) = true := roads 0 58 [] q5a (roads 58 13 [] q5b (roads 71 9 [] q5c (by kernel_rfl)))
theorem said_open : looksOpen pw = true :=
  and2 (and2 (and2 (and2 (and2 (by kernel_rfl) (by kernel_rfl)) q3) (by rewrite [PySem.W.Fast.te18344453789297297638]; kernel_rfl)) q5) q6
theorem said_part : PySem.Challenge.rw_nm0148_01.row.partSaid = true := by
  unfold OpenRow.partSaid
  rewrite [show looksOpen PySem.Challenge.rw_nm0148_01.row.prog = true from said_open]
  kernel_rfl
theorem said_row : PySem.Challenge.rw_nm0148_01.row.wellSaid = true := by
  unfold OpenRow.wellSaid
  rewrite [said_part, PySem.W.Fast.te18344453789297297638]
  kernel_rfl
set_option maxHeartbeats 8000000 in
theorem h_said : OpenLaw.wellSaid PySem.Challenge.rw_nm0148_01 = true := by
  unfold OpenLaw.wellSaid
  repeat' first | with_reducible exact said_row | with_reducible refine and2 ?_ ?_
  all_goals (try rewrite [PySem.W.Fast.te17119622794617984870])
  all_goals (try rewrite [PySem.W.Fast.te8326940854005059898])
  all_goals (try rewrite [PySem.W.Fast.te10501279942588096481])
  all_goals (try rewrite [PySem.W.Fast.te9558739934217749035])
  all_goals (try rewrite [PySem.W.Fast.te16286561074155671207])
  all_goals (try rewrite [PySem.W.Fast.te6984425678791042302])
  all_goals (try rewrite [PySem.W.Fast.te10792542408131684335])
  all_goals (try rewrite [PySem.W.Fast.te8179353310426384613])
  all_goals (as_aux_lemma => kernel_rfl)
theorem h_st (w : World) : (staticsOk (importedModules pw.main.body) (boot_heap w.params) (heapF w.params) && namesBound pw (heapF w.params) && (fun os => gensDone ⟨heapF w.params, #[], {}, 1033, os⟩) default && laidKept (boot_heap w.params) (heapF w.params)) = true := by
  kernel_rfl
theorem h_seen (w : World) (os : OsState) : openSeen vw loose (importedModules pw.main.body) (fun s => xlAt vw [] s && recOk (RowW.records PySem.Challenge.rw_nm0148_01.row.toRowW) s) true ⟨heapF w.params, #[], {}, 1033, os⟩ = openGood vw loose := by
  rewrite [PySem.W.Fast.te4187177175401517315]
  kernel_rfl
theorem map_cut {α β γ : Type} {f : α → γ} {g : β → γ} {a : List α} {b : List β} (n : Nat) (x : (a.take n).map f = (b.take n).map g) (y : (a.drop n).map f = (b.drop n).map g) : a.map f = b.map g := by
  rw [← List.take_append_drop n a, ← List.take_append_drop n b, List.map_append, List.map_append, x, y]
theorem h_k1 (w : World) : (keys.take 200).map (heapF w.params).get? = ((heap w.params).take 200).map fun p => some p.2 := by kernel_rfl
theorem h_k2 (w : World) : ((keys.drop 200).take 100).map (heapF w.params).get? = (((heap w.params).drop 200).take 100).map fun p => some p.2 := by kernel_rfl
theorem h_k3 (w : World) : ((keys.drop 200).drop 100).map (heapF w.params).get? = (((heap w.params).drop 200).drop 100).map fun p => some p.2 := by kernel_rfl
theorem h_keys (w : World) : keys.map (heapF w.params).get? = (heap w.params).map fun p => some p.2 := map_cut 200 (h_k1 w) (map_cut 100 (h_k2 w) (h_k3 w))
theorem h_bare : pw.tablesWhole = true := by kernel_rfl
end Hd
end
end Mine

namespace Mine
open PySem PySem.W PyProof.Rows PySem.Calls PySem.Spec
noncomputable section
namespace Hd
noncomputable def law0 : OpenRow := PySem.Challenge.rw_nm0148_01.row
theorem hk (P : Params) : keys = (heap P).map (·.1) := by kernel_rfl
noncomputable def hook : Hook := kHook heap keys hk
noncomputable def dLaw : DefRec := ⟨Str.ofString "law", stParams (topS 79), stBody (topS 79), stScope (topS 79), ⟨354, 0, 365, 43⟩⟩
theorem h_left : LeftO law0.prog vw loose (fun s => xlAt vw [] s && recOk (RowW.records law0.toRowW) s) hook.obs hook.val 9000 :=
  LeftO.of_pieces (p := pw) (q := vw) (loose := loose) (Xt := fun s => xlAt vw [] s && recOk (RowW.records law0.toRowW) s) (Yf := hook.obs) (Ya := hook.val) (N := 9000) (g0 := true) (H₀ := boot_heap) (H₁ := heapF) (gs₀ := #[]) (gs₁ := #[])
    (d₀ := boot_drawn) (d₁ := {}) (k₀ := boot_toks) (k₁ := 1033) (m₀ := 11) (ann := an) (M := _) h_open h_size h_run (by decide)
    (fun w => funext fun os => Prod.ext (h_st w) (Prod.ext (h_seen w os) (h_keys w)))
theorem hd (hc : WalkO vw loose (XL vw []) hook.says law0.toRowW dLaw [] fun f vs => PySem.call f vs) : PySem.Challenge.rw_nm0148_01.Holds :=
  holds_law h_said fun said => PySem.W.holds_open (r := PySem.Challenge.rw_nm0148_01.row) (q := vw) (loose := loose) (Xt := fun s => xlAt vw [] s && recOk (RowW.records law0.toRowW) s) (XP := XL vw []) (Yf := hook.obs) (Ya := hook.val) (YP := hook.says) (d := dLaw) (kwd := []) (N := 9000)
    h_left hook.of hook.keeps (fun s e => xl_of s (Bool.and_eq_true_iff.mp e).1) XL.keeps (by kernel_rfl) (by kernel_rfl) (by kernel_rfl) (fun s e => recFacts_of (Bool.and_eq_true_iff.mp e).2) (by kernel_rfl) said (by kernel_rfl) ⟨rfl, rfl, rfl, rfl, rfl, h_bare⟩
    ⟨[.list []], by kernel_rfl, by kernel_rfl⟩ hc
end Hd
end
end Mine

namespace Mine
open PySem PySem.W PyProof.Rows PySem.Calls PySem.Spec

/-- abstract values: tokens forgotten, tuples by content, mutable objects by a letter -/
inductive V where
  | none | bool (b : Bool) | int (i : Int) | str (s : Str) | tup (l : List V) | ref (i : Nat) | con (v : Value)
inductive O where
  | list (l : List V)
  | inst (C : Addr) (fs : List (Str × V))
noncomputable abbrev H := Nat → Option O
noncomputable def H.set (σ : H) (i : Nat) (o : O) : H := fun j => if j = i then some o else σ j
noncomputable abbrev Loc := List (Str × V)

structure Cx where
  prog : Program
  w : World
  K : Frag
  p : Program
  loose : List Str
  mean : ExcName → Option Value
  mg : Str → Option Value
  mb : Str → Option Value

/-- where the letters lie, and the ledger -/
structure Wd where
  mu : Nat → Option (Addr × Addr)
  news : List (Addr × Obj)

noncomputable abbrev tupOf (vs : List Value) (n : Nat) : Obj := { cls := .type "tuple", data := .seq vs.toArray n }

mutual
noncomputable def RepV (c : Cx) (w : Wd) : V → Value → Prop
  | .none, v => v = .none
  | .bool b, v => v = .bool b
  | .int i, v => ∃ t, v = .int i t
  | .str x, v => ∃ t, v = .str x t
  | .tup l, v => ∃ a vs n, v = .ref a ∧ ((a, tupOf vs n) ∈ w.news ∨ c.K.lookup a = some (tupOf vs n)) ∧ RepVs c w l vs
  | .ref i, v => ∃ p, w.mu i = some p ∧ v = .ref p.1
  | .con x, v => v = x
noncomputable def RepVs (c : Cx) (w : Wd) : List V → List Value → Prop
  | [], vs => vs = []
  | x :: l, vs => ∃ v r, vs = v :: r ∧ RepV c w x v ∧ RepVs c w l r
end

noncomputable def RepF (c : Cx) (w : Wd) : List (Str × V) → List DictEntry → Prop
  | [], es => es = []
  | (x, v) :: l, es => ∃ t y r, es = ⟨PyData.keyHash c.w.params x, .str x t, y⟩ :: r ∧ RepV c w v y ∧ RepF c w l r

noncomputable def RepO (c : Cx) (w : Wd) : O → Addr × Addr → Prop
  | .list l, p => p.2 = p.1 ∧ ∃ vs n, (p.1, listOf vs.toArray n) ∈ w.news ∧ RepVs c w l vs
  | .inst C fs, p => ∃ es n, (p.1, instObj C p.2) ∈ w.news ∧ (p.2, dictOf es n) ∈ w.news ∧ RepF c w fs es

noncomputable def Apart (p q : Addr × Addr) : Prop := p.1 ≠ q.1 ∧ p.1 ≠ q.2 ∧ p.2 ≠ q.1 ∧ p.2 ≠ q.2

structure Led (c : Cx) (fr : List (Addr × Obj)) (σ : H) (w : Wd) : Prop where
  obj : ∀ i o, σ i = some o → ∃ p, w.mu i = some p ∧ RepO c w o p
  apart : ∀ i j p q, i ≠ j → (σ i).isSome = true → (σ j).isSome = true → w.mu i = some p → w.mu j = some q → Apart p q
  frame : ∀ p ∈ w.news, ∀ q ∈ fr, p.1 ≠ q.1
  fin : ∃ b, ∀ i, b ≤ i → w.mu i = none

structure Wle (w w' : Wd) : Prop where
  mu : ∀ i p, w.mu i = some p → w'.mu i = some p
  tup : ∀ a vs n, (a, tupOf vs n) ∈ w.news → (a, tupOf vs n) ∈ w'.news

theorem Wle.refl (w : Wd) : Wle w w := ⟨fun _ _ e => e, fun _ _ _ e => e⟩
theorem Wle.trans {a b d : Wd} (x : Wle a b) (y : Wle b d) : Wle a d := ⟨fun i p e => y.mu i p (x.mu i p e), fun a vs n e => y.tup a vs n (x.tup a vs n e)⟩

mutual
theorem RepV.mono {c : Cx} {w w' : Wd} (x : Wle w w') : ∀ (a : V) (v : Value), RepV c w a v → RepV c w' a v
  | .none, _, h => by simp only [RepV] at h ⊢; exact h
  | .bool _, _, h => by simp only [RepV] at h ⊢; exact h
  | .int _, _, h => by simp only [RepV] at h ⊢; exact h
  | .str _, _, h => by simp only [RepV] at h ⊢; exact h
  | .con _, _, h => by simp only [RepV] at h ⊢; exact h
  | .ref _, _, h => by simp only [RepV] at h ⊢; obtain ⟨p, e, r⟩ := h; exact ⟨p, x.mu _ _ e, r⟩
  | .tup l, _, h => by
    simp only [RepV] at h ⊢
    obtain ⟨a, vs, n, e, m, r⟩ := h
    exact ⟨a, vs, n, e, m.imp (x.tup _ _ _) id, RepVs.mono x l vs r⟩
theorem RepVs.mono {c : Cx} {w w' : Wd} (x : Wle w w') : ∀ (a : List V) (v : List Value), RepVs c w a v → RepVs c w' a v
  | [], _, h => by simp only [RepVs] at h ⊢; exact h
  | a :: l, _, h => by
    simp only [RepVs] at h ⊢
    obtain ⟨v, r, e, h1, h2⟩ := h
    exact ⟨v, r, e, RepV.mono x a v h1, RepVs.mono x l r h2⟩
end
theorem RepF.mono {c : Cx} {w w' : Wd} (x : Wle w w') : ∀ (a : List (Str × V)) (v : List DictEntry), RepF c w a v → RepF c w' a v
  | [], _, h => h
  | (_, _) :: l, _, ⟨t, y, r, e, h1, h2⟩ => ⟨t, y, r, e, RepV.mono x _ _ h1, RepF.mono x l r h2⟩

theorem RepVs.length {c : Cx} {w : Wd} : ∀ {a : List V} {v : List Value}, RepVs c w a v → a.length = v.length
  | [], _, h => by simp only [RepVs] at h; rw [h]; rfl
  | _ :: _, _, h => by
    simp only [RepVs] at h
    obtain ⟨v, r, e, _, h2⟩ := h
    rw [e, List.length_cons, List.length_cons, RepVs.length h2]
theorem RepVs.nil {c : Cx} {w : Wd} : RepVs c w [] [] := by simp only [RepVs]
theorem RepVs.cons {c : Cx} {w : Wd} {x : V} {l : List V} {v : Value} {r : List Value} (h1 : RepV c w x v) (h2 : RepVs c w l r) : RepVs c w (x :: l) (v :: r) := by
  simp only [RepVs]; exact ⟨v, r, rfl, h1, h2⟩
theorem RepVs.append {c : Cx} {w : Wd} : ∀ {a : List V} {v : List Value} {b : List V} {u : List Value}, RepVs c w a v → RepVs c w b u → RepVs c w (a ++ b) (v ++ u)
  | [], _, _, _, h, k => by simp only [RepVs] at h; subst h; exact k
  | _ :: _, _, _, _, h, k => by
    simp only [RepVs] at h
    obtain ⟨v, r, e, h1, h2⟩ := h
    subst e
    exact .cons h1 (RepVs.append h2 k)
theorem RepVs.get {c : Cx} {w : Wd} : ∀ {a : List V} {v : List Value} {i : Nat} {x : V}, RepVs c w a v → a[i]? = some x → ∃ y, v[i]? = some y ∧ RepV c w x y
  | _ :: _, _, i, x, h, e => by
    simp only [RepVs] at h
    obtain ⟨v, r, e', h1, h2⟩ := h
    subst e'
    cases i with
    | zero => simp only [List.getElem?_cons_zero, Option.some.injEq] at e; subst e; exact ⟨v, rfl, h1⟩
    | succ i => simp only [List.getElem?_cons_succ] at e ⊢; exact RepVs.get h2 e

/-- what stands about a running tree -/
structure Dyn where
  A : Around
  A₀ : Around
  base : Heap
  h₀ : Heap
  L : Addr
  fenv : Env
  outer : List Env
  fr : List (Addr × Obj)

structure St (c : Cx) (d : Dyn) (m : Str → Option Value) (σ : H) (w : Wd) (h : Heap) : Prop where
  F : Fr d.h₀ d.L h m
  N : News d.h₀ d.L h (w.news ++ d.fr)
  D : Led c d.fr σ w

structure Act (c : Cx) (n : Nat) (d : Dyn) : Prop where
  B : Below d.A₀ d.base d.outer d.h₀
  hA : d.A.frames = some (d.fenv :: d.outer)
  hf : d.fenv.frame = some d.L
  hk : d.fenv.scope.kind = .function
  hh : d.A.handled = none
  X : c.K.In d.h₀
  T : Top c.p c.loose c.mean c.mg c.mb d.h₀
  dep : d.A.depth + 4 * n + 4 ≤ recursionLimit
  un : d.A.units + 16 * n + 100 ≤ cLine

noncomputable def Run {α β : Type} (c : Cx) (d : Dyn) (m : Str → Option Value) (t : Sem α) (R : Wd → β → α → Prop) (σ : H) (w : Wd) (Q : β → H → Prop) : Prop :=
  ∀ (s : Shared) (Qc : α → Shared → Prop) (E : Value → Shared → Prop), St c d m σ w s.heap →
    (∀ b σ' a w' h' tk, Q b σ' → Wle w w' → St c d m σ' w' h' → R w' b a → Qc a { s with heap := h', toks := tk }) →
    wpAny (model c.prog c.w) d.A t Qc E s

section
variable {α β γ δ : Type} {c : Cx} {d : Dyn} {m : Str → Option Value} {σ : H} {w : Wd}
theorem Run.bind {t : Sem α} {f : α → Sem γ} {R : Wd → β → α → Prop} {R' : Wd → δ → γ → Prop} {Q' : β → H → Prop} {Q : δ → H → Prop}
    (h : Run c d m t R σ w Q') (k : ∀ b σ' a w', Q' b σ' → Wle w w' → R w' b a → Run c d m (f a) R' σ' w' Q) : Run c d m (t >>= f) R' σ w Q := by
  intro s Qc E S q
  refine wpAny_bind (h s _ E S fun b σ' a w' h' tk q' le S' r => ?_)
  exact k b σ' a w' q' le r _ Qc E S' fun b₂ σ₂ a₂ w₂ h₂ tk₂ q₂ le₂ S₂ r₂ => q b₂ σ₂ a₂ w₂ h₂ tk₂ q₂ (le.trans le₂) S₂ r₂
theorem Run.ret {a : α} {b : β} {R : Wd → β → α → Prop} {Q : β → H → Prop} (r : R w b a) (q : Q b σ) : Run c d m (pure a) R σ w Q :=
  fun s Qc E S k => wpAny_pure (k b σ a w s.heap s.toks q (.refl w) S r)
theorem Run.mono {t : Sem α} {R : Wd → β → α → Prop} {Q Q' : β → H → Prop} (h : Run c d m t R σ w Q) (k : ∀ b σ', Q b σ' → Q' b σ') : Run c d m t R σ w Q' :=
  fun s Qc E S q => h s Qc E S fun b σ' a w' h' tk q' => q b σ' a w' h' tk (k b σ' q')
end
end Mine

namespace Mine
open PySem PySem.W PyProof.Rows PySem.Calls PySem.Spec

noncomputable def Wd.add (w : Wd) (x : Addr) (o : Obj) : Wd := { w with news := (x, o) :: w.news }
noncomputable def Wd.at (w : Wd) (i : Nat) (p : Addr × Addr) : Wd := { w with mu := fun j => if j = i then some p else w.mu j }
noncomputable def updN (l : List (Addr × Obj)) (a : Addr) (o : Obj) : List (Addr × Obj) := l.map fun p => if p.1 = a then (a, o) else p
noncomputable def Wd.upd (w : Wd) (a : Addr) (o : Obj) : Wd := { w with news := updN w.news a o }

theorem mem_updN_ne {l : List (Addr × Obj)} {a x : Addr} {o o' : Obj} (h : (x, o) ∈ l) (hx : x ≠ a) : (x, o) ∈ updN l a o' :=
  List.mem_map.mpr ⟨(x, o), h, by rw [if_neg hx]⟩
theorem mem_updN_self {l : List (Addr × Obj)} {a : Addr} {o o' : Obj} (h : (a, o) ∈ l) : (a, o') ∈ updN l a o' :=
  List.mem_map.mpr ⟨(a, o), h, by rw [if_pos rfl]⟩
theorem updN_append (l k : List (Addr × Obj)) (a : Addr) (o : Obj) : updN (l ++ k) a o = updN l a o ++ updN k a o := List.map_append
theorem updN_none {l : List (Addr × Obj)} {a : Addr} {o : Obj} (h : ∀ q ∈ l, q.1 ≠ a) : updN l a o = l := by
  unfold updN
  conv => rhs; rw [← List.map_id l]
  refine List.map_congr_left fun q hq => ?_
  rw [if_neg (h q hq)]; rfl

theorem Wle.add (w : Wd) (x : Addr) (o : Obj) : Wle w (w.add x o) := ⟨fun _ _ e => e, fun _ _ _ e => .tail _ e⟩
theorem Wle.at' {w : Wd} {i : Nat} {p : Addr × Addr} (hi : w.mu i = none) : Wle w (w.at i p) := ⟨fun j q e => by
  show (if j = i then some p else w.mu j) = some q
  rw [if_neg fun (e' : j = i) => by rw [e', hi] at e; cases e]; exact e, fun _ _ _ e => e⟩

section
variable {c : Cx} {d : Dyn} {m : Str → Option Value} {σ : H} {w : Wd} {h h' : Heap}
theorem St.look (S : St c d m σ w h) {x : Addr} {o : Obj} (e : (x, o) ∈ w.news) : h.get? x = some o := (S.N _ (List.mem_append_left _ e)).1
theorem St.news_inj (S : St c d m σ w h) {x : Addr} {o o' : Obj} (e : (x, o) ∈ w.news) (e' : (x, o') ∈ w.news) : o = o' :=
  Option.some.inj ((S.look e).symm.trans (S.look e'))
theorem St.repK (S : St c d m σ w h) (X : c.K.In d.h₀) {a : Addr} {vs : List Value} {n : Nat} (e : (a, tupOf vs n) ∈ w.news ∨ c.K.lookup a = some (tupOf vs n)) : h.get? a = some (tupOf vs n) :=
  e.elim S.look fun e => S.F.keep _ _ (X _ _ e)
theorem St.list (S : St c d m σ w h) {i : Nat} {l : List V} (e : σ i = some (.list l)) : ∃ a vs n, w.mu i = some (a, a) ∧ (a, listOf vs.toArray n) ∈ w.news ∧ h.get? a = some (listOf vs.toArray n) ∧ RepVs c w l vs := by
  obtain ⟨⟨a, b⟩, e1, e2, vs, n, e3, e4⟩ := S.D.obj _ _ e
  cases e2
  exact ⟨a, vs, n, e1, e3, S.look e3, e4⟩
theorem St.inst (S : St c d m σ w h) {i : Nat} {C : Addr} {fs : List (Str × V)} (e : σ i = some (.inst C fs)) : ∃ a b es n, w.mu i = some (a, b) ∧ (a, instObj C b) ∈ w.news ∧ (b, dictOf es n) ∈ w.news ∧ RepF c w fs es := by
  obtain ⟨⟨a, b⟩, e1, es, n, e3, e4, e5⟩ := S.D.obj _ _ e
  exact ⟨a, b, es, n, e1, e3, e4, e5⟩
theorem RepO.sub {w w' : Wd} (x : Wle w w') (hs : ∀ q ∈ w.news, q ∈ w'.news) {o : O} {p : Addr × Addr} (r : RepO c w o p) : RepO c w' o p := by
  cases o with
  | list l => obtain ⟨e, vs, n, e1, e2⟩ := r; exact ⟨e, vs, n, hs _ e1, RepVs.mono x _ _ e2⟩
  | inst C fs => obtain ⟨es, n, e1, e2, e3⟩ := r; exact ⟨es, n, hs _ e1, hs _ e2, RepF.mono x _ _ e3⟩
theorem Led.sub {fr : List (Addr × Obj)} {w w' : Wd} (x : Wle w w') (hs : ∀ q ∈ w.news, q ∈ w'.news) (hm : w'.mu = w.mu) (hf : ∀ p ∈ w'.news, p ∈ w.news ∨ ∀ q ∈ fr, p.1 ≠ q.1) (D : Led c fr σ w) : Led c fr σ w' where
  obj := fun i o e => let ⟨p, e1, e2⟩ := D.obj i o e; ⟨p, by rw [hm]; exact e1, e2.sub x hs⟩
  apart := fun i j p q hij hi hj e1 e2 => D.apart i j p q hij hi hj (by rw [← hm]; exact e1) (by rw [← hm]; exact e2)
  frame := fun p hp => (hf p hp).elim (D.frame p) id
  fin := let ⟨b, hb⟩ := D.fin; ⟨b, fun i hi => by rw [hm]; exact hb i hi⟩
theorem off_add {fr : List (Addr × Obj)} {x : Addr} {o : Obj} (hx : ∀ q ∈ w.news ++ fr, q.1 ≠ x) : ∀ p ∈ (w.add x o).news, p ∈ w.news ∨ ∀ q ∈ fr, p.1 ≠ q.1 := fun p hp => by
  rcases List.mem_cons.mp hp with rfl | hp
  · exact .inr fun q hq => (hx q (List.mem_append_right _ hq)).symm
  · exact .inl hp
/-- a new object that is no letter's -/
theorem St.add (S : St c d m σ w h) {x : Addr} {o : Obj} (F' : Fr d.h₀ d.L h' m) (N' : News d.h₀ d.L h' ((x, o) :: (w.news ++ d.fr))) (hx : ∀ q ∈ w.news ++ d.fr, q.1 ≠ x) : St c d m σ (w.add x o) h' :=
  ⟨F', N', S.D.sub (.add w x o) (fun _ e => .tail _ e) rfl (off_add hx)⟩
/-- the heap has grown, the ledger stands -/
theorem St.keep (S : St c d m σ w h) (F' : Fr d.h₀ d.L h' m) (N' : News d.h₀ d.L h' (w.news ++ d.fr)) : St c d m σ w h' := ⟨F', N', S.D⟩
theorem St.stand (S : St c d m σ w h) {m' : Str → Option Value} (F' : Fr d.h₀ d.L h' m') (N' : News d.h₀ d.L h' (w.news ++ d.fr)) : St c d m' σ w h' := ⟨F', N', S.D⟩
theorem H.set_isSome {i j : Nat} {o : O} (hj : (σ.set i o j).isSome = true) : j = i ∨ (σ j).isSome = true := by
  unfold H.set at hj
  split at hj
  · exact .inl ‹_›
  · exact .inr hj
theorem St.live (S : St c d m σ w h) {i : Nat} {p : Addr × Addr} (hi : (σ i).isSome = true) (e : w.mu i = some p) : (∃ o, (p.1, o) ∈ w.news) ∧ ∃ o, (p.2, o) ∈ w.news := by
  obtain ⟨o, ho⟩ := Option.isSome_iff_exists.mp hi
  obtain ⟨p', e1, e2⟩ := S.D.obj i o ho
  rw [e] at e1; cases e1
  cases o with
  | list l => obtain ⟨e, vs, n, e1, e2⟩ := e2; rw [e]; exact ⟨⟨_, e1⟩, ⟨_, e1⟩⟩
  | inst C fs => obtain ⟨es, n, e1, e2, e3⟩ := e2; exact ⟨⟨_, e1⟩, ⟨_, e2⟩⟩
theorem St.off (S : St c d m σ w h) {x : Addr} (hx : h.get? x = none) : ∀ q ∈ w.news ++ d.fr, q.1 ≠ x := fun q hq e => by
  have := (S.N q hq).1
  rw [e, hx] at this; cases this
theorem Led.newLetter (S : St c d m σ w h) {w' : Wd} {i : Nat} {o : O} {p : Addr × Addr} (hi : w.mu i = none) (hw : w'.mu = w.mu) (D : Led c d.fr σ w') (r : RepO c (w'.at i p) o p)
    (h1 : ∀ q ∈ w.news ++ d.fr, q.1 ≠ p.1) (h2 : ∀ q ∈ w.news ++ d.fr, q.1 ≠ p.2) : Led c d.fr (σ.set i o) (w'.at i p) := by
  have hi' : w'.mu i = none := by rw [hw]; exact hi
  have hat : ∀ j q, (w'.at i p).mu j = some q → (j = i ∧ q = p) ∨ (j ≠ i ∧ w'.mu j = some q) := fun j q e => by
    by_cases hj : j = i
    · subst hj
      refine .inl ⟨rfl, ?_⟩
      have : (w'.at j p).mu j = some p := if_pos rfl
      rw [this] at e; exact (Option.some.inj e).symm
    · refine .inr ⟨hj, ?_⟩
      have : (w'.at i p).mu j = w'.mu j := if_neg hj
      rw [← this]; exact e
  refine ⟨fun j o' e => ?_, fun j k q r hjk hj hk e1 e2 => ?_, D.frame, ?_⟩
  · by_cases hj : j = i
    · subst hj
      have : σ.set j o j = some o := if_pos rfl
      rw [this] at e; cases e
      exact ⟨p, if_pos rfl, r⟩
    · have : σ.set i o j = σ j := if_neg hj
      rw [this] at e
      obtain ⟨q, e1, e2⟩ := D.obj j o' e
      exact ⟨q, (if_neg hj : (w'.at i p).mu j = _).trans e1, e2.sub (.at' hi') fun _ e => e⟩
  · have off : ∀ k r, k ≠ i → (σ.set i o k).isSome = true → w'.mu k = some r → Apart p r ∧ Apart r p := fun k r hki hk e => by
      have hk' : (σ k).isSome = true := (H.set_isSome hk).resolve_left hki
      have hkw : w.mu k = some r := by rw [← hw]; exact e
      have ⟨⟨o1, l1⟩, ⟨o2, l2⟩⟩ := S.live hk' hkw
      have n1 : p.1 ≠ r.1 := fun q => h1 _ (List.mem_append_left _ l1) q.symm
      have n2 : p.1 ≠ r.2 := fun q => h1 _ (List.mem_append_left _ l2) q.symm
      have n3 : p.2 ≠ r.1 := fun q => h2 _ (List.mem_append_left _ l1) q.symm
      have n4 : p.2 ≠ r.2 := fun q => h2 _ (List.mem_append_left _ l2) q.symm
      exact ⟨⟨n1, n2, n3, n4⟩, ⟨n1.symm, n3.symm, n2.symm, n4.symm⟩⟩
    rcases hat _ _ e1 with ⟨a1, a2⟩ | ⟨a1, a2⟩
    · rcases hat _ _ e2 with ⟨b1, b2⟩ | ⟨b1, b2⟩
      · exact absurd (a1.trans b1.symm) hjk
      · rw [a2]; exact (off k r b1 hk b2).1
    · rcases hat _ _ e2 with ⟨b1, b2⟩ | ⟨b1, b2⟩
      · rw [b2]; exact (off j q a1 hj a2).2
      · exact D.apart j k q r hjk ((H.set_isSome hj).resolve_left a1) ((H.set_isSome hk).resolve_left b1) a2 b2
  · obtain ⟨b, hb⟩ := D.fin
    refine ⟨b + i + 1, fun j hj => ?_⟩
    have : (w'.at i p).mu j = w'.mu j := if_neg (by omega)
    rw [this]; exact hb j (by omega)
/-- a letter that is free -/
theorem St.free (S : St c d m σ w h) : ∃ i, w.mu i = none ∧ σ i = none := by
  obtain ⟨b, hb⟩ := S.D.fin
  refine ⟨b, hb b (Nat.le_refl _), ?_⟩
  cases e : σ b with
  | none => rfl
  | some o => obtain ⟨p, e1, _⟩ := S.D.obj _ _ e; rw [hb b (Nat.le_refl _)] at e1; cases e1
theorem St.newListO (S : St c d m σ w h) {x : Addr} {vs : List Value} {n : Nat} {l : List V} {i : Nat} (F' : Fr d.h₀ d.L h' m) (N' : News d.h₀ d.L h' ((x, listOf vs.toArray n) :: (w.news ++ d.fr)))
    (hx : ∀ q ∈ w.news ++ d.fr, q.1 ≠ x) (r : RepVs c w l vs) (hi : w.mu i = none) :
    Wle w ((w.add x (listOf vs.toArray n)).at i (x, x)) ∧ St c d m (σ.set i (.list l)) ((w.add x (listOf vs.toArray n)).at i (x, x)) h' := by
  have l1 := Wle.add w x (listOf vs.toArray n)
  have l2 : Wle (w.add x (listOf vs.toArray n)) ((w.add x (listOf vs.toArray n)).at i (x, x)) := Wle.at' hi
  refine ⟨l1.trans l2, F', N', Led.newLetter S hi rfl (S.D.sub l1 (fun _ e => .tail _ e) rfl (off_add hx)) ⟨rfl, vs, n, .head _, ?_⟩ hx hx⟩
  exact RepVs.mono (l1.trans l2) _ _ r
theorem St.newList (S : St c d m σ w h) {x : Addr} {vs : List Value} {n : Nat} {l : List V} {i : Nat} (F' : Fr d.h₀ d.L h' m) (N' : News d.h₀ d.L h' ((x, listOf vs.toArray n) :: (w.news ++ d.fr)))
    (hx : h.get? x = none) (r : RepVs c w l vs) (hi : w.mu i = none) :
    Wle w ((w.add x (listOf vs.toArray n)).at i (x, x)) ∧ St c d m (σ.set i (.list l)) ((w.add x (listOf vs.toArray n)).at i (x, x)) h' := S.newListO F' N' (S.off hx) r hi
theorem St.newInst (S : St c d m σ w h) {x y C : Addr} {i : Nat} (F' : Fr d.h₀ d.L h' m) (N' : News d.h₀ d.L h' ((x, instObj C y) :: (y, dictOf [] 0) :: (w.news ++ d.fr)))
    (hx : ∀ q ∈ w.news ++ d.fr, q.1 ≠ x) (hy : ∀ q ∈ w.news ++ d.fr, q.1 ≠ y) (hi : w.mu i = none) :
    Wle w (((w.add y (dictOf [] 0)).add x (instObj C y)).at i (x, y)) ∧ St c d m (σ.set i (.inst C [])) (((w.add y (dictOf [] 0)).add x (instObj C y)).at i (x, y)) h' := by
  have l1 := Wle.add w y (dictOf [] 0)
  have l2 := Wle.add (w.add y (dictOf [] 0)) x (instObj C y)
  have l3 : Wle ((w.add y (dictOf [] 0)).add x (instObj C y)) (((w.add y (dictOf [] 0)).add x (instObj C y)).at i (x, y)) := Wle.at' hi
  refine ⟨(l1.trans l2).trans l3, F', N', Led.newLetter S hi rfl (S.D.sub (l1.trans l2) (fun _ e => .tail _ (.tail _ e)) rfl fun p hp => by
    rcases List.mem_cons.mp hp with rfl | hp
    · exact .inr fun q hq => (hx q (List.mem_append_right _ hq)).symm
    · exact off_add hy p hp) ⟨[], 0, .head _, .tail _ (.head _), rfl⟩ hx hy⟩

theorem News.updN {h₀ : Heap} {L : Addr} {l : List (Addr × Obj)} {a : Addr} {o o' : Obj} (N : News h₀ L h l) (hs : Heap.SameBut a h h') (ho : h'.get? a = some o') : News h₀ L h' (updN l a o') := by
  intro q hq
  obtain ⟨p, hp, e⟩ := List.mem_map.mp hq
  by_cases hpa : p.1 = a
  · rw [if_pos hpa] at e; subst e
    exact ⟨ho, hpa ▸ (N p hp).2⟩
  · rw [if_neg hpa] at e; subst e
    exact ⟨(hs.2 _ hpa).trans (N p hp).1, (N p hp).2⟩
theorem Fr.same {h₀ : Heap} {L a : Addr} (F : Fr h₀ L h m) (hs : Heap.SameBut a h h') (hL : a ≠ L) (h0 : h₀.get? a = none) : Fr h₀ L h' m :=
  ⟨F.ns.sameBut hs (Ne.symm hL), fun b o e => (hs.2 b fun q => by rw [q, h0] at e; cases e).trans (F.keep b o e), F.above⟩

theorem RepVs.upd {a : Addr} {o : Obj} (hno : ∀ vs n, (a, tupOf vs n) ∉ w.news) : Wle w (w.upd a o) := ⟨fun _ _ e => e, fun b vs n e => mem_updN_ne e fun q => hno vs n (q ▸ e)⟩

/-- a letter's object (or its dict) is changed -/
theorem St.change (S : St c d m σ w h) {i : Nat} {p : Addr × Addr} {o o' : O} {a : Addr} {ob ob' : Obj} (hi : σ i = some o) (hp : w.mu i = some p) (ha : a = p.1 ∨ a = p.2) (hob : (a, ob) ∈ w.news)
    (hnt : ob.cls ≠ .type "tuple") (hs : Heap.SameBut a h h') (ho : h'.get? a = some ob') (r : Wle w (w.upd a ob') → RepO c (w.upd a ob') o' p) :
    Wle w (w.upd a ob') ∧ St c d m (σ.set i o') (w.upd a ob') h' := by
  have hno : ∀ vs n, (a, tupOf vs n) ∉ w.news := fun vs n e => hnt (by rw [S.news_inj hob e])
  have le : Wle w (w.upd a ob') := RepVs.upd hno
  have hsome : (σ i).isSome = true := by rw [hi]; rfl
  have N0 := S.N _ (List.mem_append_left d.fr hob)
  have hfr : ∀ q ∈ d.fr, q.1 ≠ a := fun q hq => (S.D.frame _ hob q hq).symm
  have sub : ∀ j q, j ≠ i → (σ j).isSome = true → w.mu j = some q → q.1 ≠ a ∧ q.2 ≠ a := fun j q hj h1 h2 => by
    have := S.D.apart j i q p hj h1 hsome h2 hp
    obtain ⟨t1, t2, t3, t4⟩ := this
    rcases ha with e | e
    · rw [e]; exact ⟨t1, t3⟩
    · rw [e]; exact ⟨t2, t4⟩
  refine ⟨le, Fr.same S.F hs N0.2.1 N0.2.2, ?_, ⟨fun j o'' e => ?_, fun j k q r hjk hj hk e1 e2 => ?_, fun q hq => ?_, S.D.fin⟩⟩
  · show News d.h₀ d.L h' (updN w.news a ob' ++ d.fr)
    rw [← updN_none (a := a) (o := ob') hfr, ← updN_append]
    exact News.updN (o := ob) S.N hs ho
  · by_cases hj : j = i
    · subst hj
      have : σ.set j o' j = some o' := if_pos rfl
      rw [this] at e; cases e
      exact ⟨p, hp, r le⟩
    · have : σ.set i o' j = σ j := if_neg hj
      rw [this] at e
      obtain ⟨q, e1, e2⟩ := S.D.obj j o'' e
      refine ⟨q, e1, ?_⟩
      have ⟨n1, n2⟩ := sub j q hj (by rw [e]; rfl) e1
      cases o'' with
      | list l => obtain ⟨e, vs, n, e1, e2⟩ := e2; exact ⟨e, vs, n, mem_updN_ne e1 n1, RepVs.mono le _ _ e2⟩
      | inst C fs => obtain ⟨es, n, e1, e2, e3⟩ := e2; exact ⟨es, n, mem_updN_ne e1 n1, mem_updN_ne e2 n2, RepF.mono le _ _ e3⟩
  · refine S.D.apart j k q r hjk ?_ ?_ e1 e2
    · rcases H.set_isSome hj with e | e
      · rw [e]; exact hsome
      · exact e
    · rcases H.set_isSome hk with e | e
      · rw [e]; exact hsome
      · exact e
  · obtain ⟨p', hp', e⟩ := List.mem_map.mp hq
    by_cases hpa : p'.1 = a
    · rw [if_pos hpa] at e; subst e; exact fun q hq => S.D.frame (a, ob) hob q hq
    · rw [if_neg hpa] at e; subst e; exact S.D.frame _ hp'
theorem St.setList (S : St c d m σ w h) {i : Nat} {a : Addr} {l l' : List V} {vs vs' : List Value} {n n' : Nat} (hi : σ i = some (.list l)) (hp : w.mu i = some (a, a)) (hob : (a, listOf vs.toArray n) ∈ w.news)
    (hs : Heap.SameBut a h h') (ho : h'.get? a = some (listOf vs'.toArray n')) (r : RepVs c w l' vs') :
    Wle w (w.upd a (listOf vs'.toArray n')) ∧ St c d m (σ.set i (.list l')) (w.upd a (listOf vs'.toArray n')) h' :=
  S.change hi hp (.inl rfl) hob (show Value.type "list" ≠ Value.type "tuple" by decide) hs ho fun le => ⟨rfl, vs', n', mem_updN_self hob, RepVs.mono le _ _ r⟩
/-- letters may be let go -/
theorem St.drop (S : St c d m σ w h) {σ' : H} (hsub : ∀ i o, σ' i = some o → σ i = some o) : St c d m σ' w h := by
  have up : ∀ i, (σ' i).isSome = true → (σ i).isSome = true := fun i hi => by
    obtain ⟨o, ho⟩ := Option.isSome_iff_exists.mp hi
    rw [hsub i o ho]; rfl
  exact ⟨S.F, S.N, fun i o e => S.D.obj i o (hsub i o e), fun i j p q hij hi hj => S.D.apart i j p q hij (up i hi) (up j hj), S.D.frame, S.D.fin⟩
end
end Mine

namespace Mine
open PySem PySem.W PyProof.Rows PySem.Calls PySem.Spec

noncomputable def Bnd (c : Cx) (d : Dyn) (m : Str → Option Value) (env : Env) (x : Str) (cv : Value) : Prop :=
  ∀ (A : Around) (Q : Value → Shared → Prop) (E : Value → Shared → Prop) (s : Shared) (pos : Pos), Fr d.h₀ d.L s.heap m → (∀ p ∈ d.fr, s.heap.get? p.1 = some p.2) → Q cv s →
    wpAny (model c.prog c.w) A (eval (.Name x pos) env) Q E s

structure Bind (c : Cx) (d : Dyn) (m : Str → Option Value) (env : Env) (sc : Scope) (ρ : Loc) (w : Wd) : Prop where
  loc : ∀ x v, ρ.lookup x = some v → ∃ cv, RepV c w v cv ∧ Bnd c d m env x cv
  glob : env.globals = mainGlobals
  blt : env.builtins = builtinsNs
  kind : env.scope.kind = .function
  names : ∀ x, sc.names.lookup x = some .globalImplicit → env.kindOf x = some .globalImplicit

theorem Bind.mono {c : Cx} {d : Dyn} {m : Str → Option Value} {env : Env} {sc : Scope} {ρ : Loc} {w w' : Wd} (B : Bind c d m env sc ρ w) (x : Wle w w') : Bind c d m env sc ρ w' :=
  ⟨fun y v e => let ⟨cv, r, b⟩ := B.loc y v e; ⟨cv, RepV.mono x _ _ r, b⟩, B.glob, B.blt, B.kind, B.names⟩

noncomputable def Ev (c : Cx) (n : Nat) (sc : Scope) (e : Expr) (ρ : Loc) (σ : H) (Q : V → H → Prop) : Prop :=
  ∀ d m env w, Act c n d → Bind c d m env sc ρ w → Run c d m (eval e env) (RepV c) σ w Q
noncomputable def Evs (c : Cx) (n : Nat) (sc : Scope) (es : List Expr) (ρ : Loc) (σ : H) (Q : List V → H → Prop) : Prop :=
  ∀ d m env w pos, Act c n d → Bind c d m env sc ρ w → Run c d m (spliced (backTo pos (starEach es env))) (RepVs c) σ w Q
noncomputable def Tr (c : Cx) (n : Nat) (sc : Scope) (e : Expr) (ρ : Loc) (σ : H) (Q : Bool → H → Prop) : Prop :=
  ∀ d m env w, Act c n d → Bind c d m env sc ρ w → Run c d m (isTrue e env (eval e env)) (fun _ a b => b = a) σ w Q
/-- an operation on values at hand -/
noncomputable def Op1 {α : Type} (c : Cx) (n : Nat) (t : Value → Sem α) (R : Wd → V → α → Prop) (a : V) (σ : H) (Q : V → H → Prop) : Prop :=
  ∀ d m w x, Act c n d → RepV c w a x → Run c d m (t x) R σ w Q
noncomputable def Op2 (c : Cx) (n : Nat) (t : Value → Value → Sem Value) (a b : V) (σ : H) (Q : V → H → Prop) : Prop :=
  ∀ d m w x y, Act c n d → RepV c w a x → RepV c w b y → Run c d m (t x y) (RepV c) σ w Q
noncomputable def CallR (c : Cx) (n : Nat) (f : Value) (vs : List V) (σ : H) (Q : V → H → Prop) : Prop :=
  ∀ d m w xs, Act c n d → RepVs c w vs xs → Run c d m (call f xs) (RepV c) σ w Q

section
variable {c : Cx} {n : Nat} {sc : Scope} {ρ : Loc} {σ : H}
theorem Ev.mono {e : Expr} {Q Q' : V → H → Prop} (h : Ev c n sc e ρ σ Q) (k : ∀ v σ', Q v σ' → Q' v σ') : Ev c n sc e ρ σ Q' :=
  fun d m env w a b => (h d m env w a b).mono k
theorem Tr.mono {e : Expr} {Q Q' : Bool → H → Prop} (h : Tr c n sc e ρ σ Q) (k : ∀ v σ', Q v σ' → Q' v σ') : Tr c n sc e ρ σ Q' :=
  fun d m env w a b => (h d m env w a b).mono k

theorem Ev.loc {x : Str} {pos : Pos} {v : V} {Q : V → H → Prop} (e : ρ.lookup x = some v) (q : Q v σ) : Ev c n sc (.Name x pos) ρ σ Q := by
  intro d m env w a b s Qc E S k
  obtain ⟨cv, r, hb⟩ := b.loc x v e
  exact hb _ _ _ _ _ S.F (fun p hp => (S.N p (List.mem_append_right _ hp)).1) (k v σ cv w s.heap s.toks q (.refl w) S r)
theorem Ev.glob {x : Str} {pos : Pos} {v : V} {cv : Value} {Q : V → H → Prop} (hx : sc.names.lookup x = some .globalImplicit) (e : nsIn c.K mainGlobals x = some (some cv)) (r : ∀ w, RepV c w v cv) (q : Q v σ)
    (hd : (x == ("__debug__" : Str)) = false) : Ev c n sc (.Name x pos) ρ σ Q := by
  intro d m env w a b s Qc E S k
  exact nameG_K S.F a.X (topRead_of a.T) e (k v σ cv w s.heap s.toks q (.refl w) S (r w)) b.glob b.kind (b.names x hx) hd
theorem Ev.blt {x : Str} {pos : Pos} {cv : Value} {Q : V → H → Prop} (hx : sc.names.lookup x = some .globalImplicit) (e : nsIn c.K mainGlobals x = some none) (hv : bootBuiltins x = some cv) (q : Q (.con cv) σ)
    (hn : x ≠ "__name__") (hd : (x == ("__debug__" : Str)) = false) : Ev c n sc (.Name x pos) ρ σ Q := by
  intro d m env w a b s Qc E S k
  have T := topRead_of a.T
  refine Name_function_global b.kind (b.names x hx) (loadGlobal_builtin (env := env) (by rw [b.glob]; exact T.g.keeps S.F.keep) (mg_none_of a.X T.g e) (by rw [b.blt]; exact T.b.keeps S.F.keep) ((T.builtins x hn).trans hv) ?_) hd
  exact k (.con cv) σ cv w s.heap s.toks q (.refl w) S (by simp only [RepV])
theorem Ev.int {i : Int} {k pos} {Q : V → H → Prop} (q : Q (.int i) σ) : Ev c n sc (.Constant (.int i) k pos) ρ σ Q := by
  intro d m env w a b s Qc E S kk
  exact wpAny_Constant_int (kk (.int i) σ _ w s.heap _ q (.refl w) S (by simp only [RepV]; exact ⟨_, rfl⟩))
theorem Ev.str {i : Str} {k pos} {Q : V → H → Prop} (q : Q (.str i) σ) : Ev c n sc (.Constant (.str i) k pos) ρ σ Q := by
  intro d m env w a b s Qc E S kk
  exact Calls.Constant_str (kk (.str i) σ _ w s.heap _ q (.refl w) S (by simp only [RepV]; exact ⟨_, rfl⟩))
theorem Ev.noneE {k pos} {Q : V → H → Prop} (q : Q .none σ) : Ev c n sc (.Constant .none k pos) ρ σ Q := by
  intro d m env w a b s Qc E S kk
  show wpAny _ _ (pure Value.none) _ _ _
  exact wpAny_pure (kk .none σ _ w s.heap s.toks q (.refl w) S (by simp only [RepV]))
theorem Ev.boolc {x : Bool} {k pos} {Q : V → H → Prop} (q : Q (.bool x) σ) : Ev c n sc (.Constant (.bool x) k pos) ρ σ Q := by
  intro d m env w a b s Qc E S kk
  show wpAny _ _ (pure (Value.bool x)) _ _ _
  exact wpAny_pure (kk (.bool x) σ _ w s.heap s.toks q (.refl w) S (by simp only [RepV]))
theorem Ev.bin {l r : Expr} {op pos} {Q : V → H → Prop} (h : Ev c n sc l ρ σ fun a σ₁ => Ev c n sc r ρ σ₁ fun b σ₂ => Op2 c n (binaryOp op) a b σ₂ Q) : Ev c n sc (.BinOp l op r pos) ρ σ Q := by
  intro d m env w A B s Qc E S k
  refine wpAny_BinOp (h d m env w A B s _ E S fun a σ₁ x w₁ h₁ tk₁ q₁ le₁ S₁ r₁ => ?_)
  refine q₁ d m env w₁ A (B.mono le₁) _ _ E S₁ fun b σ₂ y w₂ h₂ tk₂ q₂ le₂ S₂ r₂ => ?_
  exact q₂ d m w₂ x y A (RepV.mono le₂ _ _ r₁) r₂ _ _ E S₂ fun v σ₃ z w₃ h₃ tk₃ q₃ le₃ S₃ r₃ => k v σ₃ z w₃ h₃ tk₃ q₃ ((le₁.trans le₂).trans le₃) S₃ r₃
theorem Ev.cmp {l r : Expr} {op pos} {Q : V → H → Prop} (h : Ev c n sc l ρ σ fun a σ₁ => Ev c n sc r ρ σ₁ fun b σ₂ => Op2 c n (compareOp op) a b σ₂ Q)
    (hm : behindInMarks op r = false := by with_unfolding_all rfl) : Ev c n sc (.Compare l [op] [r] pos) ρ σ Q := by
  intro d m env w A B s Qc E S k
  refine wpAny_Compare1 (h d m env w A B s _ E S fun a σ₁ x w₁ h₁ tk₁ q₁ le₁ S₁ r₁ => ?_) hm
  refine q₁ d m env w₁ A (B.mono le₁) _ _ E S₁ fun b σ₂ y w₂ h₂ tk₂ q₂ le₂ S₂ r₂ => ?_
  exact q₂ d m w₂ x y A (RepV.mono le₂ _ _ r₁) r₂ _ _ E S₂ fun v σ₃ z w₃ h₃ tk₃ q₃ le₃ S₃ r₃ => k v σ₃ z w₃ h₃ tk₃ q₃ ((le₁.trans le₂).trans le₃) S₃ r₃
theorem Tr.cmp {l r : Expr} {op pos} {Q : Bool → H → Prop} (h : Ev c n sc l ρ σ fun a σ₁ => Ev c n sc r ρ σ₁ fun b σ₂ => Op2 c n (compareOp op) a b σ₂ fun v σ₃ => ∃ t, v = .bool t ∧ Q t σ₃)
    (hm : behindInMarks op r = false := by with_unfolding_all rfl) : Tr c n sc (.Compare l [op] [r] pos) ρ σ Q := by
  intro d m env w A B s Qc E S k
  refine wpAny_isTrue_Compare1 (h d m env w A B s _ E S fun a σ₁ x w₁ h₁ tk₁ q₁ le₁ S₁ r₁ => ?_) hm
  refine q₁ d m env w₁ A (B.mono le₁) _ _ E S₁ fun b σ₂ y w₂ h₂ tk₂ q₂ le₂ S₂ r₂ => ?_
  refine q₂ d m w₂ x y A (RepV.mono le₂ _ _ r₁) r₂ _ _ E S₂ fun v σ₃ z w₃ h₃ tk₃ q₃ le₃ S₃ r₃ => ?_
  obtain ⟨t, rfl, q₃⟩ := q₃
  simp only [RepV] at r₃
  subst r₃
  exact wpAny_truthy_bool (k t σ₃ t w₃ h₃ tk₃ q₃ ((le₁.trans le₂).trans le₃) S₃ rfl)
/-- a test that is a value: a bool at hand -/
theorem Tr.val {e : Expr} {Q : Bool → H → Prop} (h : Ev c n sc e ρ σ fun v σ₁ => ∃ t, v = .bool t ∧ Q t σ₁)
    (he : ∀ env whole, isTrue e env whole = (do let v ← whole; standAt e.pos; holding [v] (truthy v)) := by intro _ _; rfl) : Tr c n sc e ρ σ Q := by
  intro d m env w A B s Qc E S k
  refine wpAny_isTrue_value (h d m env w A B s _ E S fun v σ₁ x w₁ h₁ tk₁ q₁ le₁ S₁ r₁ => ?_) (he _ _)
  obtain ⟨t, rfl, q₁⟩ := q₁
  simp only [RepV] at r₁
  subst r₁
  exact wpAny_truthy_bool (k t σ₁ t w₁ h₁ tk₁ q₁ le₁ S₁ rfl)
theorem Tr.andE {x : Expr} {rest : List Expr} {pos} {Q : Bool → H → Prop} (h : Tr c n sc x ρ σ fun t σ₁ => if t then Tr c n sc (.BoolOp .And rest pos) ρ σ₁ Q else Q false σ₁) : Tr c n sc (.BoolOp .And (x :: rest) pos) ρ σ Q := by
  intro d m env w A B s Qc E S k
  refine isTrue_and (h d m env w A B s _ E S fun t σ₁ t' w₁ h₁ tk₁ q₁ le₁ S₁ r₁ => ?_)
  subst r₁
  cases t' with
  | true => exact q₁ d m env w₁ A (B.mono le₁) _ _ E S₁ fun v σ₃ z w₃ h₃ tk₃ q₃ le₃ S₃ r₃ => k v σ₃ z w₃ h₃ tk₃ q₃ (le₁.trans le₃) S₃ r₃
  | false => exact k false σ₁ false w₁ h₁ tk₁ q₁ le₁ S₁ rfl
theorem Tr.orE {x : Expr} {rest : List Expr} {pos} {Q : Bool → H → Prop} (h : Tr c n sc x ρ σ fun t σ₁ => if t then Q true σ₁ else Tr c n sc (.BoolOp .Or rest pos) ρ σ₁ Q) : Tr c n sc (.BoolOp .Or (x :: rest) pos) ρ σ Q := by
  intro d m env w A B s Qc E S k
  refine isTrue_or (h d m env w A B s _ E S fun t σ₁ t' w₁ h₁ tk₁ q₁ le₁ S₁ r₁ => ?_)
  subst r₁
  cases t' with
  | true => exact k true σ₁ true w₁ h₁ tk₁ q₁ le₁ S₁ rfl
  | false => exact q₁ d m env w₁ A (B.mono le₁) _ _ E S₁ fun v σ₃ z w₃ h₃ tk₃ q₃ le₃ S₃ r₃ => k v σ₃ z w₃ h₃ tk₃ q₃ (le₁.trans le₃) S₃ r₃
theorem Tr.and0 {pos} {Q : Bool → H → Prop} (h : Q true σ) : Tr c n sc (.BoolOp .And [] pos) ρ σ Q :=
  fun d m env w A B s Qc E S k => isTrue_and_nil (k true σ true w s.heap s.toks h (.refl w) S rfl)
theorem Tr.or0 {pos} {Q : Bool → H → Prop} (h : Q false σ) : Tr c n sc (.BoolOp .Or [] pos) ρ σ Q :=
  fun d m env w A B s Qc E S k => isTrue_or_nil (k false σ false w s.heap s.toks h (.refl w) S rfl)
theorem Ev.ite {test body orelse : Expr} {pos} {Q : V → H → Prop} (h : Tr c n sc test ρ σ fun t σ₁ => if t then Ev c n sc body ρ σ₁ Q else Ev c n sc orelse ρ σ₁ Q) : Ev c n sc (.IfExp test body orelse pos) ρ σ Q := by
  intro d m env w A B s Qc E S k
  refine IfExp_ (h d m env w A B s _ E S fun t σ₁ t' w₁ h₁ tk₁ q₁ le₁ S₁ r₁ => ?_)
  subst r₁
  cases t' with
  | true => exact q₁ d m env w₁ A (B.mono le₁) _ _ E S₁ fun v σ₃ z w₃ h₃ tk₃ q₃ le₃ S₃ r₃ => k v σ₃ z w₃ h₃ tk₃ q₃ (le₁.trans le₃) S₃ r₃
  | false => exact q₁ d m env w₁ A (B.mono le₁) _ _ E S₁ fun v σ₃ z w₃ h₃ tk₃ q₃ le₃ S₃ r₃ => k v σ₃ z w₃ h₃ tk₃ q₃ (le₁.trans le₃) S₃ r₃
/-- and, or as values, of bools -/
theorem Ev.or2 {x y : Expr} {pos} {Q : V → H → Prop} (h : Ev c n sc x ρ σ fun v σ₁ => ∃ t, v = .bool t ∧ if t then Q v σ₁ else Ev c n sc y ρ σ₁ Q) : Ev c n sc (.BoolOp .Or [x, y] pos) ρ σ Q := by
  intro d m env w A B s Qc E S k
  refine BoolOp_or (h d m env w A B s _ E S fun v σ₁ x' w₁ h₁ tk₁ q₁ le₁ S₁ r₁ => ?_)
  obtain ⟨t, rfl, q₁⟩ := q₁
  have r₁' := r₁
  simp only [RepV] at r₁
  subst r₁
  refine wpAny_truthy_bool ?_
  cases t with
  | true => exact k _ σ₁ _ w₁ h₁ tk₁ q₁ le₁ S₁ r₁'
  | false => exact BoolOp_one (q₁ d m env w₁ A (B.mono le₁) _ _ E S₁ fun v σ₃ z w₃ h₃ tk₃ q₃ le₃ S₃ r₃ => k v σ₃ z w₃ h₃ tk₃ q₃ (le₁.trans le₃) S₃ r₃)
theorem Ev.and2 {x y : Expr} {pos} {Q : V → H → Prop} (h : Ev c n sc x ρ σ fun v σ₁ => ∃ t, v = .bool t ∧ if t then Ev c n sc y ρ σ₁ Q else Q v σ₁) : Ev c n sc (.BoolOp .And [x, y] pos) ρ σ Q := by
  intro d m env w A B s Qc E S k
  refine BoolOp_and (h d m env w A B s _ E S fun v σ₁ x' w₁ h₁ tk₁ q₁ le₁ S₁ r₁ => ?_)
  obtain ⟨t, rfl, q₁⟩ := q₁
  have r₁' := r₁
  simp only [RepV] at r₁
  subst r₁
  refine wpAny_truthy_bool ?_
  cases t with
  | false => exact k _ σ₁ _ w₁ h₁ tk₁ q₁ le₁ S₁ r₁'
  | true => exact BoolOp_one (q₁ d m env w₁ A (B.mono le₁) _ _ E S₁ fun v σ₃ z w₃ h₃ tk₃ q₃ le₃ S₃ r₃ => k v σ₃ z w₃ h₃ tk₃ q₃ (le₁.trans le₃) S₃ r₃)
theorem Evs.nil {Q : List V → H → Prop} (q : Q [] σ) : Evs c n sc [] ρ σ Q :=
  fun d m env w pos A B s Qc E S k => spliced_none (k [] σ [] w s.heap s.toks q (.refl w) S .nil)
theorem Evs.cons {e : Expr} {es : List Expr} {Q : List V → H → Prop} (h : Ev c n sc e ρ σ fun v σ₁ => Evs c n sc es ρ σ₁ fun vs σ₂ => Q (v :: vs) σ₂)
    (he : ∀ env, starEach (e :: es) env = (false, eval e env) :: starEach es env := by intro _; rfl) : Evs c n sc (e :: es) ρ σ Q := by
  intro d m env w pos A B s Qc E S k
  refine spliced_more (h d m env w A B s _ E S fun v σ₁ x w₁ h₁ tk₁ q₁ le₁ S₁ r₁ => ?_) (he env)
  exact q₁ d m env w₁ pos A (B.mono le₁) _ _ E S₁ fun vs σ₂ xs w₂ h₂ tk₂ q₂ le₂ S₂ r₂ => k (v :: vs) σ₂ (x :: xs) w₂ h₂ tk₂ q₂ (le₁.trans le₂) S₂ (.cons (RepV.mono le₂ _ _ r₁) r₂)
theorem none_of_size (h : Heap) : h.get? h.objs.size = none := by
  cases e : h.get? h.objs.size with
  | none => rfl
  | some o => exact absurd (Heap.lt_size e) (Nat.lt_irrefl _)
theorem Ev.tuple {es : List Expr} {k : Nat} {pos} {Q : V → H → Prop} (h : Evs c n sc es ρ σ fun vs σ₁ => vs.length ≤ sizeLine ∧ Q (.tup vs) σ₁) : Ev c n sc (.Tuple es k pos) ρ σ Q := by
  intro d m env w A B s Qc E S kk
  refine Tuple_ (h d m env w pos A B s _ E S fun vs σ₁ xs w₁ h₁ tk₁ q₁ le₁ S₁ r₁ => ?_)
  refine newTuple_N S₁.F S₁.N (fun h' F' N' => ?_) (by rw [← r₁.length]; exact q₁.1)
  exact kk (.tup vs) σ₁ _ _ h' tk₁ q₁.2 (le₁.trans (Wle.add ..)) (S₁.add F' N' (S₁.off (none_of_size _))) (by simp only [RepV]; exact ⟨_, xs, 0, rfl, .inl (.head _), RepVs.mono (Wle.add ..) _ _ r₁⟩)
theorem none_of_ge {h : Heap} {a : Addr} (ha : h.objs.size ≤ a) : h.get? a = none := by
  cases e : h.get? a with
  | none => rfl
  | some o => exact absurd (Nat.lt_of_lt_of_le (Heap.lt_size e) ha) (Nat.lt_irrefl _)
theorem Ev.listE {es : List Expr} {pos} {Q : V → H → Prop} (h : Evs c n sc es ρ σ fun vs σ₁ => vs.length ≤ sizeLine ∧ ∀ i, σ₁ i = none → Q (.ref i) (σ₁.set i (.list vs))) : Ev c n sc (.List es pos) ρ σ Q := by
  intro d m env w A B s Qc E S kk
  refine List_ (h d m env w pos A B s _ E S fun vs σ₁ xs w₁ h₁ tk₁ q₁ le₁ S₁ r₁ => ?_)
  refine newList_N S₁.F S₁.N (fun h' F' N' => ?_) (by rw [← r₁.length]; exact q₁.1)
  obtain ⟨i, hi, hσ⟩ := S₁.free
  obtain ⟨le, S'⟩ := S₁.newList (n := 0) F' N' (none_of_size _) r₁ hi
  exact kk (.ref i) _ _ _ h' tk₁ (q₁.2 i hσ) (le₁.trans le) S' (by simp only [RepV]; exact ⟨_, if_pos rfl, rfl⟩)
end
end Mine

namespace Mine
open PySem PySem.W PyProof.Rows PySem.Calls PySem.Spec

theorem intsAre_of {c : Cx} {w : Wd} : ∀ {ns : List Int} {vs : List Value}, RepVs c w (ns.map V.int) vs → IntsAre vs ns
  | [], _, h => by simp only [List.map_nil, RepVs] at h; subst h; exact .nil
  | n :: ns, _, h => by
    simp only [List.map_cons, RepVs, RepV] at h
    obtain ⟨v, r, e, ⟨t, h1⟩, h2⟩ := h
    subst e h1
    exact .cons n t (intsAre_of h2)

section
variable {c : Cx} {n : Nat} {σ : H}
/-- from a rule of the library whose end is one value, the heap untouched -/
theorem op_pure {d : Dyn} {m : Str → Option Value} {w : Wd} {t : Sem Value} {v : V} {Q : V → H → Prop}
    (h : ∀ (s : Shared) (Qc : Value → Shared → Prop) (E : Value → Shared → Prop), St c d m σ w s.heap → (∀ x tk, RepV c w v x → Qc x { s with toks := tk }) → wpAny (model c.prog c.w) d.A t Qc E s)
    (q : Q v σ) : Run c d m t (RepV c) σ w Q :=
  fun s Qc E S k => h s Qc E S fun x tk r => k v σ x w s.heap tk q (.refl w) S r

section
variable {a b : Int} {Q : V → H → Prop}
theorem Op2.add (q : Q (.int (a + b)) σ) : Op2 c n (binaryOp .Add) (.int a) (.int b) σ Q := by
  intro d m w x y A r r'
  simp only [RepV] at r r'
  obtain ⟨t, rfl⟩ := r; obtain ⟨u, rfl⟩ := r'
  exact op_pure (fun s Qc E S k => PyProof.Rows.add_int (k _ _ (by simp only [RepV]; exact ⟨_, rfl⟩))) q
theorem Op2.sub (q : Q (.int (a - b)) σ) : Op2 c n (binaryOp .Sub) (.int a) (.int b) σ Q := by
  intro d m w x y A r r'
  simp only [RepV] at r r'
  obtain ⟨t, rfl⟩ := r; obtain ⟨u, rfl⟩ := r'
  exact op_pure (fun s Qc E S k => PyProof.Rows.sub_int (k _ _ (by simp only [RepV]; exact ⟨_, rfl⟩))) q
theorem Op2.mul (hm : IntMulOk a b) (q : Q (.int (a * b)) σ) : Op2 c n (binaryOp .Mult) (.int a) (.int b) σ Q := by
  intro d m w x y A r r'
  simp only [RepV] at r r'
  obtain ⟨t, rfl⟩ := r; obtain ⟨u, rfl⟩ := r'
  exact op_pure (fun s Qc E S k => PyProof.Rows.mul_int (k _ _ (by simp only [RepV]; exact ⟨_, rfl⟩)) hm) q
theorem Op2.mod (hb : b ≠ 0) (q : Q (.int (a.fmod b)) σ) : Op2 c n (binaryOp .Mod) (.int a) (.int b) σ Q := by
  intro d m w x y A r r'
  simp only [RepV] at r r'
  obtain ⟨t, rfl⟩ := r; obtain ⟨u, rfl⟩ := r'
  exact op_pure (fun s Qc E S k => PyProof.Rows.mod_int hb (k _ _ (by simp only [RepV]; exact ⟨_, rfl⟩))) q
theorem Op2.fdiv (hb : b ≠ 0) (hp : Builtin.divisionGoesByPylong a b = false) (q : Q (.int (a.fdiv b)) σ) : Op2 c n (binaryOp .FloorDiv) (.int a) (.int b) σ Q := by
  intro d m w x y A r r'
  simp only [RepV] at r r'
  obtain ⟨t, rfl⟩ := r; obtain ⟨u, rfl⟩ := r'
  exact op_pure (fun s Qc E S k => PyProof.Rows.floordiv_int hb (k _ _ (by simp only [RepV]; exact ⟨_, rfl⟩)) (.inl hp)) q
theorem Op2.eqI (q : Q (.bool (a == b)) σ) : Op2 c n (compareOp .Eq) (.int a) (.int b) σ Q := by
  intro d m w x y A r r'
  simp only [RepV] at r r'
  obtain ⟨t, rfl⟩ := r; obtain ⟨u, rfl⟩ := r'
  exact op_pure (fun s Qc E S k => PyProof.Rows.eq_int (k _ _ (by simp only [RepV]))) q
theorem Op2.neI (q : Q (.bool (a != b)) σ) : Op2 c n (compareOp .NotEq) (.int a) (.int b) σ Q := by
  intro d m w x y A r r'
  simp only [RepV] at r r'
  obtain ⟨t, rfl⟩ := r; obtain ⟨u, rfl⟩ := r'
  exact op_pure (fun s Qc E S k => PyProof.Rows.ne_int (k _ _ (by simp only [RepV]))) q
theorem Op2.ltI (q : Q (.bool (decide (a < b))) σ) : Op2 c n (compareOp .Lt) (.int a) (.int b) σ Q := by
  intro d m w x y A r r'
  simp only [RepV] at r r'
  obtain ⟨t, rfl⟩ := r; obtain ⟨u, rfl⟩ := r'
  exact op_pure (fun s Qc E S k => PyProof.Rows.lt_int (k _ _ (by simp only [RepV]))) q
theorem Op2.gtI (q : Q (.bool (decide (b < a))) σ) : Op2 c n (compareOp .Gt) (.int a) (.int b) σ Q := by
  intro d m w x y A r r'
  simp only [RepV] at r r'
  obtain ⟨t, rfl⟩ := r; obtain ⟨u, rfl⟩ := r'
  exact op_pure (fun s Qc E S k => PyProof.Rows.gt_int (k _ _ (by simp only [RepV]))) q
theorem Op2.leI (q : Q (.bool (decide (a ≤ b))) σ) : Op2 c n (compareOp .LtE) (.int a) (.int b) σ Q := by
  intro d m w x y A r r'
  simp only [RepV] at r r'
  obtain ⟨t, rfl⟩ := r; obtain ⟨u, rfl⟩ := r'
  exact op_pure (fun s Qc E S k => PyProof.Rows.le_int (k _ _ (by simp only [RepV]))) q
theorem Op2.geI (q : Q (.bool (decide (b ≤ a))) σ) : Op2 c n (compareOp .GtE) (.int a) (.int b) σ Q := by
  intro d m w x y A r r'
  simp only [RepV] at r r'
  obtain ⟨t, rfl⟩ := r; obtain ⟨u, rfl⟩ := r'
  exact op_pure (fun s Qc E S k => PyProof.Rows.ge_int (k _ _ (by simp only [RepV]))) q
theorem Op2.neNoneI (q : Q (.bool true) σ) : Op2 c n (compareOp .NotEq) .none (.int b) σ Q := by
  intro d m w x y A r r'
  simp only [RepV] at r r'
  subst r; obtain ⟨u, rfl⟩ := r'
  exact op_pure (fun s Qc E S k => PySem.EqNone.ne_none_int (k _ _ (by simp only [RepV]))) q
end

noncomputable def V.isNone : V → Bool
  | .none => true
  | _ => false
noncomputable def V.noCon : V → Bool
  | .con _ => false
  | _ => true
/-- x is None, x is not None -/
theorem Op2.isNone {v : V} {Q : V → H → Prop} (hv : v.noCon = true) (q : Q (.bool v.isNone) σ) : Op2 c n (compareOp .Is) v .none σ Q := by
  intro d m w x y A r r'
  simp only [RepV] at r'
  subst r'
  refine op_pure (v := .bool v.isNone) (fun s Qc E S k => ?_) q
  have hb : RepV c w (.bool v.isNone) (.bool (x == .none)) ∧ plainIs x .none = true := by
    cases v with
    | none => simp only [RepV] at r; subst r; exact ⟨by simp only [RepV]; rfl, rfl⟩
    | bool b => simp only [RepV] at r; subst r; exact ⟨by simp only [RepV]; rfl, rfl⟩
    | int b => simp only [RepV] at r; obtain ⟨t, rfl⟩ := r; exact ⟨by simp only [RepV]; rfl, rfl⟩
    | str b => simp only [RepV] at r; obtain ⟨t, rfl⟩ := r; exact ⟨by simp only [RepV]; rfl, rfl⟩
    | tup b => simp only [RepV] at r; obtain ⟨a, vs, k, rfl, _⟩ := r; exact ⟨by simp only [RepV]; rfl, rfl⟩
    | ref b => simp only [RepV] at r; obtain ⟨a, _, rfl⟩ := r; exact ⟨by simp only [RepV]; rfl, rfl⟩
    | con b => cases hv
  exact wpAny_is_plain hb.2 (k _ s.toks hb.1)
theorem Op2.notNone {v : V} {Q : V → H → Prop} (hv : v.noCon = true) (q : Q (.bool (!v.isNone)) σ) : Op2 c n (compareOp .IsNot) v .none σ Q := by
  intro d m w x y A r r'
  simp only [RepV] at r'
  subst r'
  refine op_pure (v := .bool (!v.isNone)) (fun s Qc E S k => ?_) q
  have hb : RepV c w (.bool (!v.isNone)) (.bool (!(x == .none))) ∧ plainIs x .none = true := by
    cases v with
    | none => simp only [RepV] at r; subst r; exact ⟨by simp only [RepV]; rfl, rfl⟩
    | bool b => simp only [RepV] at r; subst r; exact ⟨by simp only [RepV]; rfl, rfl⟩
    | int b => simp only [RepV] at r; obtain ⟨t, rfl⟩ := r; exact ⟨by simp only [RepV]; rfl, rfl⟩
    | str b => simp only [RepV] at r; obtain ⟨t, rfl⟩ := r; exact ⟨by simp only [RepV]; rfl, rfl⟩
    | tup b => simp only [RepV] at r; obtain ⟨a, vs, k, rfl, _⟩ := r; exact ⟨by simp only [RepV]; rfl, rfl⟩
    | ref b => simp only [RepV] at r; obtain ⟨a, _, rfl⟩ := r; exact ⟨by simp only [RepV]; rfl, rfl⟩
    | con b => cases hv
  exact wpAny_isNot_plain hb.2 (k _ s.toks hb.1)

theorem St.isList {d : Dyn} {m : Str → Option Value} {w : Wd} {h : Heap} (S : St c d m σ w h) {i : Nat} {l : List V} {x : Value} (e : σ i = some (.list l)) (r : RepV c w (.ref i) x) :
    ∃ a vs n, x = .ref a ∧ w.mu i = some (a, a) ∧ (a, listOf vs.toArray n) ∈ w.news ∧ h.get? a = some (listOf vs.toArray n) ∧ h.IsList a vs.toArray ∧ RepVs c w l vs := by
  obtain ⟨a, vs, n, e1, e2, e3, e4⟩ := S.list e
  simp only [RepV] at r
  obtain ⟨p, e5, rfl⟩ := r
  rw [e1] at e5; cases e5
  exact ⟨a, vs, n, rfl, e1, e2, e3, ⟨_, e3, rfl, n, rfl⟩, e4⟩
theorem St.isTup {d : Dyn} {m : Str → Option Value} {w : Wd} {h : Heap} (S : St c d m σ w h) (A : Act c n d) {l : List V} {x : Value} (r : RepV c w (.tup l) x) :
    ∃ a vs k, x = .ref a ∧ h.get? a = some (tupOf vs k) ∧ IsTup h a vs.toArray ∧ RepVs c w l vs := by
  simp only [RepV] at r
  obtain ⟨a, vs, k, rfl, e1, e2⟩ := r
  have := S.repK A.X e1
  exact ⟨a, vs, k, rfl, this, ⟨_, this, rfl, k, rfl⟩, e2⟩
theorem Act.units {d : Dyn} (A : Act c n d) : d.A.units + 64 < cLine := by have := A.un; omega

/-- k in a tuple of ints, in a list of ints -/
theorem Op2.inTup {k : Int} {ns : List Int} {Q : V → H → Prop} (q : Q (.bool (ns.any (· == k))) σ) : Op2 c n (compareOp .In) (.int k) (.tup (ns.map V.int)) σ Q := by
  intro d m w x y A r r'
  simp only [RepV] at r
  obtain ⟨t, rfl⟩ := r
  intro s Qc E S kk
  obtain ⟨a, vs, j, rfl, _, e2, e3⟩ := S.isTup A r'
  exact in_tuple_ints e2 (intsAre_of e3) (kk _ σ _ w s.heap s.toks q (.refl w) S (by simp only [RepV]))
theorem Op2.notInTup {k : Int} {ns : List Int} {Q : V → H → Prop} (q : Q (.bool (!ns.any (· == k))) σ) : Op2 c n (compareOp .NotIn) (.int k) (.tup (ns.map V.int)) σ Q := by
  intro d m w x y A r r'
  simp only [RepV] at r
  obtain ⟨t, rfl⟩ := r
  intro s Qc E S kk
  obtain ⟨a, vs, j, rfl, _, e2, e3⟩ := S.isTup A r'
  exact notin_tuple_ints e2 (intsAre_of e3) (kk _ σ _ w s.heap s.toks q (.refl w) S (by simp only [RepV]))
theorem Op2.inList {k : Int} {i : Nat} {ns : List Int} {Q : V → H → Prop} (e : σ i = some (.list (ns.map V.int))) (q : Q (.bool (ns.any (· == k))) σ) : Op2 c n (compareOp .In) (.int k) (.ref i) σ Q := by
  intro d m w x y A r r'
  simp only [RepV] at r
  obtain ⟨t, rfl⟩ := r
  intro s Qc E S kk
  obtain ⟨a, vs, j, rfl, _, _, _, e2, e3⟩ := S.isList e r'
  exact KTD.in_nums (h₀ := s.heap) ⟨vs, e2, intsAre_of e3⟩ (fun _ _ e => e) (kk _ σ _ w s.heap s.toks q (.refl w) S (by simp only [RepV]; rw [KTD.any_nums]))
/-- a list against the empty list -/
theorem Op2.neNil {i j : Nat} {l : List V} {Q : V → H → Prop} (e : σ i = some (.list l)) (e' : σ j = some (.list [])) (q : Q (.bool (!l.isEmpty)) σ) : Op2 c n (compareOp .NotEq) (.ref i) (.ref j) σ Q := by
  intro d m w x y A r r'
  intro s Qc E S kk
  obtain ⟨a, vs, k, rfl, _, _, _, e2, e3⟩ := S.isList e r
  obtain ⟨b, us, k', rfl, _, _, _, f2, f3⟩ := S.isList e' r'
  simp only [RepVs] at f3
  subst f3
  cases l with
  | nil =>
    simp only [RepVs] at e3
    subst e3
    exact ne_intsK e2 .nil f2 .nil A.units (kk _ σ _ w s.heap s.toks q (.refl w) S (by simp only [RepV]; rfl))
  | cons v l =>
    have hl := e3.length
    refine PySem.EqBoolInt.of_rcne (SeqAt.RcNeAt.lists_lengths e2 f2 ?_ (by have := A.units; omega)) (kk _ σ _ w s.heap s.toks q (.refl w) S (by simp only [RepV]; rfl))
    simp only [List.size_toArray, bne_iff_ne, ← hl]
    simp
end
end Mine

namespace Mine
open PySem PySem.W PyProof.Rows PySem.Calls PySem.Spec

theorem RepVs.one {c : Cx} {w : Wd} {v : V} {xs : List Value} (h : RepVs c w [v] xs) : ∃ x, xs = [x] ∧ RepV c w v x := by
  simp only [RepVs] at h
  obtain ⟨x, r, rfl, h1, rfl⟩ := h
  exact ⟨x, rfl, h1⟩
theorem RepVs.two {c : Cx} {w : Wd} {v u : V} {xs : List Value} (h : RepVs c w [v, u] xs) : ∃ x y, xs = [x, y] ∧ RepV c w v x ∧ RepV c w u y := by
  simp only [RepVs] at h
  obtain ⟨x, r, rfl, h1, y, r', rfl, h2, rfl⟩ := h
  exact ⟨x, y, rfl, h1, h2⟩
theorem RepVs.take {c : Cx} {w : Wd} : ∀ {l : List V} {vs : List Value} (k : Nat), RepVs c w l vs → RepVs c w (l.take k) (vs.take k)
  | _, _, 0, _ => by simp only [List.take_zero]; exact .nil
  | [], _, k + 1, h => by simp only [RepVs] at h; subst h; exact .nil
  | _ :: _, _, k + 1, h => by
    simp only [RepVs] at h
    obtain ⟨v, r, rfl, h1, h2⟩ := h
    exact .cons h1 (RepVs.take k h2)
theorem RepVs.dropLast {c : Cx} {w : Wd} {l : List V} {vs : List Value} (h : RepVs c w l vs) : RepVs c w l.dropLast vs.dropLast := by
  rw [List.dropLast_eq_take, List.dropLast_eq_take, h.length]; exact h.take _
theorem RepVs.rep {c : Cx} {w : Wd} {l : List V} {vs : List Value} (h : RepVs c w l vs) : ∀ k : Nat, RepVs c w (List.replicate k l).flatten (List.replicate k vs).flatten
  | 0 => .nil
  | k + 1 => by simp only [List.replicate_succ, List.flatten_cons]; exact h.append (h.rep k)
theorem RepVs.reverse {c : Cx} {w : Wd} : ∀ {l : List V} {vs : List Value}, RepVs c w l vs → RepVs c w l.reverse vs.reverse
  | [], _, h => by simp only [RepVs] at h; subst h; exact .nil
  | _ :: _, _, h => by
    simp only [RepVs] at h
    obtain ⟨v, r, rfl, h1, h2⟩ := h
    simp only [List.reverse_cons]
    exact (RepVs.reverse h2).append (.cons h1 .nil)

section
variable {c : Cx} {n : Nat} {σ : H}
theorem CallR.extend {i j : Nat} {l l' : List V} {Q : V → H → Prop} (e : σ i = some (.list l)) (e' : σ j = some (.list l')) (hz : l.length + l'.length ≤ sizeLine)
    (q : Q .none (σ.set i (.list (l ++ l')))) : CallR c n (.builtin "list.extend") [.ref i, .ref j] σ Q := by
  intro d m w xs A r
  obtain ⟨x, y, rfl, r1, r2⟩ := r.two
  intro s Qc E S kk
  obtain ⟨a, vs, k, rfl, e1, e2, e3, e4, e5⟩ := S.isList e r1
  obtain ⟨b, us, k', rfl, f1, f2, f3, f4, f5⟩ := S.isList e' r2
  have hl := e5.length
  have hl' := f5.length
  refine call_meets PySem.F.slot_list_extend ⟨_, e3, rfl⟩ PySem.F.entry_list_extend (PySem.F.args_list_extend_2 _ _)
    (PySem.AutoSeq1.list_extend_list_list_0 a vs.toArray k b us.toArray k' ?_ (by simp; omega) (by simp; omega)) ⟨e3, f3, ?_⟩
  · simp only [Builtin.List.listTooLong, Bool.and_eq_true, decide_eq_true_eq, not_and, List.size_toArray]
    intro _; omega
  · have hup : (s.heap.update a (Obj.mapSeq fun xs => xs ++ us.toArray)).get? a = some (listOf (vs ++ us).toArray (if (vs ++ us).toArray.size == vs.toArray.size then k else k + 1)) := by
      rw [Heap.get?_update_self _ e3 rfl]
      simp [Obj.mapSeq]
    obtain ⟨le, S'⟩ := S.setList (l' := l ++ l') e e1 e2 (Heap.SameBut.update ..) hup (e5.append f5)
    exact kk .none _ .none _ _ s.toks q le S' (by simp only [RepV])
theorem CallR.append {i : Nat} {l : List V} {v : V} {Q : V → H → Prop} (e : σ i = some (.list l)) (hz : l.length ≤ sizeLine) (q : Q .none (σ.set i (.list (l ++ [v])))) : CallR c n (.builtin "list.append") [.ref i, v] σ Q := by
  intro d m w xs A r
  obtain ⟨x, y, rfl, r1, r2⟩ := r.two
  intro s Qc E S kk
  obtain ⟨a, vs, k, rfl, e1, e2, e3, e4, e5⟩ := S.isList e r1
  have hl := e5.length
  refine append_at (hsz := by simp; omega) e3 fun h' hs ho => ?_
  have ho' : h'.get? a = some (listOf (vs ++ [y]).toArray (k + 1)) := by rw [ho]; simp
  obtain ⟨le, S'⟩ := S.setList (l' := l ++ [v]) e e1 e2 hs ho' (e5.append (.cons r2 .nil))
  exact kk .none _ .none _ _ s.toks q le S' (by simp only [RepV])
theorem CallR.pop {i : Nat} {l : List V} {v : V} {Q : V → H → Prop} (e : σ i = some (.list (l ++ [v]))) (hz : l.length < sizeLine) (q : Q v (σ.set i (.list l))) : CallR c n (.builtin "list.pop") [.ref i] σ Q := by
  intro d m w xs A r
  obtain ⟨x, rfl, r1⟩ := r.one
  intro s Qc E S kk
  obtain ⟨a, vs, k, rfl, e1, e2, e3, e4, e5⟩ := S.isList e r1
  have hl := e5.length
  simp only [List.length_append, List.length_cons, List.length_nil] at hl
  obtain ⟨y, hy, r2⟩ := e5.get (i := l.length) (x := v) (by simp)
  have hd : RepVs c w l vs.dropLast := by simpa using e5.dropLast
  refine PyProof.Rows.Copied.pop_at (hsz := by simp; omega) e3 (y := y) (by simpa [← hl] using hy) fun h' hs ho => ?_
  have ho' : h'.get? a = some (listOf vs.dropLast.toArray (k + 1)) := by rw [ho]; simp
  obtain ⟨le, S'⟩ := S.setList (l' := l) e e1 e2 hs ho' hd
  exact kk v _ y _ _ s.toks q le S' (RepV.mono le _ _ r2)

/-- lists joined; a list some times -/
theorem Op2.addList {i j : Nat} {l l' : List V} {Q : V → H → Prop} (e : σ i = some (.list l)) (e' : σ j = some (.list l')) (hz : l.length + l'.length ≤ sizeLine)
    (q : ∀ k, σ k = none → Q (.ref k) (σ.set k (.list (l ++ l')))) : Op2 c n (binaryOp .Add) (.ref i) (.ref j) σ Q := by
  intro d m w x y A r1 r2 s Qc E S kk
  obtain ⟨a, vs, k, rfl, e1, e2, e3, e4, e5⟩ := S.isList e r1
  obtain ⟨b, us, k', rfl, f1, f2, f3, f4, f5⟩ := S.isList e' r2
  have hl := e5.length
  have hl' := f5.length
  refine PyProof.Rows.add_arrays (hsz := by simp; omega) S.F S.N e4 f4 fun h' F' N' => ?_
  obtain ⟨i', hi, hσ⟩ := S.free
  obtain ⟨le, S'⟩ := S.newList (vs := vs ++ us) (n := 0) F' N' (none_of_size _) (e5.append f5) hi
  exact kk (.ref i') _ _ _ _ s.toks (q i' hσ) le S' (by simp only [RepV]; exact ⟨_, if_pos rfl, rfl⟩)
theorem foldl_rep (items : List Value) (k : Nat) : List.foldl (fun x1 x2 => x1 ++ x2) #[] (List.replicate (if items.toArray.isEmpty = true then 0 else k) items.toArray) = (List.replicate k items).flatten.toArray := by
  have := PyProof.Rows.listMul_foldl_if items.toArray k
  simpa using this
theorem Op2.mulList {i : Nat} {l : List V} {x : Int} {Q : V → H → Prop} (e : σ i = some (.list l)) (hlo : -(2 ^ 63 : Int) ≤ x) (hhi : x < 2 ^ 63) (hz : l.length * x.toNat ≤ 2 ^ 24)
    (q : ∀ k, σ k = none → Q (.ref k) (σ.set k (.list (List.replicate x.toNat l).flatten))) : Op2 c n (binaryOp .Mult) (.ref i) (.int x) σ Q := by
  intro d m w x' y A r1 r2 s Qc E S kk
  obtain ⟨a, vs, k, rfl, e1, e2, e3, e4, e5⟩ := S.isList e r1
  simp only [RepV] at r2
  obtain ⟨u, rfl⟩ := r2
  have hl := e5.length
  refine PyProof.Rows.mul_list S.F S.N e3 hlo hhi (by simpa [← hl] using hz) fun h' F' N' => ?_
  rw [foldl_rep] at N'
  obtain ⟨i', hi, hσ⟩ := S.free
  obtain ⟨le, S'⟩ := S.newList (n := 0) F' N' (none_of_size _) (e5.rep x.toNat) hi
  exact kk (.ref i') _ _ _ _ s.toks (q i' hσ) le S' (by simp only [RepV]; exact ⟨_, if_pos rfl, rfl⟩)
theorem Op2.addTup {l l' : List V} {Q : V → H → Prop} (hz : l.length + l'.length ≤ sizeLine) (q : Q (.tup (l ++ l')) σ) : Op2 c n (binaryOp .Add) (.tup l) (.tup l') σ Q := by
  intro d m w x y A r1 r2 s Qc E S kk
  obtain ⟨a, vs, k, rfl, e3, e4, e5⟩ := S.isTup A r1
  obtain ⟨b, us, k', rfl, f3, f4, f5⟩ := S.isTup A r2
  have hl := e5.length
  have hl' := f5.length
  refine add_tuples (hsz := by omega) S.F S.N e4 f4 (fun h0 => ?_) (fun h0 h1 => ?_) fun h0 h1 h' F' N' => ?_
  · subst h0
    cases l with
    | nil => exact kk _ σ _ w s.heap s.toks q (.refl w) S r2
    | cons v l => simp at hl
  · subst h1
    cases l' with
    | nil => exact kk _ σ _ w s.heap s.toks (by simpa using q) (.refl w) S r1
    | cons v l => simp at hl'
  · exact kk _ σ _ _ h' s.toks q (Wle.add ..) (S.add F' N' (S.off (none_of_size _))) (by simp only [RepV]; exact ⟨_, vs ++ us, 0, rfl, .inl (.head _), RepVs.mono (Wle.add ..) _ _ (e5.append f5)⟩)

/-- an item at a place -/
theorem Op2.itemList {value slice : Expr} {i : Nat} {l : List V} {k : Int} {j : Nat} {v : V} {Q : V → H → Prop} (e : σ i = some (.list l)) (hlo : -(2 ^ 63 : Int) ≤ k) (hhi : k < 2 ^ 63)
    (hj : seqIndex? k l.length = some j) (hv : l[j]? = some v) (q : Q v σ) (hs : ∀ o x, subscripted slice false o x = operate [o, x] (getItem o x) := by intro _ _; rfl) :
    Op2 c n (subscriptTail value slice) (.ref i) (.int k) σ Q := by
  intro d m w x y A r1 r2 s Qc E S kk
  obtain ⟨a, vs, p, rfl, e1, e2, e3, e4, e5⟩ := S.isList e r1
  simp only [RepV] at r2
  obtain ⟨u, rfl⟩ := r2
  obtain ⟨y, hy, ry⟩ := e5.get hv
  have hl := e5.length
  refine tail_any ⟨_, e3, rfl⟩ slot_list_getitem.lookup ?_ (hs _ _)
  have fin := kk v σ y w s.heap s.toks q (.refl w) S ry
  unfold seqIndex? at hj
  by_cases h0 : k < 0
  · simp only [if_pos h0] at hj
    split at hj
    · rename_i hc
      simp only [Bool.and_eq_true, decide_eq_true_eq] at hc
      refine wpAny_getItem_list_neg e4 h0 (by simp only [List.size_toArray, ← hl]; omega) hlo ?_ fin
      cases hj
      simpa [← hl] using hy
    · cases hj
  · simp only [if_neg h0] at hj
    split at hj
    · cases hj
      exact wpAny_getItem_list e4 (by omega) hhi (by simpa using hy) fin
    · cases hj
theorem Op2.itemTup {value slice : Expr} {l : List V} {k : Int} {j : Nat} {v : V} {Q : V → H → Prop} (hlo : -(2 ^ 63 : Int) ≤ k) (hhi : k < 2 ^ 63)
    (hj : seqIndex? k l.length = some j) (hv : l[j]? = some v) (q : Q v σ) (hs : ∀ o x, subscripted slice false o x = operate [o, x] (getItem o x) := by intro _ _; rfl) :
    Op2 c n (subscriptTail value slice) (.tup l) (.int k) σ Q := by
  intro d m w x y A r1 r2 s Qc E S kk
  obtain ⟨a, vs, p, rfl, e3, e4, e5⟩ := S.isTup A r1
  simp only [RepV] at r2
  obtain ⟨u, rfl⟩ := r2
  obtain ⟨y, hy, ry⟩ := e5.get hv
  exact item_tupleT e4 hlo hhi (by rw [← e5.length]; exact hj) hy (kk v σ y w s.heap s.toks q (.refl w) S ry) (hs _ _)
/-- a top's dict of ints -/
noncomputable def IsTab (c : Cx) (a : Addr) (f : Int → Option V) : Prop :=
  (a == sysModules) = false ∧ ∃ es ep, c.K.lookup a = some ⟨.type "dict", none, .dict es ep, #[]⟩ ∧ KeysOf (intKind c.prog c.w) es ∧
    ∀ k, match f k with | none => findBy (intKind c.prog c.w).is es k = none | some v => ∃ cv, findBy (intKind c.prog c.w).is es k = some cv ∧ ∀ w, RepV c w v cv
theorem IsTab.map {a : Addr} {f : Int → Option V} (T : IsTab c a f) {h : Heap} (X : c.K.In h) : ∃ g, h.MapOf (intKind c.prog c.w) a g ∧ (∀ k, (g k).isSome = (f k).isSome) ∧ ∀ k v, f k = some v → ∃ cv, g k = some cv ∧ ∀ w, RepV c w v cv := by
  obtain ⟨_, es, ep, h1, h2, h3⟩ := T
  refine ⟨fun k => findBy (intKind c.prog c.w).is es k, ⟨_, es, ep, X _ _ h1, ⟨rfl, rfl, rfl⟩, rfl, h2, fun _ => rfl⟩, fun k => ?_, fun k v e => ?_⟩
  · have := h3 k
    split at this
    · rename_i e; rw [e]; simp only [this, Option.isSome_none]
    · rename_i v e; obtain ⟨cv, e', _⟩ := this; rw [e]; simp only [e', Option.isSome_some]
  · have := h3 k
    rw [e] at this
    exact this
theorem Op2.inTab {a : Addr} {f : Int → Option V} {k : Int} {Q : V → H → Prop} (T : IsTab c a f) (q : Q (.bool (f k).isSome) σ) : Op2 c n (compareOp .In) (.int k) (.con (.ref a)) σ Q := by
  intro d m w x y A r1 r2 s Qc E S kk
  simp only [RepV] at r1 r2
  obtain ⟨u, rfl⟩ := r1
  subst r2
  obtain ⟨g, h1, h2, _⟩ := T.map (A.X.keeps S.F.keep)
  refine wpAny_in_of (by show Value.isInt k (.int k u) = true; simp [Value.isInt]) T.1 h1 ?_
  exact kk _ σ _ w s.heap _ q (.refl w) S (by simp only [RepV, h2])
theorem Op2.itemTab {value slice : Expr} {a : Addr} {f : Int → Option V} {k : Int} {v : V} {Q : V → H → Prop} (T : IsTab c a f) (hv : f k = some v) (q : Q v σ)
    (hs : ∀ o x, subscripted slice false o x = operate [o, x] (getItem o x) := by intro _ _; rfl) : Op2 c n (subscriptTail value slice) (.con (.ref a)) (.int k) σ Q := by
  intro d m w x y A r1 r2 s Qc E S kk
  simp only [RepV] at r1 r2
  obtain ⟨u, rfl⟩ := r2
  subst r1
  obtain ⟨g, h1, _, h3⟩ := T.map (A.X.keeps S.F.keep)
  obtain ⟨cv, h4, h5⟩ := h3 k v hv
  refine tail_any h1.typeIs slot_dict_getitem.lookup (wpAny_getItem_of (by show Value.isInt k (.int k u) = true; simp [Value.isInt]) h1 h4 ?_) (hs _ _)
  exact kk _ σ _ w s.heap _ q (.refl w) S (h5 w)
end

section
variable {c : Cx} {n : Nat} {sc : Scope} {ρ : Loc} {σ : H}
theorem Ev.sub {value slice : Expr} {pos : Pos} {Q : V → H → Prop} (h : Ev c n sc value ρ σ fun a σ₁ => Ev c n sc slice ρ σ₁ fun b σ₂ => Op2 c n (subscriptTail value slice) a b σ₂ Q) :
    Ev c n sc (.Subscript value slice pos) ρ σ Q := by
  intro d m env w A B s Qc E S k
  refine Subscript_ (h d m env w A B s _ E S fun a σ₁ x w₁ h₁ tk₁ q₁ le₁ S₁ r₁ => ?_)
  refine q₁ d m env w₁ A (B.mono le₁) _ _ E S₁ fun b σ₂ y w₂ h₂ tk₂ q₂ le₂ S₂ r₂ => ?_
  exact q₂ d m w₂ x y A (RepV.mono le₂ _ _ r₁) r₂ _ _ E S₂ fun v σ₃ z w₃ h₃ tk₃ q₃ le₃ S₃ r₃ => k v σ₃ z w₃ h₃ tk₃ q₃ ((le₁.trans le₂).trans le₃) S₃ r₃
theorem slicePick_minus (vs : List Value) : slicePick vs.toArray none (some (-1)) none = vs.dropLast.toArray := by
  by_cases h : vs = []
  · subst h; rfl
  · have hn : 0 < vs.length := List.length_pos_iff.mpr h
    have e : sliceBounds none (some (-1)) none vs.toArray.size = sliceBounds none (some ((vs.length - 1 : Nat) : Int)) none vs.toArray.size := by
      simp only [List.size_toArray]
      unfold sliceBounds
      simp only [Option.getD_none]
      have h1 : ((-1 : Int) < 0) := by decide
      have h2 : ¬ (((vs.length - 1 : Nat) : Int) < 0) := by omega
      have h3 : (-1 : Int) + vs.length = ((vs.length - 1 : Nat) : Int) := by omega
      simp only [if_pos h1, if_neg h2, h3]
    have e2 := slicePick_upto vs.toArray (vs.length - 1) (by simp)
    unfold slicePick at e2 ⊢
    rw [e, e2, List.dropLast_eq_take]
/-- value[:e] of a list -/
theorem Ev.upto {value e : Expr} {p pos : Pos} {Q : V → H → Prop}
    (h : Ev c n sc value ρ σ fun a σ₁ => Ev c n sc e ρ σ₁ fun b σ₂ => ∃ i l k, a = .ref i ∧ b = .int k ∧ σ₂ i = some (.list l) ∧ l.length ≤ sizeLine ∧
      ((k = -1 ∧ ∀ j, σ₂ j = none → Q (.ref j) (σ₂.set j (.list l.dropLast))) ∨ (0 ≤ k ∧ k ≤ l.length ∧ ∀ j, σ₂ j = none → Q (.ref j) (σ₂.set j (.list (l.take k.toNat))))))
    (ht : ∀ o r, letTemporaryGo value o r = pure () := by intro _ _; rfl) : Ev c n sc (.Subscript value (.Slice none (some e) none p) pos) ρ σ Q := by
  intro d m env w A B s Qc E S kk
  refine Subscript_ (h d m env w A B s _ E S fun a σ₁ x w₁ h₁ tk₁ q₁ le₁ S₁ r₁ => ?_)
  refine wpAny_Slice ?_
  rw [evalPart_none, evalPart_some]
  refine wpAny_pure ?_
  refine q₁ d m env w₁ A (B.mono le₁) _ _ E S₁ fun b σ₂ y w₂ h₂ tk₂ q₂ le₂ S₂ r₂ => ?_
  refine wpAny_pure ?_
  obtain ⟨i, l, k, rfl, rfl, hl, hz, hq⟩ := q₂
  obtain ⟨a, vs, p, rfl, e1, e2, e3, e4, e5⟩ := S₂.isList hl (RepV.mono le₂ _ _ r₁)
  simp only [RepV] at r₂
  obtain ⟨u, rfl⟩ := r₂
  have hlen := e5.length
  refine slice_listK (s := { s with heap := h₂, toks := tk₂ }) e4 .none (.int k u) ?_ (by with_unfolding_all rfl) (ht _) (by simp; omega)
  have F1 := S₂.F.push (o := { cls := .type "slice", data := .fields #[.none, .int k u, .none] })
  have N1 := (News.push S₂.F S₂.N { cls := .type "slice", data := .fields #[.none, .int k u, .none] })
  have N1' : News d.h₀ d.L (h₂.push { cls := .type "slice", data := .fields #[.none, .int k u, .none] }) (w₂.news ++ d.fr) := fun q hq => N1 q (.tail _ hq)
  have sz : (h₂.push { cls := .type "slice", data := .fields #[.none, .int k u, .none] }).objs.size = h₂.objs.size + 1 := Heap.size_push ..
  obtain ⟨i', hi, hσ⟩ := S₂.free
  rcases hq with ⟨rfl, hq⟩ | ⟨k0, k1, hq⟩
  · rw [slicePick_minus]
    have N2 := News.push F1 N1' (listOf vs.dropLast.toArray 0)
    rw [sz] at N2
    obtain ⟨le, S'⟩ := S₂.newList (F1.push _) N2 (none_of_ge (Nat.le_succ _)) e5.dropLast hi
    exact kk (.ref i') _ _ _ _ tk₂ (hq i' hσ) ((le₁.trans le₂).trans le) S' (by simp only [RepV]; exact ⟨_, if_pos rfl, rfl⟩)
  · have ek : k = (k.toNat : Int) := by omega
    have ep : slicePick vs.toArray none (some k) none = (vs.take k.toNat).toArray := by
      conv => lhs; rw [ek]
      rw [slicePick_upto vs.toArray k.toNat (by simp; omega)]
    rw [ep]
    have N2 := News.push F1 N1' (listOf (vs.take k.toNat).toArray 0)
    rw [sz] at N2
    obtain ⟨le, S'⟩ := S₂.newList (F1.push _) N2 (none_of_ge (Nat.le_succ _)) (e5.take k.toNat) hi
    exact kk (.ref i') _ _ _ _ tk₂ (hq i' hσ) ((le₁.trans le₂).trans le) S' (by simp only [RepV]; exact ⟨_, if_pos rfl, rfl⟩)
end
end Mine

namespace Mine
open PySem PySem.W PyProof.Rows PySem.Calls PySem.Spec

inductive AF where
  | next | brk | cont | ret (v : V)
noncomputable def RepFl (c : Cx) (w : Wd) : AF → Flow → Prop
  | .next, f => f = .next
  | .brk, f => f = .brk
  | .cont, f => f = .cont
  | .ret v, f => ∃ x, f = .ret x ∧ RepV c w v x
noncomputable def setL : Loc → Str → V → Loc
  | [], x, v => [(x, v)]
  | (y, u) :: r, x, v => if x == y then (y, v) :: r else (y, u) :: setL r x v
theorem lookup_setL : ∀ (ρ : Loc) (x : Str) (v : V) (y : Str), (setL ρ x v).lookup y = if y = x then some v else ρ.lookup y
  | [], x, v, y => by
    simp only [setL, List.lookup]
    by_cases h : y = x
    · subst h; simp
    · rw [beq_eq_false_iff_ne.mpr h, if_neg h]
  | (z, u) :: r, x, v, y => by
    simp only [setL]
    by_cases hz : x = z
    · subst hz
      simp only [beq_self_eq_true, if_true, List.lookup]
      by_cases h : y = x
      · subst h; simp
      · rw [beq_eq_false_iff_ne.mpr h, if_neg h]
    · rw [if_neg (by simpa using hz)]
      simp only [List.lookup]
      by_cases h : y = z
      · subst h
        rw [if_neg (fun e => hz e.symm)]; simp
      · rw [beq_eq_false_iff_ne.mpr h]
        exact lookup_setL r x v y

structure ScOk (sc : Scope) : Prop where
  kind : sc.kind = .function
  dbg : sc.names.lookup ("__debug__" : Str) = none
structure Lcl (c : Cx) (sc : Scope) (m : Str → Option Value) (w : Wd) (ρ : Loc) : Prop where
  at' : ∀ x v, ρ.lookup x = some v → sc.names.lookup x = some .local ∧ ∃ cv, m x = some cv ∧ RepV c w v cv
theorem Lcl.mono {c : Cx} {sc : Scope} {m : Str → Option Value} {w w' : Wd} {ρ : Loc} (l : Lcl c sc m w ρ) (x : Wle w w') : Lcl c sc m w' ρ :=
  ⟨fun y v e => let ⟨h, cv, h1, h2⟩ := l.at' y v e; ⟨h, cv, h1, RepV.mono x _ _ h2⟩⟩
theorem Lcl.set {c : Cx} {sc : Scope} {m : Str → Option Value} {w : Wd} {ρ : Loc} (l : Lcl c sc m w ρ) {x : Str} {v : V} {cv : Value} (hx : sc.names.lookup x = some .local) (r : RepV c w v cv) :
    Lcl c sc (fun y => if y = x then some cv else m y) w (setL ρ x v) := ⟨fun y u e => by
  rw [lookup_setL] at e
  by_cases h : y = x
  · subst h; rw [if_pos rfl] at e; cases e; exact ⟨hx, cv, if_pos rfl, r⟩
  · rw [if_neg h] at e
    obtain ⟨h0, cv', h1, h2⟩ := l.at' y u e
    exact ⟨h0, cv', (if_neg h).trans h1, h2⟩⟩

structure FnEnv (sc : Scope) (d : Dyn) (env : Env) : Prop where
  ex : ∃ cn a cd cl, env = envX cn sc d.L a cd cl
  eq : d.fenv = env

theorem Lcl.bind {c : Cx} {sc : Scope} {d : Dyn} {env : Env} {m : Str → Option Value} {w : Wd} {ρ : Loc} (l : Lcl c sc m w ρ) (hs : ScOk sc) (he : FnEnv sc d env) : Bind c d m env sc ρ w := by
  obtain ⟨⟨cn, a, cd, cl, rfl⟩, _⟩ := he
  refine ⟨fun x v e => ?_, rfl, rfl, hs.kind, fun x h => h⟩
  obtain ⟨h0, cv, h1, h2⟩ := l.at' x v e
  refine ⟨cv, h2, fun A Q E s pos F _ q => nameX_L F h1 q hs.kind h0 ?_⟩
  refine beq_eq_false_iff_ne.mpr fun e => ?_
  rw [e, hs.dbg] at h0; cases h0

noncomputable def RunS (c : Cx) (sc : Scope) (d : Dyn) (m : Str → Option Value) (t : Sem Flow) (ρ : Loc) (σ : H) (w : Wd) (Q : AF → Loc → H → Prop) : Prop :=
  ∀ (s : Shared) (Qc : Flow → Shared → Prop) (E : Value → Shared → Prop), St c d m σ w s.heap →
    (∀ f ρ' σ' fc m' w' h' tk, Q f ρ' σ' → Wle w w' → St c d m' σ' w' h' → Lcl c sc m' w' ρ' → RepFl c w' f fc → Qc fc { s with heap := h', toks := tk }) →
    wpAny (model c.prog c.w) d.A t Qc E s
noncomputable def Ex (c : Cx) (n : Nat) (sc : Scope) (st : List Stmt) (ρ : Loc) (σ : H) (Q : AF → Loc → H → Prop) : Prop :=
  ∀ d m env w, Act c n d → FnEnv sc d env → Lcl c sc m w ρ → RunS c sc d m (execs st env) ρ σ w Q
noncomputable def Ex1 (c : Cx) (n : Nat) (sc : Scope) (st : Stmt) (ρ : Loc) (σ : H) (Q : AF → Loc → H → Prop) : Prop :=
  ∀ d m env w, Act c n d → FnEnv sc d env → Lcl c sc m w ρ → RunS c sc d m (exec st env) ρ σ w Q

section
variable {c : Cx} {n : Nat} {sc : Scope} {ρ : Loc} {σ : H}
theorem Ex1.mono {st : Stmt} {Q Q' : AF → Loc → H → Prop} (h : Ex1 c n sc st ρ σ Q) (k : ∀ f r s, Q f r s → Q' f r s) : Ex1 c n sc st ρ σ Q' :=
  fun d m env w a b l s Qc E S q => h d m env w a b l s Qc E S fun f r s' fc m' w' h' tk q' => q f r s' fc m' w' h' tk (k _ _ _ q')
theorem Ex.mono {st : List Stmt} {Q Q' : AF → Loc → H → Prop} (h : Ex c n sc st ρ σ Q) (k : ∀ f r s, Q f r s → Q' f r s) : Ex c n sc st ρ σ Q' :=
  fun d m env w a b l s Qc E S q => h d m env w a b l s Qc E S fun f r s' fc m' w' h' tk q' => q f r s' fc m' w' h' tk (k _ _ _ q')
/-- fewer locals known, fewer letters live -/
theorem Ex.weak {st : List Stmt} {ρ' : Loc} {σ' : H} {Q : AF → Loc → H → Prop} (h : Ex c n sc st ρ' σ' Q) (hl : ∀ x v, ρ'.lookup x = some v → ρ.lookup x = some v) (hσ : ∀ i o, σ' i = some o → σ i = some o) :
    Ex c n sc st ρ σ Q :=
  fun d m env w a b l s Qc E S q => h d m env w a b ⟨fun x v e => l.at' x v (hl x v e)⟩ s Qc E (S.drop hσ) q
theorem Ex.nil {Q : AF → Loc → H → Prop} (q : Q .next ρ σ) : Ex c n sc [] ρ σ Q :=
  fun d m env w a b l s Qc E S k => wpAny_execs_nil (k .next ρ σ .next m w s.heap s.toks q (.refl w) S l rfl)
theorem Ex.cons {st : Stmt} {r : List Stmt} {Q : AF → Loc → H → Prop} (h : Ex1 c n sc st ρ σ fun f ρ' σ' => match f with | .next => Ex c n sc r ρ' σ' Q | f => Q f ρ' σ') : Ex c n sc (st :: r) ρ σ Q := by
  intro d m env w a b l s Qc E S k
  refine wpAny_execs_cons (h d m env w a b l s _ E S fun f ρ' σ' fc m' w' h' tk q le S' l' rf => ?_)
  cases f with
  | next =>
    simp only [RepFl] at rf; subst rf
    exact q d m' env w' a b l' _ _ E S' fun f₂ ρ₂ σ₂ fc₂ m₂ w₂ h₂ tk₂ q₂ le₂ S₂ l₂ rf₂ => k f₂ ρ₂ σ₂ fc₂ m₂ w₂ h₂ tk₂ q₂ (le.trans le₂) S₂ l₂ rf₂
  | brk => have rf' := rf; simp only [RepFl] at rf'; subst rf'; exact k .brk ρ' σ' _ m' w' h' tk q le S' l' rf
  | cont => have rf' := rf; simp only [RepFl] at rf'; subst rf'; exact k .cont ρ' σ' _ m' w' h' tk q le S' l' rf
  | ret v => have rf' := rf; simp only [RepFl] at rf'; obtain ⟨x, rfl, _⟩ := rf'; exact k (.ret v) ρ' σ' _ m' w' h' tk q le S' l' rf
theorem Ex1.ret {e : Expr} {pos} {Q : AF → Loc → H → Prop} (hs : ScOk sc) (h : Ev c n sc e ρ σ fun v σ' => Q (.ret v) ρ σ') : Ex1 c n sc (.Return (some e) pos) ρ σ Q := by
  intro d m env w a b l s Qc E S k
  refine wpAny_Return_some (h d m env w a (l.bind hs b) s _ E S fun v σ' x w' h' tk q le S' r => ?_)
  exact k (.ret v) ρ σ' (.ret x) m w' h' tk q le S' (l.mono le) ⟨x, rfl, r⟩
theorem Ex1.ret0 {pos} {Q : AF → Loc → H → Prop} (h : Q (.ret .none) ρ σ) : Ex1 c n sc (.Return none pos) ρ σ Q :=
  fun d m env w a b l s Qc E S k => wpAny_Return_none (k (.ret .none) ρ σ (.ret .none) m w s.heap s.toks h (.refl w) S l ⟨.none, rfl, by simp only [RepV]⟩)
theorem Ex1.iff {test : Expr} {body orelse : List Stmt} {pos} {Q : AF → Loc → H → Prop} (hs : ScOk sc) (h : Tr c n sc test ρ σ fun t σ' => if t then Ex c n sc body ρ σ' Q else Ex c n sc orelse ρ σ' Q) :
    Ex1 c n sc (.If test body orelse pos) ρ σ Q := by
  intro d m env w a b l s Qc E S k
  refine wpAny_If (h d m env w a (l.bind hs b) s _ E S fun t σ' t' w' h' tk q le S' r => ?_)
  subst r
  cases t' with
  | true => exact q d m env w' a b (l.mono le) _ _ E S' fun f₂ ρ₂ σ₂ fc₂ m₂ w₂ h₂ tk₂ q₂ le₂ S₂ l₂ rf₂ => k f₂ ρ₂ σ₂ fc₂ m₂ w₂ h₂ tk₂ q₂ (le.trans le₂) S₂ l₂ rf₂
  | false => exact q d m env w' a b (l.mono le) _ _ E S' fun f₂ ρ₂ σ₂ fc₂ m₂ w₂ h₂ tk₂ q₂ le₂ S₂ l₂ rf₂ => k f₂ ρ₂ σ₂ fc₂ m₂ w₂ h₂ tk₂ q₂ (le.trans le₂) S₂ l₂ rf₂
theorem Ex1.brk {pos} {Q : AF → Loc → H → Prop} (h : Q .brk ρ σ) : Ex1 c n sc (.Break pos) ρ σ Q := by
  intro d m env w a b l s Qc E S k
  show wpAny _ _ (do standAt pos; pure Flow.brk) _ _ _
  exact wpAny_bind (wpAny_standAt (wpAny_pure (k .brk ρ σ .brk m w s.heap s.toks h (.refl w) S l rfl)))
/-- an expression for its effect: its value is no reference -/
theorem Ex1.expr {e : Expr} {pos} {Q : AF → Loc → H → Prop} (hs : ScOk sc) (h : Ev c n sc e ρ σ fun v σ' => v = .none ∧ Q .next ρ σ')
    (hi : ∀ cn L a cd cl, interactive (envX cn sc L a cd cl) = false := by intros; rfl) (hw : ∀ env, swapsWith e none pos.line env = pure false := by intros; rfl) : Ex1 c n sc (.Expr e pos) ρ σ Q := by
  intro d m env w a b l s Qc E S k
  refine wpAny_Expr (h d m env w a (l.bind hs b) s _ E S fun v σ' x w' h' tk q le S' r => ?_) (by obtain ⟨⟨cn, a, cd, cl, rfl⟩, _⟩ := b; exact hi ..) (hw env)
  obtain ⟨rfl, q⟩ := q
  simp only [RepV] at r
  subst r
  exact k .next ρ σ' .next m w' h' tk q le S' (l.mono le) rfl
theorem store_run {d : Dyn} {m : Str → Option Value} {env : Env} {w : Wd} {x : Str} {v : V} {cv : Value} {s : Shared} {Qc : Unit → Shared → Prop} {E : Value → Shared → Prop} (hs : ScOk sc) (b : FnEnv sc d env)
    (S : St c d m σ w s.heap) (l : Lcl c sc m w ρ) (hx : sc.names.lookup x = some .local) (r : RepV c w v cv)
    (k : ∀ m' h' tk, St c d m' σ w h' → Lcl c sc m' w (setL ρ x v) → Qc () { s with heap := h', toks := tk }) : wpAny (model c.prog c.w) d.A (storeName env x cv) Qc E s := by
  obtain ⟨⟨cn, a, cd, cl, rfl⟩, _⟩ := b
  exact storeX_L S.F S.N (fun h' F' N' => k _ h' _ (S.stand F' N') (l.set hx r)) hs.kind hx
theorem Ex1.assign {x : Str} {p' : Pos} {value : Expr} {pos : Pos} {Q : AF → Loc → H → Prop} (hs : ScOk sc) (hx : sc.names.lookup x = some .local) (h : Ev c n sc value ρ σ fun v σ' => Q .next (setL ρ x v) σ')
    (hw : ∀ env, swapsWith value (some (.Name x p')) pos.line env = pure false := by intros; rfl) : Ex1 c n sc (.Assign [.Name x p'] value pos) ρ σ Q := by
  intro d m env w a b l s Qc E S k
  refine wpAny_Assign_Name (h d m env w a (l.bind hs b) s _ E S fun v σ' cv w' h' tk q le S' r => ?_) (hw env)
  exact store_run (s := { s with heap := h', toks := tk }) hs b S' (l.mono le) hx r fun m' h'' tk' S'' l'' => k .next _ σ' .next m' w' h'' tk' q le S'' l'' rfl

/-- names of a target of names, bound one by one -/
noncomputable def setLs : Loc → List Str → List V → Loc
  | ρ, x :: xs, v :: vs => setLs (setL ρ x v) xs vs
  | ρ, _, _ => ρ
theorem St.ext (S : St c d m σ w h) {a : Addr} {h' : Heap} (he : Heap.ExtBut a h h') (ha : h.get? a = none) : St c d m σ w h' :=
  ⟨⟨S.F.ns.extBut he fun e => (by
      obtain ⟨o, _, _, ho, _⟩ := S.F.ns
      rw [e, ha] at ho; cases ho), fun b o e => he b o (fun q => by have := S.F.keep b o e; rw [q, ha] at this; cases this) (S.F.keep b o e), S.F.above⟩,
    fun p hp => ⟨he _ _ (fun q => by have := (S.N p hp).1; rw [q, ha] at this; cases this) (S.N p hp).1, (S.N p hp).2⟩, S.D⟩
theorem assigns_run {d : Dyn} {env : Env} {w : Wd} {E : Value → Shared → Prop} (hs : ScOk sc) (b : FnEnv sc d env) :
    ∀ (ts : List (Str × (Value → Sem Unit))) (vs : List V) (cvs : List Value) {m : Str → Option Value} {ρ : Loc} {s : Shared} {Qc : Unit → Shared → Prop},
      (∀ p ∈ ts, ∀ v (Q : Unit → Shared → Prop) s, wpAny (model c.prog c.w) d.A (storeName env p.1 v) Q E s → wpAny (model c.prog c.w) d.A (p.2 v) Q E s) →
      ts.length = vs.length → St c d m σ w s.heap → Lcl c sc m w ρ → (∀ p ∈ ts, sc.names.lookup p.1 = some .local) → RepVs c w vs cvs →
      (∀ m' h' tk, St c d m' σ w h' → Lcl c sc m' w (setLs ρ (ts.map (·.1)) vs) → Qc () { s with heap := h', toks := tk }) →
      wpAny (model c.prog c.w) d.A (assignInOrder (ts.map (·.2)) cvs) Qc E s
  | [], vs, cvs, m, ρ, s, Qc, hf, hl, S, l, _, r, k => by
    cases vs with
    | cons _ _ => cases hl
    | nil => simp only [RepVs] at r; subst r; exact wpAny_pure (k m s.heap s.toks S l)
  | p :: ts, vs, cvs, m, ρ, s, Qc, hf, hl, S, l, hx, r, k => by
    cases vs with
    | nil => cases hl
    | cons v vs =>
      simp only [RepVs] at r
      obtain ⟨cv, cvs', rfl, r1, r2⟩ := r
      show wpAny _ _ (do holding cvs' (p.2 cv); assignInOrder (ts.map (·.2)) cvs') _ _ _
      refine wpAny_bind (wpAny_holding (hf p (.head _) _ _ _ (store_run hs b S l (hx p (.head _)) r1 fun m' h' tk S' l' => ?_)))
      exact assigns_run hs b ts vs cvs' (s := { s with heap := h', toks := tk }) (fun q hq => hf q (.tail _ hq)) (by simpa using hl) S' l' (fun y hy => hx y (.tail _ hy)) r2 fun m'' h'' tk'' S'' l'' => k m'' h'' tk'' S'' l''
/-- a target that is a tuple of names -/
noncomputable def NamesAre (elts : List Expr) (xs : List Str) : Prop := ∀ env, ∃ ps : List (Str × Pos), ps.map (·.1) = xs ∧ assignEach elts env = ps.map fun p => (false, PySem.assign (.Name p.1 p.2) env)
theorem assignTup_run {d : Dyn} {env : Env} {w : Wd} {E : Value → Shared → Prop} {elts : List Expr} {xs : List Str} {kk : Nat} {tpos : Pos} {m : Str → Option Value} {s : Shared} {Qc : Unit → Shared → Prop} {vs : List V} {cv : Value}
    (hs : ScOk sc) (a : Act c n d) (b : FnEnv sc d env) (he : NamesAre elts xs) (hx : ∀ x ∈ xs, sc.names.lookup x = some .local) (hlen : vs.length = xs.length)
    (S : St c d m σ w s.heap) (l : Lcl c sc m w ρ) (r : RepV c w (.tup vs) cv)
    (k : ∀ m' h' tk, St c d m' σ w h' → Lcl c sc m' w (setLs ρ xs vs) → Qc () { s with heap := h', toks := tk }) : wpAny (model c.prog c.w) d.A (PySem.assign (.Tuple elts kk tpos) env cv) Qc E s := by
  obtain ⟨t, cvs, j, rfl, _, ht, rv⟩ := S.isTup a r
  obtain ⟨ps, e1, e2⟩ := he env
  have hcl := rv.length
  rw [assign_Tuple]
  refine wpAny_bind (wpAny_standAt ?_)
  have hpl : ps.length = xs.length := by rw [← e1, List.length_map]
  refine unpack_tuple a.hh ht (by rw [e2, List.length_map]; simp; omega) ?_ fun h'' he'' => ?_
  · rw [e2, List.findIdx?_eq_none_iff]
    intro y hy
    obtain ⟨p, _, rfl⟩ := List.mem_map.mp hy
    rfl
  · have S'' := S.ext he'' (none_of_size _)
    have e3 : (assignEach elts env).map (·.2) = (ps.map fun p => (p.1, PySem.assign (.Name p.1 p.2) env)).map (·.2) := by rw [e2, List.map_map, List.map_map]; rfl
    have e4 : (ps.map fun p => (p.1, PySem.assign (.Name p.1 p.2) env)).map (·.1) = xs := by rw [List.map_map, ← e1]; rfl
    rw [e3]
    refine assigns_run hs b _ vs cvs (s := { s with heap := h'' }) (fun p hp v Q s h => ?_) (by rw [List.length_map]; omega) S'' l (fun p hp => ?_) rv fun m' h' tk S' l' => k m' h' tk S' (e4 ▸ l')
    · obtain ⟨q, _, rfl⟩ := List.mem_map.mp hp
      exact assign_Name h
    · obtain ⟨q, hq, rfl⟩ := List.mem_map.mp hp
      exact hx _ (e1 ▸ List.mem_map_of_mem hq)
/-- a, b = value, value no written tuple -/
theorem Ex1.unpack {elts : List Expr} {xs : List Str} {kk : Nat} {tpos : Pos} {value : Expr} {pos : Pos} {Q : AF → Loc → H → Prop} (hs : ScOk sc) (hx : ∀ x ∈ xs, sc.names.lookup x = some .local)
    (he : NamesAre elts xs) (h : Ev c n sc value ρ σ fun v σ' => ∃ vs, v = .tup vs ∧ vs.length = xs.length ∧ Q .next (setLs ρ xs vs) σ')
    (h1 : ∀ env, swapsWithSole [.Tuple elts kk tpos] value pos.line env = pure false := by intros; rfl) (h2 : ∀ env, swappedStores [.Tuple elts kk tpos] value env = pure none := by intros; rfl) :
    Ex1 c n sc (.Assign [.Tuple elts kk tpos] value pos) ρ σ Q := by
  intro d m env w a b l s Qc E S k
  refine Assign_Tuple (h d m env w a (l.bind hs b) s _ E S fun v σ' cv w' h' tk q le S' r => ?_) (h1 env) (h2 env)
  obtain ⟨vs, rfl, hlen, q⟩ := q
  exact assignTup_run (s := { s with heap := h', toks := tk }) hs a b he hx hlen S' (l.mono le) r fun m' h'' tk' S'' l'' => k .next _ σ' .next m' w' h'' tk' q le S'' l'' rfl
/-- a, b = (x, y): written against written -/
theorem Ex1.swap {elts : List Expr} {xs : List Str} {kk : Nat} {tpos : Pos} {value : Expr} {pos : Pos} {Q : AF → Loc → H → Prop} (hs : ScOk sc) (hx : ∀ x ∈ xs, sc.names.lookup x = some .local)
    (h : Ev c n sc value ρ σ fun v σ' => ∃ vs, v = .tup vs ∧ vs.length = xs.length ∧ Q .next (setLs ρ xs.reverse vs.reverse) σ')
    (h1 : ∀ env, swapsWithSole [.Tuple elts kk tpos] value pos.line env = pure false := by intros; rfl) (h2 : ∀ cn L a cd cl, swappedStores [.Tuple elts kk tpos] value (envX cn sc L a cd cl) = pure (some xs) := by intros; rfl) :
    Ex1 c n sc (.Assign [.Tuple elts kk tpos] value pos) ρ σ Q := by
  intro d m env w a b l s Qc E S k
  have b' := b
  obtain ⟨⟨cn, a₀, cd, cl, rfl⟩, _⟩ := b'
  refine Assign_Tuple_swapped (h d m _ w a (l.bind hs b) s _ E S fun v σ' cv w' h' tk q le S' r => ?_) (h1 _) (h2 ..)
  obtain ⟨vs, rfl, hlen, q⟩ := q
  obtain ⟨t, cvs, j, rfl, _, ht, rv⟩ := S'.isTup a r
  have hcl := rv.length
  have hn : xs.length = cvs.toArray.size := by simp; omega
  rw [hn]
  refine unpackItems_tuple a.hh ht fun h'' he'' => ?_
  have S'' := S'.ext he'' (none_of_size _)
  have e3 : (xs.reverse.map fun x => bindName (envX cn sc d.L a₀ cd cl) x) = (xs.reverse.map fun x => (x, bindName (envX cn sc d.L a₀ cd cl) x)).map (·.2) := by rw [List.map_map]; rfl
  have e4 : (xs.reverse.map fun x => (x, bindName (envX cn sc d.L a₀ cd cl) x)).map (·.1) = xs.reverse := by rw [List.map_map]; exact List.map_id _
  rw [e3]
  refine assigns_run hs b _ vs.reverse _ (s := { s with heap := h'', toks := tk }) (fun p hp v Q s h => ?_) (by simp; omega) S'' (l.mono le) (fun p hp => ?_) (by simpa using rv.reverse) fun m' h' tk S' l' => k .next _ σ' .next m' w' h' tk q le S' (e4 ▸ l') rfl
  · obtain ⟨q, _, rfl⟩ := List.mem_map.mp hp
    exact bindName_ h
  · obtain ⟨q, hq, rfl⟩ := List.mem_map.mp hp
    exact hx _ (by simpa using hq)
end
end Mine

namespace Mine
open PySem PySem.W PyProof.Rows PySem.Calls PySem.Spec

theorem RepF.getL {c : Cx} {w : Wd} (x : Str) : ∀ {fs : List (Str × V)} {es : List DictEntry}, RepF c w fs es →
    match fs.lookup x with | some v => ∃ y, W.getL x es = some (some y) ∧ RepV c w v y | none => W.getL x es = some none
  | [], _, h => by simp only [RepF] at h; subst h; rfl
  | (y, u) :: fs, _, h => by
    obtain ⟨t, z, r, rfl, h1, h2⟩ := h
    have ih := RepF.getL x h2
    by_cases hx : x = y
    · subst hx
      simp only [List.lookup, beq_self_eq_true]
      exact ⟨z, by unfold W.getL; simp [Value.isStr], h1⟩
    · simp only [List.lookup, beq_eq_false_iff_ne.mpr hx]
      have hyx : (y == x) = false := beq_eq_false_iff_ne.mpr fun e => hx e.symm
      have e : W.getL x (⟨PyData.keyHash c.w.params y, .str y t, z⟩ :: r) = W.getL x r := by
        unfold W.getL
        have e1 : (Value.str y t).isStr x = false := hyx
        rw [List.find?_cons, e1]
        rfl
      rw [e]; exact ih
theorem RepF.put {c : Cx} {w : Wd} (x : Str) {v : V} {y : Value} (t : Tok) (hv : RepV c w v y) : ∀ {fs : List (Str × V)} {es : List DictEntry}, RepF c w fs es →
    RepF c w (setL fs x v) (W.putL x (PyData.keyHash c.w.params x) (.str x t) y es)
  | [], _, h => by simp only [RepF] at h; subst h; exact ⟨t, y, [], rfl, hv, rfl⟩
  | (z, u) :: fs, _, h => by
    obtain ⟨t', y', r, rfl, h1, h2⟩ := h
    by_cases hx : x = z
    · subst hx
      simp only [setL, beq_self_eq_true, if_true, W.putL, Value.isStr]
      exact ⟨t', y, r, rfl, hv, h2⟩
    · have hzx : (z == x) = false := beq_eq_false_iff_ne.mpr fun e => hx e.symm
      simp only [setL, beq_eq_false_iff_ne.mpr hx, Bool.false_eq_true, if_false, W.putL, Value.isStr, hzx]
      exact ⟨t', y', _, rfl, h1, RepF.put x t hv h2⟩
theorem RepF.length {c : Cx} {w : Wd} : ∀ {fs : List (Str × V)} {es : List DictEntry}, RepF c w fs es → es.length = fs.length
  | [], _, h => by simp only [RepF] at h; subst h; rfl
  | (z, u) :: fs, _, h => by
    obtain ⟨t', y', r, rfl, h1, h2⟩ := h
    simp only [List.length_cons, RepF.length h2]
theorem putL_len (x : Str) (hs : Int) (k v : Value) : ∀ es : List DictEntry, (W.putL x hs k v es).length ≤ es.length + 1
  | [] => Nat.le_refl _
  | e :: r => by
    unfold W.putL
    split
    · simp
    · simp only [List.length_cons]; have := putL_len x hs k v r; omega

section
variable {c : Cx} {d : Dyn} {m : Str → Option Value} {σ : H} {w : Wd} {h h' : Heap}
/-- St.change, from a ledger with the one object in front -/
theorem News.front {h₀ : Heap} {L : Addr} {l : List (Addr × Obj)} {a : Addr} {o : Obj} (N : News h₀ L h l) (ha : (a, o) ∈ l) : News h₀ L h ((a, o) :: l.filter fun p => p.1 ≠ a) := by
  intro p hp
  rcases List.mem_cons.mp hp with rfl | hp
  · exact N _ ha
  · exact N _ (List.mem_filter.mp hp).1
theorem News.back {h₀ : Heap} {L : Addr} {l : List (Addr × Obj)} {a : Addr} {o' : Obj} (N : News h₀ L h' ((a, o') :: l.filter fun p => p.1 ≠ a)) : News h₀ L h' (Mine.updN l a o') := by
  intro q hq
  obtain ⟨p, hp, e⟩ := List.mem_map.mp hq
  by_cases hpa : p.1 = a
  · rw [if_pos hpa] at e; subst e
    exact N _ (.head _)
  · rw [if_neg hpa] at e; subst e
    exact N _ (.tail _ (List.mem_filter.mpr ⟨hp, by simpa using hpa⟩))
theorem St.change₀ (S : St c d m σ w h) {i : Nat} {p : Addr × Addr} {o o' : O} {a : Addr} {ob ob' : Obj} (hi : σ i = some o) (hp : w.mu i = some p) (ha : a = p.1 ∨ a = p.2) (hob : (a, ob) ∈ w.news)
    (hnt : ob.cls ≠ .type "tuple") (F' : Fr d.h₀ d.L h' m) (N' : News d.h₀ d.L h' (updN (w.news ++ d.fr) a ob')) (r : Wle w (w.upd a ob') → RepO c (w.upd a ob') o' p) :
    Wle w (w.upd a ob') ∧ St c d m (σ.set i o') (w.upd a ob') h' := by
  have hno : ∀ vs n, (a, tupOf vs n) ∉ w.news := fun vs n e => hnt (by rw [S.news_inj hob e])
  have le : Wle w (w.upd a ob') := RepVs.upd hno
  have hsome : (σ i).isSome = true := by rw [hi]; rfl
  have hfr : ∀ q ∈ d.fr, q.1 ≠ a := fun q hq => (S.D.frame _ hob q hq).symm
  have sub : ∀ j q, j ≠ i → (σ j).isSome = true → w.mu j = some q → q.1 ≠ a ∧ q.2 ≠ a := fun j q hj h1 h2 => by
    have := S.D.apart j i q p hj h1 hsome h2 hp
    obtain ⟨t1, t2, t3, t4⟩ := this
    rcases ha with e | e
    · rw [e]; exact ⟨t1, t3⟩
    · rw [e]; exact ⟨t2, t4⟩
  refine ⟨le, F', ?_, ⟨fun j o'' e => ?_, fun j k q r hjk hj hk e1 e2 => ?_, fun q hq => ?_, S.D.fin⟩⟩
  · show News d.h₀ d.L h' (updN w.news a ob' ++ d.fr)
    rw [← updN_none (a := a) (o := ob') hfr, ← updN_append]
    exact N'
  · by_cases hj : j = i
    · subst hj
      have : σ.set j o' j = some o' := if_pos rfl
      rw [this] at e; cases e
      exact ⟨p, hp, r le⟩
    · have : σ.set i o' j = σ j := if_neg hj
      rw [this] at e
      obtain ⟨q, e1, e2⟩ := S.D.obj j o'' e
      refine ⟨q, e1, ?_⟩
      have ⟨n1, n2⟩ := sub j q hj (by rw [e]; rfl) e1
      cases o'' with
      | list l => obtain ⟨e, vs, n, e1, e2⟩ := e2; exact ⟨e, vs, n, mem_updN_ne e1 n1, RepVs.mono le _ _ e2⟩
      | inst C fs => obtain ⟨es, n, e1, e2, e3⟩ := e2; exact ⟨es, n, mem_updN_ne e1 n1, mem_updN_ne e2 n2, RepF.mono le _ _ e3⟩
  · refine S.D.apart j k q r hjk ?_ ?_ e1 e2
    · rcases H.set_isSome hj with e | e
      · rw [e]; exact hsome
      · exact e
    · rcases H.set_isSome hk with e | e
      · rw [e]; exact hsome
      · exact e
  · obtain ⟨p', hp', e⟩ := List.mem_map.mp hq
    by_cases hpa : p'.1 = a
    · rw [if_pos hpa] at e; subst e; exact fun q hq => S.D.frame (a, ob) hob q hq
    · rw [if_neg hpa] at e; subst e; exact S.D.frame _ hp'
end

section
variable {c : Cx} {n : Nat} {sc : Scope} {ρ : Loc} {σ : H}
theorem Ev.attr {value : Expr} {attr : Str} {pos : Pos} {Q : V → H → Prop} (h : Ev c n sc value ρ σ fun a σ₁ => Op1 c n (fun o => getAttr o attr true) (RepV c) a σ₁ Q)
    (he : ∀ env, eval (.Attribute value attr pos) env = (do let o ← eval value env; standAt pos.atName; let r ← holding [o] (getAttr o attr true); letTemporaryGo value o r; pure r) := by intro _; with_unfolding_all rfl) :
    Ev c n sc (.Attribute value attr pos) ρ σ Q := by
  intro d m env w A B s Qc E S k
  refine Attribute_any_ (h d m env w A B s _ E S fun a σ₁ x w₁ h₁ tk₁ q₁ le₁ S₁ r₁ => ?_) (he env)
  exact q₁ d m w₁ x A r₁ _ _ E S₁ fun v σ₃ z w₃ h₃ tk₃ q₃ le₃ S₃ r₃ => k v σ₃ z w₃ h₃ tk₃ q₃ (le₁.trans le₃) S₃ r₃
theorem handed {c : Cx} {w : Wd} {v : V} {x : Value} (r : RepV c w v x) (hv : v.noCon = true) : handedIn x = true := by
  cases v with
  | none => simp only [RepV] at r; subst r; rfl
  | bool b => simp only [RepV] at r; subst r; rfl
  | int b => simp only [RepV] at r; obtain ⟨t, rfl⟩ := r; rfl
  | str b => simp only [RepV] at r; obtain ⟨t, rfl⟩ := r; rfl
  | tup b => simp only [RepV] at r; obtain ⟨a, vs, k, rfl, _⟩ := r; rfl
  | ref b => simp only [RepV] at r; obtain ⟨a, _, rfl⟩ := r; rfl
  | con b => cases hv
/-- what a class of the text says of a field's name -/
structure FieldOk (K : Frag) (C : Addr) (name : Str) : Prop where
  get : plainGet K C name = true
  dict : hasDictIn K C = true
  cls : findIn K (.ref C) name = some none
structure SetOk (K : Frag) (C : Addr) (name : Str) : Prop where
  set : findIn K (.ref C) "__setattr__" = some (some (.builtin "object.__setattr__"))
  over : plainOver K C = true
  taker : takerIn K C name = some none
  dict : hasDictIn K C = true
theorem Op1.field {i : Nat} {C : Addr} {fs : List (Str × V)} {attr : Str} {v : V} {Q : V → H → Prop} (ok : FieldOk c.K C attr) (e : σ i = some (.inst C fs)) (hv : fs.lookup attr = some v) (hc : v.noCon = true) (q : Q v σ) :
    Op1 c n (fun o => getAttr o attr true) (RepV c) (.ref i) σ Q := by
  intro d m w x A r s Qc E S k
  obtain ⟨a, b, es, j, e1, e2, e3, e4⟩ := S.inst e
  simp only [RepV] at r
  obtain ⟨p, e5, rfl⟩ := r
  rw [e1] at e5; cases e5
  have hg := e4.getL attr
  rw [hv] at hg
  obtain ⟨y, hg, ry⟩ := hg
  have I : InstAt s.heap a ⟨.ref C, some b, .plain, #[]⟩ C (some (dictOf es j)) := InstAt.of_news S.N (List.mem_append_left _ e2) (List.mem_append_left _ e3)
  exact W.get_own S.F A.X I ok.get ok.dict ok.cls rfl hg (handed ry hc) (k v σ y w s.heap _ q (.refl w) S ry)
theorem setAttr_run {i : Nat} {C : Addr} {fs : List (Str × V)} {attr : Str} {v : V} {d : Dyn} {m : Str → Option Value} {w : Wd} {x y : Value} {s : Shared} {Qc : Unit → Shared → Prop} {E : Value → Shared → Prop}
    (A : Act c n d) (ok : SetOk c.K C attr) (e : σ i = some (.inst C fs)) (hz : fs.length ≤ 900) (S : St c d m σ w s.heap) (r : RepV c w (.ref i) x) (ry : RepV c w v y)
    (k : ∀ w' h' tk, Wle w w' → St c d m (σ.set i (.inst C (setL fs attr v))) w' h' → Qc () { s with heap := h', toks := tk }) : wpAny (model c.prog c.w) d.A (setAttr x attr y) Qc E s := by
  obtain ⟨a, b, es, j, e1, e2, e3, e4⟩ := S.inst e
  simp only [RepV] at r
  obtain ⟨p, e5, rfl⟩ := r
  rw [e1] at e5; cases e5
  have I : InstAt s.heap a ⟨.ref C, some b, .plain, #[]⟩ C (some (dictOf es j)) := InstAt.of_news S.N (List.mem_append_left _ e2) (List.mem_append_left _ e3)
  have hl : (W.getL attr es).isSome = true := by
    have := e4.getL attr
    split at this
    · obtain ⟨y, h, _⟩ := this; rw [h]; rfl
    · rw [this]; rfl
  have N1 := News.front S.N (List.mem_append_left d.fr e3)
  refine W.set_dict (news' := (b, dictOf _ _) :: (w.news ++ d.fr).filter fun p => p.1 ≠ b) S.F A.X N1 I rfl ok.set ok.over ok.taker ok.dict hl rfl (.head fun p hp => by simpa using (List.mem_filter.mp hp).2) ?_ fun h' F' N' => ?_
  · have := putL_len attr (PyData.keyHash c.w.params attr) (.str attr (s.toks + 1)) y es
    have := e4.length
    omega
  · obtain ⟨le, S'⟩ := S.change₀ (o' := .inst C (setL fs attr v)) e e1 (.inr rfl) e3 (show Value.type "dict" ≠ Value.type "tuple" by decide) F' (News.back N')
      fun le => ⟨_, _, mem_updN_ne e2 (fun q => by
        have q' : a = b := q
        have := S.news_inj e2 (q'.symm ▸ e3)
        cases this), mem_updN_self e3, RepF.mono le _ _ (e4.put attr _ ry)⟩
    exact k _ h' _ le S'
theorem Ex1.setA {o value : Expr} {attr : Str} {pos' pos : Pos} {Q : AF → Loc → H → Prop} (hs : ScOk sc)
    (h : Ev c n sc value ρ σ fun v σ₁ => Ev c n sc o ρ σ₁ fun u σ₂ => ∃ i C fs, u = .ref i ∧ σ₂ i = some (.inst C fs) ∧ fs.length ≤ 900 ∧ SetOk c.K C attr ∧ Q .next ρ (σ₂.set i (.inst C (setL fs attr v))))
    (hw : ∀ env, swapsWith value (some (.Attribute o attr pos')) pos.line env = pure false := by intros; rfl) : Ex1 c n sc (.Assign [.Attribute o attr pos'] value pos) ρ σ Q := by
  intro d m env w a b l s Qc E S k
  refine plainObj_wpAny_Assign_Attribute (h d m env w a (l.bind hs b) s _ E S fun v σ₁ x w₁ h₁ tk₁ q₁ le₁ S₁ r₁ => ?_) (hw env)
  refine q₁ d m env w₁ a ((l.mono le₁).bind hs b) _ _ E S₁ fun u σ₂ y w₂ h₂ tk₂ q₂ le₂ S₂ r₂ => ?_
  obtain ⟨i, C, fs, rfl, e, hz, ok, q⟩ := q₂
  exact setAttr_run (s := { s with heap := h₂, toks := tk₂ }) a ok e hz S₂ r₂ (RepV.mono le₂ _ _ r₁) fun w' h' tk le S' => k .next ρ _ .next m w' h' tk q ((le₁.trans le₂).trans le) S' ((l.mono ((le₁.trans le₂).trans le))) rfl

/-- a call of a def, as code -/
noncomputable def CodeR (c : Cx) (n : Nat) (f : Value) (vs : List V) (σ : H) (Q : V → H → Prop) : Prop :=
  ∀ d m w xs, Act c n d → RepVs c w vs xs → ∀ (s : Shared) (R : Result → Shared → Prop), St c d m σ w s.heap →
    (∀ v σ' x w' h' tk, Q v σ' → Wle w w' → St c d m σ' w' h' → RepV c w' v x → R (.ok (.ret x)) { s with heap := h', toks := tk }) → codeAny (model c.prog c.w) d.A (.call f ⟨xs, []⟩) R s
theorem CodeR.call {f : Value} {vs : List V} {Q : V → H → Prop} (h : CodeR c n f vs σ Q) : CallR c n f vs σ Q :=
  fun d m w xs A r s Qc E S k => wpAny_call (h d m w xs A r s _ S fun v σ' x w' h' tk q le S' r' => k v σ' x w' h' tk q le S' r')
theorem CodeR.mono {f : Value} {vs : List V} {Q Q' : V → H → Prop} (h : CodeR c n f vs σ Q) (k : ∀ v s, Q v s → Q' v s) : CodeR c n f vs σ Q' :=
  fun d m w xs A r s R S k' => h d m w xs A r s R S fun v σ' x w' h' tk q => k' v σ' x w' h' tk (k v σ' q)
/-- fewer letters live ahead of a call -/
theorem CodeR.weak {f : Value} {vs : List V} {σ' : H} {Q : V → H → Prop} (h : CodeR c n f vs σ' Q) (hσ : ∀ i o, σ' i = some o → σ i = some o) : CodeR c n f vs σ Q :=
  fun d m w xs A r s R S k => h d m w xs A r s R (S.drop hσ) k
theorem Act.le {d : Dyn} {k : Nat} (A : Act c n d) (h : k ≤ n) : Act c k d := ⟨A.B, A.hA, A.hf, A.hk, A.hh, A.X, A.T, by have := A.dep; omega, by have := A.un; omega⟩
theorem CodeR.le {f : Value} {vs : List V} {k : Nat} {Q : V → H → Prop} (h : CodeR c k f vs σ Q) (hk : k ≤ n) : CodeR c n f vs σ Q :=
  fun d m w xs A r => h d m w xs (A.le hk) r

/-- a def of the text: where it lies -/
structure DefAt (c : Cx) (f : Value) (ps : List Str) (body : List Stmt) (sc : Scope) : Prop where
  ex : ∃ a name qual params dV kV doc pm cdv ct oc an od osl, f = .ref a ∧ c.K.lookup a = some ⟨oc, od, .func (fnOf name qual params body sc dV kV doc pm an cdv ct), osl⟩ ∧ codeIn c.K cdv qual = true ∧
    ∀ (xs : List Value), xs.length = ps.length → bindArgs (fnOf name qual params body sc dV kV doc pm an cdv ct) ⟨xs, []⟩ = pure (ps.zip xs)
  loc : (ps.all fun x => sc.names.lookup x == some .local) = true
  nodup : ps.Nodup
  ok : ScOk sc
  gen : sc.isGenerator = false
  co : sc.isCoroutine = false
  cell : (sc.names.all fun x => x.2 != .cell) = true
theorem lookup_rev {ps : List Str} {xs : List Value} {x : Str} {i : Nat} (hn : ps.Nodup) (hl : ps.length = xs.length) (hi : ps[i]? = some x) : (ps.zip xs).reverse.lookup x = xs[i]? := by
  induction ps generalizing xs i with
  | nil => cases hi
  | cons p ps ih =>
    cases xs with
    | nil => cases hl
    | cons y xs =>
      simp only [List.zip_cons_cons, List.reverse_cons, List.lookup_append]
      rw [List.nodup_cons] at hn
      cases i with
      | zero =>
        simp only [List.getElem?_cons_zero, Option.some.injEq] at hi
        subst hi
        have : (ps.zip xs).reverse.lookup p = none := by
          rw [List.lookup_eq_none_iff]
          intro q hq
          have hq' : q ∈ ps.zip xs := by simpa using hq
          have hm := (List.of_mem_zip hq').1
          simp only [bne_iff_ne, ne_eq]
          intro e
          exact hn.1 (e ▸ hm)
        rw [this]; simp
      | succ i =>
        simp only [List.getElem?_cons_succ] at hi ⊢
        rw [ih hn.2 (by simpa using hl) hi]
        have hlt : i < xs.length := by
          have := (List.getElem?_eq_some_iff.mp hi).1
          simp only [List.length_cons] at hl; omega
        rw [List.getElem?_eq_getElem hlt]; rfl
theorem zip_lookup {α : Type} {ps : List Str} {vs : List α} {x : Str} {v : α} (h : (ps.zip vs).lookup x = some v) : ∃ i : Nat, ps[i]? = some x ∧ vs[i]? = some v := by
  induction ps generalizing vs with
  | nil => cases h
  | cons p ps ih =>
    cases vs with
    | nil => cases h
    | cons y vs =>
      simp only [List.zip_cons_cons, List.lookup] at h
      split at h
      · rename_i e; cases h; exact ⟨0, by rw [← beq_iff_eq.mp e]; rfl, rfl⟩
      · obtain ⟨i, a, b⟩ := ih h; exact ⟨i + 1, a, b⟩
theorem Act.deeper {d : Dyn} (A : Act c (n + 1) d) {g : Heap} {L' : Addr} {m : Str → Option Value} {env : Env} (hf : env.frame = some L') (hk : env.scope.kind = .function) (B : Below d.A d.base (d.fenv :: d.outer) g) (X : c.K.In g)
    (T : Top c.p c.loose c.mean c.mg c.mb g) : Act c n ⟨d.A.deeper env, d.A, d.base, g, L', env, d.fenv :: d.outer, d.fr⟩ :=
  ⟨B, Around.frames_deeper A.hA, hf, hk, A.hh, X, T, by have := A.dep; show d.A.depth + 1 + 4 * n + 4 ≤ recursionLimit; omega, by have := A.un; show d.A.units + 3 + 16 * n + 100 ≤ cLine; omega⟩
theorem CodeR.enter {f : Value} {ps : List Str} {body : List Stmt} {vs : List V} {Q : V → H → Prop} (D : DefAt c f ps body sc) (hl : vs.length = ps.length)
    (h : Ex c n sc body (ps.zip vs) σ fun fl _ σ' => match fl with | .ret v => Q v σ' | .next => Q .none σ' | _ => False) : CodeR c (n + 1) f vs σ Q := by
  intro d m w xs A r s R S k
  obtain ⟨a, name, qual, params, dV, kV, doc, pm, cdv, ct, oc, an, od, osl, rfl, ho, hcd, hb⟩ := D.ex
  have hxl := r.length
  have hx : xs.length = ps.length := by omega
  refine code_def A.B S.F A.X S.N A.T A.hA A.hf A.hk ho hcd (by have := A.dep; omega) (BindsTo.of_eq (hb xs hx)) (fun y hy => ?_) (fun g L' h₁ FG F' N' B' X' T' => ?_) D.co D.gen D.ok.kind (fun x hx => by
    have := List.all_eq_true.mp D.cell x hx; simpa using this)
  · have := List.all_eq_true.mp D.loc y.1 (List.of_mem_zip hy).1
    simpa using this
  · have A' := A.deeper (m := m) (env := envOf qual sc L' a cdv) rfl D.ok.kind B' X' T'
    have S' : St c ⟨d.A.deeper (envOf qual sc L' a cdv), d.A, d.base, g, L', envOf qual sc L' a cdv, d.fenv :: d.outer, d.fr⟩ (fun y => (ps.zip xs).reverse.lookup y) σ w h₁ := ⟨F', N', S.D⟩
    have l : Lcl c sc (fun y => (ps.zip xs).reverse.lookup y) w (ps.zip vs) := ⟨fun x v e => by
      obtain ⟨i, e1, e2⟩ := zip_lookup e
      refine ⟨?_, ?_⟩
      · have := List.all_eq_true.mp D.loc x (List.mem_of_getElem? e1)
        simpa using this
      · obtain ⟨y, e3, ry⟩ := r.get e2
        exact ⟨y, (lookup_rev D.nodup hx.symm e1).trans e3, ry⟩⟩
    refine wpAny_mono (h _ _ (envOf qual sc L' a cdv) w A' ⟨⟨qual, a, cdv, [], rfl⟩, rfl⟩ l _ (fun fl s' => LeaveK d.h₀ d.L m g R (match fl with | .ret v => v | _ => .none) s') (fun e s' => wpAny (model c.prog c.w) (d.A.deeper (envOf qual sc L' a cdv)) (leaving (envOf qual sc L' a cdv) e) (fun _ s'' => R (.error e) s'') (fun e' s'' => R (.error e') s'') s') S' fun fl ρ' σ' fc m' w' h' tk q le S'' l'' rf => ?_) (fun _ _ x => x) fun _ _ x => x
    refine ⟨L', m', w'.news ++ d.fr, S''.F, S''.N, fun F₂ N₂ => ?_⟩
    cases fl with
    | next => simp only [RepFl] at rf; subst rf; exact k .none σ' .none w' h' tk q le ⟨F₂, N₂, S''.D⟩ (by simp only [RepV])
    | ret v => simp only [RepFl] at rf; obtain ⟨x, rfl, rx⟩ := rf; exact k v σ' x w' h' tk q le ⟨F₂, N₂, S''.D⟩ rx
    | brk => exact q.elim
    | cont => exact q.elim
end
end Mine

namespace Mine
open PySem PySem.W PyProof.Rows PySem.Calls PySem.Spec

section
variable {c : Cx} {n : Nat} {sc : Scope} {ρ : Loc} {σ : H}
theorem wpAny_hint {α : Type} {M : Model} {A : Around} {t : Sem α} {Q : α → Shared → Prop} {E : Value → Shared → Prop} {s : Shared} (h : wpAny M A t Q E s) : wpAny M A t Q E s := h

/-- a call of a def or a class of the text -/
theorem Ev.callK {func e : Expr} {es : List Expr} {pos : Pos} {Q : V → H → Prop}
    (h : Ev c n sc func ρ σ fun v σ₁ => ∃ f, v = .con f ∧ keepIn c.K f = true ∧ Evs c n sc (e :: es) ρ σ₁ fun vs σ₂ => CallR c n f vs σ₂ Q)
    (h1 : ∀ env, eval (.Call func (e :: es) [] pos) env = (do callWith pos (← eval func env) [] (backTo pos (starEach (e :: es) env)) (backToKw pos (keywordEach [] env))) := by intro _; rfl)
    (h2 : ∀ env, starEach (e :: es) env = (false, eval e env) :: starEach es env := by intro _; rfl) (h3 : ∀ env, (backTo pos (starEach es env)).any (·.1) = false := by intro _; rfl) :
    Ev c n sc (.Call func (e :: es) [] pos) ρ σ Q := by
  intro d m env w A B s Qc E S k
  refine Call_ (h d m env w A B s _ E S fun v σ₁ x w₁ h₁ tk₁ q₁ le₁ S₁ r₁ => ?_) (h1 env)
  obtain ⟨f, rfl, hk, q₁⟩ := q₁
  simp only [RepV] at r₁
  subst r₁
  refine callWith_K (h₀ := d.h₀) A.X hk (q₁ d m env w₁ pos A (B.mono le₁) _ _ E S₁ fun vs σ₂ xs w₂ h₂ tk₂ q₂ le₂ S₂ r₂ => ⟨A.X.keeps S₂.F.keep, ?_⟩) (h2 env) (h3 env)
  exact q₂ d m w₂ xs A r₂ _ _ E S₂ fun v σ₃ z w₃ h₃ tk₃ q₃ le₃ S₃ r₃ => k v σ₃ z w₃ h₃ tk₃ q₃ ((le₁.trans le₂).trans le₃) S₃ r₃
theorem Ev.callK0 {func : Expr} {pos : Pos} {Q : V → H → Prop}
    (h : Ev c n sc func ρ σ fun v σ₁ => ∃ f, v = .con f ∧ keepIn c.K f = true ∧ CallR c n f [] σ₁ Q)
    (h1 : ∀ env, eval (.Call func [] [] pos) env = (do callWith pos (← eval func env) [] (backTo pos (starEach [] env)) (backToKw pos (keywordEach [] env))) := by intro _; rfl) :
    Ev c n sc (.Call func [] [] pos) ρ σ Q := by
  intro d m env w A B s Qc E S k
  refine Call_ (h d m env w A B s _ E S fun v σ₁ x w₁ h₁ tk₁ q₁ le₁ S₁ r₁ => ?_) (h1 env)
  obtain ⟨f, rfl, hk, q₁⟩ := q₁
  simp only [RepV] at r₁
  subst r₁
  refine callWith_K0 (A.X.keeps S₁.F.keep) hk ?_
  exact q₁ d m w₁ [] A .nil _ _ E S₁ fun v σ₃ z w₃ h₃ tk₃ q₃ le₃ S₃ r₃ => k v σ₃ z w₃ h₃ tk₃ q₃ (le₁.trans le₃) S₃ r₃
/-- a call of a built-in function, of a built-in type -/
theorem Ev.callB {func e : Expr} {es : List Expr} {pos : Pos} {Q : V → H → Prop}
    (h : Ev c n sc func ρ σ fun v σ₁ => ∃ f, v = .con (.builtin f) ∧ Evs c n sc (e :: es) ρ σ₁ fun vs σ₂ => CallR c n (.builtin f) vs σ₂ Q)
    (h1 : ∀ env, eval (.Call func (e :: es) [] pos) env = (do callWith pos (← eval func env) [] (backTo pos (starEach (e :: es) env)) (backToKw pos (keywordEach [] env))) := by intro _; rfl)
    (h2 : ∀ env, starEach (e :: es) env = (false, eval e env) :: starEach es env := by intro _; rfl) (h3 : ∀ env, (backTo pos (starEach es env)).any (·.1) = false := by intro _; rfl) :
    Ev c n sc (.Call func (e :: es) [] pos) ρ σ Q := by
  intro d m env w A B s Qc E S k
  refine Call_ (h d m env w A B s _ E S fun v σ₁ x w₁ h₁ tk₁ q₁ le₁ S₁ r₁ => ?_) (h1 env)
  obtain ⟨f, rfl, q₁⟩ := q₁
  simp only [RepV] at r₁
  subst r₁
  refine PyProof.Rows.callWith_builtin1 (q₁ d m env w₁ pos A (B.mono le₁) _ _ E S₁ fun vs σ₂ xs w₂ h₂ tk₂ q₂ le₂ S₂ r₂ => ?_) (h2 env) (h3 env)
  exact q₂ d m w₂ xs A r₂ _ _ E S₂ fun v σ₃ z w₃ h₃ tk₃ q₃ le₃ S₃ r₃ => k v σ₃ z w₃ h₃ tk₃ q₃ ((le₁.trans le₂).trans le₃) S₃ r₃
theorem Ev.callT {func e : Expr} {es : List Expr} {pos : Pos} {Q : V → H → Prop}
    (h : Ev c n sc func ρ σ fun v σ₁ => ∃ f, v = .con (.type f) ∧ Evs c n sc (e :: es) ρ σ₁ fun vs σ₂ => CallR c n (.type f) vs σ₂ Q)
    (h1 : ∀ env, eval (.Call func (e :: es) [] pos) env = (do callWith pos (← eval func env) [] (backTo pos (starEach (e :: es) env)) (backToKw pos (keywordEach [] env))) := by intro _; rfl)
    (h2 : ∀ env, starEach (e :: es) env = (false, eval e env) :: starEach es env := by intro _; rfl) (h3 : ∀ env, (backTo pos (starEach es env)).any (·.1) = false := by intro _; rfl) :
    Ev c n sc (.Call func (e :: es) [] pos) ρ σ Q := by
  intro d m env w A B s Qc E S k
  refine Call_ (h d m env w A B s _ E S fun v σ₁ x w₁ h₁ tk₁ q₁ le₁ S₁ r₁ => ?_) (h1 env)
  obtain ⟨f, rfl, q₁⟩ := q₁
  simp only [RepV] at r₁
  subst r₁
  refine PyProof.Rows.callWith_type1 (q₁ d m env w₁ pos A (B.mono le₁) _ _ E S₁ fun vs σ₂ xs w₂ h₂ tk₂ q₂ le₂ S₂ r₂ => ?_) (h2 env) (h3 env)
  exact q₂ d m w₂ xs A r₂ _ _ E S₂ fun v σ₃ z w₃ h₃ tk₃ q₃ le₃ S₃ r₃ => k v σ₃ z w₃ h₃ tk₃ q₃ ((le₁.trans le₂).trans le₃) S₃ r₃
/-- what a class of the text says of a method -/
structure MethOk (K : Frag) (C : Addr) (name : Str) (f : Addr) : Prop where
  get : plainGet K C name = true
  find : findIn K (.ref C) name = some (some (.ref f))
  fn : isFn K (.ref f) = true
  keep : keepIn K (.ref f) = true
noncomputable abbrev MCall (o : Expr) (name : Str) (apos : Pos) (args : List Expr) (pos : Pos) : Prop := ∀ env, ∃ pl : Sem Bool, eval (.Call (.Attribute o name apos) args [] pos) env = (do
      let ov ← eval o env
      standAt apos.atName
      let (f, first) ← holding [ov] (getMethod ov name pl)
      callWith pos f first (backTo pos (starEach args env)) [])
theorem Ev.meth {o e : Expr} {name : Str} {es : List Expr} {apos pos : Pos} {Q : V → H → Prop}
    (h : Ev c n sc o ρ σ fun v σ₁ => ∃ i C fs f, v = .ref i ∧ σ₁ i = some (.inst C fs) ∧ fs.lookup name = none ∧ MethOk c.K C name f ∧ Evs c n sc (e :: es) ρ σ₁ fun vs σ₂ => CallR c n (.ref f) (.ref i :: vs) σ₂ Q)
    (h1 : MCall o name apos (e :: es) pos)
    (h2 : ∀ env, starEach (e :: es) env = (false, eval e env) :: starEach es env := by intro _; rfl) (h3 : ∀ env, (backTo pos (starEach es env)).any (·.1) = false := by intro _; rfl) :
    Ev c n sc (.Call (.Attribute o name apos) (e :: es) [] pos) ρ σ Q := by
  intro d m env w A B s Qc E S k
  obtain ⟨pl, hpl⟩ := h1 env
  refine MethodCall_ (pl := pl) (h d m env w A B s _ E S fun v σ₁ x w₁ h₁ tk₁ q₁ le₁ S₁ r₁ => ?_) hpl
  obtain ⟨i, C, fs, f, rfl, e0, hno, ok, q₁⟩ := q₁
  obtain ⟨a, b, es', j, e1, e2, e3, e4⟩ := S₁.inst e0
  have r₁' := r₁
  simp only [RepV] at r₁'
  obtain ⟨p, e5, rfl⟩ := r₁'
  rw [e1] at e5; cases e5
  have hg := e4.getL name
  rw [hno] at hg
  have I : InstAt h₁ a ⟨.ref C, some b, .plain, #[]⟩ C (some (dictOf es' j)) := InstAt.of_news S₁.N (List.mem_append_left _ e2) (List.mem_append_left _ e3)
  refine W.method_inst (s := { s with heap := h₁, toks := tk₁ }) S₁.F A.X I ok.get ok.find ok.fn hg ?_
  refine callWith_K (h₀ := d.h₀) A.X ok.keep (q₁ d m env w₁ pos A (B.mono le₁) _ _ E S₁ fun vs σ₂ xs w₂ h₂ tk₂ q₂ le₂ S₂ r₂ => ⟨A.X.keeps S₂.F.keep, ?_⟩) (h2 env) (h3 env)
  exact q₂ d m w₂ (.ref a :: xs) A (.cons (RepV.mono le₂ _ _ r₁) r₂) _ _ E S₂ fun v σ₃ z w₃ h₃ tk₃ q₃ le₃ S₃ r₃ => k v σ₃ z w₃ h₃ tk₃ q₃ ((le₁.trans le₂).trans le₃) S₃ r₃
theorem Ev.meth0 {o : Expr} {name : Str} {apos pos : Pos} {Q : V → H → Prop}
    (h : Ev c n sc o ρ σ fun v σ₁ => ∃ i C fs f, v = .ref i ∧ σ₁ i = some (.inst C fs) ∧ fs.lookup name = none ∧ MethOk c.K C name f ∧ CallR c n (.ref f) [.ref i] σ₁ Q)
    (h1 : MCall o name apos [] pos) : Ev c n sc (.Call (.Attribute o name apos) [] [] pos) ρ σ Q := by
  intro d m env w A B s Qc E S k
  obtain ⟨pl, hpl⟩ := h1 env
  refine MethodCall_ (pl := pl) (h d m env w A B s _ E S fun v σ₁ x w₁ h₁ tk₁ q₁ le₁ S₁ r₁ => ?_) hpl
  obtain ⟨i, C, fs, f, rfl, e0, hno, ok, q₁⟩ := q₁
  obtain ⟨a, b, es', j, e1, e2, e3, e4⟩ := S₁.inst e0
  have r₁' := r₁
  simp only [RepV] at r₁'
  obtain ⟨p, e5, rfl⟩ := r₁'
  rw [e1] at e5; cases e5
  have hg := e4.getL name
  rw [hno] at hg
  have I : InstAt h₁ a ⟨.ref C, some b, .plain, #[]⟩ C (some (dictOf es' j)) := InstAt.of_news S₁.N (List.mem_append_left _ e2) (List.mem_append_left _ e3)
  refine W.method_inst (s := { s with heap := h₁, toks := tk₁ }) S₁.F A.X I ok.get ok.find ok.fn hg ?_
  refine callWith_K0 (s := { s with heap := h₁, toks := tk₁ }) (A.X.keeps S₁.F.keep) ok.keep ?_
  exact q₁ d m w₁ [.ref a] A (.cons r₁ .nil) _ _ E S₁ fun v σ₃ z w₃ h₃ tk₃ q₃ le₃ S₃ r₃ => k v σ₃ z w₃ h₃ tk₃ q₃ (le₁.trans le₃) S₃ r₃
/-- a list's own method -/
structure ListMeth (name : Str) (id : String) : Prop where
  slot : Slot "list" name id
  ty : typeOf (.builtin id) = pure (.type "method_descriptor")
theorem lm_append : ListMeth "append" "list.append" := ⟨PySem.F.slot_list_append, PySem.F.type_list_append⟩
theorem lm_extend : ListMeth "extend" "list.extend" := ⟨PySem.F.slot_list_extend, PySem.F.type_list_extend⟩
theorem lm_pop : ListMeth "pop" "list.pop" := ⟨PySem.F.slot_list_pop, PySem.F.type_list_pop⟩
theorem Ev.lmeth {o e : Expr} {name : Str} {id : String} {es : List Expr} {apos pos : Pos} {Q : V → H → Prop} (lm : ListMeth name id)
    (h : Ev c n sc o ρ σ fun v σ₁ => ∃ i l, v = .ref i ∧ σ₁ i = some (.list l) ∧ Evs c n sc (e :: es) ρ σ₁ fun vs σ₂ => CallR c n (.builtin id) (.ref i :: vs) σ₂ Q)
    (h1 : MCall o name apos (e :: es) pos)
    (h2 : ∀ env, starEach (e :: es) env = (false, eval e env) :: starEach es env := by intro _; rfl) (h3 : ∀ env, (backTo pos (starEach es env)).any (·.1) = false := by intro _; rfl) :
    Ev c n sc (.Call (.Attribute o name apos) (e :: es) [] pos) ρ σ Q := by
  intro d m env w A B s Qc E S k
  obtain ⟨pl, hpl⟩ := h1 env
  refine MethodCall_ (pl := pl) (h d m env w A B s _ E S fun v σ₁ x w₁ h₁ tk₁ q₁ le₁ S₁ r₁ => ?_) hpl
  obtain ⟨i, l, rfl, e0, q₁⟩ := q₁
  obtain ⟨a, vs, j, rfl, e1, e2, e3, e4, e5⟩ := S₁.isList e0 r₁
  refine listMethod_K (s := { s with heap := h₁, toks := tk₁ }) S₁.N (List.mem_append_left _ e2) lm.slot lm.ty ?_
  refine callWith_method1 (q₁ d m env w₁ pos A (B.mono le₁) _ _ E S₁ fun vs σ₂ xs w₂ h₂ tk₂ q₂ le₂ S₂ r₂ => ?_) (h2 env) (h3 env)
  exact q₂ d m w₂ (.ref a :: xs) A (.cons (RepV.mono le₂ _ _ r₁) r₂) _ _ E S₂ fun v σ₃ z w₃ h₃ tk₃ q₃ le₃ S₃ r₃ => k v σ₃ z w₃ h₃ tk₃ q₃ ((le₁.trans le₂).trans le₃) S₃ r₃
theorem Ev.lmeth0 {o : Expr} {name : Str} {id : String} {apos pos : Pos} {Q : V → H → Prop} (lm : ListMeth name id)
    (h : Ev c n sc o ρ σ fun v σ₁ => ∃ i l, v = .ref i ∧ σ₁ i = some (.list l) ∧ CallR c n (.builtin id) [.ref i] σ₁ Q)
    (h1 : MCall o name apos [] pos) : Ev c n sc (.Call (.Attribute o name apos) [] [] pos) ρ σ Q := by
  intro d m env w A B s Qc E S k
  obtain ⟨pl, hpl⟩ := h1 env
  refine MethodCall_ (pl := pl) (h d m env w A B s _ E S fun v σ₁ x w₁ h₁ tk₁ q₁ le₁ S₁ r₁ => ?_) hpl
  obtain ⟨i, l, rfl, e0, q₁⟩ := q₁
  obtain ⟨a, vs, j, rfl, e1, e2, e3, e4, e5⟩ := S₁.isList e0 r₁
  refine listMethod_K (s := { s with heap := h₁, toks := tk₁ }) S₁.N (List.mem_append_left _ e2) lm.slot lm.ty ?_
  refine PyProof.Rows.callWith_method0 ?_
  exact q₁ d m w₁ [.ref a] A (.cons r₁ .nil) _ _ E S₁ fun v σ₃ z w₃ h₃ tk₃ q₃ le₃ S₃ r₃ => k v σ₃ z w₃ h₃ tk₃ q₃ (le₁.trans le₃) S₃ r₃

/-- a property -/
structure PropOk (K : Frag) (C : Addr) (name : Str) (fget : Value) : Prop where
  get : plainGet K C name = true
  dict : hasDictIn K C = true
  ex : ∃ p f rest, fget = .ref f ∧ findIn K (.ref C) name = some (some (.ref p)) ∧ specialIn K (.ref p) "__get__" = some (some (.builtin "property.__get__")) ∧ takesIn K (.ref p) = some true ∧ recIn K p "property" = some (.ref f :: rest)
theorem Act.in1 {d : Dyn} (A : Act c (n + 1) d) : Act c n { d with A := d.A.in1 } :=
  ⟨A.B, A.hA, A.hf, A.hk, A.hh, A.X, A.T, by have := A.dep; show d.A.depth + 4 * n + 4 ≤ recursionLimit; omega, by have := A.un; show d.A.units + 1 + 16 * n + 100 ≤ cLine; omega⟩
theorem Op1.prop {i : Nat} {C : Addr} {fs : List (Str × V)} {attr : Str} {fget : Value} {Q : V → H → Prop} (ok : PropOk c.K C attr fget) (e : σ i = some (.inst C fs)) (h : CodeR c n fget [.ref i] σ fun v σ' => v.noCon = true ∧ Q v σ') :
    Op1 c (n + 1) (fun o => getAttr o attr true) (RepV c) (.ref i) σ Q := by
  intro d m w x A r s Qc E S k
  obtain ⟨a, b, es, j, e1, e2, e3, e4⟩ := S.inst e
  have r' := r
  simp only [RepV] at r'
  obtain ⟨p, e5, rfl⟩ := r'
  rw [e1] at e5; cases e5
  have I : InstAt s.heap a ⟨.ref C, some b, .plain, #[]⟩ C (some (dictOf es j)) := InstAt.of_news S.N (List.mem_append_left _ e2) (List.mem_append_left _ e3)
  obtain ⟨p, f, rest, rfl, k1, k2, k3, k4⟩ := ok.ex
  refine W.get_prop S.F A.X I ok.get ok.dict k1 k2 k3 k4 ?_
  refine h { d with A := d.A.in1 } m w [.ref a] A.in1 (.cons r .nil) _ _ ⟨S.F, S.N, S.D⟩ fun v σ' z w' h' tk q le S' r' => ?_
  show wpAny _ _ (handedOut z) _ _ _
  rw [handedOut_of (handed r' q.1)]
  exact wpAny_pure (k v σ' z w' h' tk q.2 le ⟨S'.F, S'.N, S'.D⟩ r')
/-- an object made: its __init__ -/
structure MakeOk (K : Frag) (C : Addr) (fI : Value) : Prop where
  makes : makesIn K C = true
  ex : ∃ f, fI = .ref f ∧ findIn K (.ref C) "__init__" = some (some (.ref f)) ∧ isFn K (.ref f) = true
theorem frames_under_make (A : Around) (C : Addr) (vals : List Value) : (A.under (.builtin "type.__call__" ⟨.ref C :: vals, []⟩)).frames = A.frames := by
  have : (Code.builtin "type.__call__" ⟨.ref C :: vals, []⟩).envs = [] := by
    unfold Code.envs
    split
    · rfl
    · rfl
  show pushEnvs (Code.builtin "type.__call__" ⟨.ref C :: vals, []⟩).envs A.frames = A.frames
  rw [this]; rfl
theorem Act.make {d : Dyn} (A : Act c (n + 1) d) (C : Addr) (vals : List Value) : Act c n { d with A := d.A.under (.builtin "type.__call__" ⟨.ref C :: vals, []⟩) } :=
  ⟨A.B, (frames_under_make ..).trans A.hA, A.hf, A.hk, A.hh, A.X, A.T, by
    have := A.dep
    have e := depth_under_make d.A C vals
    show (d.A.under (.builtin "type.__call__" ⟨.ref C :: vals, []⟩)).depth + 4 * n + 4 ≤ recursionLimit
    omega, by
    have := A.un
    have e := units_under_make d.A C vals
    show (d.A.under (.builtin "type.__call__" ⟨.ref C :: vals, []⟩)).units + 16 * n + 100 ≤ cLine
    omega⟩
theorem CodeR.make {C : Addr} {fI : Value} {vs : List V} {Q : V → H → Prop} (ok : MakeOk c.K C fI)
    (h : ∀ i, σ i = none → CodeR c n fI (.ref i :: vs) (σ.set i (.inst C [])) fun v σ' => v = .none ∧ Q (.ref i) σ') : CodeR c (n + 1) (.ref C) vs σ Q := by
  intro d m w xs A r s R S k
  obtain ⟨f, rfl, k1, k2⟩ := ok.ex
  refine make_K S.F S.N (A.X.keeps S.F.keep) ok.makes k1 (beq_iff_eq.mp k2) fun x dx h' F' N' hlt hx => ?_
  obtain ⟨i, hi, hσ⟩ := S.free
  obtain ⟨le, S'⟩ := S.newInst F' N' (fun q hq => Nat.ne_of_lt (Nat.lt_trans (hlt q hq) hx)) (fun q hq => Nat.ne_of_lt (hlt q hq)) hi
  refine h i hσ { d with A := d.A.under (.builtin "type.__call__" ⟨.ref C :: xs, []⟩) } m _ (.ref x :: xs) (A.make C xs) (.cons (by simp only [RepV]; exact ⟨_, if_pos rfl, rfl⟩) (RepVs.mono le _ _ r)) _ _ ⟨S'.F, S'.N, S'.D⟩
    fun v σ' z w' h' tk q le' S'' r' => ?_
  obtain ⟨rfl, q⟩ := q
  simp only [RepV] at r'
  subst r'
  refine ⟨rfl, ?_⟩
  exact k (.ref i) σ' (.ref x) w' h' tk q (le.trans le') ⟨S''.F, S''.N, S''.D⟩ (by simp only [RepV]; exact ⟨_, le'.mu _ _ (if_pos rfl), rfl⟩)
end
end Mine

namespace Mine
open PySem PySem.W PyProof.Rows PySem.Calls PySem.Spec

noncomputable def Dyn.plus (d : Dyn) (own : List (Addr × Obj)) : Dyn := { d with fr := own ++ d.fr }
noncomputable def Sep (d : Dyn) (own : List (Addr × Obj)) : Prop := ∀ p ∈ own, ∀ q ∈ d.fr, q.1 ≠ p.1

section
variable {c : Cx} {n : Nat} {sc : Scope} {ρ : Loc} {σ : H} {d : Dyn} {m : Str → Option Value} {w : Wd} {h h' : Heap}
theorem Act.plus (A : Act c n d) (own : List (Addr × Obj)) : Act c n (d.plus own) := ⟨A.B, A.hA, A.hf, A.hk, A.hh, A.X, A.T, A.dep, A.un⟩
theorem FnEnv.plus {env : Env} (b : FnEnv sc d env) (own : List (Addr × Obj)) : FnEnv sc (d.plus own) env := ⟨b.ex, b.eq⟩
theorem St.plus1 (S : St c d m σ w h) {x : Addr} {o : Obj} (F' : Fr d.h₀ d.L h' m) (N' : News d.h₀ d.L h' ((x, o) :: (w.news ++ d.fr))) (hx : ∀ q ∈ w.news ++ d.fr, q.1 ≠ x) :
    St c (d.plus [(x, o)]) m σ w h' ∧ Sep d [(x, o)] := by
  refine ⟨⟨F', fun p hp => ?_, S.D.obj, S.D.apart, fun p hp q hq => ?_, S.D.fin⟩, fun p hp q hq => ?_⟩
  · rcases List.mem_append.mp hp with hp | hp
    · exact N' p (.tail _ (List.mem_append_left _ hp))
    · rcases List.mem_append.mp hp with hp | hp
      · rw [List.mem_singleton.mp hp]; exact N' _ (.head _)
      · exact N' p (.tail _ (List.mem_append_right _ hp))
  · rcases List.mem_append.mp hq with hq | hq
    · rw [List.mem_singleton.mp hq]; exact hx p (List.mem_append_left _ hp)
    · exact S.D.frame p hp q hq
  · rw [List.mem_singleton.mp hp]; exact hx q (List.mem_append_right _ hq)
theorem St.minus {own : List (Addr × Obj)} (S : St c (d.plus own) m σ w h) : St c d m σ w h :=
  ⟨S.F, fun p hp => (List.mem_append.mp hp).elim (fun hp => S.N p (List.mem_append_left _ hp)) fun hp => S.N p (List.mem_append_right _ (List.mem_append_right _ hp)),
    S.D.obj, S.D.apart, fun p hp q hq => S.D.frame p hp q (List.mem_append_right _ hq), S.D.fin⟩
theorem St.own {own : List (Addr × Obj)} (S : St c (d.plus own) m σ w h) {x : Addr} {o : Obj} (ho : (x, o) ∈ own) : h.get? x = some o := (S.N _ (List.mem_append_right _ (List.mem_append_left _ ho))).1
/-- the one own object turns -/
theorem St.turn {x : Addr} {o o' : Obj} (S : St c (d.plus [(x, o)]) m σ w h) (hs : Sep d [(x, o)]) (sb : Heap.SameBut x h h') (ho : h'.get? x = some o') : St c (d.plus [(x, o')]) m σ w h' := by
  have N0 := S.N (x, o) (List.mem_append_right _ (List.mem_append_left _ (.head _)))
  refine ⟨Fr.same S.F sb N0.2.1 N0.2.2, fun p hp => ?_, S.D.obj, S.D.apart, fun p hp q hq => ?_, S.D.fin⟩
  · rcases List.mem_append.mp hp with hp | hp
    · have := S.D.frame p hp (x, o) (.head _)
      have P := S.N p (List.mem_append_left _ hp)
      exact ⟨(sb.2 _ this).trans P.1, P.2⟩
    · rcases List.mem_append.mp hp with hp | hp
      · rw [List.mem_singleton.mp hp]; exact ⟨ho, N0.2⟩
      · have := hs (x, o) (.head _) p hp
        have P := S.N p (List.mem_append_right _ (List.mem_append_right _ hp))
        exact ⟨(sb.2 _ this).trans P.1, P.2⟩
  · rcases List.mem_append.mp hq with hq | hq
    · rw [List.mem_singleton.mp hq]; exact S.D.frame p hp (x, o) (.head _)
    · exact S.D.frame p hp q (List.mem_append_right _ hq)
theorem St.minusExt {x : Addr} {o : Obj} (S : St c (d.plus [(x, o)]) m σ w h) (hs : Sep d [(x, o)]) (he : Heap.ExtBut x h h') : St c d m σ w h' := by
  have N0 := S.N (x, o) (List.mem_append_right _ (List.mem_append_left _ (.head _)))
  refine ⟨⟨S.F.ns.extBut he N0.2.1.symm, fun b o e => he b o (fun q => by
    have h0 : d.h₀.get? x = none := N0.2.2
    rw [q, h0] at e; cases e) (S.F.keep b o e), S.F.above⟩, fun p hp => ?_, S.D.obj, S.D.apart, fun p hp q hq => S.D.frame p hp q (List.mem_append_right _ hq), S.D.fin⟩
  rcases List.mem_append.mp hp with hp | hp
  · have := S.D.frame p hp (x, o) (.head _)
    have P := S.N p (List.mem_append_left _ hp)
    exact ⟨he _ _ this P.1, P.2⟩
  · have := hs (x, o) (.head _) p hp
    have P := S.N p (List.mem_append_right _ (List.mem_append_right _ hp))
    exact ⟨he _ _ this P.1, P.2⟩
end

noncomputable abbrev It := Nat → H → Option (Option V)

structure ItOk0 (c : Cx) (n : Nat) (Own : Nat → List (Addr × Obj) → Prop) (it : Value) (I : It) (w₀ : Wd) : Prop where
  next : ∀ (d : Dyn) (m : Str → Option Value) (σ : H) (w : Wd) (k : Nat) (own : List (Addr × Obj)) (s : Shared) (Qc : Option Value → Shared → Prop) (E : Value → Shared → Prop), Act c n d → Wle w₀ w → Own k own → Sep d own → St c (d.plus own) m σ w s.heap →
    (∀ v cv w' own' h' tk, I k σ = some (some v) → Wle w w' → Own (k + 1) own' → Sep d own' → St c (d.plus own') m σ w' h' → RepV c w' v cv → Qc (some cv) { s with heap := h', toks := tk }) →
    (∀ h' tk, I k σ = some none → St c d m σ w h' → Qc none { s with heap := h', toks := tk }) → I k σ ≠ none → wpAny (model c.prog c.w) d.A (pyNext it) Qc E s
  self : ∀ (d : Dyn) (m : Str → Option Value) (σ : H) (w : Wd) (own : List (Addr × Obj)) (s : Shared) (Qc : Value → Shared → Prop) (E : Value → Shared → Prop), Own 0 own → St c (d.plus own) m σ w s.heap → Qc it s → wpAny (model c.prog c.w) d.A (pyIter it) Qc E s
  plain : ∀ k own, Own k own → ∃ a o T, it = .ref a ∧ (a, o) ∈ own ∧ o.cls = .type T ∧ ["enumerate", "zip", "dict_itemiterator", "dict_reverseitemiterator", "odict_iterator", "itertools.zip_longest", "itertools.pairwise"].contains T = false
/-- an iterator is made of a value -/
noncomputable def Itr (c : Cx) (n : Nat) (v : V) (σ : H) (I : It) : Prop :=
  ∀ (d : Dyn) (m : Str → Option Value) (w : Wd) (x : Value) (s : Shared) (Qc : Value → Shared → Prop) (E : Value → Shared → Prop), Act c n d → RepV c w v x → St c d m σ w s.heap →
    (∀ Own own it h' tk, ItOk0 c n Own it I w → Own 0 own → Sep d own → St c (d.plus own) m σ w h' → Qc it { s with heap := h', toks := tk }) → wpAny (model c.prog c.w) d.A (pyIter x) Qc E s

noncomputable def itList (i : Nat) : It := fun k σ => match σ i with | some (.list l) => some l[k]? | _ => none
noncomputable def itTup (l : List V) : It := fun k _ => some l[k]?
noncomputable def itRange (a b : Int) : It := fun k _ => some (if a + k < b then some (.int (a + k)) else none)

section
variable {c : Cx} {n : Nat} {σ : H}
theorem Itr.list {i : Nat} {l : List V} (e : σ i = some (.list l)) : Itr c n (.ref i) σ (itList i) := by
  intro d m w x s Qc E A r S k
  obtain ⟨a, vs, j, rfl, e1, e2, e3, e4, e5⟩ := S.isList e r
  refine wpAny_pyIter_list e4 ?_
  have F' := S.F.push (o := { cls := .type "list_iterator", data := .fields #[.ref a, .int 0 0] })
  have N' := News.push S.F S.N { cls := .type "list_iterator", data := .fields #[.ref a, .int 0 0] }
  obtain ⟨S', hs⟩ := S.plus1 F' N' (S.off (none_of_size _))
  refine k (fun k own => ∃ o, own = [(s.heap.objs.size, o)] ∧ o.cls = .type "list_iterator" ∧ o.data = .fields #[.ref a, .int k 0]) _ _ _ s.toks ⟨?_, ?_, ?_⟩ ⟨_, rfl, rfl, rfl⟩ hs S'
  · rintro d m σ w' k own s' Qc' E' A' le ⟨o, rfl, hc, hd⟩ hsep S₁ hi hn hne
    have hit : s'.heap.IsListIter s.heap.objs.size a k := ⟨o, S₁.own (.head _), hc, hd⟩
    unfold itList at hi hn hne
    cases hσ : σ i with
    | none => simp only [hσ] at hne; exact absurd rfl hne
    | some ob =>
      cases ob with
      | inst C fs => simp only [hσ] at hne; exact absurd rfl hne
      | list l' =>
        simp only [hσ] at hi hn
        obtain ⟨a', vs', j', f1, f2, f3, f4⟩ := S₁.list hσ
        have : a' = a := by rw [le.mu _ _ e1] at f1; cases f1; rfl
        subst this
        have hl' : s'.heap.IsList a' vs'.toArray := ⟨_, f3, rfl, j', rfl⟩
        cases hk : l'[k]? with
        | some v =>
          obtain ⟨cv, g1, g2⟩ := f4.get hk
          refine wpAny_pyNext_list_item hit hl' (by simpa using g1) fun h' hit' sb => ?_
          obtain ⟨o', ho', hc', hd'⟩ := hit'
          exact hi v cv w' _ h' s'.toks (by rw [hk]) (.refl _) ⟨o', rfl, hc', hd'⟩ (fun p hp q hq => by rw [List.mem_singleton.mp hp]; exact hsep _ (.head _) q hq) (S₁.turn hsep sb ho') g2
        | none =>
          have hlen := f4.length
          refine wpAny_pyNext_list_end A'.hh hit hl' (by
            have := List.getElem?_eq_none_iff.mp hk
            simp only [List.getElem?_toArray, List.getElem?_eq_none_iff]; omega) fun h' he => ?_
          exact hn h' s'.toks (by rw [hk]) (S₁.minusExt hsep he)
  · rintro d m σ w' own s' Qc' E' ⟨o, rfl, hc, hd⟩ S₁ q
    exact wpAny_pyIter_listiter ⟨o, S₁.own (.head _), hc, hd⟩ q
  · rintro k own ⟨o, rfl, hc, hd⟩
    exact ⟨_, o, _, rfl, .head _, hc, by decide⟩
end

inductive Tg where
  | name (x : Str) | names (xs : List Str)
noncomputable def Tg.bind : Tg → Loc → V → Option Loc
  | .name x, ρ, v => some (setL ρ x v)
  | .names xs, ρ, .tup vs => if vs.length = xs.length then some (setLs ρ xs vs) else none
  | .names _, _, _ => none
noncomputable def TgOk (sc : Scope) (target : Expr) : Tg → Prop
  | .name x => (∃ p, target = .Name x p) ∧ sc.names.lookup x = some .local
  | .names xs => (∃ elts k p, target = .Tuple elts k p ∧ NamesAre elts xs) ∧ ∀ x ∈ xs, sc.names.lookup x = some .local

noncomputable def LoopF (c : Cx) (n : Nat) (sc : Scope) (T : Tg) (body : List Stmt) (I : It) (Q : AF → Loc → H → Prop) : Nat → Nat → Loc → H → Prop
  | 0, _, _, _ => False
  | f + 1, k, ρ, σ => match I k σ with
    | some (some v) => ∃ ρ₁, T.bind ρ v = some ρ₁ ∧ Ex c n sc body ρ₁ σ fun fl ρ' σ' => match fl with
        | .next | .cont => LoopF c n sc T body I Q f (k + 1) ρ' σ'
        | .brk => Q .next ρ' σ'
        | .ret v => Q (.ret v) ρ' σ'
    | some none => Q .next ρ σ
    | none => False

section
variable {c : Cx} {n : Nat} {sc : Scope} {ρ : Loc} {σ : H}
theorem letGo_plain {M : Model} {A : Around} {E : Value → Shared → Prop} {s : Shared} {target : Expr} {a : Addr} {o : Obj} {T : String} {cv : Value} {Q : Unit → Shared → Prop} (ho : s.heap.get? a = some o) (hc : o.cls = .type T)
    (hT : ["enumerate", "zip", "dict_itemiterator", "dict_reverseitemiterator", "odict_iterator", "itertools.zip_longest", "itertools.pairwise"].contains T = false) (q : Q () s) : wpAny M A (letOwnedTupleGo target (.ref a) cv) Q E s := by
  have fin : ∀ a' : Addr, wpAny M A (do
      let o ← load a
      match o.cls, o.data with
      | .type n, .fields vs =>
        if ["enumerate", "zip", "dict_itemiterator", "dict_reverseitemiterator", "odict_iterator", "itertools.zip_longest", "itertools.pairwise"].contains n && vs[0]? == some (rawInt a') then
          rule "for.unpacks-the-owned-tuple"
          updateField a 0 .none
      | _, _ => pure ()) Q E s := fun a' => by
    refine wpAny_bind (wpAny_load ho ?_)
    rw [hc]
    cases hd : o.data with
    | fields vs => simp only [hT, Bool.false_and, Bool.false_eq_true, if_false]; exact wpAny_pure q
    | _ => exact wpAny_pure q
  cases target with
  | Tuple _ _ _ => cases cv with
    | ref a' => exact fin a'
    | _ => exact wpAny_pure q
  | List _ _ => cases cv with
    | ref a' => exact fin a'
    | _ => exact wpAny_pure q
  | _ => exact wpAny_pure q
theorem Tg.run {T : Tg} {target : Expr} {d : Dyn} {env : Env} {w : Wd} {E : Value → Shared → Prop} {m : Str → Option Value} {s : Shared} {Qc : Unit → Shared → Prop} {v : V} {cv : Value} {ρ₁ : Loc}
    (hs : ScOk sc) (a : Act c n d) (b : FnEnv sc d env) (ht : TgOk sc target T) (hb : T.bind ρ v = some ρ₁) (S : St c d m σ w s.heap) (l : Lcl c sc m w ρ) (r : RepV c w v cv)
    (k : ∀ m' h' tk, St c d m' σ w h' → Lcl c sc m' w ρ₁ → Qc () { s with heap := h', toks := tk }) : wpAny (model c.prog c.w) d.A (PySem.assign target env cv) Qc E s := by
  cases T with
  | name x =>
    obtain ⟨⟨p, rfl⟩, hx⟩ := ht
    cases hb
    exact assign_Name (store_run hs b S l hx r k)
  | names xs =>
    obtain ⟨⟨elts, kk, p, rfl, he⟩, hx⟩ := ht
    cases v with
    | tup vs =>
      simp only [Tg.bind] at hb
      split at hb
      · rename_i hl; cases hb
        exact assignTup_run hs a b he hx hl S l r k
      · cases hb
    | _ => cases hb
/-- an iterator under a for's target -/
structure ItOk (c : Cx) (n : Nat) (target : Expr) (Own : Nat → List (Addr × Obj) → Prop) (it : Value) (I : It) (w₀ : Wd) : Prop where
  next : ∀ (d : Dyn) (m : Str → Option Value) (σ : H) (w : Wd) (k : Nat) (own : List (Addr × Obj)) (s : Shared) (Q0 : Shared → Prop) (Q1 : Value → Shared → Prop) (E : Value → Shared → Prop), Act c n d → Wle w₀ w → Own k own → Sep d own → St c (d.plus own) m σ w s.heap →
    (∀ v cv w' own' h' tk, I k σ = some (some v) → Wle w w' → Own (k + 1) own' → Sep d own' → St c (d.plus own') m σ w' h' → RepV c w' v cv → Q1 cv { s with heap := h', toks := tk }) →
    (∀ h' tk, I k σ = some none → St c d m σ w h' → Q0 { s with heap := h', toks := tk }) → I k σ ≠ none →
    wpAny (model c.prog c.w) d.A (pyNext it) (fun r s₁ => match r with | none => Q0 s₁ | some cv => wpAny (model c.prog c.w) d.A (letOwnedTupleGo target it cv) (fun _ s₂ => Q1 cv s₂) E s₁) E s
theorem ItOk.of0 {target : Expr} {Own : Nat → List (Addr × Obj) → Prop} {it : Value} {I : It} {w₀ : Wd} (ok : ItOk0 c n Own it I w₀) : ItOk c n target Own it I w₀ :=
  ⟨fun d m σ w k own s Q0 Q1 E A le ho hs S hi hn hne => ok.next d m σ w k own s _ E A le ho hs S (fun v cv w' own' h' tk e le' ho' hs' S' r => by
      obtain ⟨ia, io, iT, rfl, hio, hcls, hplain⟩ := ok.plain _ _ ho'
      exact letGo_plain (St.own S' hio) hcls hplain (hi v cv w' own' h' tk e le' ho' hs' S' r)) hn hne⟩
noncomputable def IterF (c : Cx) (n : Nat) (sc : Scope) (target iter : Expr) (ρ : Loc) (σ : H) (Q : It → H → Prop) : Prop :=
  ∀ (d : Dyn) (m : Str → Option Value) (env : Env) (w : Wd) (s : Shared) (Qc : Value → Shared → Prop) (E : Value → Shared → Prop), Act c n d → Bind c d m env sc ρ w → St c d m σ w s.heap →
    (∀ I σ' Own own it w' h' tk, Q I σ' → Wle w w' → ItOk c n target Own it I w' → Own 0 own → Sep d own → St c (d.plus own) m σ' w' h' → Qc it { s with heap := h', toks := tk }) →
    wpAny (model c.prog c.w) d.A (eval iter env) (fun x s₁ => wpAny (model c.prog c.w) d.A (pyIter x) Qc E s₁) E s
noncomputable def IterE (c : Cx) (n : Nat) (sc : Scope) (iter : Expr) (ρ : Loc) (σ : H) (Q : It → H → Prop) : Prop :=
  ∀ (d : Dyn) (m : Str → Option Value) (env : Env) (w : Wd) (s : Shared) (Qc : Value → Shared → Prop) (E : Value → Shared → Prop), Act c n d → Bind c d m env sc ρ w → St c d m σ w s.heap →
    (∀ I σ' Own own it w' h' tk, Q I σ' → Wle w w' → ItOk0 c n Own it I w' → Own 0 own → Sep d own → St c (d.plus own) m σ' w' h' → Qc it { s with heap := h', toks := tk }) →
    wpAny (model c.prog c.w) d.A (eval iter env) (fun x s₁ => wpAny (model c.prog c.w) d.A (pyIter x) Qc E s₁) E s
theorem IterE.of {iter : Expr} {Q : It → H → Prop} (h : Ev c n sc iter ρ σ fun v σ₁ => ∃ I, Itr c n v σ₁ I ∧ Q I σ₁) : IterE c n sc iter ρ σ Q := by
  intro d m env w s Qc E a b S k
  refine h d m env w a b s _ E S fun v σ₁ x w₁ h₁ tk₁ q₁ le₁ S₁ r₁ => ?_
  obtain ⟨I, hI, q⟩ := q₁
  exact hI d m w₁ x _ _ E a r₁ S₁ fun Own own it h₂ tk₂ ok ho hsep S₂ => k I σ₁ Own own it w₁ h₂ tk₂ q le₁ ok ho hsep S₂
theorem IterE.toF {target iter : Expr} {Q : It → H → Prop} (h : IterE c n sc iter ρ σ Q) : IterF c n sc target iter ρ σ Q :=
  fun d m env w s Qc E a b S k => h d m env w s Qc E a b S fun I σ' Own own it w' h' tk q le ok ho hs S' => k I σ' Own own it w' h' tk q le (.of0 ok) ho hs S'
theorem Ex1.forE {T : Tg} {target iter : Expr} {body : List Stmt} {pos : Pos} {Q : AF → Loc → H → Prop} (hs : ScOk sc) (ht : TgOk sc target T)
    (h : IterF c n sc target iter ρ σ fun I σ₁ => ∃ f, LoopF c n sc T body I Q f 0 ρ σ₁)
    (hf : ∀ env x, foldedSetIterable iter env x = pure x := by intros; rfl) : Ex1 c n sc (.For target iter body [] pos) ρ σ Q := by
  intro d m env w a b l s Qc E S k
  refine wpAny_For (h d m env w s _ E a (l.bind hs b) S fun I σ₁ Own own it w₁ h₂ tk₂ q₁ le₁ ok ho hsep S₂ => ?_) (hf env)
  obtain ⟨f, hL⟩ := q₁
  refine codeAny_forLoop_any (fun f s' => ∃ k ρ σ m w' own h tk, s' = { s with heap := h, toks := tk } ∧ LoopF c n sc T body I Q f k ρ σ ∧ Wle w₁ w' ∧ Own k own ∧ Sep d own ∧ St c (d.plus own) m σ w' h ∧ Lcl c sc m w' ρ) ?_ f
    ⟨0, ρ, σ₁, m, w₁, own, h₂, tk₂, rfl, hL, .refl _, ho, hsep, S₂, l.mono le₁⟩
  rintro f' s' ⟨j, ρ', σ', m', w', own', h', tk', rfl, hL', le', ho', hsep', S', l'⟩
  cases f' with
  | zero => exact hL'.elim
  | succ f' =>
    have hne : I j σ' ≠ none := fun e => by simp only [LoopF, e] at hL'
    refine ok.next d m' σ' w' j own' _ _ _ _ a le' ho' hsep' S' (fun v cv w'' own'' h'' tk'' hi le'' ho'' hsep'' S'' rv => ?_) (fun h'' tk'' hi S'' => ?_) hne
    · simp only [LoopF, hi] at hL'
      obtain ⟨ρ₁, hb, hL'⟩ := hL'
      refine Tg.run (d := d.plus own'') (s := { s with heap := h'', toks := tk'' }) hs (a.plus own'') (b.plus own'') ht hb S'' (l'.mono le'') rv fun m₃ h₃ tk₃ S₃ l₃ => ?_
      refine hL' (d.plus own'') m₃ env w'' (a.plus own'') (b.plus own'') l₃ _ _ _ S₃ fun fl ρ₄ σ₄ fc m₄ w₄ h₄ tk₄ q₄ le₄ S₄ l₄ rf => ?_
      cases fl with
      | next => simp only [RepFl] at rf; subst rf; exact ⟨f', Nat.lt_succ_self _, j + 1, ρ₄, σ₄, m₄, w₄, own'', h₄, tk₄, rfl, q₄, (le'.trans le'').trans le₄, ho'', hsep'', S₄, l₄⟩
      | cont => simp only [RepFl] at rf; subst rf; exact ⟨f', Nat.lt_succ_self _, j + 1, ρ₄, σ₄, m₄, w₄, own'', h₄, tk₄, rfl, q₄, (le'.trans le'').trans le₄, ho'', hsep'', S₄, l₄⟩
      | brk => simp only [RepFl] at rf; subst rf; exact k .next ρ₄ σ₄ .next m₄ w₄ h₄ tk₄ q₄ (((le₁.trans le').trans le'').trans le₄) S₄.minus l₄ rfl
      | ret v => simp only [RepFl] at rf; obtain ⟨x, rfl, rx⟩ := rf; exact k (.ret v) ρ₄ σ₄ (.ret x) m₄ w₄ h₄ tk₄ q₄ (((le₁.trans le').trans le'').trans le₄) S₄.minus l₄ ⟨x, rfl, rx⟩
    · simp only [LoopF, hi] at hL'
      exact wpAny_execs_nil (k .next ρ' σ' .next m' w' h'' tk'' hL' (le₁.trans le') S'' l' rfl)
/-- a while, its turns counted -/
noncomputable def LoopW (c : Cx) (n : Nat) (sc : Scope) (test : Expr) (body : List Stmt) (Q : AF → Loc → H → Prop) : Nat → Loc → H → Prop
  | 0, _, _ => False
  | f + 1, ρ, σ => Tr c n sc test ρ σ fun t σ₁ => if t then Ex c n sc body ρ σ₁ fun fl ρ' σ' => match fl with
        | .next | .cont => LoopW c n sc test body Q f ρ' σ'
        | .brk => Q .next ρ' σ'
        | .ret v => Q (.ret v) ρ' σ'
      else Q .next ρ σ₁
theorem Ex1.whileE {test : Expr} {body : List Stmt} {pos : Pos} {Q : AF → Loc → H → Prop} (hs : ScOk sc) (f : Nat) (h : LoopW c n sc test body Q f ρ σ) : Ex1 c n sc (.While test body [] pos) ρ σ Q := by
  intro d m env w a b l s Qc E S k
  refine wpAny_While ?_
  refine codeAny_whileLoop (fun f s' => ∃ ρ σ m w' h tk, s' = { s with heap := h, toks := tk } ∧ LoopW c n sc test body Q f ρ σ ∧ Wle w w' ∧ St c d m σ w' h ∧ Lcl c sc m w' ρ) ?_ f
    ⟨ρ, σ, m, w, s.heap, s.toks, rfl, h, .refl _, S, l⟩
  rintro f' s' ⟨ρ', σ', m', w', h', tk', rfl, hL', le', S', l'⟩
  cases f' with
  | zero => exact hL'.elim
  | succ f' =>
    refine hL' d m' env w' a (l'.bind hs b) _ _ _ S' fun t σ₁ t' w₁ h₁ tk₁ q₁ le₁ S₁ r₁ => ?_
    subst r₁
    cases t' with
    | true =>
      refine q₁ d m' env w₁ a b (l'.mono le₁) _ _ _ S₁ fun fl ρ₄ σ₄ fc m₄ w₄ h₄ tk₄ q₄ le₄ S₄ l₄ rf => ?_
      cases fl with
      | next => simp only [RepFl] at rf; subst rf; exact ⟨f', Nat.lt_succ_self _, ρ₄, σ₄, m₄, w₄, h₄, tk₄, rfl, q₄, (le'.trans le₁).trans le₄, S₄, l₄⟩
      | cont => simp only [RepFl] at rf; subst rf; exact ⟨f', Nat.lt_succ_self _, ρ₄, σ₄, m₄, w₄, h₄, tk₄, rfl, q₄, (le'.trans le₁).trans le₄, S₄, l₄⟩
      | brk => simp only [RepFl] at rf; subst rf; exact k .next ρ₄ σ₄ .next m₄ w₄ h₄ tk₄ q₄ ((le'.trans le₁).trans le₄) S₄ l₄ rfl
      | ret v => simp only [RepFl] at rf; obtain ⟨x, rfl, rx⟩ := rf; exact k (.ret v) ρ₄ σ₄ (.ret x) m₄ w₄ h₄ tk₄ q₄ ((le'.trans le₁).trans le₄) S₄ l₄ ⟨x, rfl, rx⟩
    | false => exact wpAny_execs_nil (k .next ρ' σ₁ .next m' w₁ h₁ tk₁ q₁ (le'.trans le₁) S₁ (l'.mono le₁) rfl)
end
end Mine

namespace Mine
open PySem PySem.W PyProof.Rows PySem.Calls PySem.Spec

section
variable {c : Cx} {n : Nat} {sc : Scope} {ρ : Loc} {σ : H} {d : Dyn} {m : Str → Option Value} {w : Wd} {h h' : Heap}
theorem St.turns {own own' : List (Addr × Obj)} (S : St c (d.plus own) m σ w h) (hs : Sep d own) (ha : own'.map (·.1) = own.map (·.1)) (he : ∀ b o, b ∉ own.map (·.1) → h.get? b = some o → h'.get? b = some o)
    (ho : ∀ p ∈ own', h'.get? p.1 = some p.2) : St c (d.plus own') m σ w h' ∧ Sep d own' := by
  have back : ∀ p ∈ own', ∃ q ∈ own, q.1 = p.1 := fun p hp => by
    have : p.1 ∈ own.map (·.1) := ha ▸ List.mem_map_of_mem hp
    obtain ⟨q, hq, e⟩ := List.mem_map.mp this
    exact ⟨q, hq, e⟩
  have hN : ∀ q ∈ own, h.get? q.1 = some q.2 ∧ q.1 ≠ d.L ∧ d.h₀.get? q.1 = none := fun q hq => S.N q (List.mem_append_right _ (List.mem_append_left _ hq))
  have hL : d.L ∉ own.map (·.1) := fun hm => by
    obtain ⟨q, hq, e⟩ := List.mem_map.mp hm
    exact (hN q hq).2.1 e
  refine ⟨⟨⟨?_, fun b o e => he b o (fun hm => ?_) (S.F.keep b o e), S.F.above⟩, fun p hp => ?_, S.D.obj, S.D.apart, fun p hp q hq => ?_, S.D.fin⟩, fun p hp q hq => ?_⟩
  · obtain ⟨o, es, ep, h1, h2⟩ := S.F.ns
    exact ⟨o, es, ep, he _ _ hL h1, h2⟩
  · obtain ⟨q, hq, e'⟩ := List.mem_map.mp hm
    have h0 : d.h₀.get? b = some o := e
    rw [← e', (hN q hq).2.2] at h0; cases h0
  · rcases List.mem_append.mp hp with hp | hp
    · have P := S.N p (List.mem_append_left _ hp)
      refine ⟨he _ _ (fun hm => ?_) P.1, P.2⟩
      obtain ⟨q, hq, e'⟩ := List.mem_map.mp hm
      exact S.D.frame p hp q (List.mem_append_left _ hq) e'.symm
    · rcases List.mem_append.mp hp with hp | hp
      · obtain ⟨q, hq, e⟩ := back p hp
        have := (hN q hq).2
        rw [e] at this
        exact ⟨ho p hp, this⟩
      · have P := S.N p (List.mem_append_right _ (List.mem_append_right _ hp))
        refine ⟨he _ _ (fun hm => ?_) P.1, P.2⟩
        obtain ⟨q, hq, e'⟩ := List.mem_map.mp hm
        exact hs q hq p hp e'.symm
  · rcases List.mem_append.mp hq with hq | hq
    · obtain ⟨q', hq', e⟩ := back q hq
      rw [← e]; exact S.D.frame p hp q' (List.mem_append_left _ hq')
    · exact S.D.frame p hp q (List.mem_append_right _ hq)
  · obtain ⟨q', hq', e⟩ := back p hp
    rw [← e]; exact hs q' hq' q hq
theorem St.keepAll (S : St c d m σ w h) (hk : ∀ b o, h.get? b = some o → h'.get? b = some o) : St c d m σ w h' :=
  ⟨⟨S.F.ns.keeps hk, fun b o e => hk b o (S.F.keep b o e), S.F.above⟩, fun p hp => ⟨hk _ _ (S.N p hp).1, (S.N p hp).2⟩, S.D⟩
theorem St.pushTup (S : St c d m σ w h) (vs : List Value) (n : Nat) : St c d m σ (w.add h.objs.size (tupOf vs n)) (h.push (tupOf vs n)) :=
  S.add (S.F.push _) (News.push S.F S.N _) (S.off (none_of_size _))
theorem St.base_none (S : St c d m σ w h) {x : Addr} (hx : h.get? x = none) : d.h₀.get? x = none := by
  cases e : d.h₀.get? x with
  | none => rfl
  | some o => have := S.F.keep _ _ e; rw [hx] at this; cases this
theorem St.L_ne (S : St c d m σ w h) {x : Addr} (hx : h.get? x = none) : x ≠ d.L := fun e => by
  obtain ⟨o, _, _, ho, _⟩ := S.F.ns
  rw [← e, hx] at ho; cases ho
/-- objects that a call made, as own -/
theorem St.plusN (S : St c d m σ w h) {own : List (Addr × Obj)} (hk : ∀ b o, h.get? b = some o → h'.get? b = some o) (ho : ∀ p ∈ own, h'.get? p.1 = some p.2) (hn : ∀ p ∈ own, h.get? p.1 = none) :
    St c (d.plus own) m σ w h' ∧ Sep d own := by
  have S' := S.keepAll hk
  refine ⟨⟨S'.F, fun p hp => ?_, S'.D.obj, S'.D.apart, fun p hp q hq => ?_, S'.D.fin⟩, fun p hp q hq => S.off (hn p hp) q (List.mem_append_right _ hq)⟩
  · rcases List.mem_append.mp hp with hp | hp
    · exact S'.N p (List.mem_append_left _ hp)
    · rcases List.mem_append.mp hp with hp | hp
      · exact ⟨ho p hp, S.L_ne (hn p hp), S.base_none (hn p hp)⟩
      · exact S'.N p (List.mem_append_right _ hp)
  · rcases List.mem_append.mp hq with hq | hq
    · exact S.off (hn q hq) p (List.mem_append_left _ hp)
    · exact S'.D.frame p hp q hq
end
section
variable {c : Cx} {n : Nat} {sc : Scope} {ρ : Loc} {σ : H}
theorem Itr.tup {l : List V} : Itr c n (.tup l) σ (itTup l) := by
  intro d m w x s Qc E A r S k
  have r' := r
  obtain ⟨a, vs, j, rfl, e3, e4, e5⟩ := S.isTup A r
  have e4' : s.heap.IsTuple a vs.toArray := e4
  refine wpAny_pyIter_tuple e4' ?_
  have F' := S.F.push (o := { cls := .type "tuple_iterator", data := .fields #[.ref a, .int 0 0] })
  have N' := News.push S.F S.N { cls := .type "tuple_iterator", data := .fields #[.ref a, .int 0 0] }
  obtain ⟨S', hs⟩ := S.plus1 F' N' (S.off (none_of_size _))
  refine k (fun k own => ∃ o, own = [(s.heap.objs.size, o)] ∧ o.cls = .type "tuple_iterator" ∧ o.data = .fields #[.ref a, .int k 0]) _ _ _ s.toks ⟨?_, ?_, ?_⟩ ⟨_, rfl, rfl, rfl⟩ hs S'
  · rintro d m σ w' k own s' Qc' E' A' le ⟨o, rfl, hc, hd⟩ hsep S₁ hi hn hne
    have hit : s'.heap.IsTupleIter s.heap.objs.size a k := ⟨o, S₁.own (.head _), hc, hd⟩
    obtain ⟨a', vs', j', ea, f3, f4, f5⟩ := S₁.isTup (A'.plus _) (RepV.mono le _ _ r')
    cases ea
    have hl' : s'.heap.IsTuple a vs'.toArray := f4
    cases hk : l[k]? with
    | some v =>
      obtain ⟨cv, g1, g2⟩ := f5.get hk
      refine wpAny_pyNext_tuple_item hit hl' (by simpa using g1) fun h' hit' sb => ?_
      obtain ⟨o', ho', hc', hd'⟩ := hit'
      exact hi v cv w' _ h' s'.toks (by simp only [itTup, hk]) (.refl _) ⟨o', rfl, hc', hd'⟩ (fun p hp q hq => by rw [List.mem_singleton.mp hp]; exact hsep _ (.head _) q hq) (S₁.turn hsep sb ho') g2
    | none =>
      have hlen := f5.length
      refine wpAny_pyNext_tuple_end A'.hh hit hl' (by
        have := List.getElem?_eq_none_iff.mp hk
        simp only [List.getElem?_toArray, List.getElem?_eq_none_iff]; omega) fun h' he => ?_
      exact hn h' s'.toks (by simp only [itTup, hk]) (S₁.minusExt hsep he)
  · rintro d m σ w' own s' Qc' E' ⟨o, rfl, hc, hd⟩ S₁ q
    exact wpAny_pyIter_tupleiter ⟨o, S₁.own (.head _), hc, hd⟩ q
  · rintro k own ⟨o, rfl, hc, hd⟩
    exact ⟨_, o, _, rfl, .head _, hc, by decide⟩
/-- for .. in range(e) -/
theorem IterE.range {x : Str} {xp : Pos} {e : Expr} {pos : Pos} {Q : It → H → Prop} (h0 : Ev c n sc (.Name x xp) ρ σ fun v σ₁ => v = .con (.type "range") ∧ Ev c n sc e ρ σ₁ fun v σ₂ => ∃ b : Nat, v = .int b ∧ b ≤ 1000 ∧ Q (itRange 0 b) σ₂)
    (h1 : ∀ env, eval (.Call (.Name x xp) [e] [] pos) env = (do callWith pos (← eval (.Name x xp) env) [] (backTo pos (starEach [e] env)) (backToKw pos (keywordEach [] env))) := by intro _; rfl)
    (h2 : ∀ env, starEach [e] env = (false, eval e env) :: starEach [] env := by intro _; rfl) : IterE c n sc (.Call (.Name x xp) [e] [] pos) ρ σ Q := by
  intro d m env w s Qc E a b S k
  refine Call_ (h0 d m env w a b s _ E S fun v σ₁ x w₁ h₁ tk₁ q₁ le₁ S₁ r₁ => ?_) (h1 env)
  obtain ⟨rfl, q₁⟩ := q₁
  simp only [RepV] at r₁
  subst r₁
  refine PyProof.Rows.callWith_type1 ?_ (h2 env) (by rfl)
  refine spliced_more (q₁ d m env w₁ a (b.mono le₁) _ _ E S₁ fun v σ₂ y w₂ h₂ tk₂ q₂ le₂ S₂ r₂ => ?_) (h2 env)
  refine spliced_none ?_
  obtain ⟨N, rfl, hN, q⟩ := q₂
  simp only [RepV] at r₂
  obtain ⟨t, rfl⟩ := r₂
  refine call_range_1 ?_
  have hsize : Builtin.Range.rangeSize 0 (N : Int) 1 = (N : Int) := by
    unfold Builtin.Range.rangeSize
    rw [if_pos (by decide)]
    split <;> omega
  have S₃ := (St.plus1 (m := m) S₂ (S₂.F.push _) (News.push S₂.F S₂.N { cls := .type "range", data := .fields #[.int 0 tk₂, .int N t, .int 1 (tk₂ + 1)] }) (S₂.off (none_of_size _))).1.minus
  refine wpAny_pyIter_range (Heap.get?_push_size _ rfl) (by
    unfold Builtin.Range.small Builtin.Range.rangeFitsLong
    rw [hsize]
    simp
    omega) ?_
  rw [hsize]
  obtain ⟨S₄, hs⟩ := St.plus1 (m := m) S₃ (S₃.F.push _) (News.push S₃.F S₃.N { cls := .type "range_iterator", data := .fields #[rawInt 0, rawInt N, rawInt 1] }) (S₃.off (none_of_size _))
  refine k (itRange 0 N) σ₂ (fun k own => k ≤ N ∧ own = [((h₂.push { cls := .type "range", data := .fields #[.int 0 tk₂, .int N t, .int 1 (tk₂ + 1)] }).objs.size, { cls := .type "range_iterator", data := .fields #[rawInt (0 + (k : Int) * 1), rawInt (N - (k : Int)), rawInt 1] })]) _ _ w₂ _ (tk₂ + 1 + 1) q (le₁.trans le₂) ⟨?_, ?_, ?_⟩ ⟨Nat.zero_le _, by simp⟩ hs S₄
  · rintro d m σ w' k own s' Qc' E' A' le ⟨hkN, rfl⟩ hsep S₁ hi hn hne
    by_cases hk : k < N
    · refine (Walks.range A'.hh _ 0 1 N).item k s' Qc' E' hk (S₁.own (.head _)) fun v h' tk ⟨u, hv⟩ st he => ?_
      subst hv
      obtain ⟨S₅, hs₅⟩ := S₁.turns (own' := [((h₂.push { cls := .type "range", data := .fields #[.int 0 tk₂, .int N t, .int 1 (tk₂ + 1)] }).objs.size, { cls := .type "range_iterator", data := .fields #[rawInt (0 + ((k + 1 : Nat) : Int) * 1), rawInt (N - ((k + 1 : Nat) : Int)), rawInt 1] })])
        hsep rfl (fun b o hb e => he b o (by simpa using hb) e) (fun p hp => by rw [List.mem_singleton.mp hp]; exact st)
      refine hi (.int (0 + k)) _ w' _ h' tk ?_ (.refl _) ⟨hk, rfl⟩ hs₅ S₅ (by simp only [RepV]; exact ⟨u, by rw [Int.mul_one]⟩)
      simp only [itRange]
      rw [if_pos (by omega)]
    · have hkn : k = N := by omega
      subst hkn
      refine (Walks.range A'.hh _ 0 1 k).done s' Qc' E' (S₁.own (.head _)) fun h' tk he => ?_
      refine hn h' tk ?_ (S₁.minusExt hsep fun b o hb e => he b o (by simpa using hb) e)
      simp only [itRange]
      rw [if_neg (by omega)]
  · rintro d m σ w' own s' Qc' E' ⟨_, rfl⟩ S₁ q
    exact wpAny_pyIter_rangeiter (S₁.own (.head _)) q
  · rintro k own ⟨_, rfl⟩
    exact ⟨_, _, _, rfl, .head _, rfl, by decide⟩
/-- for .., .. in enumerate(e), e a list -/
theorem IterF.enum {target : Expr} {elts : List Expr} {k0 : Nat} {tp : Pos} {x : Str} {xp : Pos} {e : Expr} {pos : Pos} {Q : It → H → Prop} (htg : target = .Tuple elts k0 tp)
    (h0 : Ev c n sc (.Name x xp) ρ σ fun v σ₁ => v = .con (.type "enumerate") ∧ Ev c n sc e ρ σ₁ fun v σ₂ => ∃ i l, v = .ref i ∧ σ₂ i = some (.list l) ∧
      Q (fun k σ => match itList i k σ with | some (some v) => some (some (.tup [.int k, v])) | some none => some none | none => none) σ₂)
    (h1 : ∀ env, eval (.Call (.Name x xp) [e] [] pos) env = (do callWith pos (← eval (.Name x xp) env) [] (backTo pos (starEach [e] env)) (backToKw pos (keywordEach [] env))) := by intro _; rfl)
    (h2 : ∀ env, starEach [e] env = (false, eval e env) :: starEach [] env := by intro _; rfl) : IterF c n sc target (.Call (.Name x xp) [e] [] pos) ρ σ Q := by
  subst htg
  intro d m env w s Qc E a b S k
  refine Call_ (h0 d m env w a b s _ E S fun v σ₁ x w₁ h₁ tk₁ q₁ le₁ S₁ r₁ => ?_) (h1 env)
  obtain ⟨rfl, q₁⟩ := q₁
  simp only [RepV] at r₁
  subst r₁
  refine PyProof.Rows.callWith_type1 ?_ (h2 env) (by rfl)
  refine spliced_more (q₁ d m env w₁ a (b.mono le₁) _ _ E S₁ fun v σ₂ y w₂ h₂ tk₂ q₂ le₂ S₂ r₂ => ?_) (h2 env)
  refine spliced_none ?_
  obtain ⟨i, l, rfl, hl, q⟩ := q₂
  obtain ⟨la, vs, j, rfl, e1, e2, e3, e4, e5⟩ := S₂.isList hl r₂
  refine call_enumerate_list (s := { s with heap := h₂, toks := tk₂ }) e4 fun h' he hit hsz hk => ?_
  refine wpAny_pyIter_enum (s := { s with heap := h', toks := tk₂ }) he ?_
  obtain ⟨io, hio, hic, hid⟩ := hit
  have hio' : h'.get? h₂.objs.size = some io := hio
  have he' : h'.get? (h₂.objs.size + 1) = some { cls := .type "enumerate", dict := none, data := .fields #[.none, .bool false, .ref h₂.objs.size, rawInt 0, .none, .none], slots := #[] } := he
  have hne : h₂.objs.size + 1 ≠ h₂.objs.size := Nat.succ_ne_self _
  obtain ⟨S₃, hs₃⟩ := S₂.plusN (own := [(h₂.objs.size + 1, _), (h₂.objs.size, io)]) (h' := h') hk (fun p hp => by
      rcases List.mem_cons.mp hp with rfl | hp
      · exact he'
      · rw [List.mem_singleton.mp hp]; exact hio') (fun p hp => by
      rcases List.mem_cons.mp hp with rfl | hp
      · exact none_of_ge (Nat.le_succ _)
      · rw [List.mem_singleton.mp hp]; exact none_of_size _)
  refine k _ σ₂ (fun k own => ∃ o old, own = [(h₂.objs.size + 1, { cls := .type "enumerate", dict := none, data := .fields #[.none, .bool false, .ref h₂.objs.size, rawInt (k : Nat), .none, old], slots := #[] }), (h₂.objs.size, o)] ∧ o.cls = .type "list_iterator" ∧ o.data = .fields #[.ref la, .int k 0])
    _ (.ref (h₂.objs.size + 1)) w₂ _ tk₂ q (le₁.trans le₂) ⟨?_⟩ ⟨io, .none, rfl, hic, hid⟩ hs₃ S₃
  rintro d m σ w' k own s' Q0 Q1 E' A' le ⟨o, old, rfl, hc, hd⟩ hsep S₁ hi hn hne'
  have hen : IsEnum s'.heap (h₂.objs.size + 1) h₂.objs.size (k : Nat) old := S₁.own (.head _)
  have hit : s'.heap.IsListIter h₂.objs.size la k := ⟨o, S₁.own (.tail _ (.head _)), hc, hd⟩
  cases hσ : σ i with
  | none => simp only [itList, hσ] at hne'; exact absurd rfl hne'
  | some ob =>
    cases ob with
    | inst C fs => simp only [itList, hσ] at hne'; exact absurd rfl hne'
    | list l' =>
      simp only [itList, hσ] at hi hn
      obtain ⟨a', vs', j', f1, f2, f3, f4⟩ := S₁.list hσ
      have : a' = la := by rw [le.mu _ _ e1] at f1; cases f1; rfl
      subst this
      have hl' : s'.heap.IsList a' vs'.toArray := ⟨_, f3, rfl, j', rfl⟩
      cases hk : l'[k]? with
      | some v =>
        obtain ⟨cv, g1, g2⟩ := f4.get hk
        refine wpAny_pyNext_enum_item hen hit hl' (by simpa using g1) hne fun h'' heo hit' htup hsz'' hext => ?_
        obtain ⟨o', ho', hc', hd'⟩ := hit'
        obtain ⟨S₅, hs₅⟩ := S₁.turns (h' := h'') (own' := [(h₂.objs.size + 1, { cls := .type "enumerate", dict := none, data := .fields #[rawInt s'.heap.objs.size, .bool false, .ref h₂.objs.size, rawInt ((k : Int) + 1), .none, cv], slots := #[] }), (h₂.objs.size, o')])
          hsep rfl (fun b ob hb e => hext b ob (fun q => hb (by simp [q])) (fun q => hb (by simp [q])) e) (fun p hp => by
            rcases List.mem_cons.mp hp with rfl | hp
            · exact heo
            · rw [List.mem_singleton.mp hp]; exact ho')
        have hoff : ∀ q ∈ w'.news ++ (d.plus [(h₂.objs.size + 1, ({ cls := .type "enumerate", dict := none, data := .fields #[rawInt s'.heap.objs.size, .bool false, .ref h₂.objs.size, rawInt ((k : Int) + 1), .none, cv], slots := #[] } : Obj)), (h₂.objs.size, o')]).fr, q.1 ≠ s'.heap.objs.size := fun q hq => by
          rcases List.mem_append.mp hq with hq | hq
          · exact S₁.off (none_of_size _) q (List.mem_append_left _ hq)
          · rcases List.mem_append.mp hq with hq | hq
            · have o1 := S₁.off (none_of_size _)
              rcases List.mem_cons.mp hq with rfl | hq
              · have := o1 (h₂.objs.size + 1, { cls := .type "enumerate", dict := none, data := .fields #[.none, .bool false, .ref h₂.objs.size, rawInt (k : Nat), .none, old], slots := #[] }) (List.mem_append_right _ (List.mem_append_left _ (.head _)))
                exact this
              · rw [List.mem_singleton.mp hq]
                have := o1 (h₂.objs.size, o) (List.mem_append_right _ (List.mem_append_left _ (.tail _ (.head _))))
                exact this
            · exact S₁.off (none_of_size _) q (List.mem_append_right _ (List.mem_append_right _ hq))
        have N6 : News d.h₀ d.L h'' ((s'.heap.objs.size, tupOf [.int k s'.toks, cv] 0) :: (w'.news ++ (d.plus [(h₂.objs.size + 1, ({ cls := .type "enumerate", dict := none, data := .fields #[rawInt s'.heap.objs.size, .bool false, .ref h₂.objs.size, rawInt ((k : Int) + 1), .none, cv], slots := #[] } : Obj)), (h₂.objs.size, o')]).fr)) := fun p hp => by
          rcases List.mem_cons.mp hp with rfl | hp
          · exact ⟨htup, S₁.L_ne (none_of_size _), S₁.base_none (none_of_size _)⟩
          · exact S₅.N p hp
        have S₆ := S₅.add S₅.F N6 hoff
        refine wpAny_letOwnedTupleGo_enum (S₆.own (.head _)) fun h₇ hen₇ sb => ?_
        obtain ⟨S₇, hs₇⟩ := S₆.turns (h' := h₇) (own' := [(h₂.objs.size + 1, { cls := .type "enumerate", dict := none, data := .fields #[.none, .bool false, .ref h₂.objs.size, rawInt ((k + 1 : Nat) : Int), .none, cv], slots := #[] }), (h₂.objs.size, o')])
          hs₅ rfl (fun b ob hb e => sb.extBut b ob (fun q => hb (by simp [q])) e) (fun p hp => by
            rcases List.mem_cons.mp hp with rfl | hp
            · exact hen₇
            · rw [List.mem_singleton.mp hp]; exact sb.extBut _ _ hne.symm ho')
        refine hi (.tup [.int k, v]) _ _ _ h₇ (s'.toks + 1) (by simp only [hk]) (Wle.add ..) ⟨o', cv, rfl, hc', hd'⟩ hs₇ S₇ ?_
        simp only [RepV]
        exact ⟨_, [.int k s'.toks, cv], 0, rfl, .inl (.head _), .cons (by simp only [RepV]; exact ⟨_, rfl⟩) (.cons (RepV.mono (Wle.add ..) _ _ g2) .nil)⟩
      | none =>
        have hlen := f4.length
        refine wpAny_pyNext_enum_end A'.hh hen hit hl' (by
          have := List.getElem?_eq_none_iff.mp hk
          simp only [List.getElem?_toArray, List.getElem?_eq_none_iff]; omega) fun h'' he'' => ?_
        refine hn h'' s'.toks (by simp only [hk]) ?_
        have S₅ : St c (d.plus [(h₂.objs.size, o)]) m σ w' s'.heap := by
          refine ⟨S₁.F, fun p hp => ?_, S₁.D.obj, S₁.D.apart, fun p hp q hq => ?_, S₁.D.fin⟩
          · rcases List.mem_append.mp hp with hp | hp
            · exact S₁.N p (List.mem_append_left _ hp)
            · exact S₁.N p (List.mem_append_right _ (.tail _ hp))
          · exact S₁.D.frame p hp q (.tail _ hq)
        exact S₅.minusExt (fun p hp q hq => hsep p (.tail _ hp) q hq) he''
end

section
variable {c : Cx} {n : Nat} {σ : H}
theorem CallR.lenList {i : Nat} {l : List V} {Q : V → H → Prop} (e : σ i = some (.list l)) (hz : l.length ≤ sizeLine) (q : Q (.int l.length) σ) : CallR c n (.builtin "len") [.ref i] σ Q := by
  intro d m w xs A r s Qc E S k
  obtain ⟨x, rfl, r1⟩ := r.one
  obtain ⟨a, vs, j, rfl, e1, e2, e3, e4, e5⟩ := S.isList e r1
  have hl := e5.length
  have hs := sizeLine_eq
  refine call_len_list e4 (by simp; omega) ?_
  exact k _ σ _ w s.heap _ q (.refl w) S (by simp only [RepV]; exact ⟨s.toks + 1, by simp [hl]⟩)
theorem CallR.lenTup {l : List V} {Q : V → H → Prop} (hz : l.length ≤ sizeLine) (q : Q (.int l.length) σ) : CallR c n (.builtin "len") [.tup l] σ Q := by
  intro d m w xs A r s Qc E S k
  obtain ⟨x, rfl, r1⟩ := r.one
  obtain ⟨a, vs, j, rfl, e3, e4, e5⟩ := S.isTup A r1
  have hl := e5.length
  have hs := sizeLine_eq
  refine len_tuple e4 (by simp; omega) ?_
  exact k _ σ _ w s.heap _ q (.refl w) S (by simp only [RepV]; exact ⟨s.toks + 1, by simp [hl]⟩)
theorem CallR.maxI {a b : Int} {Q : V → H → Prop} (q : Q (.int (if b > a then b else a)) σ) : CallR c n (.builtin "max") [.int a, .int b] σ Q := by
  intro d m w xs A r s Qc E S k
  obtain ⟨x, y, rfl, r1, r2⟩ := r.two
  simp only [RepV] at r1 r2
  obtain ⟨t, rfl⟩ := r1; obtain ⟨u, rfl⟩ := r2
  refine max_two_ints A.hh fun h' tk hk => ?_
  exact k _ σ _ w h' tk q (.refl w) (S.keepAll hk) (by simp only [RepV]; split <;> exact ⟨_, rfl⟩)
theorem CallR.intB {b : Bool} {Q : V → H → Prop} (q : Q (.int (if b then 1 else 0)) σ) : CallR c n (.type "int") [.bool b] σ Q := by
  intro d m w xs A r s Qc E S k
  obtain ⟨x, rfl, r1⟩ := r.one
  simp only [RepV] at r1
  subst r1
  exact call_int_bool (k _ σ _ w s.heap _ q (.refl w) S (by simp only [RepV]; exact ⟨_, rfl⟩))
theorem CallR.tupleL {i : Nat} {l : List V} {Q : V → H → Prop} (e : σ i = some (.list l)) (hz : l.length ≤ sizeLine) (q : Q (.tup l) σ) : CallR c n (.type "tuple") [.ref i] σ Q := by
  intro d m w xs A r s Qc E S k
  obtain ⟨x, rfl, r1⟩ := r.one
  obtain ⟨a, vs, j, rfl, e1, e2, e3, e4, e5⟩ := S.isList e r1
  have hl := e5.length
  refine call_tuple_list e4 (fun h' hk => ?_) (by simp; omega)
  have S' := (S.keepAll hk).pushTup vs 0
  exact k _ σ _ _ _ s.toks q (Wle.add ..) S' (by simp only [RepV]; exact ⟨_, vs, 0, rfl, .inl (.head _), RepVs.mono (Wle.add ..) _ _ e5⟩)
end
end Mine

namespace Mine
open PySem PySem.W PyProof.Rows PySem.Calls PySem.Spec

section
variable {c : Cx} {n : Nat} {sc : Scope} {ρ : Loc} {σ : H} {d : Dyn} {m : Str → Option Value} {w : Wd} {h h' : Heap}
theorem St.reorder {fr' : List (Addr × Obj)} (S : St c d m σ w h) (hf : ∀ p ∈ fr', p ∈ d.fr) : St c { d with fr := fr' } m σ w h :=
  ⟨S.F, fun p hp => (List.mem_append.mp hp).elim (fun hp => S.N p (List.mem_append_left _ hp)) fun hp => S.N p (List.mem_append_right _ (hf p hp)), S.D.obj, S.D.apart, fun p hp q hq => S.D.frame p hp q (hf q hq), S.D.fin⟩
theorem St.fr_get (S : St c d m σ w h) {p : Addr × Obj} (hp : p ∈ d.fr) : h.get? p.1 = some p.2 := (S.N p (List.mem_append_right _ hp)).1

/-- the tests of a comprehension: none, or one -/
noncomputable def Tests (c : Cx) (n : Nat) (sc : Scope) (ifs : List Expr) (ρ : Loc) (σ : H) (Q : Bool → H → Prop) : Prop := match ifs with
  | [] => Q true σ
  | [e] => Tr c n sc e ρ σ Q
  | _ => False
noncomputable def LoopC (c : Cx) (n : Nat) (sc : Scope) (x : Str) (ρf : Loc) (ifs : List Expr) (elt : Expr) (I : It) (Q : List V → H → Prop) : Nat → Nat → List V → H → Prop
  | 0, _, _, _ => False
  | f + 1, k, acc, σ => match I k σ with
    | none => False
    | some none => Q acc σ
    | some (some v) => Tests c n sc ifs ((x, v) :: ρf) σ fun t σ₁ => if t then Ev c n sc elt ((x, v) :: ρf) σ₁ fun y σ₂ => acc.length < sizeLine ∧ LoopC c n sc x ρf ifs elt I Q f (k + 1) (acc ++ [y]) σ₂
        else LoopC c n sc x ρf ifs elt I Q f (k + 1) acc σ₁

theorem tests_run {A : Around} {E : Value → Shared → Prop} {ifs : List Expr} {env : Env} {Qb : Bool → Shared → Prop} {s : Shared} (a : Act c n d) (hA : A = d.A) (b : Bind c d m env sc ρ w) {Q : Bool → H → Prop} (ht : Tests c n sc ifs ρ σ Q) (S : St c d m σ w s.heap)
    (k : ∀ t σ' w' h' tk, Q t σ' → Wle w w' → St c d m σ' w' h' → Qb t { s with heap := h', toks := tk }) :
    wpAny (model c.prog c.w) A (forIn ifs true fun c r => if r = true then do let ok ← isTrue c env (eval c env); pure (ForInStep.yield ok) else pure (ForInStep.yield r)) Qb E s := by
  subst hA
  match ifs, ht with
  | [], ht => rw [List.forIn_nil]; exact wpAny_pure (k true σ w s.heap s.toks ht (.refl w) S)
  | [e], ht =>
    rw [List.forIn_cons]
    simp only [if_true]
    refine wpAny_bind (wpAny_bind (ht d m env w a b s _ E S fun t σ' t' w' h' tk q le S' r => wpAny_pure ?_))
    subst r
    show wpAny _ _ (forIn ([] : List Expr) t' _) _ _ _
    rw [List.forIn_nil]
    exact wpAny_pure (k t' σ' w' h' tk q le S')

theorem bnd_comp {env : Env} {scope : Scope} {cl : List (Str × Addr)} {C : Addr} {o : Obj} {es : Array DictEntry} {ep : Nat} {x : Str} {cv : Value} (hC : (C, o) ∈ d.fr) (ho : o.data = .dict es ep) (hk : StrKeys es) (hx : nsFind es x = some cv)
    (hs : scope.kind = .function) (hl : scope.names.lookup x = some .local) (hd : (x == ("__debug__" : Str)) = false) : Bnd c d m (compEnvC scope cl C env) x cv := by
  intro A Q E s pos F hfr q
  have hn : s.heap.Ns C (fun y => nsFind es y) := ⟨o, es, ep, hfr _ hC, ho, hk, fun _ => rfl⟩
  refine wpAny_Name (wpAny_loadName_local (m := fun y => nsFind es y) ?_ ?_ hn hx q) hd
  · exact hs
  · exact lookup_relabel_local hl
theorem lookup_relabel_glob {env : Env} : ∀ {names : List (Str × NameKind)} {x : Str}, names.lookup x = some .globalImplicit →
    (names.map fun (n, k) => if (k == NameKind.free && env.scope.kind == .function && env.kindOf n == some .cell) then (n, NameKind.cell) else (n, k)).lookup x = some .globalImplicit
  | [], x, h => by simp at h
  | (n, k) :: r, x, h => by
    rw [List.map_cons]
    by_cases hx : x = n
    · subst hx
      simp only [List.lookup, beq_self_eq_true, Option.some.injEq] at h
      subst h
      simp [List.lookup]
    · have hb : (x == n) = false := beq_eq_false_iff_ne.mpr hx
      simp only [List.lookup, hb] at h
      have ih := lookup_relabel_glob (env := env) h
      by_cases hc : (k == NameKind.free && env.scope.kind == .function && env.kindOf n == some .cell) = true
      · dsimp only
        rw [if_pos hc]
        simp only [List.lookup, hb]; exact ih
      · dsimp only
        rw [if_neg hc]
        simp only [List.lookup, hb]; exact ih

theorem comp_core {env : Env} {scope : Scope} {cl : List (Str × Addr)} {x : Str} {px pos : Pos} {iter elt : Expr} {ifs : List Expr} {ρf : Loc} {Q : V → H → Prop}
    (a : Act c n d) (b : Bind c d m env sc ρ w) (hclos : closureFor scope env = pure cl) (hso : ScOk scope) (hcell : ∀ y ∈ scope.names, y.2 ≠ .cell) (hnames : ∀ y ∈ scope.names, y.2 = .local → scope.names.lookup y.1 = some .local)
    (hx : scope.names.lookup x = some .local) (hs : ∀ y, foldedSetIterable iter env y = pure y)
    (hfree : ∀ y u, ρf.lookup y = some u → ∃ cv, RepV c w u cv ∧ ∀ C (d' : Dyn), d'.h₀ = d.h₀ → d'.L = d.L → (∀ p ∈ d.fr, p ∈ d'.fr) → Bnd c d' m (compEnvC scope cl C env) y cv)
    (h : IterE c n sc iter ρ σ fun I σ₁ => ∃ f, LoopC c n scope x ρf ifs elt I (fun acc σ₂ => ∀ i, σ₂ i = none → Q (.ref i) (σ₂.set i (.list acc))) f 0 [] σ₁) :
    Run c d m (eval (.ListComp elt [⟨.Name x px, iter, ifs, 0⟩] scope pos) env) (RepV c) σ w Q := by
  intro s Qc E S K
  rw [eval_ListComp]
  refine wpAny_comprehension_free (use := none) rfl hs hclos hso.kind hnames (h d m env w s _ E a b S fun I σ₁ Own own it w₁ h₁ tk₁ q₁ le₁ ok ho hsep S₁ => ?_)
  obtain ⟨f, hL⟩ := q₁
  -- the list
  have hD0 := none_of_size h₁
  refine wpAny_newObj_type ?_ (by show (0 : Nat) ≤ sizeLine; exact Nat.zero_le _)
  obtain ⟨S₂, hs₂⟩ := S₁.plusN (own := [(h₁.objs.size, listOf #[] 0)]) (h' := h₁.push (listOf #[] 0)) (fun _ _ e => Heap.get?_push_of_some _ e) (fun p hp => by rw [List.mem_singleton.mp hp]; exact Heap.get?_push_size _ rfl) (fun p hp => by rw [List.mem_singleton.mp hp]; exact hD0)
  -- the comprehension's names
  refine wpAny_newFunctionEnv hcell (by intro y hy; simp at hy) (fun h₃ hns hsb => ?_) hso.kind
  dsimp only at hns hsb ⊢
  have hC0 := none_of_size (h₁.push (listOf #[] 0))
  obtain ⟨oC, esC, epC, hoC, hdC, hkC, hfC⟩ := hns
  obtain ⟨S₃, hs₃⟩ := S₂.plusN (own := [((h₁.push (listOf #[] 0)).objs.size, oC)]) (h' := h₃) (fun bb o e => hsb.extBut _ _ (fun q => by rw [q, hC0] at e; cases e) (Heap.get?_push_of_some _ e)) (fun p hp => by rw [List.mem_singleton.mp hp]; exact hoC) (fun p hp => by rw [List.mem_singleton.mp hp]; exact hC0)
  generalize hCdef : (h₁.push (listOf #[] 0)).objs.size = C at *
  generalize hDdef : h₁.objs.size = D at *
  have hDC : D ≠ C := by rw [← hCdef, ← hDdef, Heap.size_push]; exact (Nat.succ_ne_self _).symm
  let dB (vs : List Value) (j : Nat) (o : Obj) : Dyn := { d with fr := (D, listOf vs.toArray j) :: (C, o) :: d.fr }
  have start : St c ((dB [] 0 oC).plus own) m σ₁ w₁ h₃ := S₃.reorder fun p hp => by
    rcases List.mem_append.mp hp with hp | hp
    · exact List.mem_append_right _ (List.mem_append_right _ (List.mem_append_left _ hp))
    · rcases List.mem_cons.mp hp with rfl | hp
      · exact List.mem_append_right _ (List.mem_append_left _ (.head _))
      · rcases List.mem_cons.mp hp with rfl | hp
        · exact List.mem_append_left _ (.head _)
        · exact List.mem_append_right _ (List.mem_append_right _ (List.mem_append_right _ hp))
  have sepO : ∀ (vs : List Value) (j : Nat) (o : Obj), Sep (dB vs j o) own := fun vs j o p hp q hq => by
    rcases List.mem_cons.mp hq with rfl | hq
    · exact (hs₂ (D, listOf #[] 0) (.head _) p (List.mem_append_left _ hp)).symm
    · rcases List.mem_cons.mp hq with rfl | hq
      · exact (hs₃ (C, oC) (.head _) p (List.mem_append_right _ (List.mem_append_left _ hp))).symm
      · exact hsep p hp q hq
  have sepD : ∀ q ∈ d.fr, q.1 ≠ D := fun q hq => hs₂ (D, listOf #[] 0) (.head _) q (List.mem_append_right _ hq)
  have sepC : ∀ q ∈ d.fr, q.1 ≠ C := fun q hq => hs₃ (C, oC) (.head _) q (List.mem_append_right _ (List.mem_append_right _ hq))
  have hBind : ∀ vs j o es ep own' v cv w', o.data = .dict es ep → StrKeys es → nsFind es x = some cv → RepV c w' v cv → Wle w w' → Bind c ((dB vs j o).plus own') m (compEnvC scope cl C env) scope ((x, v) :: ρf) w' := fun vs j o es ep own' v cv w' hd hk hxv rv le => by
    refine ⟨fun y u e => ?_, b.glob, b.blt, ?_, fun y hy => lookup_relabel_glob hy⟩
    · simp only [List.lookup] at e
      split at e
      · rename_i hyx
        cases e
        have : y = x := beq_iff_eq.mp hyx
        subst this
        refine ⟨cv, rv, bnd_comp (o := o) (List.mem_append_right _ (.tail _ (.head _))) hd hk hxv hso.kind hx ?_⟩
        refine beq_eq_false_iff_ne.mpr fun e => ?_
        rw [e, hso.dbg] at hx; cases hx
      · obtain ⟨cv', r', hb'⟩ := hfree y u e
        exact ⟨cv', RepV.mono le _ _ r', hb' C _ rfl rfl fun p hp => List.mem_append_right _ (.tail _ (.tail _ hp))⟩
    · show (relabel scope env).kind = .function
      exact hso.kind
  -- the loop
  have loop : ∀ tk, codeAny (model c.prog c.w) d.A (.compLoop (.ListComp elt [⟨.Name x px, iter, ifs, 0⟩] scope pos) 0 it (.ref D) (compEnvC scope cl C env)) (compPost (model c.prog c.w) d.A E none Qc (.ref D) C) { s with heap := h₃, toks := tk } := by
    intro tk₀
    refine codeAny_compLoop_tests (fun f s' => ∃ k acc σ w' own vs j o es ep h tk, s' = { s with heap := h, toks := tk } ∧ LoopC c n scope x ρf ifs elt I (fun acc σ₂ => ∀ i, σ₂ i = none → Q (.ref i) (σ₂.set i (.list acc))) f k acc σ ∧ Wle w₁ w' ∧ Own k own ∧
        Sep (dB vs j o) own ∧ St c ((dB vs j o).plus own) m σ w' h ∧ RepVs c w' acc vs ∧ o.data = .dict es ep ∧ StrKeys es) ?_ f
      ⟨0, [], σ₁, w₁, own, [], 0, oC, esC, epC, h₃, tk₀, rfl, hL, .refl _, ho, sepO [] 0 oC, start, .nil, hdC, hkC⟩ (by intro _; rfl)
    rintro f' s' ⟨k, acc, σ', w', own', vs, j, o, es, ep, h', tk', rfl, hL', le', ho', hsep', S', rv, hdo, hko⟩
    cases f' with
    | zero => exact hL'.elim
    | succ f' =>
      have hne : I k σ' ≠ none := fun e => by simp only [LoopC, e] at hL'
      refine ok.next (dB vs j o) m σ' w' k own' _ _ _ ⟨a.B, a.hA, a.hf, a.hk, a.hh, a.X, a.T, a.dep, a.un⟩ le' ho' hsep' S' (fun v cv w'' own'' h'' tk'' hi le'' ho'' hsep'' S'' rcv => ?_) (fun h'' tk'' hi S'' => ?_) hne
      · simp only [LoopC, hi] at hL'
        -- the target's store
        have hns : h''.Ns C (fun y => nsFind es y) := ⟨o, es, ep, S''.fr_get (p := (C, o)) (List.mem_append_right _ (.tail _ (.head _))), hdo, hko, fun _ => rfl⟩
        refine assign_Name (wpAny_storeName_local (m := fun y => nsFind es y) ?_ hns (fun h₄ hn₄ hs₄ => ?_) ?_)
        · exact lookup_relabel_local hx
        · obtain ⟨o₄, es₄, ep₄, ho₄, hd₄, hk₄, hf₄⟩ := hn₄
          obtain ⟨S₄, hs₄'⟩ : St c ((dB vs j o₄).plus own'') m σ' w'' h₄ ∧ Sep (dB vs j o₄) own'' := by
            have base : St c ({ d with fr := own'' ++ (D, listOf vs.toArray j) :: d.fr : Dyn }.plus [(C, o)]) m σ' w'' h'' := S''.reorder fun p hp => by
              rcases List.mem_append.mp hp with hp | hp
              · rw [List.mem_singleton.mp hp]; exact List.mem_append_right _ (.tail _ (.head _))
              · rcases List.mem_append.mp hp with hp | hp
                · exact List.mem_append_left _ hp
                · rcases List.mem_cons.mp hp with rfl | hp
                  · exact List.mem_append_right _ (.head _)
                  · exact List.mem_append_right _ (.tail _ (.tail _ hp))
            have sepb : Sep { d with fr := own'' ++ (D, listOf vs.toArray j) :: d.fr } [(C, o)] := fun p hp q hq => by
              rw [List.mem_singleton.mp hp]
              rcases List.mem_append.mp hq with hq | hq
              · exact (hsep'' q hq (C, o) (.tail _ (.head _))).symm
              · rcases List.mem_cons.mp hq with rfl | hq
                · exact hDC
                · exact sepC q hq
            have t := St.turn (o' := o₄) base sepb hs₄ ho₄
            refine ⟨t.reorder fun p hp => ?_, fun p hp q hq => ?_⟩
            · rcases List.mem_append.mp hp with hp | hp
              · exact List.mem_append_right _ (List.mem_append_left _ hp)
              · rcases List.mem_cons.mp hp with rfl | hp
                · exact List.mem_append_right _ (List.mem_append_right _ (.head _))
                · rcases List.mem_cons.mp hp with rfl | hp
                  · exact List.mem_append_left _ (.head _)
                  · exact List.mem_append_right _ (List.mem_append_right _ (.tail _ hp))
            · rcases List.mem_cons.mp hq with rfl | hq
              · exact hsep'' p hp (D, _) (.head _)
              · rcases List.mem_cons.mp hq with rfl | hq
                · exact hsep'' p hp (C, o) (.tail _ (.head _))
                · exact hsep'' p hp q (.tail _ (.tail _ hq))
          have hx₄ : nsFind es₄ x = some cv := by rw [hf₄]; exact if_pos rfl
          have aP : Act c n ((dB vs j o₄).plus own'') := ⟨a.B, a.hA, a.hf, a.hk, a.hh, a.X, a.T, a.dep, a.un⟩
          have leW := ((le₁.trans le').trans le'')
          refine tests_run (s := { s with heap := h₄, toks := tk'' + 1 }) (d := (dB vs j o₄).plus own'') aP rfl (hBind vs j o₄ es₄ ep₄ own'' v cv w'' hd₄ hk₄ hx₄ rcv leW) hL' S₄ fun t σ₅ w₅ h₅ tk₅ q₅ le₅ S₅ => ?_
          cases t with
          | false =>
            simp only [Bool.false_eq_true, if_false] at q₅ ⊢
            exact ⟨f', Nat.lt_succ_self _, k + 1, acc, σ₅, w₅, own'', vs, j, o₄, es₄, ep₄, h₅, tk₅, rfl, q₅, (le'.trans le'').trans le₅, ho'', hs₄', S₅, RepVs.mono (le''.trans le₅) _ _ rv, hd₄, hk₄⟩
          | true =>
            simp only [if_true] at q₅ ⊢
            refine q₅ ((dB vs j o₄).plus own'') m _ w₅ aP ((hBind vs j o₄ es₄ ep₄ own'' v cv w'' hd₄ hk₄ hx₄ rcv leW).mono le₅) _ _ _ S₅ fun y σ₆ yv w₆ h₆ tk₆ q₆ le₆ S₆ ry => ?_
            have hlen := rv.length
            refine append_at (its := vs.toArray) (n := j) (hsz := by simp; omega) (S₆.fr_get (p := (D, listOf vs.toArray j)) (List.mem_append_right _ (.head _))) fun h₇ hs₇ ho₇ => ?_
            have ho₇' : h₇.get? D = some (listOf (vs ++ [yv]).toArray (j + 1)) := by rw [ho₇]; simp
            have base : St c ({ d with fr := own'' ++ (C, o₄) :: d.fr : Dyn }.plus [(D, listOf vs.toArray j)]) m σ₆ w₆ h₆ := S₆.reorder fun p hp => by
              rcases List.mem_append.mp hp with hp | hp
              · rw [List.mem_singleton.mp hp]; exact List.mem_append_right _ (.head _)
              · rcases List.mem_append.mp hp with hp | hp
                · exact List.mem_append_left _ hp
                · exact List.mem_append_right _ (.tail _ hp)
            have sepb : Sep { d with fr := own'' ++ (C, o₄) :: d.fr } [(D, listOf vs.toArray j)] := fun p hp q hq => by
              rw [List.mem_singleton.mp hp]
              rcases List.mem_append.mp hq with hq | hq
              · exact (hs₄' q hq (D, listOf vs.toArray j) (.head _)).symm
              · rcases List.mem_cons.mp hq with rfl | hq
                · exact hDC.symm
                · exact sepD q hq
            have t := St.turn (o' := listOf (vs ++ [yv]).toArray (j + 1)) base sepb hs₇ ho₇'
            refine ⟨f', Nat.lt_succ_self _, k + 1, acc ++ [y], σ₆, w₆, own'', vs ++ [yv], j + 1, o₄, es₄, ep₄, h₇, tk₆, rfl, q₆.2, ((le'.trans le'').trans le₅).trans le₆, ho'', fun p hp q hq => ?_, t.reorder fun p hp => ?_, (RepVs.mono ((le''.trans le₅).trans le₆) _ _ rv).append (.cons ry .nil), hd₄, hk₄⟩
            · rcases List.mem_cons.mp hq with rfl | hq
              · exact hs₄' p hp (D, listOf vs.toArray j) (.head _)
              · exact hs₄' p hp q (.tail _ hq)
            · rcases List.mem_append.mp hp with hp | hp
              · exact List.mem_append_right _ (List.mem_append_left _ hp)
              · rcases List.mem_cons.mp hp with rfl | hp
                · exact List.mem_append_left _ (.head _)
                · exact List.mem_append_right _ (List.mem_append_right _ hp)
        · show ((relabel scope env).kind == .class || ((relabel scope env).kind == .module && _)) = false
          rw [show (relabel scope env).kind = .function from hso.kind]; rfl
      · simp only [LoopC, hi] at hL'
        refine ⟨fun y => nsFind es y, ⟨o, es, ep, S''.fr_get (p := (C, o)) (.tail _ (.head _)), hdo, hko, fun _ => rfl⟩, fun h₈ hs₈ => ?_⟩
        have base : St c ({ d with fr := (D, listOf vs.toArray j) :: d.fr : Dyn }.plus [(C, o)]) m σ' w' h'' := S''.reorder fun p hp => by
          rcases List.mem_append.mp hp with hp | hp
          · rw [List.mem_singleton.mp hp]; exact .tail _ (.head _)
          · rcases List.mem_cons.mp hp with rfl | hp
            · exact .head _
            · exact .tail _ (.tail _ hp)
        have S₈ := base.minusExt (fun p hp q hq => by
          rw [List.mem_singleton.mp hp]
          rcases List.mem_cons.mp hq with rfl | hq
          · exact hDC
          · exact sepC q hq) hs₈.extBut
        have S₉ : St c d m σ' w' h₈ := St.minus (own := [(D, listOf vs.toArray j)]) S₈
        obtain ⟨i, hi', hσ⟩ := S₉.free
        have N₉ : News d.h₀ d.L h₈ ((D, listOf vs.toArray j) :: (w'.news ++ d.fr)) := fun p hp => by
          rcases List.mem_cons.mp hp with rfl | hp
          · exact S₈.N _ (List.mem_append_right _ (.head _))
          · exact S₉.N p hp
        have offD : ∀ q ∈ w'.news ++ d.fr, q.1 ≠ D := fun q hq => by
          rcases List.mem_append.mp hq with hq | hq
          · exact S₈.D.frame q hq (D, _) (.head _)
          · exact sepD q hq
        have l1 := Wle.add w' D (listOf vs.toArray j)
        have l2 : Wle (w'.add D (listOf vs.toArray j)) ((w'.add D (listOf vs.toArray j)).at i (D, D)) := Wle.at' hi'
        refine K (.ref i) (σ'.set i (.list acc)) (.ref D) ((w'.add D (listOf vs.toArray j)).at i (D, D)) h₈ tk'' (hL' i hσ) ((le₁.trans le').trans (l1.trans l2)) ⟨S₉.F, N₉, Led.newLetter S₉ hi' rfl (S₉.D.sub l1 (fun _ e => .tail _ e) rfl (off_add offD)) ⟨rfl, vs, j, .head _, RepVs.mono (l1.trans l2) _ _ rv⟩ offD offD⟩ ?_
        simp only [RepV]
        exact ⟨_, if_pos rfl, rfl⟩
  refine codeAny_compStart_list (loop _) ?_
  refine ok.self (dB [] 0 oC) m σ₁ w₁ own _ _ _ ho start (loop _)
end
end Mine

namespace Mine
open PySem PySem.W PyProof.Rows PySem.Calls PySem.Spec

section
open PySem.Builtin
theorem tm_mul_one (t : Addr) (items : Array Value) (n : Nat) (u : Tok) (he : items.isEmpty = false) :
    Meets (Builtin.«tuple.__mul__» ⟨[.ref t, .int 1 u], []⟩) (fun _ R s => s.heap.get? t = some { cls := .type "tuple", data := .seq items n } ∧ R (.ok (.ret (Value.ref t))) s) :=
  .of_wp fun prog w A R s h => by obtain ⟨hp, g, d, tk, os⟩ := s; obtain ⟨hl, h⟩ := h; wp_walk; exact ⟨_, rfl, h⟩
theorem tm_mul_zero (t : Addr) (items : Array Value) (n : Nat) (u : Tok) (he : items.isEmpty = false) :
    Meets (Builtin.«tuple.__mul__» ⟨[.ref t, .int 0 u], []⟩) (fun _ R s => s.heap.get? t = some { cls := .type "tuple", data := .seq items n } ∧ R (.ok (.ret (Value.ref s.heap.objs.size))) { s with heap := s.heap.push { cls := .type "tuple", data := .seq #[] } }) :=
  .of_wp fun prog w A R s h => by obtain ⟨hp, g, d, tk, os⟩ := s; obtain ⟨hl, h⟩ := h; wp_walk; exact ⟨_, rfl, h⟩
theorem tm_mul_two (t : Addr) (v : Value) (n : Nat) (u : Tok) :
    Meets (Builtin.«tuple.__mul__» ⟨[.ref t, .int 2 u], []⟩) (fun _ R s => s.heap.get? t = some { cls := .type "tuple", data := .seq #[v] n } ∧ R (.ok (.ret (Value.ref s.heap.objs.size))) { s with heap := s.heap.push { cls := .type "tuple", data := .seq #[v, v] } }) :=
  .of_wp fun prog w A R s h => by obtain ⟨hp, g, d, tk, os⟩ := s; obtain ⟨hl, h⟩ := h; wp_walk; exact ⟨_, rfl, h⟩
theorem int_rmul_tuple (a : Int) (t : Tok) (l : Addr) (items : Array Value) (n : Nat) :
    Meets (Builtin.«int.__rmul__» ⟨[.int a t, .ref l], []⟩) (fun _ R s => s.heap.get? l = some { cls := .type "tuple", dict := none, data := .seq items n, slots := #[] } ∧ R (.ok (.ret Value.notImplemented)) s) :=
  .of_wp fun prog w A R s h => by obtain ⟨hp, g, d, tk, os⟩ := s; obtain ⟨hl, h⟩ := h; wp_walk; exact ⟨_, rfl, h⟩
theorem noFill_tuple_mul : fillsNumberSlot (.type "tuple") "mul" = pure false :=
  PySem.fillsNumberSlot_seq (id := "tuple.__mul__") (r := some (.builtin "tuple.__rmul__")) PySem.F.slot_tuple_mul.lookup (by decide +kernel) PySem.F.slot_tuple_rmul.lookup (by decide +kernel)
theorem repeat_tuple : seqRepeat? (.type "tuple") = pure (some (.builtin "tuple.__mul__")) := by
  unfold seqRepeat?
  rw [PySem.seqSlot_of (T := "tuple") (name := "__mul__") (id := "tuple.__mul__") PySem.F.slot_tuple_mul.lookup (by decide +kernel), PySem.seqSlot_of (T := "tuple") (name := "__rmul__") (id := "tuple.__rmul__") PySem.F.slot_tuple_rmul.lookup (by decide +kernel)]
  rfl
end

section
variable {c : Cx} {n : Nat} {sc : Scope} {ρ : Loc} {σ : H}
/-- a tuple of one, some times -/
theorem Op2.mulTup1 {v : V} {x : Int} {Q : V → H → Prop} (h0 : 0 ≤ x) (h2 : x ≤ 2) (q : Q (.tup (List.replicate x.toNat v)) σ) : Op2 c n (binaryOp .Mult) (.tup [v]) (.int x) σ Q := by
  intro d m w x' y A r1 r2 s Qc E S kk
  have r1' := r1
  obtain ⟨a, vs, k, rfl, e3, e4, e5⟩ := S.isTup A r1
  simp only [RepV] at r2
  obtain ⟨u, rfl⟩ := r2
  obtain ⟨cv, rfl, rv⟩ := e5.one
  have road : (wpAny (model c.prog c.w) d.A (call (.builtin "tuple.__mul__") [.ref a, .int x u]) Qc E s) → wpAny (model c.prog c.w) d.A (binaryOp .Mult (.ref a) (.int x u)) Qc E s := fun h =>
    wpAny_binaryOp_repeat_ref (T := "tuple") (U := "int") (by decide) ⟨_, e3, rfl⟩ (fun s' => typeIs_int s' x u) noFill_tuple_mul PySem.F.fills_int_mul PySem.F.slot_int_rmul repeat_tuple PySem.F.slot_int_index.lookup
      (call_meets PySem.F.slot_int_rmul (typeIs_int s x u) PySem.F.entry_int_rmul (PySem.F.args_int_rmul_2 _ _) (int_rmul_tuple x u a #[cv] k) ⟨e3, rfl, ⟨_, e3, rfl⟩, h⟩)
  refine road ?_
  have hx : x = 0 ∨ x = 1 ∨ x = 2 := by omega
  rcases hx with rfl | rfl | rfl
  · refine call_meets PySem.F.slot_tuple_mul ⟨_, e3, rfl⟩ PySem.F.entry_tuple_mul (PySem.F.args_tuple_mul_2 _ _) (tm_mul_zero a #[cv] k u rfl) ⟨e3, ?_⟩
    exact kk _ σ _ _ _ s.toks q (Wle.add ..) (S.pushTup [] 0) (by simp only [RepV]; exact ⟨_, [], 0, rfl, .inl (.head _), .nil⟩)
  · refine call_meets PySem.F.slot_tuple_mul ⟨_, e3, rfl⟩ PySem.F.entry_tuple_mul (PySem.F.args_tuple_mul_2 _ _) (tm_mul_one a #[cv] k u rfl) ⟨e3, ?_⟩
    exact kk _ σ _ w s.heap s.toks q (.refl w) S r1'
  · refine call_meets PySem.F.slot_tuple_mul ⟨_, e3, rfl⟩ PySem.F.entry_tuple_mul (PySem.F.args_tuple_mul_2 _ _) (tm_mul_two a cv k u) ⟨e3, ?_⟩
    exact kk _ σ _ _ _ s.toks q (Wle.add ..) (S.pushTup [cv, cv] 0) (by simp only [RepV]; exact ⟨_, [cv, cv], 0, rfl, .inl (.head _), .cons (RepV.mono (Wle.add ..) _ _ rv) (.cons (RepV.mono (Wle.add ..) _ _ rv) .nil)⟩)

theorem Ev.neg {x : Expr} {pos : Pos} {Q : V → H → Prop} (h : Ev c n sc x ρ σ fun v σ₁ => ∃ i, v = .int i ∧ Q (.int (-i)) σ₁) : Ev c n sc (.UnaryOp .USub x pos) ρ σ Q := by
  intro d m env w A B s Qc E S k
  refine UnaryOp_ (h d m env w A B s _ E S fun v σ₁ y w₁ h₁ tk₁ q₁ le₁ S₁ r₁ => ?_)
  obtain ⟨i, rfl, q⟩ := q₁
  simp only [RepV] at r₁
  obtain ⟨t, rfl⟩ := r₁
  exact PyProof.Rows.neg_int (k _ σ₁ _ w₁ h₁ _ q le₁ S₁ (by simp only [RepV]; exact ⟨_, rfl⟩))
/-- an expression for its effect -/
theorem Ex1.drop {e : Expr} {pos} {Q : AF → Loc → H → Prop} (hs : ScOk sc) (h : Ev c n sc e ρ σ fun _ σ' => Q .next ρ σ')
    (hi : ∀ cn L a cd cl, interactive (envX cn sc L a cd cl) = false := by intros; rfl) (hw : ∀ env, swapsWith e none pos.line env = pure false := by intros; rfl) : Ex1 c n sc (.Expr e pos) ρ σ Q := by
  intro d m env w a b l s Qc E S k
  refine wpAny_Expr_any (h d m env w a (l.bind hs b) s _ E S fun v σ' x w' h' tk q le S' r => ?_) (by obtain ⟨⟨cn, a, cd, cl, rfl⟩, _⟩ := b; exact hi ..) (hw env)
  exact k .next ρ σ' .next m w' h' tk q le S' (l.mono le) rfl
/-- a <= b <= c of ints, as a test -/
theorem Tr.chainLe {l r₁ r₂ : Expr} {pos} {Q : Bool → H → Prop} (h : Ev c n sc l ρ σ fun a σ₁ => Ev c n sc r₁ ρ σ₁ fun b σ₂ => ∃ x y, a = .int x ∧ b = .int y ∧
      if x ≤ y then Ev c n sc r₂ ρ σ₂ fun e σ₃ => ∃ z, e = .int z ∧ Q (decide (y ≤ z)) σ₃ else Q false σ₂)
    (hm : lastMarks [.LtE, .LtE] [r₁, r₂] = false := by with_unfolding_all rfl) : Tr c n sc (.Compare l [.LtE, .LtE] [r₁, r₂] pos) ρ σ Q := by
  intro d m env w A B s Qc E S k
  refine isTrue_chain (h d m env w A B s _ E S fun a σ₁ x w₁ h₁ tk₁ q₁ le₁ S₁ r₁' => ?_) hm
  show wpAny _ _ (do
    let rv ← holding [x] (eval r₁ env)
    standAt pos
    let cc ← holding [x, rv] (compareOp .LtE x rv)
    release [x, rv] [cc]
    if ← holding [cc, rv] (truthy cc) then testChain pos rv [.LtE] [eval r₂ env] else pure false) _ _ _
  refine wpAny_bind (wpAny_holding (q₁ d m env w₁ A (B.mono le₁) _ _ E S₁ fun b σ₂ y w₂ h₂ tk₂ q₂ le₂ S₂ r₂' => ?_))
  obtain ⟨i, j, rfl, rfl, q₂⟩ := q₂
  have r₂'' := r₂'
  simp only [RepV] at r₁' r₂'
  obtain ⟨t, rfl⟩ := r₁'; obtain ⟨u, rfl⟩ := r₂'
  refine wpAny_bind (wpAny_standAt (wpAny_bind (wpAny_holding (PyProof.Rows.le_int ?_))))
  refine wpAny_bind (wpAny_release (wpAny_bind (wpAny_holding (wpAny_truthy_bool ?_))))
  by_cases hij : i ≤ j
  · simp only [hij, decide_true, if_true] at q₂ ⊢
    show wpAny _ _ (do
      let rv ← holding [Value.int j u] (eval r₂ env)
      standAt pos
      let cc ← operate [Value.int j u, rv] (compareOp .LtE (.int j u) rv)
      holding [cc] (truthy cc)) _ _ _
    refine wpAny_bind (wpAny_holding (q₂ d m env w₂ A (B.mono (le₁.trans le₂)) _ _ E S₂ fun b σ₃ z w₃ h₃ tk₃ q₃ le₃ S₃ r₃ => ?_))
    obtain ⟨e, rfl, q₃⟩ := q₃
    simp only [RepV] at r₃
    obtain ⟨v, rfl⟩ := r₃
    refine wpAny_bind (wpAny_standAt (wpAny_bind (wpAny_operating (PyProof.Rows.le_int ?_))))
    exact wpAny_holding (wpAny_truthy_bool (k _ σ₃ _ w₃ h₃ tk₃ q₃ ((le₁.trans le₂).trans le₃) S₃ rfl))
  · simp only [hij, decide_false, Bool.false_eq_true, if_false] at q₂ ⊢
    exact wpAny_pure (k false σ₂ false w₂ h₂ tk₂ q₂ (le₁.trans le₂) S₂ rfl)
/-- script[::-1] -/
theorem Ev.rev {value e : Expr} {p pos : Pos} {Q : V → H → Prop}
    (h : Ev c n sc value ρ σ fun a σ₁ => Ev c n sc e ρ σ₁ fun b σ₂ => ∃ i l, a = .ref i ∧ b = .int (-1) ∧ σ₂ i = some (.list l) ∧ l.length ≤ sizeLine ∧ ∀ j, σ₂ j = none → Q (.ref j) (σ₂.set j (.list l.reverse)))
    (hs : ∀ o x, subscripted (.Slice none none (some e) p) false o x = operate [o, x] (getItem o x) := by intro _ _; rfl) (ht : ∀ o r, letTemporaryGo value o r = pure () := by intro _ _; rfl) : Ev c n sc (.Subscript value (.Slice none none (some e) p) pos) ρ σ Q := by
  intro d m env w A B s Qc E S kk
  refine Subscript_ (h d m env w A B s _ E S fun a σ₁ x w₁ h₁ tk₁ q₁ le₁ S₁ r₁ => ?_)
  refine wpAny_Slice ?_
  rw [evalPart_none, evalPart_some]
  refine wpAny_pure (wpAny_pure ?_)
  refine q₁ d m env w₁ A (B.mono le₁) _ _ E S₁ fun b σ₂ y w₂ h₂ tk₂ q₂ le₂ S₂ r₂ => ?_
  obtain ⟨i, l, rfl, rfl, hl, hz, hq⟩ := q₂
  obtain ⟨a, vs, p, rfl, e1, e2, e3, e4, e5⟩ := S₂.isList hl (RepV.mono le₂ _ _ r₁)
  simp only [RepV] at r₂
  obtain ⟨u, rfl⟩ := r₂
  have hlen := e5.length
  refine krv_lit (s := { s with heap := h₂, toks := tk₂ }) S₂.F S₂.N e4 (.int (-1) u) rfl (fun D h' F' N' hlt => ?_) (hs _ _) (ht _) (by simp; omega)
  obtain ⟨i', hi, hσ⟩ := S₂.free
  obtain ⟨le, S'⟩ := S₂.newListO (n := 0) (vs := vs.reverse) F' (by simpa using N') (fun q hq => Nat.ne_of_lt (hlt q hq)) e5.reverse hi
  exact kk (.ref i') _ _ _ _ tk₂ (hq i' hσ) ((le₁.trans le₂).trans le) S' (by simp only [RepV]; exact ⟨_, if_pos rfl, rfl⟩)
end

/-- instructions: tuples of ints -/
noncomputable def insV (l : List Int) : V := .tup (l.map V.int)
section
variable {c : Cx} {n : Nat} {σ : H} {d : Dyn} {m : Str → Option Value} {w : Wd} {h : Heap}
theorem reads_ints : ∀ {l : List Int} {vs : List Value}, RepVs c w (l.map V.int) vs → ReadsAll h vs (kqdPs (l.map W.Dat.int)) []
  | [], _, r => by simp only [List.map_nil, RepVs] at r; subst r; exact .nil
  | i :: l, _, r => by
    simp only [List.map_cons, RepVs, RepV] at r
    obtain ⟨v, r', rfl, ⟨t, rfl⟩, r2⟩ := r
    exact ReadsAll.cons (as := []) (bs := []) (Reads.int i t) (reads_ints r2)
theorem reads_ins (S : St c d m σ w h) (A : Act c n d) : ∀ {l : List (List Int)} {vs : List Value}, RepVs c w (l.map insV) vs → ReadsAll h vs (kqdPs (l.map fun x => W.Dat.tuple (x.map W.Dat.int))) []
  | [], _, r => by simp only [List.map_nil, RepVs] at r; subst r; exact .nil
  | x :: l, _, r => by
    simp only [List.map_cons, RepVs] at r
    obtain ⟨v, r', rfl, r1, r2⟩ := r
    obtain ⟨a, us, k, rfl, e3, e4, e5⟩ := S.isTup A r1
    exact ReadsAll.cons (as := []) (bs := []) (Reads.tuple e3 rfl rfl (by simpa using reads_ints e5)) (reads_ins S A r2)
theorem kqdOk_ins (x : List Int) : kqdOk 8 (W.Dat.tuple (x.map W.Dat.int)) = true := by
  simp [kqdOk]
theorem ins_inj : ∀ {a b : List (List Int)}, (a.map fun x => W.Dat.tuple (x.map W.Dat.int)) = (b.map fun x => W.Dat.tuple (x.map W.Dat.int)) → a = b := by
  intro a b e
  refine (List.map_inj_right fun x y e => ?_).mp e
  injection e with e
  refine (List.map_inj_right fun x y e => ?_).mp e
  injection e
open Classical in
theorem Op2.eqIns {i j : Nat} {a b : List (List Int)} {Q : V → H → Prop} (e : σ i = some (.list (a.map insV))) (e' : σ j = some (.list (b.map insV))) (q : Q (.bool (decide (a = b))) σ) : Op2 c n (compareOp .Eq) (.ref i) (.ref j) σ Q := by
  intro d m w x y A r1 r2 s Qc E S kk
  obtain ⟨p, vs, k, rfl, _, _, e3, e2, e5⟩ := S.isList e r1
  obtain ⟨p', us, k', rfl, _, _, f3, f2, f5⟩ := S.isList e' r2
  have ha : ∀ d ∈ a.map (fun x => W.Dat.tuple (x.map W.Dat.int)), kqdOk 8 d = true := fun d hd => by obtain ⟨x, _, rfl⟩ := List.mem_map.mp hd; exact kqdOk_ins x
  have hb : ∀ d ∈ b.map (fun x => W.Dat.tuple (x.map W.Dat.int)), kqdOk 8 d = true := fun d hd => by obtain ⟨x, _, rfl⟩ := List.mem_map.mp hd; exact kqdOk_ins x
  have la := kqd_lay 9 (.list (a.map fun x => W.Dat.tuple (x.map W.Dat.int))) (by simpa [kqdOk] using ha)
  have lb := kqd_lay 9 (.list (b.map fun x => W.Dat.tuple (x.map W.Dat.int))) (by simpa [kqdOk] using hb)
  rw [kqdP] at la lb
  have ee : PyData.eqv (.list (kqdPs (a.map fun x => W.Dat.tuple (x.map W.Dat.int)))) (.list (kqdPs (b.map fun x => W.Dat.tuple (x.map W.Dat.int)))) = decide (a = b) := by
    have q := kqd_eqv 9 (.list (a.map fun x => W.Dat.tuple (x.map W.Dat.int))) (.list (b.map fun x => W.Dat.tuple (x.map W.Dat.int))) 9 (by simpa [kqdOk] using ha) (by simpa [kqdOk] using hb)
    rw [kqdP, kqdP, W.Dat.list.injEq] at q
    by_cases hq : a = b
    · rw [decide_eq_true hq]; exact q.mpr (by rw [hq])
    · rw [decide_eq_false hq]; exact Bool.eq_false_iff.mpr fun x => hq (ins_inj (q.mp x))
  refine eq_dataH (reads_list_at (as := []) e3 rfl rfl (by simpa using reads_ins S A e5)) (reads_list_at (as := []) f3 rfl rfl (by simpa using reads_ins S A f5)) ?_ ?_ A.units ?_
  · unfold SeqAt.shaped; rw [la.1, Bool.true_and]; exact decide_eq_true (Nat.le_trans la.2 (by decide))
  · unfold SeqAt.shaped; rw [lb.1, Bool.true_and]; exact decide_eq_true (Nat.le_trans lb.2 (by decide))
  · rw [ee]; exact kk _ σ _ w s.heap s.toks q (.refl w) S (by simp only [RepV])
end
end Mine

namespace Mine
open PySem PySem.W PyProof.Rows PySem.Calls PySem.Spec

noncomputable def Sub (σ σ' : H) : Prop := ∀ i o, σ i = some o → σ' i = some o
theorem Sub.refl (σ : H) : Sub σ σ := fun _ _ e => e
theorem Sub.trans {a b d : H} (x : Sub a b) (y : Sub b d) : Sub a d := fun i o e => y i o (x i o e)
theorem H.self {σ : H} {i : Nat} {o : O} : σ.set i o i = some o := if_pos rfl
theorem H.ne {σ : H} {i j : Nat} {o : O} (h : i ≠ j) : σ.set j o i = σ i := if_neg h
theorem ne_of {σ : H} {i j : Nat} {o : O} (hj : σ j = none) (hi : σ i = some o) : i ≠ j := fun e => by rw [e, hj] at hi; cases hi
theorem Sub.fresh {σ : H} {j : Nat} {o : O} (hj : σ j = none) : Sub σ (σ.set j o) := fun i o' e => (H.ne (ne_of hj e)).trans e
theorem Sub.set {σ σ' : H} {i : Nat} {o : O} (h : Sub σ σ') : Sub (σ.set i o) (σ'.set i o) := fun j o' e => by
  by_cases hj : j = i
  · subst hj; rw [H.self] at e ⊢; exact e
  · rw [H.ne hj] at e ⊢; exact h j o' e
theorem H.get {σ : H} {i j : Nat} {o o' : O} (hj : σ j = none) (hi : σ i = some o) : σ.set j o' i = some o := (H.ne (ne_of hj hi)).trans hi
theorem H.same {σ : H} {i : Nat} {o : O} (h : σ i = some o) : σ.set i o = σ := funext fun j => by
  by_cases hj : j = i
  · subst hj; rw [H.self, h]
  · rw [H.ne hj]
theorem H.set_set {σ : H} {i : Nat} {o o' : O} : (σ.set i o).set i o' = σ.set i o' := funext fun j => by
  by_cases hj : j = i
  · subst hj; rw [H.self, H.self]
  · rw [H.ne hj, H.ne hj, H.ne hj]
theorem H.comm {σ : H} {i j : Nat} {o o' : O} (h : i ≠ j) : (σ.set i o).set j o' = (σ.set j o').set i o := funext fun k => by
  by_cases hi : k = i
  · subst hi; rw [H.ne h, H.self, H.self]
  · by_cases hj : k = j
    · subst hj; rw [H.self, H.ne hi, H.self]
    · rw [H.ne hj, H.ne hi, H.ne hi, H.ne hj]
/-- some letters dropped -/
noncomputable def Dn {β : Type} (Q : β → H → Prop) (b : β) (σ : H) : Prop := ∃ σ', Sub σ' σ ∧ Q b σ'
theorem Dn.here {β : Type} {Q : β → H → Prop} {b : β} {σ : H} (q : Q b σ) : Dn Q b σ := ⟨σ, .refl _, q⟩

section
variable {c : Cx} {n : Nat} {sc : Scope} {ρ : Loc} {σ : H}
theorem Ev.weak {e : Expr} {σ' : H} {Q : V → H → Prop} (h : Ev c n sc e ρ σ' Q) (hσ : Sub σ' σ) : Ev c n sc e ρ σ Q :=
  fun d m env w a b s Qc E S k => h d m env w a b s Qc E (S.drop hσ) k
theorem Tr.weak {e : Expr} {σ' : H} {Q : Bool → H → Prop} (h : Tr c n sc e ρ σ' Q) (hσ : Sub σ' σ) : Tr c n sc e ρ σ Q :=
  fun d m env w a b s Qc E S k => h d m env w a b s Qc E (S.drop hσ) k
theorem Ev.dn {e : Expr} {Q : V → H → Prop} (h : Ev c n sc e ρ σ (Dn Q)) : Ev c n sc e ρ σ Q :=
  fun d m env w a b s Qc E S k => h d m env w a b s Qc E S fun v σ' x w' h' tk ⟨σ'', hs, q⟩ le S' r => k v σ'' x w' h' tk q le (S'.drop hs) r
theorem CallR.dn {f : Value} {vs : List V} {Q : V → H → Prop} (h : CallR c n f vs σ (Dn Q)) : CallR c n f vs σ Q :=
  fun d m w xs a r s Qc E S k => h d m w xs a r s Qc E S fun v σ' x w' h' tk ⟨σ'', hs, q⟩ le S' r => k v σ'' x w' h' tk q le (S'.drop hs) r
theorem CodeR.dn {f : Value} {vs : List V} {Q : V → H → Prop} (h : CodeR c n f vs σ (Dn Q)) : CodeR c n f vs σ Q :=
  fun d m w xs a r s R S k => h d m w xs a r s R S fun v σ' x w' h' tk ⟨σ'', hs, q⟩ le S' r => k v σ'' x w' h' tk q le (S'.drop hs) r
theorem Ex.dn {st : List Stmt} {Q : AF → Loc → H → Prop} (h : Ex c n sc st ρ σ fun f ρ' σ' => ∃ σ'', Sub σ'' σ' ∧ Q f ρ' σ'') : Ex c n sc st ρ σ Q :=
  fun d m env w a b l s Qc E S k => h d m env w a b l s Qc E S fun f ρ' σ' fc m' w' h' tk ⟨σ'', hs, q⟩ le S' l' rf => k f ρ' σ'' fc m' w' h' tk q le (S'.drop hs) l' rf
/-- a def entered; at its end letters may be dropped -/
theorem CodeR.def {f : Value} {ps : List Str} {body : List Stmt} {vs : List V} {Q : V → H → Prop} (D : DefAt c f ps body sc) (hl : vs.length = ps.length)
    (h : Ex c n sc body (ps.zip vs) σ fun fl _ σ' => match fl with | .ret v => Dn Q v σ' | .next => Dn Q .none σ' | _ => False) : CodeR c (n + 1) f vs σ Q :=
  CodeR.dn (CodeR.enter D hl h)
/-- a comprehension without free names -/
theorem Ev.comp {scope : Scope} {x : Str} {px pos : Pos} {iter elt : Expr} {ifs : List Expr} {Q : V → H → Prop}
    (hso : ScOk scope) (hnf : (scope.names.all fun y => y.2 != .cell && y.2 != .free) = true) (hnames : (scope.names.all fun y => y.2 != .local || scope.names.lookup y.1 == some .local) = true)
    (hx : scope.names.lookup x = some .local)
    (h : IterE c n sc iter ρ σ fun I σ₁ => ∃ f, LoopC c n scope x [] ifs elt I (fun acc σ₂ => ∀ i, σ₂ i = none → Q (.ref i) (σ₂.set i (.list acc))) f 0 [] σ₁)
    (hs : ∀ env y, foldedSetIterable iter env y = pure y := by intros; rfl) : Ev c n sc (.ListComp elt [⟨.Name x px, iter, ifs, 0⟩] scope pos) ρ σ Q := by
  intro d m env w a b
  refine comp_core (cl := []) (ρf := []) a b (closureFor_none fun y hy => ?_) hso (fun y hy => ?_) (fun y hy hl => ?_) hx (hs env) (fun y u e => nomatch e) h
  · have := List.all_eq_true.mp hnf y hy; simp at this; exact this.2
  · have := List.all_eq_true.mp hnf y hy; simp at this; exact this.1
  · have := List.all_eq_true.mp hnames y hy; simp [hl] at this; exact this
end
end Mine

namespace Mine
open PySem PySem.W PyProof.Rows PySem.Calls PySem.Spec
noncomputable section

structure Ok (c : Cx) : Prop where
  K : c.K = Hd.heap c.w.params
  prog : c.prog = PySem.Challenge.pw_nm0148_01

theorem all0 {P : List Value → Prop} (h : P []) : ∀ xs, xs.length = 0 → P xs
  | [], _ => h
theorem allS {n : Nat} {P : List Value → Prop} (h : ∀ a xs, xs.length = n → P (a :: xs)) : ∀ xs, xs.length = n + 1 → P xs
  | a :: xs, e => h a xs (Nat.succ.inj e)
/-- the defs of the text -/
noncomputable def defOk (ps : List Str) (s : Scope) : Bool := (ps.all fun x => s.names.lookup x == some .local) && decide ps.Nodup && (s.kind == .function) && !s.isGenerator && !s.isCoroutine && (s.names.all fun x => x.2 != .cell)
theorem defAt_of {c : Cx} (k : Ok c) (a : Addr) {n q : Str} {s : Stmt} {df mod cdv : Value} {ps : List Str} (h1 : (Hd.heap c.w.params).lookup a = some (Hd.fn n q s df mod cdv)) (h2 : codeIn (Hd.heap c.w.params) cdv q = true)
    (h3 : ∀ xs : List Value, xs.length = ps.length → bindArgs (fnOf n q (stParams s) (stBody s) (stScope s) df .none .none mod none cdv .none) ⟨xs, []⟩ = pure (ps.zip xs))
    (h4 : defOk ps (stScope s) = true) (h5 : ScOk (stScope s)) : DefAt c (.ref a) ps (stBody s) (stScope s) := by
  unfold defOk at h4
  simp only [Bool.and_eq_true, Bool.not_eq_true', decide_eq_true_eq] at h4
  obtain ⟨⟨⟨⟨⟨a1, a2⟩, _⟩, a4⟩, a5⟩, a6⟩ := h4
  exact ⟨⟨a, n, q, stParams s, df, .none, .none, mod, cdv, .none, _, none, _, _, rfl, by rw [k.K]; exact h1, by rw [k.K]; exact h2, h3⟩, a1, a2, h5, a4, a5, a6⟩

noncomputable def b_number_kind : List Stmt := stBody (topS 53)
noncomputable def s_number_kind : Scope := stScope (topS 53)
theorem d_number_kind {c : Cx} (k : Ok c) : DefAt c (.ref 129) [Str.ofString "code"] b_number_kind s_number_kind :=
  defAt_of k 129 rfl (by kernel_rfl) (allS fun _ => all0 (by kernel_rfl)) (by kernel_rfl) ⟨rfl, rfl⟩
noncomputable def b_stack_of : List Stmt := stBody (topS 54)
noncomputable def s_stack_of : Scope := stScope (topS 54)
theorem d_stack_of {c : Cx} (k : Ok c) : DefAt c (.ref 136) [Str.ofString "code"] b_stack_of s_stack_of :=
  defAt_of k 136 rfl (by kernel_rfl) (allS fun _ => all0 (by kernel_rfl)) (by kernel_rfl) ⟨rfl, rfl⟩
noncomputable def b_pieces_of : List Stmt := stBody (topS 59)
noncomputable def s_pieces_of : Scope := stScope (topS 59)
theorem d_pieces_of {c : Cx} (k : Ok c) : DefAt c (.ref 202) [Str.ofString "body"] b_pieces_of s_pieces_of :=
  defAt_of k 202 rfl (by kernel_rfl) (allS fun _ => all0 (by kernel_rfl)) (by kernel_rfl) ⟨rfl, rfl⟩
noncomputable def b_put_pieces : List Stmt := stBody (topS 60)
noncomputable def s_put_pieces : Scope := stScope (topS 60)
theorem d_put_pieces {c : Cx} (k : Ok c) : DefAt c (.ref 209) [Str.ofString "pieces", Str.ofString "body"] b_put_pieces s_put_pieces :=
  defAt_of k 209 rfl (by kernel_rfl) (allS fun _ => allS fun _ => all0 (by kernel_rfl)) (by kernel_rfl) ⟨rfl, rfl⟩
noncomputable def b_body_of : List Stmt := stBody (topS 61)
noncomputable def s_body_of : Scope := stScope (topS 61)
theorem d_body_of {c : Cx} (k : Ok c) : DefAt c (.ref 216) [Str.ofString "pieces"] b_body_of s_body_of :=
  defAt_of k 216 rfl (by kernel_rfl) (allS fun _ => all0 (by kernel_rfl)) (by kernel_rfl) ⟨rfl, rfl⟩
noncomputable def b_law_next : List Stmt := stBody (topS 71)
noncomputable def s_law_next : Scope := stScope (topS 71)
theorem d_law_next {c : Cx} (k : Ok c) : DefAt c (.ref 495) [Str.ofString "tape"] b_law_next s_law_next :=
  defAt_of k 495 rfl (by kernel_rfl) (allS fun _ => all0 (by kernel_rfl)) (by kernel_rfl) ⟨rfl, rfl⟩
noncomputable def b_law_deeds : List Stmt := stBody (topS 72)
noncomputable def s_law_deeds : Scope := stScope (topS 72)
theorem d_law_deeds {c : Cx} (k : Ok c) : DefAt c (.ref 502) [] b_law_deeds s_law_deeds :=
  defAt_of k 502 rfl (by kernel_rfl) (all0 (by kernel_rfl)) (by kernel_rfl) ⟨rfl, rfl⟩
noncomputable def b_law_both : List Stmt := stBody (topS 73)
noncomputable def s_law_both : Scope := stScope (topS 73)
theorem d_law_both {c : Cx} (k : Ok c) : DefAt c (.ref 509) [Str.ofString "near", Str.ofString "far", Str.ofString "some"] b_law_both s_law_both :=
  defAt_of k 509 rfl (by kernel_rfl) (allS fun _ => allS fun _ => allS fun _ => all0 (by kernel_rfl)) (by kernel_rfl) ⟨rfl, rfl⟩
noncomputable def b_law_high : List Stmt := stBody (topS 74)
noncomputable def s_law_high : Scope := stScope (topS 74)
theorem d_law_high {c : Cx} (k : Ok c) : DefAt c (.ref 516) [Str.ofString "near", Str.ofString "far", Str.ofString "high", Str.ofString "wanted"] b_law_high s_law_high :=
  defAt_of k 516 rfl (by kernel_rfl) (allS fun _ => allS fun _ => allS fun _ => allS fun _ => all0 (by kernel_rfl)) (by kernel_rfl) ⟨rfl, rfl⟩
noncomputable def b_law_plain : List Stmt := stBody (topS 75)
noncomputable def s_law_plain : Scope := stScope (topS 75)
theorem d_law_plain {c : Cx} (k : Ok c) : DefAt c (.ref 523) [Str.ofString "tape", Str.ofString "near", Str.ofString "far", Str.ofString "high"] b_law_plain s_law_plain :=
  defAt_of k 523 rfl (by kernel_rfl) (allS fun _ => allS fun _ => allS fun _ => allS fun _ => all0 (by kernel_rfl)) (by kernel_rfl) ⟨rfl, rfl⟩
noncomputable def b_law_block : List Stmt := stBody (topS 76)
noncomputable def s_law_block : Scope := stScope (topS 76)
theorem d_law_block {c : Cx} (k : Ok c) : DefAt c (.ref 528) [Str.ofString "tape", Str.ofString "near", Str.ofString "far", Str.ofString "takes", Str.ofString "puts", Str.ofString "tails", Str.ofString "labels", Str.ofString "depth"] b_law_block s_law_block :=
  defAt_of k 528 rfl (by kernel_rfl) (allS fun _ => allS fun _ => allS fun _ => allS fun _ => allS fun _ => allS fun _ => allS fun _ => allS fun _ => all0 (by kernel_rfl)) (by kernel_rfl) ⟨rfl, rfl⟩
noncomputable def b_law_end : List Stmt := stBody (topS 77)
noncomputable def s_law_end : Scope := stScope (topS 77)
theorem d_law_end {c : Cx} (k : Ok c) : DefAt c (.ref 535) [Str.ofString "tape", Str.ofString "near", Str.ofString "far", Str.ofString "high", Str.ofString "results", Str.ofString "tails", Str.ofString "labels"] b_law_end s_law_end :=
  defAt_of k 535 rfl (by kernel_rfl) (allS fun _ => allS fun _ => allS fun _ => allS fun _ => allS fun _ => allS fun _ => allS fun _ => all0 (by kernel_rfl)) (by kernel_rfl) ⟨rfl, rfl⟩
noncomputable def b_law_list : List Stmt := stBody (topS 78)
noncomputable def s_law_list : Scope := stScope (topS 78)
theorem d_law_list {c : Cx} (k : Ok c) : DefAt c (.ref 542) [Str.ofString "tape", Str.ofString "near", Str.ofString "far", Str.ofString "high", Str.ofString "results", Str.ofString "tails", Str.ofString "labels", Str.ofString "depth"] b_law_list s_law_list :=
  defAt_of k 542 rfl (by kernel_rfl) (allS fun _ => allS fun _ => allS fun _ => allS fun _ => allS fun _ => allS fun _ => allS fun _ => allS fun _ => all0 (by kernel_rfl)) (by kernel_rfl) ⟨rfl, rfl⟩
noncomputable def b_code : List Stmt := stBody (metS 58 1)
noncomputable def s_code : Scope := stScope (metS 58 1)
theorem d_code {c : Cx} (k : Ok c) : DefAt c (.ref 175) [Str.ofString "self"] b_code s_code :=
  defAt_of k 175 rfl (by kernel_rfl) (allS fun _ => all0 (by kernel_rfl)) (by kernel_rfl) ⟨rfl, rfl⟩
noncomputable def b_parts : List Stmt := stBody (metS 58 2)
noncomputable def s_parts : Scope := stScope (metS 58 2)
theorem d_parts {c : Cx} (k : Ok c) : DefAt c (.ref 181) [Str.ofString "self"] b_parts s_parts :=
  defAt_of k 181 rfl (by kernel_rfl) (allS fun _ => all0 (by kernel_rfl)) (by kernel_rfl) ⟨rfl, rfl⟩
noncomputable def b_ar_init : List Stmt := stBody (metS 62 0)
noncomputable def s_ar_init : Scope := stScope (metS 62 0)
theorem d_ar_init {c : Cx} (k : Ok c) : DefAt c (.ref 230) [Str.ofString "self", Str.ofString "module"] b_ar_init s_ar_init :=
  defAt_of k 230 rfl (by kernel_rfl) (allS fun _ => allS fun _ => all0 (by kernel_rfl)) (by kernel_rfl) ⟨rfl, rfl⟩
noncomputable def b_of_kind : List Stmt := stBody (metS 62 1)
noncomputable def s_of_kind : Scope := stScope (metS 62 1)
theorem d_of_kind {c : Cx} (k : Ok c) : DefAt c (.ref 237) [Str.ofString "self", Str.ofString "index"] b_of_kind s_of_kind :=
  defAt_of k 237 rfl (by kernel_rfl) (allS fun _ => allS fun _ => all0 (by kernel_rfl)) (by kernel_rfl) ⟨rfl, rfl⟩
noncomputable def b_of_block : List Stmt := stBody (metS 62 2)
noncomputable def s_of_block : Scope := stScope (metS 62 2)
theorem d_of_block {c : Cx} (k : Ok c) : DefAt c (.ref 244) [Str.ofString "self", Str.ofString "about"] b_of_block s_of_block :=
  defAt_of k 244 rfl (by kernel_rfl) (allS fun _ => allS fun _ => all0 (by kernel_rfl)) (by kernel_rfl) ⟨rfl, rfl⟩
noncomputable def b_of : List Stmt := stBody (metS 62 3)
noncomputable def s_of : Scope := stScope (metS 62 3)
theorem d_of {c : Cx} (k : Ok c) : DefAt c (.ref 251) [Str.ofString "self", Str.ofString "plain"] b_of s_of :=
  defAt_of k 251 rfl (by kernel_rfl) (allS fun _ => allS fun _ => all0 (by kernel_rfl)) (by kernel_rfl) ⟨rfl, rfl⟩
noncomputable def b_behind : List Stmt := stBody (metS 62 4)
noncomputable def s_behind : Scope := stScope (metS 62 4)
theorem d_behind {c : Cx} (k : Ok c) : DefAt c (.ref 258) [Str.ofString "self", Str.ofString "piece", Str.ofString "height"] b_behind s_behind :=
  defAt_of k 258 rfl (by kernel_rfl) (allS fun _ => allS fun _ => allS fun _ => all0 (by kernel_rfl)) (by kernel_rfl) ⟨rfl, rfl⟩
noncomputable def b_behind_all : List Stmt := stBody (metS 62 5)
noncomputable def s_behind_all : Scope := stScope (metS 62 5)
theorem d_behind_all {c : Cx} (k : Ok c) : DefAt c (.ref 265) [Str.ofString "self", Str.ofString "pieces", Str.ofString "height"] b_behind_all s_behind_all :=
  defAt_of k 265 rfl (by kernel_rfl) (allS fun _ => allS fun _ => allS fun _ => all0 (by kernel_rfl)) (by kernel_rfl) ⟨rfl, rfl⟩
noncomputable def b_ends_init : List Stmt := stBody (metS 64 0)
noncomputable def s_ends_init : Scope := stScope (metS 64 0)
theorem d_ends_init {c : Cx} (k : Ok c) : DefAt c (.ref 286) [Str.ofString "self", Str.ofString "arities"] b_ends_init s_ends_init :=
  defAt_of k 286 rfl (by kernel_rfl) (allS fun _ => allS fun _ => all0 (by kernel_rfl)) (by kernel_rfl) ⟨rfl, rfl⟩
noncomputable def b_cut : List Stmt := stBody (metS 64 1)
noncomputable def s_cut : Scope := stScope (metS 64 1)
theorem d_cut {c : Cx} (k : Ok c) : DefAt c (.ref 293) [Str.ofString "self", Str.ofString "pieces", Str.ofString "height", Str.ofString "results", Str.ofString "tails", Str.ofString "depth"] b_cut s_cut :=
  defAt_of k 293 rfl (by kernel_rfl) (allS fun _ => allS fun _ => allS fun _ => allS fun _ => allS fun _ => allS fun _ => all0 (by kernel_rfl)) (by kernel_rfl) ⟨rfl, rfl⟩
noncomputable def b_cut_within : List Stmt := stBody (metS 64 2)
noncomputable def s_cut_within : Scope := stScope (metS 64 2)
theorem d_cut_within {c : Cx} (k : Ok c) : DefAt c (.ref 298) [Str.ofString "self", Str.ofString "piece", Str.ofString "height", Str.ofString "results", Str.ofString "tails", Str.ofString "depth"] b_cut_within s_cut_within :=
  defAt_of k 298 rfl (by kernel_rfl) (allS fun _ => allS fun _ => allS fun _ => allS fun _ => allS fun _ => allS fun _ => all0 (by kernel_rfl)) (by kernel_rfl) ⟨rfl, rfl⟩
noncomputable def b_cut_last : List Stmt := stBody (metS 64 3)
noncomputable def s_cut_last : Scope := stScope (metS 64 3)
theorem d_cut_last {c : Cx} (k : Ok c) : DefAt c (.ref 305) [Str.ofString "self", Str.ofString "pieces", Str.ofString "height", Str.ofString "results", Str.ofString "tails", Str.ofString "depth"] b_cut_last s_cut_last :=
  defAt_of k 305 rfl (by kernel_rfl) (allS fun _ => allS fun _ => allS fun _ => allS fun _ => allS fun _ => allS fun _ => all0 (by kernel_rfl)) (by kernel_rfl) ⟨rfl, rfl⟩
noncomputable def b_imp_init : List Stmt := stBody (metS 66 0)
noncomputable def s_imp_init : Scope := stScope (metS 66 0)
theorem d_imp_init {c : Cx} (k : Ok c) : DefAt c (.ref 326) [Str.ofString "self", Str.ofString "place", Str.ofString "name", Str.ofString "sort", Str.ofString "about"] b_imp_init s_imp_init :=
  defAt_of k 326 rfl (by kernel_rfl) (allS fun _ => allS fun _ => allS fun _ => allS fun _ => allS fun _ => all0 (by kernel_rfl)) (by kernel_rfl) ⟨rfl, rfl⟩
noncomputable def b_func_init : List Stmt := stBody (metS 67 0)
noncomputable def s_func_init : Scope := stScope (metS 67 0)
theorem d_func_init {c : Cx} (k : Ok c) : DefAt c (.ref 354) [Str.ofString "self", Str.ofString "kind", Str.ofString "locals_now", Str.ofString "body"] b_func_init s_func_init :=
  defAt_of k 354 rfl (by kernel_rfl) (allS fun _ => allS fun _ => allS fun _ => allS fun _ => all0 (by kernel_rfl)) (by kernel_rfl) ⟨rfl, rfl⟩
noncomputable def b_mod_init : List Stmt := stBody (metS 68 0)
noncomputable def s_mod_init : Scope := stScope (metS 68 0)
theorem d_mod_init {c : Cx} (k : Ok c) : DefAt c (.ref 382) [Str.ofString "self"] b_mod_init s_mod_init :=
  defAt_of k 382 rfl (by kernel_rfl) (allS fun _ => all0 (by kernel_rfl)) (by kernel_rfl) ⟨rfl, rfl⟩
noncomputable def b_func_kinds : List Stmt := stBody (metS 68 3)
noncomputable def s_func_kinds : Scope := stScope (metS 68 3)
theorem d_func_kinds {c : Cx} (k : Ok c) : DefAt c (.ref 399) [Str.ofString "self"] b_func_kinds s_func_kinds :=
  defAt_of k 399 rfl (by kernel_rfl) (allS fun _ => all0 (by kernel_rfl)) (by kernel_rfl) ⟨rfl, rfl⟩
theorem m_parts {c : Cx} (k : Ok c) : MethOk c.K 191 (Str.ofString "parts") 181 := by
  rw [k.K]; exact ⟨by kernel_rfl, by kernel_rfl, by kernel_rfl, by kernel_rfl⟩
theorem m_of_kind {c : Cx} (k : Ok c) : MethOk c.K 268 (Str.ofString "of_kind") 237 := by
  rw [k.K]; exact ⟨by kernel_rfl, by kernel_rfl, by kernel_rfl, by kernel_rfl⟩
theorem m_of_block {c : Cx} (k : Ok c) : MethOk c.K 268 (Str.ofString "of_block") 244 := by
  rw [k.K]; exact ⟨by kernel_rfl, by kernel_rfl, by kernel_rfl, by kernel_rfl⟩
theorem m_of {c : Cx} (k : Ok c) : MethOk c.K 268 (Str.ofString "of") 251 := by
  rw [k.K]; exact ⟨by kernel_rfl, by kernel_rfl, by kernel_rfl, by kernel_rfl⟩
theorem m_behind {c : Cx} (k : Ok c) : MethOk c.K 268 (Str.ofString "behind") 258 := by
  rw [k.K]; exact ⟨by kernel_rfl, by kernel_rfl, by kernel_rfl, by kernel_rfl⟩
theorem m_behind_all {c : Cx} (k : Ok c) : MethOk c.K 268 (Str.ofString "behind_all") 265 := by
  rw [k.K]; exact ⟨by kernel_rfl, by kernel_rfl, by kernel_rfl, by kernel_rfl⟩
theorem m_cut {c : Cx} (k : Ok c) : MethOk c.K 308 (Str.ofString "cut") 293 := by
  rw [k.K]; exact ⟨by kernel_rfl, by kernel_rfl, by kernel_rfl, by kernel_rfl⟩
theorem m_cut_within {c : Cx} (k : Ok c) : MethOk c.K 308 (Str.ofString "cut_within") 298 := by
  rw [k.K]; exact ⟨by kernel_rfl, by kernel_rfl, by kernel_rfl, by kernel_rfl⟩
theorem m_cut_last {c : Cx} (k : Ok c) : MethOk c.K 308 (Str.ofString "cut_last") 305 := by
  rw [k.K]; exact ⟨by kernel_rfl, by kernel_rfl, by kernel_rfl, by kernel_rfl⟩
theorem m_abouts {c : Cx} (k : Ok c) : MethOk c.K 479 (Str.ofString "abouts") 394 := by
  rw [k.K]; exact ⟨by kernel_rfl, by kernel_rfl, by kernel_rfl, by kernel_rfl⟩
theorem m_func_kinds {c : Cx} (k : Ok c) : MethOk c.K 479 (Str.ofString "func_kinds") 399 := by
  rw [k.K]; exact ⟨by kernel_rfl, by kernel_rfl, by kernel_rfl, by kernel_rfl⟩
theorem f_191_plain {c : Cx} (k : Ok c) : FieldOk c.K 191 (Str.ofString "plain") := by
  rw [k.K]; exact ⟨by kernel_rfl, by kernel_rfl, by kernel_rfl⟩
theorem w_191_plain {c : Cx} (k : Ok c) : SetOk c.K 191 (Str.ofString "plain") := by
  rw [k.K]; exact ⟨by kernel_rfl, by kernel_rfl, by kernel_rfl, by kernel_rfl⟩
theorem f_191_first {c : Cx} (k : Ok c) : FieldOk c.K 191 (Str.ofString "first") := by
  rw [k.K]; exact ⟨by kernel_rfl, by kernel_rfl, by kernel_rfl⟩
theorem w_191_first {c : Cx} (k : Ok c) : SetOk c.K 191 (Str.ofString "first") := by
  rw [k.K]; exact ⟨by kernel_rfl, by kernel_rfl, by kernel_rfl, by kernel_rfl⟩
theorem f_191_second {c : Cx} (k : Ok c) : FieldOk c.K 191 (Str.ofString "second") := by
  rw [k.K]; exact ⟨by kernel_rfl, by kernel_rfl, by kernel_rfl⟩
theorem w_191_second {c : Cx} (k : Ok c) : SetOk c.K 191 (Str.ofString "second") := by
  rw [k.K]; exact ⟨by kernel_rfl, by kernel_rfl, by kernel_rfl, by kernel_rfl⟩
theorem f_268_kinds {c : Cx} (k : Ok c) : FieldOk c.K 268 (Str.ofString "kinds") := by
  rw [k.K]; exact ⟨by kernel_rfl, by kernel_rfl, by kernel_rfl⟩
theorem w_268_kinds {c : Cx} (k : Ok c) : SetOk c.K 268 (Str.ofString "kinds") := by
  rw [k.K]; exact ⟨by kernel_rfl, by kernel_rfl, by kernel_rfl, by kernel_rfl⟩
theorem f_268_funcs {c : Cx} (k : Ok c) : FieldOk c.K 268 (Str.ofString "funcs") := by
  rw [k.K]; exact ⟨by kernel_rfl, by kernel_rfl, by kernel_rfl⟩
theorem w_268_funcs {c : Cx} (k : Ok c) : SetOk c.K 268 (Str.ofString "funcs") := by
  rw [k.K]; exact ⟨by kernel_rfl, by kernel_rfl, by kernel_rfl, by kernel_rfl⟩
theorem f_308_arities {c : Cx} (k : Ok c) : FieldOk c.K 308 (Str.ofString "arities") := by
  rw [k.K]; exact ⟨by kernel_rfl, by kernel_rfl, by kernel_rfl⟩
theorem w_308_arities {c : Cx} (k : Ok c) : SetOk c.K 308 (Str.ofString "arities") := by
  rw [k.K]; exact ⟨by kernel_rfl, by kernel_rfl, by kernel_rfl, by kernel_rfl⟩
theorem f_336_place {c : Cx} (k : Ok c) : FieldOk c.K 336 (Str.ofString "place") := by
  rw [k.K]; exact ⟨by kernel_rfl, by kernel_rfl, by kernel_rfl⟩
theorem w_336_place {c : Cx} (k : Ok c) : SetOk c.K 336 (Str.ofString "place") := by
  rw [k.K]; exact ⟨by kernel_rfl, by kernel_rfl, by kernel_rfl, by kernel_rfl⟩
theorem f_336_name {c : Cx} (k : Ok c) : FieldOk c.K 336 (Str.ofString "name") := by
  rw [k.K]; exact ⟨by kernel_rfl, by kernel_rfl, by kernel_rfl⟩
theorem w_336_name {c : Cx} (k : Ok c) : SetOk c.K 336 (Str.ofString "name") := by
  rw [k.K]; exact ⟨by kernel_rfl, by kernel_rfl, by kernel_rfl, by kernel_rfl⟩
theorem f_336_sort {c : Cx} (k : Ok c) : FieldOk c.K 336 (Str.ofString "sort") := by
  rw [k.K]; exact ⟨by kernel_rfl, by kernel_rfl, by kernel_rfl⟩
theorem w_336_sort {c : Cx} (k : Ok c) : SetOk c.K 336 (Str.ofString "sort") := by
  rw [k.K]; exact ⟨by kernel_rfl, by kernel_rfl, by kernel_rfl, by kernel_rfl⟩
theorem f_336_about {c : Cx} (k : Ok c) : FieldOk c.K 336 (Str.ofString "about") := by
  rw [k.K]; exact ⟨by kernel_rfl, by kernel_rfl, by kernel_rfl⟩
theorem w_336_about {c : Cx} (k : Ok c) : SetOk c.K 336 (Str.ofString "about") := by
  rw [k.K]; exact ⟨by kernel_rfl, by kernel_rfl, by kernel_rfl, by kernel_rfl⟩
theorem f_364_kind {c : Cx} (k : Ok c) : FieldOk c.K 364 (Str.ofString "kind") := by
  rw [k.K]; exact ⟨by kernel_rfl, by kernel_rfl, by kernel_rfl⟩
theorem w_364_kind {c : Cx} (k : Ok c) : SetOk c.K 364 (Str.ofString "kind") := by
  rw [k.K]; exact ⟨by kernel_rfl, by kernel_rfl, by kernel_rfl, by kernel_rfl⟩
theorem f_364_locals {c : Cx} (k : Ok c) : FieldOk c.K 364 (Str.ofString "locals") := by
  rw [k.K]; exact ⟨by kernel_rfl, by kernel_rfl, by kernel_rfl⟩
theorem w_364_locals {c : Cx} (k : Ok c) : SetOk c.K 364 (Str.ofString "locals") := by
  rw [k.K]; exact ⟨by kernel_rfl, by kernel_rfl, by kernel_rfl, by kernel_rfl⟩
theorem f_364_body {c : Cx} (k : Ok c) : FieldOk c.K 364 (Str.ofString "body") := by
  rw [k.K]; exact ⟨by kernel_rfl, by kernel_rfl, by kernel_rfl⟩
theorem w_364_body {c : Cx} (k : Ok c) : SetOk c.K 364 (Str.ofString "body") := by
  rw [k.K]; exact ⟨by kernel_rfl, by kernel_rfl, by kernel_rfl, by kernel_rfl⟩
theorem f_479_kinds {c : Cx} (k : Ok c) : FieldOk c.K 479 (Str.ofString "kinds") := by
  rw [k.K]; exact ⟨by kernel_rfl, by kernel_rfl, by kernel_rfl⟩
theorem w_479_kinds {c : Cx} (k : Ok c) : SetOk c.K 479 (Str.ofString "kinds") := by
  rw [k.K]; exact ⟨by kernel_rfl, by kernel_rfl, by kernel_rfl, by kernel_rfl⟩
theorem f_479_imports {c : Cx} (k : Ok c) : FieldOk c.K 479 (Str.ofString "imports") := by
  rw [k.K]; exact ⟨by kernel_rfl, by kernel_rfl, by kernel_rfl⟩
theorem w_479_imports {c : Cx} (k : Ok c) : SetOk c.K 479 (Str.ofString "imports") := by
  rw [k.K]; exact ⟨by kernel_rfl, by kernel_rfl, by kernel_rfl, by kernel_rfl⟩
theorem f_479_funcs {c : Cx} (k : Ok c) : FieldOk c.K 479 (Str.ofString "funcs") := by
  rw [k.K]; exact ⟨by kernel_rfl, by kernel_rfl, by kernel_rfl⟩
theorem w_479_funcs {c : Cx} (k : Ok c) : SetOk c.K 479 (Str.ofString "funcs") := by
  rw [k.K]; exact ⟨by kernel_rfl, by kernel_rfl, by kernel_rfl, by kernel_rfl⟩
theorem f_479_tables {c : Cx} (k : Ok c) : FieldOk c.K 479 (Str.ofString "tables") := by
  rw [k.K]; exact ⟨by kernel_rfl, by kernel_rfl, by kernel_rfl⟩
theorem w_479_tables {c : Cx} (k : Ok c) : SetOk c.K 479 (Str.ofString "tables") := by
  rw [k.K]; exact ⟨by kernel_rfl, by kernel_rfl, by kernel_rfl, by kernel_rfl⟩
theorem f_479_memories {c : Cx} (k : Ok c) : FieldOk c.K 479 (Str.ofString "memories") := by
  rw [k.K]; exact ⟨by kernel_rfl, by kernel_rfl, by kernel_rfl⟩
theorem w_479_memories {c : Cx} (k : Ok c) : SetOk c.K 479 (Str.ofString "memories") := by
  rw [k.K]; exact ⟨by kernel_rfl, by kernel_rfl, by kernel_rfl, by kernel_rfl⟩
theorem f_479_globals {c : Cx} (k : Ok c) : FieldOk c.K 479 (Str.ofString "globals") := by
  rw [k.K]; exact ⟨by kernel_rfl, by kernel_rfl, by kernel_rfl⟩
theorem w_479_globals {c : Cx} (k : Ok c) : SetOk c.K 479 (Str.ofString "globals") := by
  rw [k.K]; exact ⟨by kernel_rfl, by kernel_rfl, by kernel_rfl, by kernel_rfl⟩
theorem f_479_exports {c : Cx} (k : Ok c) : FieldOk c.K 479 (Str.ofString "exports") := by
  rw [k.K]; exact ⟨by kernel_rfl, by kernel_rfl, by kernel_rfl⟩
theorem w_479_exports {c : Cx} (k : Ok c) : SetOk c.K 479 (Str.ofString "exports") := by
  rw [k.K]; exact ⟨by kernel_rfl, by kernel_rfl, by kernel_rfl, by kernel_rfl⟩
theorem f_479_start {c : Cx} (k : Ok c) : FieldOk c.K 479 (Str.ofString "start") := by
  rw [k.K]; exact ⟨by kernel_rfl, by kernel_rfl, by kernel_rfl⟩
theorem w_479_start {c : Cx} (k : Ok c) : SetOk c.K 479 (Str.ofString "start") := by
  rw [k.K]; exact ⟨by kernel_rfl, by kernel_rfl, by kernel_rfl, by kernel_rfl⟩
theorem f_479_elems {c : Cx} (k : Ok c) : FieldOk c.K 479 (Str.ofString "elems") := by
  rw [k.K]; exact ⟨by kernel_rfl, by kernel_rfl, by kernel_rfl⟩
theorem w_479_elems {c : Cx} (k : Ok c) : SetOk c.K 479 (Str.ofString "elems") := by
  rw [k.K]; exact ⟨by kernel_rfl, by kernel_rfl, by kernel_rfl, by kernel_rfl⟩
theorem f_479_datas {c : Cx} (k : Ok c) : FieldOk c.K 479 (Str.ofString "datas") := by
  rw [k.K]; exact ⟨by kernel_rfl, by kernel_rfl, by kernel_rfl⟩
theorem w_479_datas {c : Cx} (k : Ok c) : SetOk c.K 479 (Str.ofString "datas") := by
  rw [k.K]; exact ⟨by kernel_rfl, by kernel_rfl, by kernel_rfl, by kernel_rfl⟩
theorem f_479_customs {c : Cx} (k : Ok c) : FieldOk c.K 479 (Str.ofString "customs") := by
  rw [k.K]; exact ⟨by kernel_rfl, by kernel_rfl, by kernel_rfl⟩
theorem w_479_customs {c : Cx} (k : Ok c) : SetOk c.K 479 (Str.ofString "customs") := by
  rw [k.K]; exact ⟨by kernel_rfl, by kernel_rfl, by kernel_rfl, by kernel_rfl⟩
theorem mk_191 {c : Cx} (k : Ok c) : MakeOk c.K 191 (.ref 168) := by
  rw [k.K]; exact ⟨by kernel_rfl, 168, rfl, by kernel_rfl, by kernel_rfl⟩
theorem mk_268 {c : Cx} (k : Ok c) : MakeOk c.K 268 (.ref 230) := by
  rw [k.K]; exact ⟨by kernel_rfl, 230, rfl, by kernel_rfl, by kernel_rfl⟩
theorem mk_308 {c : Cx} (k : Ok c) : MakeOk c.K 308 (.ref 286) := by
  rw [k.K]; exact ⟨by kernel_rfl, 286, rfl, by kernel_rfl, by kernel_rfl⟩
theorem mk_336 {c : Cx} (k : Ok c) : MakeOk c.K 336 (.ref 326) := by
  rw [k.K]; exact ⟨by kernel_rfl, 326, rfl, by kernel_rfl, by kernel_rfl⟩
theorem mk_364 {c : Cx} (k : Ok c) : MakeOk c.K 364 (.ref 354) := by
  rw [k.K]; exact ⟨by kernel_rfl, 354, rfl, by kernel_rfl, by kernel_rfl⟩
theorem mk_479 {c : Cx} (k : Ok c) : MakeOk c.K 479 (.ref 382) := by
  rw [k.K]; exact ⟨by kernel_rfl, 382, rfl, by kernel_rfl, by kernel_rfl⟩
theorem p_code {c : Cx} (k : Ok c) : PropOk c.K 191 (Str.ofString "code") (.ref 175) := by
  rw [k.K]; exact ⟨by kernel_rfl, by kernel_rfl, 176, 175, _, rfl, by kernel_rfl, by kernel_rfl, by kernel_rfl, rfl⟩
theorem kp_129 {c : Cx} (k : Ok c) : keepIn c.K (.ref 129) = true := by rw [k.K]; kernel_rfl
theorem kp_136 {c : Cx} (k : Ok c) : keepIn c.K (.ref 136) = true := by rw [k.K]; kernel_rfl
theorem kp_202 {c : Cx} (k : Ok c) : keepIn c.K (.ref 202) = true := by rw [k.K]; kernel_rfl
theorem kp_209 {c : Cx} (k : Ok c) : keepIn c.K (.ref 209) = true := by rw [k.K]; kernel_rfl
theorem kp_216 {c : Cx} (k : Ok c) : keepIn c.K (.ref 216) = true := by rw [k.K]; kernel_rfl
theorem kp_495 {c : Cx} (k : Ok c) : keepIn c.K (.ref 495) = true := by rw [k.K]; kernel_rfl
theorem kp_502 {c : Cx} (k : Ok c) : keepIn c.K (.ref 502) = true := by rw [k.K]; kernel_rfl
theorem kp_509 {c : Cx} (k : Ok c) : keepIn c.K (.ref 509) = true := by rw [k.K]; kernel_rfl
theorem kp_516 {c : Cx} (k : Ok c) : keepIn c.K (.ref 516) = true := by rw [k.K]; kernel_rfl
theorem kp_523 {c : Cx} (k : Ok c) : keepIn c.K (.ref 523) = true := by rw [k.K]; kernel_rfl
theorem kp_528 {c : Cx} (k : Ok c) : keepIn c.K (.ref 528) = true := by rw [k.K]; kernel_rfl
theorem kp_535 {c : Cx} (k : Ok c) : keepIn c.K (.ref 535) = true := by rw [k.K]; kernel_rfl
theorem kp_542 {c : Cx} (k : Ok c) : keepIn c.K (.ref 542) = true := by rw [k.K]; kernel_rfl
theorem kp_191 {c : Cx} (k : Ok c) : keepIn c.K (.ref 191) = true := by rw [k.K]; kernel_rfl
theorem kp_268 {c : Cx} (k : Ok c) : keepIn c.K (.ref 268) = true := by rw [k.K]; kernel_rfl
theorem kp_308 {c : Cx} (k : Ok c) : keepIn c.K (.ref 308) = true := by rw [k.K]; kernel_rfl
theorem kp_336 {c : Cx} (k : Ok c) : keepIn c.K (.ref 336) = true := by rw [k.K]; kernel_rfl
theorem kp_364 {c : Cx} (k : Ok c) : keepIn c.K (.ref 364) = true := by rw [k.K]; kernel_rfl
theorem kp_479 {c : Cx} (k : Ok c) : keepIn c.K (.ref 479) = true := by rw [k.K]; kernel_rfl
theorem g_number_kind {c : Cx} (k : Ok c) : nsIn c.K mainGlobals (Str.ofString "number_kind") = some (some (.ref 129)) := by rw [k.K]; kernel_rfl
theorem g_stack_of {c : Cx} (k : Ok c) : nsIn c.K mainGlobals (Str.ofString "stack_of") = some (some (.ref 136)) := by rw [k.K]; kernel_rfl
theorem g_Piece {c : Cx} (k : Ok c) : nsIn c.K mainGlobals (Str.ofString "Piece") = some (some (.ref 191)) := by rw [k.K]; kernel_rfl
theorem g_pieces_of {c : Cx} (k : Ok c) : nsIn c.K mainGlobals (Str.ofString "pieces_of") = some (some (.ref 202)) := by rw [k.K]; kernel_rfl
theorem g_put_pieces {c : Cx} (k : Ok c) : nsIn c.K mainGlobals (Str.ofString "put_pieces") = some (some (.ref 209)) := by rw [k.K]; kernel_rfl
theorem g_body_of {c : Cx} (k : Ok c) : nsIn c.K mainGlobals (Str.ofString "body_of") = some (some (.ref 216)) := by rw [k.K]; kernel_rfl
theorem g_Arities {c : Cx} (k : Ok c) : nsIn c.K mainGlobals (Str.ofString "Arities") = some (some (.ref 268)) := by rw [k.K]; kernel_rfl
theorem g_Ends {c : Cx} (k : Ok c) : nsIn c.K mainGlobals (Str.ofString "Ends") = some (some (.ref 308)) := by rw [k.K]; kernel_rfl
theorem g_Import {c : Cx} (k : Ok c) : nsIn c.K mainGlobals (Str.ofString "Import") = some (some (.ref 336)) := by rw [k.K]; kernel_rfl
theorem g_Func {c : Cx} (k : Ok c) : nsIn c.K mainGlobals (Str.ofString "Func") = some (some (.ref 364)) := by rw [k.K]; kernel_rfl
theorem g_Module {c : Cx} (k : Ok c) : nsIn c.K mainGlobals (Str.ofString "Module") = some (some (.ref 479)) := by rw [k.K]; kernel_rfl
theorem g_law_next {c : Cx} (k : Ok c) : nsIn c.K mainGlobals (Str.ofString "_law_next") = some (some (.ref 495)) := by rw [k.K]; kernel_rfl
theorem g_law_deeds {c : Cx} (k : Ok c) : nsIn c.K mainGlobals (Str.ofString "_law_deeds") = some (some (.ref 502)) := by rw [k.K]; kernel_rfl
theorem g_law_both {c : Cx} (k : Ok c) : nsIn c.K mainGlobals (Str.ofString "_law_both") = some (some (.ref 509)) := by rw [k.K]; kernel_rfl
theorem g_law_high {c : Cx} (k : Ok c) : nsIn c.K mainGlobals (Str.ofString "_law_high") = some (some (.ref 516)) := by rw [k.K]; kernel_rfl
theorem g_law_plain {c : Cx} (k : Ok c) : nsIn c.K mainGlobals (Str.ofString "_law_plain") = some (some (.ref 523)) := by rw [k.K]; kernel_rfl
theorem g_law_block {c : Cx} (k : Ok c) : nsIn c.K mainGlobals (Str.ofString "_law_block") = some (some (.ref 528)) := by rw [k.K]; kernel_rfl
theorem g_law_end {c : Cx} (k : Ok c) : nsIn c.K mainGlobals (Str.ofString "_law_end") = some (some (.ref 535)) := by rw [k.K]; kernel_rfl
theorem g_law_list {c : Cx} (k : Ok c) : nsIn c.K mainGlobals (Str.ofString "_law_list") = some (some (.ref 542)) := by rw [k.K]; kernel_rfl
theorem g_LOADS {c : Cx} (k : Ok c) : nsIn c.K mainGlobals (Str.ofString "LOADS") = some (some (.ref 22)) := by rw [k.K]; kernel_rfl
theorem g_STORES {c : Cx} (k : Ok c) : nsIn c.K mainGlobals (Str.ofString "STORES") = some (some (.ref 35)) := by rw [k.K]; kernel_rfl
theorem g_FIXED {c : Cx} (k : Ok c) : nsIn c.K mainGlobals (Str.ofString "FIXED") = some (some (.ref 43)) := by rw [k.K]; kernel_rfl
theorem g_COUNTS {c : Cx} (k : Ok c) : nsIn c.K mainGlobals (Str.ofString "COUNTS") = some (some (.ref 138)) := by rw [k.K]; kernel_rfl
theorem g_NUMBERS {c : Cx} (k : Ok c) : nsIn c.K mainGlobals (Str.ofString "NUMBERS") = some (some (.ref 122)) := by rw [k.K]; kernel_rfl
theorem g_LAST {c : Cx} (k : Ok c) : nsIn c.K mainGlobals (Str.ofString "LAST") = some (some (.ref 137)) := by rw [k.K]; kernel_rfl
theorem gi_I32 {c : Cx} (k : Ok c) : ∃ t, nsIn c.K mainGlobals (Str.ofString "I32") = some (some (.int (-1) t)) := by rw [k.K]; exact ⟨_, rfl⟩
theorem gi_EMPTY {c : Cx} (k : Ok c) : ∃ t, nsIn c.K mainGlobals (Str.ofString "EMPTY") = some (some (.int (-64) t)) := by rw [k.K]; exact ⟨_, rfl⟩
theorem gi_FUNCTION {c : Cx} (k : Ok c) : ∃ t, nsIn c.K mainGlobals (Str.ofString "FUNCTION") = some (some (.int (0) t)) := by rw [k.K]; exact ⟨_, rfl⟩
theorem gi_BLOCK {c : Cx} (k : Ok c) : ∃ t, nsIn c.K mainGlobals (Str.ofString "BLOCK") = some (some (.int (2) t)) := by rw [k.K]; exact ⟨_, rfl⟩
theorem gi_LOOP {c : Cx} (k : Ok c) : ∃ t, nsIn c.K mainGlobals (Str.ofString "LOOP") = some (some (.int (3) t)) := by rw [k.K]; exact ⟨_, rfl⟩
theorem gi_IF {c : Cx} (k : Ok c) : ∃ t, nsIn c.K mainGlobals (Str.ofString "IF") = some (some (.int (4) t)) := by rw [k.K]; exact ⟨_, rfl⟩
theorem gi_ELSE {c : Cx} (k : Ok c) : ∃ t, nsIn c.K mainGlobals (Str.ofString "ELSE") = some (some (.int (5) t)) := by rw [k.K]; exact ⟨_, rfl⟩
theorem gi_END {c : Cx} (k : Ok c) : ∃ t, nsIn c.K mainGlobals (Str.ofString "END") = some (some (.int (11) t)) := by rw [k.K]; exact ⟨_, rfl⟩
theorem gi_BR {c : Cx} (k : Ok c) : ∃ t, nsIn c.K mainGlobals (Str.ofString "BR") = some (some (.int (12) t)) := by rw [k.K]; exact ⟨_, rfl⟩
theorem gi_BR_IF {c : Cx} (k : Ok c) : ∃ t, nsIn c.K mainGlobals (Str.ofString "BR_IF") = some (some (.int (13) t)) := by rw [k.K]; exact ⟨_, rfl⟩
theorem gi_BR_TABLE {c : Cx} (k : Ok c) : ∃ t, nsIn c.K mainGlobals (Str.ofString "BR_TABLE") = some (some (.int (14) t)) := by rw [k.K]; exact ⟨_, rfl⟩
theorem gi_RETURN {c : Cx} (k : Ok c) : ∃ t, nsIn c.K mainGlobals (Str.ofString "RETURN") = some (some (.int (15) t)) := by rw [k.K]; exact ⟨_, rfl⟩
theorem gi_CALL {c : Cx} (k : Ok c) : ∃ t, nsIn c.K mainGlobals (Str.ofString "CALL") = some (some (.int (16) t)) := by rw [k.K]; exact ⟨_, rfl⟩
theorem gi_CALL_INDIRECT {c : Cx} (k : Ok c) : ∃ t, nsIn c.K mainGlobals (Str.ofString "CALL_INDIRECT") = some (some (.int (17) t)) := by rw [k.K]; exact ⟨_, rfl⟩
theorem gi_DROP {c : Cx} (k : Ok c) : ∃ t, nsIn c.K mainGlobals (Str.ofString "DROP") = some (some (.int (26) t)) := by rw [k.K]; exact ⟨_, rfl⟩
theorem gb_range {c : Cx} (k : Ok c) : nsIn c.K mainGlobals (Str.ofString "range") = some none := by rw [k.K]; kernel_rfl
theorem gb_len {c : Cx} (k : Ok c) : nsIn c.K mainGlobals (Str.ofString "len") = some none := by rw [k.K]; kernel_rfl
theorem gb_max {c : Cx} (k : Ok c) : nsIn c.K mainGlobals (Str.ofString "max") = some none := by rw [k.K]; kernel_rfl
theorem gb_int {c : Cx} (k : Ok c) : nsIn c.K mainGlobals (Str.ofString "int") = some none := by rw [k.K]; kernel_rfl
theorem gb_tuple {c : Cx} (k : Ok c) : nsIn c.K mainGlobals (Str.ofString "tuple") = some none := by rw [k.K]; kernel_rfl
theorem gb_enumerate {c : Cx} (k : Ok c) : nsIn c.K mainGlobals (Str.ofString "enumerate") = some none := by rw [k.K]; kernel_rfl
end
end Mine

namespace Mine
open PySem PySem.W PyProof.Rows PySem.Calls PySem.Spec

noncomputable abbrev Ins := List Int
noncomputable def tapeO (ts : List Int) : O := .list (ts.reverse.map V.int)
noncomputable def insO (N : List Ins) : O := .list (N.map insV)
noncomputable def natV (i : Nat) : V := .int (i : Int)
noncomputable def natO (l : List Nat) : O := .list (l.map natV)

/-- written ints, tuples of ints, lists of such -/
noncomputable def cInt : Expr → Option Int
  | .Constant (.int i) _ _ => some i
  | .UnaryOp .USub (.Constant (.int i) _ _) _ => some (-i)
  | _ => none
noncomputable def cInts : List Expr → Option (List Int)
  | [] => some []
  | e :: es => match cInt e, cInts es with | some i, some l => some (i :: l) | _, _ => none
noncomputable def cTup : Expr → Option Ins
  | .Tuple es _ _ => cInts es
  | _ => none
noncomputable def cTups : List Expr → Option (List Ins)
  | [] => some []
  | e :: es => match cTup e, cTups es with | some i, some l => some (i :: l) | _, _ => none
noncomputable def cLst : Expr → Option (List Ins)
  | .List es _ => cTups es
  | _ => none
noncomputable def cDeed : Expr → Option (List Ins × Int × Int)
  | .Tuple [l, a, b] _ _ => match cLst l, cInt a, cInt b with | some l, some a, some b => some (l, a, b) | _, _, _ => none
  | _ => none
noncomputable def cDeeds : List Expr → Option (List (List Ins × Int × Int))
  | [] => some []
  | e :: es => match cDeed e, cDeeds es with | some i, some l => some (i :: l) | _, _ => none

section
variable {c : Cx} {n : Nat} {sc : Scope} {ρ : Loc} {σ : H}
theorem Ev.cInt {e : Expr} {i : Int} {Q : V → H → Prop} (h : Mine.cInt e = some i) (q : Q (.int i) σ) : Ev c n sc e ρ σ Q ∧ ∀ es env, starEach (e :: es) env = (false, eval e env) :: starEach es env := by
  unfold Mine.cInt at h
  split at h
  · cases h; exact ⟨Ev.int q, fun _ _ => rfl⟩
  · cases h; exact ⟨Ev.neg (Ev.int ⟨_, rfl, q⟩), fun _ _ => rfl⟩
  · cases h
theorem Evs.cInts {Q : List V → H → Prop} : ∀ {es : List Expr} {l : List Int}, Mine.cInts es = some l → ∀ {Q : List V → H → Prop}, Q (l.map V.int) σ → Evs c n sc es ρ σ Q
  | [], l, h, Q, q => by cases h; exact Evs.nil q
  | e :: es, l, h, Q, q => by
    unfold Mine.cInts at h
    split at h
    · rename_i i l' e1 e2
      cases h
      have := Ev.cInt (c := c) (n := n) (sc := sc) (ρ := ρ) (σ := σ) (Q := fun v σ₁ => Evs c n sc es ρ σ₁ fun vs σ₂ => Q (v :: vs) σ₂) e1 (Evs.cInts (Q := fun vs σ₂ => Q (.int i :: vs) σ₂) e2 q)
      exact Evs.cons this.1 (this.2 es)
    · cases h
theorem Mine.cInts_len : ∀ {es : List Expr} {l : List Int}, Mine.cInts es = some l → l.length = es.length
  | [], l, h => by cases h; rfl
  | e :: es, l, h => by
    unfold Mine.cInts at h
    split at h
    · rename_i i l' e1 e2
      cases h
      simp only [List.length_cons, Mine.cInts_len e2]
    · cases h
theorem Ev.cTup {e : Expr} {x : Ins} {Q : V → H → Prop} (h : Mine.cTup e = some x) (hz : x.length ≤ sizeLine) (q : Q (insV x) σ) : Ev c n sc e ρ σ Q ∧ ∀ es env, starEach (e :: es) env = (false, eval e env) :: starEach es env := by
  unfold Mine.cTup at h
  split at h
  · exact ⟨Ev.tuple (Evs.cInts (Q := fun vs σ₁ => vs.length ≤ sizeLine ∧ Q (.tup vs) σ₁) h ⟨by simpa using hz, q⟩), fun _ _ => rfl⟩
  · cases h
theorem Evs.cTups {Q : List V → H → Prop} : ∀ {es : List Expr} {l : List Ins}, Mine.cTups es = some l → (∀ x ∈ l, x.length ≤ sizeLine) → ∀ {Q : List V → H → Prop}, Q (l.map insV) σ → Evs c n sc es ρ σ Q
  | [], l, h, _, Q, q => by cases h; exact Evs.nil q
  | e :: es, l, h, hz, Q, q => by
    unfold Mine.cTups at h
    split at h
    · rename_i i l' e1 e2
      cases h
      have := Ev.cTup (c := c) (n := n) (sc := sc) (ρ := ρ) (σ := σ) (Q := fun v σ₁ => Evs c n sc es ρ σ₁ fun vs σ₂ => Q (v :: vs) σ₂) e1 (hz _ (.head _)) (Evs.cTups (Q := fun vs σ₂ => Q (insV i :: vs) σ₂) e2 (fun x hx => hz x (.tail _ hx)) q)
      exact Evs.cons this.1 (this.2 es)
    · cases h
/-- the lengths of what is written -/
noncomputable def small (X : List Ins) : Bool := decide (X.length ≤ 100) && X.all fun x => decide (x.length ≤ 100)
theorem Ev.cLst {e : Expr} {X : List Ins} {Q : V → H → Prop} (h : Mine.cLst e = some X) (hz : small X = true) (q : ∀ i, σ i = none → Q (.ref i) (σ.set i (insO X))) : Ev c n sc e ρ σ Q := by
  unfold Mine.cLst at h
  simp only [small, Bool.and_eq_true, decide_eq_true_eq, List.all_eq_true] at hz
  split at h
  · exact Ev.listE (Evs.cTups (Q := fun vs σ₁ => vs.length ≤ sizeLine ∧ ∀ i, σ₁ i = none → Q (.ref i) (σ₁.set i (.list vs))) h (fun x hx => Nat.le_trans (hz.2 x hx) (by decide)) ⟨by rw [List.length_map]; exact Nat.le_trans hz.1 (by decide), q⟩)
  · cases h
theorem star_lst {e : Expr} {X : List Ins} (h : Mine.cLst e = some X) : ∀ es env, starEach (e :: es) env = (false, eval e env) :: starEach es env := by
  unfold Mine.cLst at h
  split at h
  · exact fun _ _ => rfl
  · cases h
theorem none_of {B σ : H} (hB : Sub B σ) {i : Nat} (hi : σ i = none) : B i = none := by
  cases e : B i with
  | none => rfl
  | some o => have := hB i o e; rw [hi] at this; cases this
/-- what a written deed is in a heap -/
noncomputable def DeedAt (B σ : H) (v : V) (x : List Ins × Int × Int) : Prop := ∃ i, v = .tup [.ref i, .int x.2.1, .int x.2.2] ∧ σ i = some (insO x.1) ∧ B i = none
inductive DeedsAt (B σ : H) : List V → List (List Ins × Int × Int) → Prop
  | nil : DeedsAt B σ [] []
  | cons {v x l r} : DeedAt B σ v x → DeedsAt B σ l r → DeedsAt B σ (v :: l) (x :: r)
theorem DeedAt.mono {B σ σ' : H} (s : Sub σ σ') {v : V} {x} (h : DeedAt B σ v x) : DeedAt B σ' v x := let ⟨i, a, b, e⟩ := h; ⟨i, a, s _ _ b, e⟩
theorem DeedsAt.mono {B σ σ' : H} (s : Sub σ σ') : ∀ {l : List V} {r}, DeedsAt B σ l r → DeedsAt B σ' l r
  | _, _, .nil => .nil
  | _, _, .cons a b => .cons (a.mono s) (b.mono s)
theorem DeedsAt.get {B σ : H} : ∀ {l : List V} {r} {i : Nat} {x}, DeedsAt B σ l r → r[i]? = some x → ∃ v, l[i]? = some v ∧ DeedAt B σ v x
  | _, _, i, x, .nil, e => by cases e
  | _, _, 0, x, .cons a b, e => by cases e; exact ⟨_, rfl, a⟩
  | _, _, i + 1, x, .cons a b, e => b.get e
theorem DeedsAt.len {B σ : H} : ∀ {l : List V} {r}, DeedsAt B σ l r → l.length = r.length
  | _, _, .nil => rfl
  | _, _, .cons a b => by simp only [List.length_cons, b.len]
theorem Ev.cDeed {e : Expr} {x : List Ins × Int × Int} {Q : V → H → Prop} (h : Mine.cDeed e = some x) {B : H} (hB : Sub B σ) (hz : small x.1 = true) (q : ∀ v σ', Sub σ σ' → DeedAt B σ' v x → Q v σ') : Ev c n sc e ρ σ Q ∧ ∀ es env, starEach (e :: es) env = (false, eval e env) :: starEach es env := by
  unfold Mine.cDeed at h
  split at h
  · split at h
    · rename_i l a b k0 p0 e1 e2 e3 l' a' b' f1 f2 f3
      cases h
      refine ⟨Ev.tuple (Evs.cons (Ev.cLst f1 hz fun i hi => ?_) (star_lst f1 _)), fun _ _ => rfl⟩
      have B := Ev.cInt (c := c) (n := n) (sc := sc) (ρ := ρ) (σ := σ.set i (insO l')) (e := b) (i := b') (Q := fun v σ₂ => Evs c n sc [] ρ σ₂ fun vs σ₃ => (V.ref i :: .int a' :: v :: vs).length ≤ sizeLine ∧ Q (.tup (V.ref i :: .int a' :: v :: vs)) σ₃) f3 (Evs.nil ⟨by simp; decide, q _ _ (Sub.fresh hi) ⟨i, rfl, H.self, none_of hB hi⟩⟩)
      have A := Ev.cInt (c := c) (n := n) (sc := sc) (ρ := ρ) (σ := σ.set i (insO l')) (e := a) (i := a') (Q := fun v σ₂ => Evs c n sc [b] ρ σ₂ fun vs σ₃ => (V.ref i :: v :: vs).length ≤ sizeLine ∧ Q (.tup (V.ref i :: v :: vs)) σ₃) f2 (Evs.cons B.1 (B.2 _))
      exact Evs.cons A.1 (A.2 _)
    · cases h
  · cases h
theorem Evs.cDeeds {B : H} : ∀ {es : List Expr} {l : List (List Ins × Int × Int)} {σ : H}, Sub B σ → Mine.cDeeds es = some l → (l.all fun x => small x.1) = true → ∀ {Q : List V → H → Prop}, (∀ vs σ', Sub σ σ' → DeedsAt B σ' vs l → Q vs σ') → Evs c n sc es ρ σ Q
  | [], l, σ, hB, h, _, Q, q => by cases h; exact Evs.nil (q [] σ (.refl _) .nil)
  | e :: es, l, σ, hB, h, hz, Q, q => by
    unfold Mine.cDeeds at h
    split at h
    · rename_i i l' e1 e2
      cases h
      simp only [List.all_cons, Bool.and_eq_true] at hz
      have := Ev.cDeed (c := c) (n := n) (sc := sc) (ρ := ρ) (σ := σ) (Q := fun v σ₁ => Evs c n sc es ρ σ₁ fun vs σ₂ => Q (v :: vs) σ₂) e1 hB hz.1 fun v σ' s1 d1 =>
        Evs.cDeeds (Q := fun vs σ₂ => Q (v :: vs) σ₂) (hB.trans s1) e2 hz.2 fun vs σ'' s2 d2 => q _ _ (s1.trans s2) (.cons (d1.mono s2) d2)
      exact Evs.cons this.1 (this.2 es)
    · cases h
end

/-- tape, near and far in a heap; all else as in σ₀ -/
structure St3 (σ₀ : H) (t a b : Nat) (σ : H) (ts : List Int) (N F : List Ins) : Prop where
  tp : σ t = some (tapeO ts)
  nr : σ a = some (insO N)
  fr : σ b = some (insO F)
  ta : t ≠ a
  tb : t ≠ b
  ab : a ≠ b
  rest : ∀ j o, j ≠ t → j ≠ a → j ≠ b → σ₀ j = some o → σ j = some o
  sz : ts.length < sizeLine
namespace St3
variable {σ₀ σ σ' : H} {t a b : Nat} {ts ts' : List Int} {N F N' F' : List Ins}
theorem fresh (S : St3 σ₀ t a b σ ts N F) {j : Nat} {o : O} (hj : σ j = none) : St3 σ₀ t a b (σ.set j o) ts N F :=
  ⟨H.get hj S.tp, H.get hj S.nr, H.get hj S.fr, S.ta, S.tb, S.ab, fun i o' h1 h2 h3 e => H.get hj (S.rest i o' h1 h2 h3 e), S.sz⟩
theorem tape (S : St3 σ₀ t a b σ ts N F) (h : ts'.length ≤ ts.length) : St3 σ₀ t a b (σ.set t (tapeO ts')) ts' N F :=
  ⟨H.self, (H.ne S.ta.symm).trans S.nr, (H.ne S.tb.symm).trans S.fr, S.ta, S.tb, S.ab, fun i o' h1 h2 h3 e => (H.ne h1).trans (S.rest i o' h1 h2 h3 e), Nat.lt_of_le_of_lt h S.sz⟩
theorem near (S : St3 σ₀ t a b σ ts N F) : St3 σ₀ t a b (σ.set a (insO N')) ts N' F :=
  ⟨(H.ne S.ta).trans S.tp, H.self, (H.ne S.ab.symm).trans S.fr, S.ta, S.tb, S.ab, fun i o' h1 h2 h3 e => (H.ne h2).trans (S.rest i o' h1 h2 h3 e), S.sz⟩
theorem far (S : St3 σ₀ t a b σ ts N F) : St3 σ₀ t a b (σ.set b (insO F')) ts N F' :=
  ⟨(H.ne S.tb).trans S.tp, (H.ne S.ab).trans S.nr, H.self, S.ta, S.tb, S.ab, fun i o' h1 h2 h3 e => (H.ne h3).trans (S.rest i o' h1 h2 h3 e), S.sz⟩
theorem sub (S : St3 σ₀ t a b σ ts N F) (h : Sub σ σ') : St3 σ₀ t a b σ' ts N F := ⟨h _ _ S.tp, h _ _ S.nr, h _ _ S.fr, S.ta, S.tb, S.ab, fun j o h1 h2 h3 e => h _ _ (S.rest j o h1 h2 h3 e), S.sz⟩
theorem base (S : St3 σ₀ t a b σ ts N F) : St3 σ t a b σ ts N F := ⟨S.tp, S.nr, S.fr, S.ta, S.tb, S.ab, fun _ _ _ _ _ e => e, S.sz⟩
theorem trans (S : St3 σ₀ t a b σ ts N F) (S' : St3 σ t a b σ' ts' N' F') : St3 σ₀ t a b σ' ts' N' F' :=
  ⟨S'.tp, S'.nr, S'.fr, S'.ta, S'.tb, S'.ab, fun j o h1 h2 h3 e => S'.rest j o h1 h2 h3 (S.rest j o h1 h2 h3 e), S'.sz⟩
/-- another letter's place -/
structure Off (t a b j : Nat) : Prop where
  t : j ≠ t
  a : j ≠ a
  b : j ≠ b
theorem off (S : St3 σ₀ t a b σ ts N F) {j : Nat} (hj : σ j = none) : Off t a b j :=
  ⟨(ne_of hj S.tp).symm, (ne_of hj S.nr).symm, (ne_of hj S.fr).symm⟩
theorem get (S : St3 σ₀ t a b σ ts N F) {j : Nat} {o : O} (h : Off t a b j) (e : σ₀ j = some o) : σ j = some o := S.rest j o h.t h.a h.b e
end St3
/-- the next of the tape, modulo m -/
noncomputable def nx (ts : List Int) (m : Nat) : Nat := ((ts.headD 0) % (m : Int)).toNat
theorem nx_lt (ts : List Int) {m : Nat} (h : 0 < m) : nx ts m < m := by
  unfold nx
  have := Int.emod_lt_of_pos (ts.headD 0) (show (0 : Int) < m by omega)
  have := Int.emod_nonneg (ts.headD 0) (show (m : Int) ≠ 0 by omega)
  omega
theorem nx_fmod (ts : List Int) {m : Nat} (h : 0 < m) : (ts.headD 0).fmod (m : Int) = (nx ts m : Nat) := by
  unfold nx
  have := Int.emod_nonneg (ts.headD 0) (show (m : Int) ≠ 0 by omega)
  rw [Int.fmod_eq_emod_of_nonneg _ (by omega)]
  omega
section
variable {c : Cx} {n : Nat} {σ σ₀ : H} {t a b : Nat} {ts : List Int} {N F : List Ins} {sc : Scope} {ρ : Loc}
theorem next_ok (k : Ok c) {Q : V → H → Prop} (S : St3 σ₀ t a b σ ts N F) (q : ∀ σ', St3 σ₀ t a b σ' ts.tail N F → Q (.int (ts.headD 0)) σ') :
    CodeR c (n + 1) (.ref 495) [.ref t] σ Q := by
  have ht := S.tp
  have q := q _ (S.tape (ts' := ts.tail) (by simp))
  refine CodeR.def (d_law_next k) rfl ?_
  refine Ex.cons (Ex1.ret (d_law_next k).ok ?_)
  refine Ev.ite (Tr.cmp (Ev.loc rfl (Ev.listE (Evs.nil ⟨Nat.zero_le _, fun j hj => ?_⟩))))
  refine Op2.neNil (H.get hj ht) H.self ⟨_, rfl, ?_⟩
  cases ts with
  | nil => exact Ev.int ⟨σ.set t (tapeO []), by rw [H.same ht]; exact Sub.fresh hj, q⟩
  | cons x r =>
    have e : (!(List.map V.int (x :: r).reverse).isEmpty) = true := by simp
    rw [e]
    have ht' : σ t = some (.list (r.reverse.map V.int ++ [V.int x])) := by rw [ht, tapeO]; simp
    refine Ev.lmeth0 lm_pop (Ev.loc rfl ⟨t, _, rfl, H.get hj ht', ?_⟩) (fun env => ⟨_, rfl⟩)
    exact CallR.pop (H.get hj ht') (by have := S.sz; simp at this ⊢; omega) ⟨_, Sub.set (Sub.fresh hj), q⟩
/-- _law_next(tape) % m -/
theorem Ev.nextMod (k : Ok c) {f tp e : Expr} {pos pos' : Pos} {m : Int} {M : Nat} {Q : V → H → Prop} (hm : m = (M : Int)) (h0 : 0 < M) (S : St3 σ₀ t a b σ ts N F)
    (hc : ∀ {Q : V → H → Prop}, (∀ σ', St3 σ₀ t a b σ' ts.tail N F → Q (.int (ts.headD 0)) σ') → Ev c n sc f ρ σ Q)
    (he : ∀ (σ : H) {Q : V → H → Prop}, Q (.int m) σ → Ev c n sc e ρ σ Q) (q : ∀ σ' i, i < M → St3 σ₀ t a b σ' ts.tail N F → Q (.int (i : Nat)) σ') :
    Ev c n sc (.BinOp f .Mod e pos) ρ σ Q := by
  refine Ev.bin (hc fun σ' S' => he _ (Op2.mod (by omega) ?_))
  rw [hm, nx_fmod ts h0]
  exact q σ' _ (nx_lt ts h0) S'
theorem both_ok (k : Ok c) {s : Nat} {X : List Ins} {Q : V → H → Prop} (S : St3 σ₀ t a b σ ts N F) (hs : σ s = some (insO X)) (ho : St3.Off t a b s) (hn : N.length + X.length ≤ sizeLine) (hf : F.length + X.length ≤ sizeLine)
    (q : ∀ σ', St3 σ₀ t a b σ' ts (N ++ X) (F ++ X) → Q .none σ') : CodeR c (n + 1) (.ref 509) [.ref a, .ref b, .ref s] σ Q := by
  refine CodeR.enter (d_law_both k) rfl ?_
  have sc := (d_law_both k).ok
  refine Ex.cons (Ex1.expr sc (Ev.lmeth lm_extend (Ev.loc rfl ⟨a, _, rfl, S.nr, Evs.cons (Ev.loc rfl (Evs.nil ?_))⟩) (fun env => ⟨_, rfl⟩)))
  refine CallR.extend S.nr hs (by simpa using hn) ⟨rfl, ?_⟩
  rw [← List.map_append]
  have S₁ := S.near (N' := N ++ X)
  refine Ex.cons (Ex1.expr sc (Ev.lmeth lm_extend (Ev.loc rfl ⟨b, _, rfl, S₁.fr, Evs.cons (Ev.loc rfl (Evs.nil ?_))⟩) (fun env => ⟨_, rfl⟩)))
  refine CallR.extend S₁.fr ((H.ne ho.a).trans hs) (by simpa using hf) ⟨rfl, ?_⟩
  rw [← List.map_append]
  exact Ex.nil (q _ S₁.far)
end
end Mine

namespace Mine

/-- a list of pieces -/
inductive Pcs where
  | nil | plain (x : Ins) (r : Pcs) | blk1 (x : Ins) (a r : Pcs) | blk2 (x : Ins) (a b r : Pcs)
namespace Pcs
noncomputable def app : Pcs → Pcs → Pcs
  | nil, s => s
  | plain x r, s => plain x (app r s)
  | blk1 x a r, s => blk1 x a (app r s)
  | blk2 x a b r, s => blk2 x a b (app r s)
noncomputable def flat : Pcs → List Ins
  | nil => []
  | plain x r => x :: flat r
  | blk1 x a r => x :: (flat a ++ [11] :: flat r)
  | blk2 x a b r => x :: (flat a ++ [5] :: (flat b ++ [11] :: flat r))
theorem app_nil : ∀ X : Pcs, X.app nil = X
  | nil => rfl
  | plain x r => by rw [app, app_nil r]
  | blk1 x a r => by rw [app, app_nil r]
  | blk2 x a b r => by rw [app, app_nil r]
theorem app_assoc : ∀ X Y Z : Pcs, (X.app Y).app Z = X.app (Y.app Z)
  | nil, _, _ => rfl
  | plain x r, Y, Z => by rw [app, app, app, app_assoc r]
  | blk1 x a r, Y, Z => by rw [app, app, app, app_assoc r]
  | blk2 x a b r, Y, Z => by rw [app, app, app, app_assoc r]
theorem flat_app : ∀ X Y : Pcs, (X.app Y).flat = X.flat ++ Y.flat
  | nil, _ => rfl
  | plain x r, Y => by rw [app, flat, flat, flat_app r, List.cons_append]
  | blk1 x a r, Y => by simp [app, flat, flat_app r]
  | blk2 x a b r, Y => by simp [app, flat, flat_app r]
noncomputable def ofL : List Ins → Pcs
  | [] => nil
  | x :: l => plain x (ofL l)
theorem flat_ofL : ∀ l, (ofL l).flat = l
  | [] => rfl
  | x :: l => by rw [ofL, flat, flat_ofL l]
theorem ofL_app : ∀ l l', ofL (l ++ l') = (ofL l).app (ofL l')
  | [], _ => rfl
  | x :: l, l' => by rw [List.cons_append, ofL, ofL, app, ofL_app l]
noncomputable def isNil : Pcs → Bool
  | nil => true
  | _ => false
end Pcs
open Pcs
noncomputable def arTab : List (Int × Nat × Nat) := [(65,0,1),(32,0,1),(33,1,0),(34,1,1),(35,0,1),(36,1,0),(26,1,0),(27,3,1),(28,3,1),(106,2,1),(69,1,1),(70,2,1),(40,1,1),(54,2,0),(63,0,1),(64,1,1),(64522,3,0),(64523,3,0),
  (64528,0,1),(208,0,1),(209,1,1),(37,1,1),(38,2,0),(64527,2,1),(64529,3,0),(210,0,1),(1,0,0),(64520,3,0),(64521,0,0),(64524,3,0),(64525,0,0),(167,1,1),(172,1,1),(13,1,0)]
/-- what an instruction takes and puts: those that the law writes -/
noncomputable def ar : Ins → Option (Nat × Nat)
  | [] => none
  | k :: r => if k = 16 then (match r with
      | [i] => if 0 ≤ i ∧ i < 10 then some ((if i = 0 then 5 else i.toNat - 1) / 3, (if i = 0 then 5 else i.toNat - 1) % 3) else none
      | _ => none)
    else if k = 17 then (match r with
      | [i, _] => if 0 ≤ i ∧ i < 9 then some (i.toNat / 3 + 1, i.toNat % 3) else none
      | _ => none)
    else arTab.lookup k
noncomputable def isLast (x : Ins) : Bool := [0, 12, 14, 15, 18, 19].any (· == x.headD 0)
noncomputable def blkAr : Ins → Option (Int × Nat × Nat)
  | [k, i] => if (k = 2 ∨ k = 3 ∨ k = 4) then (if i = -64 then some (k, 0, 0) else if i = -1 then some (k, 0, 1) else if 0 ≤ i ∧ i < 9 then some (k, i.toNat / 3, i.toNat % 3) else none) else none
  | _ => none
noncomputable def is4 (k : Int) : Int := if k = 4 then 1 else 0
noncomputable def base (k : Int) : List Nat := if k = 3 then [] else [0]
noncomputable def inn (k : Int) (t p : Nat) (h res : Int) (tl : List Nat) : List Nat := base k ++ if (p : Int) = res ∧ h - t - is4 k = 0 then tl.map (· + 1) else []
/-- the height behind pieces, none of them a last one -/
noncomputable def bh : Pcs → Int → Option Int
  | .nil, h => some h
  | .plain x r, h => if isLast x then none else match ar x with | some (t, p) => bh r (h - t + p) | none => none
  | .blk1 x _ r, h => match blkAr x with | some (k, t, p) => bh r (h - t + p - is4 k) | none => none
  | .blk2 x _ _ r, h => match blkAr x with | some (k, t, p) => bh r (h - t + p - is4 k) | none => none
theorem bh_app : ∀ (X Y : Pcs) (h h' : Int), bh X h = some h' → bh (X.app Y) h = bh Y h'
  | .nil, Y, h, h', e => by simp only [bh, Option.some.injEq] at e; rw [e]; rfl
  | .plain x r, Y, h, h', e => by
    simp only [bh, app] at e ⊢
    split at e
    · cases e
    · rename_i h1
      rw [if_neg h1]
      split at e
      · exact bh_app r Y _ _ e
      · cases e
  | .blk1 x a r, Y, h, h', e => by
    simp only [bh, app] at e ⊢
    split at e
    · exact bh_app r Y _ _ e
    · cases e
  | .blk2 x a b r, Y, h, h', e => by
    simp only [bh, app] at e ⊢
    split at e
    · exact bh_app r Y _ _ e
    · cases e
theorem bh_pre : ∀ (X Y : Pcs) (h v : Int), bh (X.app Y) h = some v → ∃ u, bh X h = some u
  | .nil, Y, h, v, e => ⟨h, rfl⟩
  | .plain x r, Y, h, h', e => by
    simp only [bh, app] at e ⊢
    split at e
    · cases e
    · rename_i h1
      rw [if_neg h1]
      split at e
      · exact bh_pre r Y _ _ e
      · cases e
  | .blk1 x a r, Y, h, h', e => by
    simp only [bh, app] at e ⊢
    split at e
    · exact bh_pre r Y _ _ e
    · cases e
  | .blk2 x a b r, Y, h, h', e => by
    simp only [bh, app] at e ⊢
    split at e
    · exact bh_pre r Y _ _ e
    · cases e
noncomputable def lab (dp : Nat) (x : Ins) : Int := if x.headD 0 = 15 then dp else if x.headD 0 = 12 ∨ x.headD 0 = 13 then x.getD 1 0 else -1
noncomputable def is13 (x : Ins) : Int := if x.headD 0 = 13 then 1 else 0
/-- an instruction whose label can be read -/
noncomputable def lok (x : Ins) : Prop := x ≠ [] ∧ (x.headD 0 = 12 ∨ x.headD 0 = 13 → 2 ≤ x.length)
inductive Single : Pcs → Ins → Prop
  | plain {x} : Single (.plain x .nil) x
  | blk1 {x a} : Single (.blk1 x a .nil) x
  | blk2 {x a b} : Single (.blk2 x a b .nil) x

inductive LoopR (C : Pcs → Nat → Nat → List Nat → Nat → Pcs → Prop) (res : Nat) (tl : List Nat) (dp : Nat) : Pcs → Int → Pcs → Prop
  | nil {h} : LoopR C res tl dp .nil h .nil
  | last {x h} : isLast x = true → x ≠ [] → LoopR C res tl dp (.plain x .nil) h (.plain x .nil)
  | plain {x r h r' t p} : isLast x = false → ar x = some (t, p) → LoopR C res tl dp r (h - t + p) r' → LoopR C res tl dp (.plain x r) h (.plain x r')
  | blk1 {x a r h a' r' k t p} : blkAr x = some (k, t, p) → C a t p (inn k t p h res (if r.isNil then tl else [])) (dp + 1) a' → LoopR C res tl dp r (h - t + p - is4 k) r' → LoopR C res tl dp (.blk1 x a r) h (.blk1 x a' r')
  | blk2 {x a b r h a' b' r' k t p} : blkAr x = some (k, t, p) → C a t p (inn k t p h res (if r.isNil then tl else [])) (dp + 1) a' → C b t p (inn k t p h res (if r.isNil then tl else [])) (dp + 1) b' → LoopR C res tl dp r (h - t + p - is4 k) r' →
      LoopR C res tl dp (.blk2 x a b r) h (.blk2 x a' b' r')
inductive LastR (h res : Nat) (tl : List Nat) (dp : Nat) : Pcs → Pcs → Prop
  | nil : LastR h res tl dp .nil .nil
  | stop {A P : Pcs} {x : Ins} {v : Int} : lok x → Single P x → bh A h = some v → ((∀ i ∈ tl, (i : Int) ≠ lab dp x) ∨ v ≠ res + is13 x) → LastR h res tl dp (A.app P) (A.app P)
  | brif {A : Pcs} {l : Nat} : l ∈ tl → bh A h = some ((res : Int) + 1) → LastR h res tl dp (A.app (.plain [13, (l : Int)] .nil)) (A.app (.plain [26] .nil))
  | br {A Y : Pcs} {x : Ins} {l : Nat} : (x = [12, (l : Int)] ∨ x = [15] ∧ l = dp) → l ∈ tl → bh A h = some (res : Int) → LastR h res tl dp A Y → LastR h res tl dp (A.app (.plain x .nil)) Y
noncomputable def CutR : Nat → Pcs → Nat → Nat → List Nat → Nat → Pcs → Prop
  | 0 => fun _ _ _ _ _ _ => False
  | d + 1 => fun X h res tl dp Y => ∃ X', LoopR (CutR d) res tl dp X h X' ∧ LastR h res tl dp X' Y

/-- no branch at the top -/
noncomputable def tame1 (x : Ins) : Bool := x.headD 0 != 12 && x.headD 0 != 13 && x.headD 0 != 15
noncomputable def tame : Pcs → Bool
  | .nil => true
  | .plain x r => tame1 x && tame r
  | .blk1 x _ r => tame1 x && tame r
  | .blk2 x _ _ r => tame1 x && tame r
theorem tame_app : ∀ X Y : Pcs, tame (X.app Y) = (tame X && tame Y)
  | .nil, _ => rfl
  | .plain x r, Y => by rw [app, tame, tame, tame_app r, Bool.and_assoc]
  | .blk1 x a r, Y => by rw [app, tame, tame, tame_app r, Bool.and_assoc]
  | .blk2 x a b r, Y => by rw [app, tame, tame, tame_app r, Bool.and_assoc]
/-- what pieces_of can read -/
noncomputable def wf : Pcs → Bool
  | .nil => true
  | .plain x r => !([2, 3, 4, 5, 11].any (· == x.headD 0)) && !x.isEmpty && wf r
  | .blk1 x a r => [2, 3, 4].any (· == x.headD 0) && !x.isEmpty && wf a && wf r
  | .blk2 x a b r => [2, 3, 4].any (· == x.headD 0) && !x.isEmpty && wf a && wf b && wf r
theorem wf_app : ∀ X Y : Pcs, wf (X.app Y) = (wf X && wf Y)
  | .nil, _ => rfl
  | .plain x r, Y => by rw [app, wf, wf, wf_app r]; simp only [Bool.and_assoc]
  | .blk1 x a r, Y => by rw [app, wf, wf, wf_app r]; simp only [Bool.and_assoc]
  | .blk2 x a b r, Y => by rw [app, wf, wf, wf_app r]; simp only [Bool.and_assoc]
theorem last_piece : ∀ X : Pcs, X = .nil ∨ ∃ (A P : Pcs) (x : Ins), X = A.app P ∧ Single P x ∧ (tame X = true → tame1 x = true)
  | .nil => .inl rfl
  | .plain x r => .inr (by
    rcases last_piece r with rfl | ⟨A, P, y, rfl, h, t⟩
    · exact ⟨.nil, _, x, rfl, .plain, fun h => by simp only [tame, Bool.and_true] at h; exact h⟩
    · exact ⟨.plain x A, P, y, rfl, h, fun h => t (by simp only [tame, Bool.and_eq_true] at h; exact h.2)⟩)
  | .blk1 x a r => .inr (by
    rcases last_piece r with rfl | ⟨A, P, y, rfl, h, t⟩
    · exact ⟨.nil, _, x, rfl, .blk1, fun h => by simp only [tame, Bool.and_true] at h; exact h⟩
    · exact ⟨.blk1 x a A, P, y, rfl, h, fun h => t (by simp only [tame, Bool.and_eq_true] at h; exact h.2)⟩)
  | .blk2 x a b r => .inr (by
    rcases last_piece r with rfl | ⟨A, P, y, rfl, h, t⟩
    · exact ⟨.nil, _, x, rfl, .blk2, fun h => by simp only [tame, Bool.and_true] at h; exact h⟩
    · exact ⟨.blk2 x a b A, P, y, rfl, h, fun h => t (by simp only [tame, Bool.and_eq_true] at h; exact h.2)⟩)
theorem tame_lab {dp : Nat} {x : Ins} (h : tame1 x = true) : lab dp x = -1 := by
  simp only [tame1, Bool.and_eq_true, bne_iff_ne, ne_eq] at h
  unfold lab
  rw [if_neg h.2, if_neg (by intro e; rcases e with e | e; exact h.1.1 e; exact h.1.2 e)]
theorem LastR.tame {h res : Nat} {tl : List Nat} {dp : Nat} {X : Pcs} {v : Int} (ht : Mine.tame X = true) (hb : bh X h = some v) : LastR h res tl dp X X := by
  rcases last_piece X with rfl | ⟨A, P, x, rfl, hs, t⟩
  · exact .nil
  · obtain ⟨u, hu⟩ := bh_pre A P _ _ hb
    have hx : x ≠ [] := by
      rw [bh_app _ _ _ _ hu] at hb
      rintro rfl
      cases hs with
      | plain => simp only [bh, ar] at hb; split at hb <;> cases hb
      | blk1 => simp only [bh, blkAr] at hb; cases hb
      | blk2 => simp only [bh, blkAr] at hb; cases hb
    have ht1 := t ht
    simp only [tame1, Bool.and_eq_true, bne_iff_ne, ne_eq] at ht1
    exact .stop ⟨hx, fun e => by rcases e with e | e; exact absurd e ht1.1.1; exact absurd e ht1.1.2⟩ hs hu (.inl fun i _ => by rw [tame_lab (t ht)]; omega)

/-- pieces in the middle of a list -/
structure Mid (d dp : Nat) (X Y : Pcs) (h h' : Nat) : Prop where
  loop : ∀ res tl r r', LoopR (CutR d) res tl dp r h' r' → LoopR (CutR d) res tl dp (X.app r) h (Y.app r')
  bh : bh Y h = some (h' : Int)
  tame : tame Y = true
  wf : wf X = true
theorem Mid.nil {d dp h : Nat} : Mid d dp .nil .nil h h := ⟨fun _ _ _ _ x => x, rfl, rfl, rfl⟩
theorem Mid.comp {d dp : Nat} {X Y X' Y' : Pcs} {h h' h'' : Nat} (a : Mid d dp X Y h h') (b : Mid d dp X' Y' h' h'') : Mid d dp (X.app X') (Y.app Y') h h'' :=
  ⟨fun res tl r r' x => by rw [app_assoc, app_assoc]; exact a.loop _ _ _ _ (b.loop _ _ _ _ x), (bh_app _ _ _ _ a.bh).trans b.bh, by rw [tame_app, a.tame, b.tame]; rfl, by rw [wf_app, a.wf, b.wf]; rfl⟩
/-- a plain instruction -/
noncomputable def plainOk (x : Ins) : Bool := !isLast x && tame1 x && !([2, 3, 4, 5, 11].any (· == x.headD 0)) && !x.isEmpty
theorem Mid.one {d dp h h' t p : Nat} {x : Ins} (ok : plainOk x = true) (ha : ar x = some (t, p)) (hh : t ≤ h) (he : h' = h - t + p) : Mid d dp (.plain x .nil) (.plain x .nil) h h' := by
  simp only [plainOk, Bool.and_eq_true, Bool.not_eq_true'] at ok
  have hi : ((h : Int) - t + p) = (h' : Int) := by omega
  refine ⟨fun res tl r r' l => LoopR.plain ok.1.1.1 ha (by rw [hi]; exact l), ?_, ?_, ?_⟩
  · simp only [Mine.bh, ok.1.1.1, ha, hi]; rfl
  · simp only [Mine.tame, ok.1.1.2]; rfl
  · simp only [Mine.wf, ok.1.2, ok.2]; rfl
/-- plain instructions, the height followed -/
noncomputable def run : List Ins → Nat → Option Nat
  | [], h => some h
  | x :: l, h => if plainOk x then match ar x with | some (t, p) => if t ≤ h then run l (h - t + p) else none | none => none else none
theorem Mid.run {d dp : Nat} : ∀ {l : List Ins} {h h' : Nat}, Mine.run l h = some h' → Mid d dp (ofL l) (ofL l) h h'
  | [], h, h', e => by cases e; exact .nil
  | x :: l, h, h', e => by
    unfold Mine.run at e
    split at e
    · split at e
      · split at e
        · rename_i h1 x1 t p h2 h3
          exact Mid.comp (X := .plain x .nil) (X' := ofL l) (Mid.one h1 h2 h3 rfl) (Mid.run e)
        · cases e
      · cases e
    · cases e
theorem run_app : ∀ {l l' : List Ins} {h h' : Nat}, run l h = some h' → run (l ++ l') h = run l' h'
  | [], l', h, h', e => by cases e; rfl
  | x :: l, l', h, h', e => by
    unfold run at e
    split at e
    · split at e
      · split at e
        · rename_i h1 x1 t p h2 h3
          rw [List.cons_append, run, if_pos h1, h2]
          simp only [if_pos h3]
          exact run_app e
        · cases e
      · cases e
    · cases e
noncomputable def pad (h w : Nat) : List Ins := List.replicate (w - h) [65, 1] ++ List.replicate (h - w) [26]
theorem run_up (k h : Nat) : run (List.replicate k [65, 1]) h = some (h + k) := by
  induction k generalizing h with
  | zero => rfl
  | succ k ih =>
    rw [List.replicate_succ, run, if_pos (by decide), show ar [65, 1] = some (0, 1) from by decide]
    simp only [Nat.zero_le, if_true]
    rw [ih]; congr 1; omega
theorem run_down (k h : Nat) (hk : k ≤ h) : run (List.replicate k [26]) h = some (h - k) := by
  induction k generalizing h with
  | zero => rfl
  | succ k ih =>
    rw [List.replicate_succ, run, if_pos (by decide), show ar [26] = some (1, 0) from by decide]
    simp only [show 1 ≤ h by omega, if_true]
    rw [ih _ (by omega)]; congr 1; omega
theorem run_pad (h w : Nat) : run (pad h w) h = some w := by
  unfold pad
  rw [run_app (run_up _ _), run_down _ _ (by omega)]
  congr 1; omega
theorem pad_len (h w : Nat) : (pad h w).length ≤ h + w := by unfold pad; simp; omega

theorem ar13 (m : Int) : ar [13, m] = some (1, 0) := rfl
/-- the end of a list -/
noncomputable def EndR (d dp res : Nat) (tl : List Nat) (E E' : Pcs) (h : Nat) : Prop :=
  wf E = true ∧ ∃ E₁, LoopR (CutR d) res tl dp E h E₁ ∧ ∀ (M : Pcs) (h₀ : Nat), tame M = true → bh M h₀ = some (h : Int) → LastR h₀ res tl dp (M.app E₁) (M.app E')
theorem EndR.pre {d dp res : Nat} {tl : List Nat} {X Y E E' : Pcs} {h h' : Nat} (m : Mid d dp X Y h h') (e : EndR d dp res tl E E' h') : EndR d dp res tl (X.app E) (Y.app E') h := by
  obtain ⟨w, E₁, l, e⟩ := e
  refine ⟨by rw [wf_app, m.wf, w]; rfl, Y.app E₁, m.loop _ _ _ _ l, fun M h₀ ht hb => ?_⟩
  rw [← app_assoc, ← app_assoc]
  exact e (M.app Y) h₀ (by rw [tame_app, ht, m.tame]; rfl) ((bh_app _ _ _ _ hb).trans m.bh)
theorem EndR.cut {d dp res : Nat} {tl : List Nat} {E E' : Pcs} {h : Nat} (e : EndR d dp res tl E E' h) : CutR (d + 1) E h res tl dp E' := by
  obtain ⟨w, E₁, l, e⟩ := e
  exact ⟨E₁, l, e .nil h rfl rfl⟩
theorem EndR.nil {d dp res : Nat} {tl : List Nat} {h : Nat} : EndR d dp res tl .nil .nil h :=
  ⟨rfl, .nil, .nil, fun M h₀ ht hb => by rw [app_nil]; exact .tame ht hb⟩
theorem EndR.br {d dp res : Nat} {tl : List Nat} {h l : Nat} {x : Ins} (hx : x = [12, (l : Int)] ∨ x = [15] ∧ l = dp) :
    EndR d dp res tl (ofL [x]) (ofL (if l ∈ tl ∧ h = res then [] else [x])) h := by
  have hl : isLast x = true := by rcases hx with rfl | ⟨rfl, _⟩ <;> rfl
  have hlab : lab dp x = l := by rcases hx with rfl | ⟨rfl, e⟩ <;> simp [lab]; omega
  have h13 : is13 x = 0 := by rcases hx with rfl | ⟨rfl, e⟩ <;> simp [is13]
  refine ⟨by rcases hx with rfl | ⟨rfl, _⟩ <;> simp [ofL, wf], _, .last hl (by rcases hx with rfl | ⟨rfl, _⟩ <;> simp), fun M h₀ ht hb => ?_⟩
  by_cases hc : l ∈ tl ∧ h = res
  · rw [if_pos hc]
    simp only [ofL, app_nil]
    exact .br hx hc.1 (by rw [hb, hc.2]) (.tame ht hb)
  · rw [if_neg hc]
    refine .stop (by rcases hx with rfl | ⟨rfl, _⟩ <;> simp [lok]) .plain hb ?_
    by_cases h1 : l ∈ tl
    · right; rw [h13]; intro e; exact hc ⟨h1, by omega⟩
    · left; intro i hi e; rw [hlab] at e; exact h1 (by have : i = l := by omega
                                                       exact this ▸ hi)
theorem LastR.brifs {dp res : Nat} {tl : List Nat} {h₀ m : Nat} {M : Pcs} (hb : bh M h₀ = some (res : Int)) :
    LastR h₀ res tl dp (M.app (ofL [[32, 0], [13, (m : Int)]])) (M.app (ofL [[32, 0], if m ∈ tl then [26] else [13, (m : Int)]])) := by
  have hb' : bh (M.app (.plain [32, 0] .nil)) h₀ = some ((res : Int) + 1) := by
    rw [bh_app _ _ _ _ hb]
    simp only [bh, show isLast [32, 0] = false from by decide, show ar [32, 0] = some (0, 1) from by decide]
    simp
  have e1 : ∀ y : Ins, M.app (ofL [[32, 0], y]) = (M.app (.plain [32, 0] .nil)).app (.plain y .nil) := fun y => by rw [app_assoc]; rfl
  rw [e1, e1]
  by_cases hc : m ∈ tl
  · rw [if_pos hc]; exact .brif hc hb'
  · rw [if_neg hc]
    exact .stop (by simp [lok]) .plain hb' (.inl fun i hi e => hc (by
      have : i = m := by simp [lab] at e; omega
      exact this ▸ hi))
theorem EndR.brif {d dp : Nat} {tl : List Nat} {m res : Nat} : EndR d dp res tl (ofL [[32, 0], [13, (m : Int)]]) (ofL [[32, 0], if m ∈ tl then [26] else [13, (m : Int)]]) res := by
  refine ⟨by simp [ofL, wf], ofL [[32, 0], [13, (m : Int)]], ?_, fun M h₀ ht hb => LastR.brifs hb⟩
  exact .plain (by decide) (show ar [32, 0] = some (0, 1) by decide) (.plain (by simp [isLast]) (t := 1) (p := 0) (ar13 _) .nil)
theorem EndR.brifbr {d dp : Nat} {tl : List Nat} {m l h res : Nat} : EndR d dp res tl (ofL [[32, 0], [13, (m : Int)], [12, (l : Int)]])
    (ofL (if l ∈ tl ∧ h = res then [[32, 0], if m ∈ tl then [26] else [13, (m : Int)]] else [[32, 0], [13, (m : Int)], [12, (l : Int)]])) h := by
  refine ⟨by simp [ofL, wf], ofL [[32, 0], [13, (m : Int)], [12, (l : Int)]], ?_, fun M h₀ ht hb => ?_⟩
  · exact .plain (by decide) (show ar [32, 0] = some (0, 1) by decide) (.plain (by simp [isLast]) (t := 1) (p := 0) (ar13 _) (.last (by simp [isLast]) (by simp)))
  · have hb' : bh (M.app (ofL [[32, 0], [13, (m : Int)]])) h₀ = some (h : Int) := by
      rw [bh_app _ _ _ _ hb]
      simp [ofL, bh, isLast, ar, arTab, List.lookup]
    have e1 : M.app (ofL [[32, 0], [13, (m : Int)], [12, (l : Int)]]) = (M.app (ofL [[32, 0], [13, (m : Int)]])).app (.plain [12, (l : Int)] .nil) := by rw [app_assoc]; rfl
    by_cases hc : l ∈ tl ∧ h = res
    · rw [if_pos hc, e1]
      refine .br (.inl rfl) hc.1 (by rw [hb', hc.2]) (.brifs (by rw [hb, hc.2]))
    · rw [if_neg hc, e1]
      refine .stop (by simp [lok]) .plain hb' ?_
      by_cases h1 : l ∈ tl
      · right; simp [is13]; intro e; exact hc ⟨h1, by omega⟩
      · left; intro i hi e
        exact h1 (by
          have : i = l := by simp [lab] at e; omega
          exact this ▸ hi)

/-- a block that the law has written -/
noncomputable def preB (k : Int) (r : Pcs) : Pcs := if k = 4 then .plain [32, 0] r else r
inductive BlkG (d dp t p : Nat) (tls : List Nat) : Pcs → Pcs → Prop
  | one {k x a a'} : blkAr x = some (k, t, p) → wf a = true → CutR d a t p (base k ++ tls.map (· + 1)) (dp + 1) a' → BlkG d dp t p tls (preB k (.blk1 x a .nil)) (preB k (.blk1 x a' .nil))
  | two {k x a a' b b'} : blkAr x = some (k, t, p) → wf a = true → wf b = true → CutR d a t p (base k ++ tls.map (· + 1)) (dp + 1) a' → CutR d b t p (base k ++ tls.map (· + 1)) (dp + 1) b' →
      BlkG d dp t p tls (preB k (.blk2 x a b .nil)) (preB k (.blk2 x a' b' .nil))
theorem blkAr_head {x : Ins} {k : Int} {t p : Nat} (h : blkAr x = some (k, t, p)) : x.headD 0 = k ∧ (k = 2 ∨ k = 3 ∨ k = 4) ∧ x ≠ [] := by
  unfold blkAr at h
  split at h
  · rename_i k' i
    split at h
    · rename_i hk
      split at h
      · cases h; exact ⟨rfl, hk, by simp⟩
      · split at h
        · cases h; exact ⟨rfl, hk, by simp⟩
        · split at h
          · cases h; exact ⟨rfl, hk, by simp⟩
          · cases h
    · cases h
  · cases h
theorem blk_tame {x : Ins} {k : Int} {t p : Nat} (h : blkAr x = some (k, t, p)) : tame1 x = true ∧ [2, 3, 4].any (· == x.headD 0) = true ∧ x.isEmpty = false := by
  obtain ⟨h1, h2, h3⟩ := blkAr_head h
  unfold tame1
  rw [h1]
  refine ⟨?_, ?_, by simpa using h3⟩ <;> rcases h2 with rfl | rfl | rfl <;> decide
theorem loop_pre {C res tl dp k r r'} {h : Int} (l : LoopR C res tl dp r (h + is4 k) r') : LoopR C res tl dp (preB k r) h (preB k r') := by
  unfold preB is4 at *
  split
  · rename_i e; rw [if_pos e] at l
    exact .plain (by decide) (show ar [32, 0] = some (0, 1) by decide) (by simpa using l)
  · rename_i e; rw [if_neg e] at l; simpa using l
theorem bh_preB {k r} {h : Int} : bh (preB k r) h = bh r (h + is4 k) := by
  unfold preB is4
  split
  · simp [bh, isLast, ar, arTab, List.lookup]
  · simp
theorem preB_app {k : Int} {r s : Pcs} : (preB k r).app s = preB k (r.app s) := by
  unfold preB; split <;> rfl
theorem tame_preB {k : Int} {r : Pcs} : tame (preB k r) = tame r := by
  unfold preB; split
  · simp [tame, tame1]
  · rfl
theorem wf_preB {k : Int} {r : Pcs} : wf (preB k r) = wf r := by
  unfold preB; split
  · simp [wf]
  · rfl
theorem inn_mid {k : Int} {t p : Nat} {h res : Int} : inn k t p h res [] = base k ++ ([] : List Nat).map (· + 1) := by unfold inn; simp
theorem Mid.blk {d dp t p h h' : Nat} {X Y : Pcs} (b : BlkG d dp t p [] X Y) (hh : t ≤ h) (he : h' = h - t + p) : Mid d dp (X.app (.plain [1] .nil)) (Y.app (.plain [1] .nil)) h h' := by
  have nop : ∀ res tl r r', LoopR (CutR d) res tl dp r h' r' → LoopR (CutR d) res tl dp (.plain [1] r) h' (.plain [1] r') := fun res tl r r' l =>
    .plain (by decide) (show ar [1] = some (0, 0) by decide) (by simpa using l)
  cases b with
  | @one k x a a' ha wa c =>
    obtain ⟨t1, t2, t3⟩ := blk_tame ha
    have hi : ((h : Int) + is4 k - t + p - is4 k) = (h' : Int) := by omega
    refine ⟨fun res tl r r' l => ?_, ?_, ?_, ?_⟩
    · rw [preB_app, preB_app, preB_app, preB_app]
      refine loop_pre (.blk1 ha (by show CutR _ _ _ _ (inn _ _ _ _ _ []) _ _; rw [inn_mid]; exact c) ?_)
      rw [hi]; exact nop _ _ _ _ l
    · rw [preB_app, bh_preB]; simp only [app, Mine.bh, ha, hi]; simp [isLast, ar, arTab, List.lookup]
    · rw [preB_app, tame_preB]; simp only [app, Mine.tame, t1]; rfl
    · rw [preB_app, wf_preB]; simp only [app, Mine.wf, t2, t3, wa]; rfl
  | @two k x a a' b b' ha wa wb c c' =>
    obtain ⟨t1, t2, t3⟩ := blk_tame ha
    have hi : ((h : Int) + is4 k - t + p - is4 k) = (h' : Int) := by omega
    refine ⟨fun res tl r r' l => ?_, ?_, ?_, ?_⟩
    · rw [preB_app, preB_app, preB_app, preB_app]
      refine loop_pre (.blk2 ha (by show CutR _ _ _ _ (inn _ _ _ _ _ []) _ _; rw [inn_mid]; exact c) (by show CutR _ _ _ _ (inn _ _ _ _ _ []) _ _; rw [inn_mid]; exact c') ?_)
      rw [hi]; exact nop _ _ _ _ l
    · rw [preB_app, bh_preB]; simp only [app, Mine.bh, ha, hi]; simp [isLast, ar, arTab, List.lookup]
    · rw [preB_app, tame_preB]; simp only [app, Mine.tame, t1]; rfl
    · rw [preB_app, wf_preB]; simp only [app, Mine.wf, t2, t3, wa, wb]; rfl
theorem inn_end {k : Int} {t p res be : Nat} {tl : List Nat} (hp : p + be = res) : inn k t p ((be + t : Nat) + is4 k) res tl = base k ++ (if be = 0 then tl else []).map (· + 1) := by
  unfold inn
  by_cases hb : be = 0
  · rw [if_pos hb, if_pos ⟨by omega, by omega⟩]
  · rw [if_neg hb, if_neg (by omega)]; rfl
theorem EndR.blk {d dp t p res be : Nat} {tl : List Nat} {X Y : Pcs} (hp : p + be = res) (b : BlkG d dp t p (if be = 0 then tl else []) X Y) : EndR d dp res tl X Y (be + t) := by
  cases b with
  | @one k x a a' ha wa c =>
    obtain ⟨t1, t2, t3⟩ := blk_tame ha
    refine ⟨by rw [wf_preB]; simp only [Mine.wf, t2, t3, wa]; rfl, preB k (.blk1 x a' .nil), loop_pre (.blk1 ha (by show CutR _ _ _ _ (inn _ _ _ _ _ tl) _ _; rw [inn_end hp]; exact c) .nil), fun M h₀ ht hb => ?_⟩
    refine .tame (v := ((be + t : Nat) + is4 k - t + p - is4 k : Int)) (by rw [tame_app, ht, tame_preB]; simp only [Mine.tame, t1]; rfl) ?_
    rw [bh_app _ _ _ _ hb, bh_preB]; simp only [bh, ha]
  | @two k x a a' b b' ha wa wb c c' =>
    obtain ⟨t1, t2, t3⟩ := blk_tame ha
    refine ⟨by rw [wf_preB]; simp only [Mine.wf, t2, t3, wa, wb]; rfl, preB k (.blk2 x a' b' .nil), loop_pre (.blk2 ha (by show CutR _ _ _ _ (inn _ _ _ _ _ tl) _ _; rw [inn_end hp]; exact c) (by show CutR _ _ _ _ (inn _ _ _ _ _ tl) _ _; rw [inn_end hp]; exact c') .nil), fun M h₀ ht hb => ?_⟩
    refine .tame (v := ((be + t : Nat) + is4 k - t + p - is4 k : Int)) (by rw [tame_app, ht, tame_preB]; simp only [Mine.tame, t1]; rfl) ?_
    rw [bh_app _ _ _ _ hb, bh_preB]; simp only [bh, ha]
end Mine

namespace Mine
open PySem PySem.W PyProof.Rows PySem.Calls PySem.Spec

section
variable {c : Cx} {n : Nat} {sc : Scope} {ρ : Loc} {σ : H}
theorem Ev.gref {x : Str} {pos : Pos} {a : Addr} {Q : V → H → Prop} (hx : sc.names.lookup x = some .globalImplicit) (e : nsIn c.K mainGlobals x = some (some (.ref a))) (q : Q (.con (.ref a)) σ)
    (hd : (x == ("__debug__" : Str)) = false := by rfl) : Ev c n sc (.Name x pos) ρ σ Q := Ev.glob hx e (fun w => by simp only [RepV]) q hd
theorem Ev.gint {x : Str} {pos : Pos} {i : Int} {Q : V → H → Prop} (hx : sc.names.lookup x = some .globalImplicit) (e : ∃ t, nsIn c.K mainGlobals x = some (some (.int i t))) (q : Q (.int i) σ)
    (hd : (x == ("__debug__" : Str)) = false := by rfl) : Ev c n sc (.Name x pos) ρ σ Q := let ⟨t, e⟩ := e; Ev.glob hx e (fun w => by simp only [RepV]; exact ⟨_, rfl⟩) q hd
/-- a call of a def of the text by its name -/
theorem Ev.callG {x : Str} {p pos : Pos} {e : Expr} {es : List Expr} {a : Addr} {Q : V → H → Prop} (hx : sc.names.lookup x = some .globalImplicit) (hg : nsIn c.K mainGlobals x = some (some (.ref a))) (hk : keepIn c.K (.ref a) = true)
    (h : Evs c n sc (e :: es) ρ σ fun vs σ₂ => CodeR c n (.ref a) vs σ₂ Q)
    (hd : (x == ("__debug__" : Str)) = false := by rfl)
    (h1 : ∀ env, eval (.Call (.Name x p) (e :: es) [] pos) env = (do callWith pos (← eval (.Name x p) env) [] (backTo pos (starEach (e :: es) env)) (backToKw pos (keywordEach [] env))) := by intro _; rfl)
    (h2 : ∀ env, starEach (e :: es) env = (false, eval e env) :: starEach es env := by intro _; rfl) (h3 : ∀ env, (backTo pos (starEach es env)).any (·.1) = false := by intro _; rfl) :
    Ev c n sc (.Call (.Name x p) (e :: es) [] pos) ρ σ Q :=
  Ev.callK (Ev.gref hx hg ⟨_, rfl, hk, fun d m env w pos a b s Qc E S k => h d m env w pos a b s Qc E S fun vs σ₂ xs w' h' tk q le S' r => k vs σ₂ xs w' h' tk q.call le S' r⟩ hd) h1 h2 h3
end
section
variable {c : Cx} {n : Nat} {σ σ₀ : H} {t a b : Nat} {ts : List Int} {N F : List Ins} {sc : Scope} {ρ : Loc}
theorem Ev.next (k : Ok c) {x : Str} {p1 p2 pos : Pos} {m : Int} {e : Expr} {M : Nat} {Q : V → H → Prop} (S : St3 σ₀ t a b σ ts N F) (hm : m = (M : Int)) (h0 : 0 < M) (hx : sc.names.lookup (Str.ofString "_law_next") = some .globalImplicit) (hl : ρ.lookup (Str.ofString "tape") = some (.ref t))
    (he : ∀ (σ : H) {Q : V → H → Prop}, Q (.int m) σ → Ev c (n + 1) sc e ρ σ Q) (q : ∀ σ' ts' i, i < M → St3 σ₀ t a b σ' ts' N F → Q (.int (i : Nat)) σ') {p3 : Pos} :
    Ev c (n + 1) sc (.BinOp (.Call (.Name (Str.ofString "_law_next") p1) [.Name (Str.ofString "tape") p2] [] p3) .Mod e pos) ρ σ Q :=
  Ev.nextMod (tp := e) (pos' := pos) k hm h0 S (fun hq => Ev.callG hx (g_law_next k) (kp_495 k) (Evs.cons (Ev.loc hl (Evs.nil (next_ok k S hq))))) he fun σ' i hi S' => q σ' _ i hi S'
theorem Ev.nextC (k : Ok c) {p1 p2 p4 pos : Pos} {m : Int} {kk : Nat} (M : Nat) {Q : V → H → Prop} (S : St3 σ₀ t a b σ ts N F) (hx : sc.names.lookup (Str.ofString "_law_next") = some .globalImplicit) (hl : ρ.lookup (Str.ofString "tape") = some (.ref t))
    (q : ∀ σ' ts' i, i < M → St3 σ₀ t a b σ' ts' N F → Q (.int (i : Nat)) σ') {p3 : Pos} (hm : m = (M : Int) := by rfl) (h0 : 0 < M := by decide) :
    Ev c (n + 1) sc (.BinOp (.Call (.Name (Str.ofString "_law_next") p1) [.Name (Str.ofString "tape") p2] [] p3) .Mod (.Constant (.int m) kk p4) pos) ρ σ Q :=
  Ev.next k (x := Str.ofString "tape") S hm h0 hx hl (fun σ _ q => Ev.int q) q

theorem high_ok (k : Ok c) {h w : Nat} {Q : V → H → Prop} (S : St3 σ₀ t a b σ ts N F) (hh : h ≤ 100) (hw : w ≤ 100) (hN : N.length + 300 ≤ sizeLine) (hF : F.length + 300 ≤ sizeLine)
    (q : ∀ σ', St3 σ₀ t a b σ' ts (N ++ pad h w) (F ++ pad h w) → Q (.int w) σ') : CodeR c (n + 2) (.ref 516) [.ref a, .ref b, .int h, .int w] σ Q := by
  refine CodeR.enter (d_law_high k) rfl ?_
  have sc := (d_law_high k).ok
  refine Ex.cons (Ex1.expr sc (Ev.callG rfl (g_law_both k) (kp_509 k) (Evs.cons (Ev.loc rfl (Evs.cons (Ev.loc rfl (Evs.cons ?_)))))))
  refine Ev.bin (Ev.bin (Ev.cLst (X := [[65, 1]]) rfl (by decide) fun i hi => Ev.bin (Ev.loc rfl (Ev.loc rfl (Op2.sub ?_)))))
  have S1 := S.fresh (o := insO [[65, 1]]) hi
  refine Op2.mulList (H.self (o := insO [[65, 1]])) (by omega) (by omega) (by show 1 * _ ≤ _; omega) fun j hj => ?_
  have S2 := S1.fresh (o := .list (List.replicate ((w : Int) - h).toNat ([[65, 1]].map insV)).flatten) hj
  have hj2 : ∀ {o}, ((σ.set i (insO [[65, 1]])).set j o) j = some o := H.self
  refine Ev.bin (Ev.cLst (X := [[26]]) rfl (by decide) fun i' hi' => Ev.bin (Ev.loc rfl (Ev.loc rfl (Op2.sub ?_))))
  have S3 := S2.fresh (o := insO [[26]]) hi'
  refine Op2.mulList (H.self (o := insO [[26]])) (by omega) (by omega) (by show 1 * _ ≤ _; omega) fun j' hj' => ?_
  have S4 := S3.fresh (o := .list (List.replicate ((h : Int) - w).toNat ([[26]].map insV)).flatten) hj'
  refine Op2.addList (H.get hj' (H.get hi' hj2)) H.self (by simp; exact Nat.le_trans (show (w - h) + (h - w) ≤ 200 by omega) (by decide)) fun r hr => ?_
  have S5 := S4.fresh (o := insO (pad h w)) hr
  have off := S4.off hr
  have e : O.list ((List.replicate ((w : Int) - h).toNat ([[65, 1]].map insV)).flatten ++ (List.replicate ((h : Int) - w).toNat ([[26]].map insV)).flatten) = insO (pad h w) := by
    simp only [insO, pad, List.map_cons, List.map_nil, List.flatten_replicate_singleton, List.map_append, List.map_replicate]
    rw [show ((w : Int) - h).toNat = w - h by omega, show ((h : Int) - w).toNat = h - w by omega]
  rw [e]
  refine Evs.nil (both_ok k S5 H.self off ?_ ?_ fun σ' S' => ?_)
  · have := pad_len h w; omega
  · have := pad_len h w; omega
  refine ⟨rfl, ?_⟩
  refine Ex.cons (Ex1.ret sc (Ev.loc rfl ?_))
  exact q σ' S'
noncomputable def deedEs : List Expr := match b_law_deeds with
  | [.Return (some (.List es _)) _] => es
  | _ => []
noncomputable def deedP : Pos × Pos := match b_law_deeds with
  | [.Return (some (.List _ p)) q] => (p, q)
  | _ => default
theorem deeds_body : b_law_deeds = [.Return (some (.List deedEs deedP.1)) deedP.2] := by kernel_rfl
noncomputable def deeds : List (List Ins × Int × Int) := (cDeeds deedEs).getD []
theorem deeds_eq : cDeeds deedEs = some deeds := by decide +kernel
theorem deeds_small : (deeds.all fun x => small x.1) = true := by decide +kernel
theorem deeds_ok {Q : V → H → Prop} (k : Ok c) (q : ∀ j l σ', Sub σ σ' → σ' j = some (.list l) → DeedsAt σ σ' l deeds → Q (.ref j) σ') : CodeR c (n + 1) (.ref 502) [] σ Q := by
  refine CodeR.enter (d_law_deeds k) rfl ?_
  rw [deeds_body]
  have h1 := (d_law_deeds k).ok
  have hd := deeds_eq
  generalize s_law_deeds = sc at h1 ⊢
  generalize deedP.1 = p1
  generalize deedP.2 = p2
  generalize deedEs = es at hd ⊢
  refine Ex.cons (Ex1.ret h1 ?_)
  refine Ev.listE (Evs.cDeeds (B := σ) (.refl _) hd deeds_small fun vs σ' s d => ⟨?_, fun j hj => ?_⟩)
  · rw [d.len]; exact Nat.le_trans (show deeds.length ≤ 100 by decide +kernel) (by decide)
  · exact q j vs _ (s.trans (Sub.fresh hj)) H.self (d.mono (Sub.fresh hj))

theorem run_shift : ∀ {l : List Ins} {h h' : Nat} (e : Nat), run l h = some h' → run l (h + e) = some (h' + e)
  | [], h, h', e, x => by cases x; rfl
  | y :: l, h, h', e, x => by
    unfold run at x
    split at x
    · split at x
      · split at x
        · rename_i h1 x1 t p h2 h3
          rw [run, if_pos h1, h2]
          simp only [show t ≤ h + e by omega, if_true]
          have := run_shift e x
          rwa [show h + e - t + p = h - t + p + e by omega]
        · cases x
      · cases x
    · cases x
theorem deeds_run : (deeds.all fun x => decide (0 ≤ x.2.1) && decide (0 ≤ x.2.2) && decide (x.2.1 ≤ 3) && decide (x.2.2 ≤ 2) && decide (x.1.length ≤ 10) && (run x.1 x.2.1.toNat == some x.2.2.toNat)) = true := by decide +kernel
theorem deeds_len : deeds.length = 31 := by decide +kernel
theorem call_run {i kd : Nat} (hi : i < 10) (hk : kd = if i = 0 then 5 else i - 1) : run [[16, (i : Int)]] (kd / 3) = some (kd % 3) := by
  subst hk
  exact (by decide +kernel : ∀ i : Nat, i < 10 → run [[16, (i : Int)]] ((if i = 0 then 5 else i - 1) / 3) = some ((if i = 0 then 5 else i - 1) % 3)) i hi
theorem indirect_run {i : Nat} (hi : i < 9) : run [[17, (i : Int), 0]] (i / 3 + 1) = some (i % 3) :=
  (by decide +kernel : ∀ i : Nat, i < 9 → run [[17, (i : Int), 0]] (i / 3 + 1) = some (i % 3)) i hi
theorem bb_max : bootBuiltins (Str.ofString "max") = some (.builtin "max") := by kernel_rfl
theorem bb_len : bootBuiltins (Str.ofString "len") = some (.builtin "len") := by kernel_rfl
theorem bb_int : bootBuiltins (Str.ofString "int") = some (.type "int") := by kernel_rfl
theorem bb_range : bootBuiltins (Str.ofString "range") = some (.type "range") := by kernel_rfl
theorem bb_tuple : bootBuiltins (Str.ofString "tuple") = some (.type "tuple") := by kernel_rfl
theorem bb_enumerate : bootBuiltins (Str.ofString "enumerate") = some (.type "enumerate") := by kernel_rfl
theorem maxE (h t : Nat) : (if (t : Int) > h then (t : Int) else h) = ((max h t : Nat) : Int) := by split <;> omega
theorem seq_nat {i n : Nat} (h : i < n) : seqIndex? (i : Int) n = some i := by
  have h1 : ¬ ((i : Int) < 0) := by omega
  have h2 : (decide (0 ≤ (i : Int)) && decide ((i : Int) < n)) = true := by simp; exact h
  simp only [seqIndex?, if_neg h1, h2, if_true, Int.toNat_natCast]
theorem seq_neg {i n : Nat} (h : i < n) : seqIndex? (-1 - (i : Int)) n = some (n - 1 - i) := by
  have h1 : (-1 - (i : Int)) < 0 := by omega
  have h2 : (decide (0 ≤ (-1 - (i : Int) + n)) && decide ((-1 - (i : Int) + n) < n)) = true := by simp; omega
  simp only [seqIndex?, if_pos h1, h2, if_true, Option.some.injEq]
  omega
theorem fdivE (m : Nat) : (m : Int).fdiv 3 = ((m / 3 : Nat) : Int) := by rw [Int.fdiv_eq_ediv_of_nonneg _ (by omega)]; rfl
theorem fmodE (m : Nat) : (m : Int).fmod 3 = ((m % 3 : Nat) : Int) := by rw [Int.fmod_eq_emod_of_nonneg _ (by omega)]; rfl
theorem pylong3 {m : Nat} (h : m ≤ 8) : Builtin.divisionGoesByPylong (m : Int) 3 = false := by
  have : m = 0 ∨ m = 1 ∨ m = 2 ∨ m = 3 ∨ m = 4 ∨ m = 5 ∨ m = 6 ∨ m = 7 ∨ m = 8 := by omega
  rcases this with rfl | rfl | rfl | rfl | rfl | rfl | rfl | rfl | rfl <;> rfl
theorem insE {X : List Ins} : O.list (X.map insV) = insO X := rfl

theorem plain_ok (k : Ok c) {h : Nat} {Q : V → H → Prop} (S : St3 σ₀ t a b σ ts N F) (hh : h ≤ 50) (hN : N.length + 1000 ≤ sizeLine) (hF : F.length + 1000 ≤ sizeLine)
    (q : ∀ σ' ts' (X : List Ins) (h' : Nat), St3 σ₀ t a b σ' ts' (N ++ X) (F ++ X) → run X h = some h' → h' ≤ max h 3 + 2 → X.length ≤ 200 → Q (.int h') σ') : CodeR c (n + 3) (.ref 523) [.ref t, .ref a, .ref b, .int h] σ Q := by
  refine CodeR.enter (d_law_plain k) rfl ?_
  have sc := (d_law_plain k).ok
  refine Ex.cons (Ex1.assign sc rfl (Ev.nextC k 40 S rfl rfl fun σ₁ ts₁ i hi S₁ => ?_))
  have tail : ∀ (ρ : Loc) (σ₂ : H) (ts₂ : List Int) (s tk pt : Nat) (X : List Ins), ρ.lookup (Str.ofString "near") = some (.ref a) → ρ.lookup (Str.ofString "far") = some (.ref b) → ρ.lookup (Str.ofString "high") = some (.int h) →
      ρ.lookup (Str.ofString "some") = some (.ref s) → ρ.lookup (Str.ofString "takes") = some (.int tk) → ρ.lookup (Str.ofString "puts") = some (.int pt) → St3 σ₀ t a b σ₂ ts₂ N F → σ₂ s = some (insO X) → St3.Off t a b s →
      run X tk = some pt → tk ≤ 4 → pt ≤ 2 → X.length ≤ 10 → Ex c (n + 2) s_law_plain (b_law_plain.drop 2) ρ σ₂ fun fl _ σ' => match fl with | .ret v => Q v σ' | .next => Q .none σ' | _ => False := by
    intro ρ σ₂ ts₂ s tk pt X l1 l2 l3 l4 l5 l6 S₂ hs ho hr ht hp hX
    refine Ex.cons (Ex1.assign sc rfl (Ev.callG rfl (g_law_high k) (kp_516 k) (Evs.cons (Ev.loc l1 (Evs.cons (Ev.loc l2 (Evs.cons (Ev.loc l3 (Evs.cons ?_)))))))))
    refine Ev.callB (Ev.blt rfl (gb_max k) bb_max ⟨_, rfl, Evs.cons (Ev.loc l3 (Evs.cons (Ev.loc l5 (Evs.nil (CallR.maxI ?_)))))⟩ (by decide) rfl)
    rw [maxE]
    refine Evs.nil (high_ok k S₂.base (by omega) (by omega) (by omega) (by omega) fun σ₃ S₃' => ?_)
    have S₃ := S₂.trans S₃'
    have l1' : (setL ρ (Str.ofString "high") (.int (max h tk : Nat))).lookup (Str.ofString "near") = some (.ref a) := (lookup_setL ..).trans ((if_neg (by decide)).trans l1)
    have l2' : (setL ρ (Str.ofString "high") (.int (max h tk : Nat))).lookup (Str.ofString "far") = some (.ref b) := (lookup_setL ..).trans ((if_neg (by decide)).trans l2)
    have l3' : (setL ρ (Str.ofString "high") (.int (max h tk : Nat))).lookup (Str.ofString "high") = some (.int (max h tk : Nat)) := (lookup_setL ..).trans (if_pos rfl)
    have l4' : (setL ρ (Str.ofString "high") (.int (max h tk : Nat))).lookup (Str.ofString "some") = some (.ref s) := (lookup_setL ..).trans ((if_neg (by decide)).trans l4)
    have l5' : (setL ρ (Str.ofString "high") (.int (max h tk : Nat))).lookup (Str.ofString "takes") = some (.int tk) := (lookup_setL ..).trans ((if_neg (by decide)).trans l5)
    have l6' : (setL ρ (Str.ofString "high") (.int (max h tk : Nat))).lookup (Str.ofString "puts") = some (.int pt) := (lookup_setL ..).trans ((if_neg (by decide)).trans l6)
    have hl := pad_len h (max h tk)
    refine Ex.cons (Ex1.expr sc (Ev.callG rfl (g_law_both k) (kp_509 k) (Evs.cons (Ev.loc l1' (Evs.cons (Ev.loc l2' (Evs.cons (Ev.loc l4' (Evs.nil ?_)))))))))
    refine both_ok k S₃ (S₃'.get ho hs) ho (by rw [List.length_append]; omega) (by rw [List.length_append]; omega) fun σ₄ S₄ => ⟨rfl, ?_⟩
    refine Ex.cons (Ex1.ret sc (Ev.bin (Ev.bin (Ev.loc l3' (Ev.loc l5' (Op2.sub (Ev.loc l6' (Op2.add ?_))))))))
    have hrun : run (pad h (max h tk) ++ X) h = some (max h tk - tk + pt) := by
      rw [run_app (run_pad _ _)]
      have := run_shift (max h tk - tk) hr
      rw [show tk + (max h tk - tk) = max h tk by omega] at this
      rw [this]; congr 1; omega
    rw [List.append_assoc N, List.append_assoc F] at S₄
    have q' := q _ _ _ _ S₄ hrun (by omega) (by rw [List.length_append]; omega)
    rw [show ((max h tk : Nat) : Int) - tk + pt = ((max h tk - tk + pt : Nat) : Int) by omega]
    exact q'
  refine Ex.cons (Ex1.iff sc (Tr.cmp (Ev.loc rfl (Ev.int (Op2.ltI ⟨_, rfl, ?_⟩)))))
  by_cases h1 : i < 31
  · rw [show decide ((i : Int) < 31) = true from decide_eq_true (by omega)]
    obtain ⟨x, hx⟩ : ∃ x, deeds[i]? = some x := ⟨_, List.getElem?_eq_getElem (by rw [deeds_len]; exact h1)⟩
    refine Ex.cons (Ex1.unpack (xs := [Str.ofString "some", Str.ofString "takes", Str.ofString "puts"]) sc (by decide) (fun env => ⟨[(_, _), (_, _), (_, _)], rfl, rfl⟩) ?_)
    refine Ev.sub (Ev.callK0 (Ev.gref rfl (g_law_deeds k) ⟨_, rfl, kp_502 k, CodeR.call (deeds_ok k fun j l σ₂ s hj d => ?_)⟩))
    obtain ⟨v, hv, si, rfl, hsi, hn⟩ := d.get hx
    refine Ev.loc rfl (Op2.itemList hj (by omega) (by omega) (seq_nat (by rw [d.len, deeds_len]; exact h1)) hv ⟨_, rfl, rfl, ?_⟩)
    have hr := List.all_eq_true.mp deeds_run x (List.mem_of_getElem? hx)
    simp only [Bool.and_eq_true, decide_eq_true_eq, beq_iff_eq] at hr
    obtain ⟨⟨⟨⟨⟨r1, r2⟩, r3⟩, r4⟩, r5⟩, r6⟩ := hr
    refine Ex.nil (tail _ σ₂ ts₁ si x.2.1.toNat x.2.2.toNat x.1 rfl rfl rfl rfl ?_ ?_ (S₁.sub s) hsi (S₁.off hn) r6 (by omega) (by omega) r5)
    · rw [show ((x.2.1.toNat : Nat) : Int) = x.2.1 by omega]; rfl
    · rw [show ((x.2.2.toNat : Nat) : Int) = x.2.2 by omega]; rfl
  · rw [show decide ((i : Int) < 31) = false from decide_eq_false (by omega)]
    refine Ex.cons (Ex1.iff sc (Tr.cmp (Ev.loc rfl (Ev.int (Op2.ltI ⟨_, rfl, ?_⟩)))))
    by_cases h2 : i < 36
    · rw [show decide ((i : Int) < 36) = true from decide_eq_true (by omega)]
      refine Ex.cons (Ex1.assign sc rfl (Ev.nextC k 10 S₁ rfl rfl fun σ₂ ts₂ i' hi' S₂ => ?_))
      refine Ex.cons (Ex1.assign sc rfl (Ev.mono (Q := fun v σ' => v = .int ((if i' = 0 then 5 else i' - 1 : Nat) : Int) ∧ σ' = σ₂) (Ev.ite (Tr.cmp (Ev.loc rfl (Ev.int (Op2.eqI ⟨_, rfl, ?_⟩))))) ?_))
      · by_cases h0 : i' = 0
        · subst h0
          exact Ev.int ⟨rfl, rfl⟩
        · rw [show ((i' : Int) == 0) = false from beq_eq_false_iff_ne.mpr (by omega)]
          refine Ev.bin (Ev.loc rfl (Ev.int (Op2.sub ⟨?_, rfl⟩)))
          rw [if_neg h0]; congr 1; omega
      · rintro _ _ ⟨rfl, rfl⟩
        have hcr := call_run hi' rfl
        generalize hkd : (if i' = 0 then 5 else i' - 1) = kd at hcr ⊢
        have hk8 : kd ≤ 8 := by rw [← hkd]; split <;> omega
        refine Ex.cons (Ex1.swap (xs := [Str.ofString "some", Str.ofString "takes", Str.ofString "puts"]) sc (by decide) ?_)
        refine Ev.tuple <| Evs.cons <| Ev.listE <| Evs.cons <| Ev.tuple <| Evs.cons <| Ev.int <| Evs.cons <| Ev.loc rfl <| Evs.nil ⟨Nat.le_of_ble_eq_true rfl, ?_⟩
        refine Evs.nil ⟨Nat.le_of_ble_eq_true rfl, fun j hj => ?_⟩
        refine Evs.cons (Ev.bin (Ev.loc rfl (Ev.int (Op2.fdiv (by decide) (pylong3 hk8) ?_))))
        refine Evs.cons (Ev.bin (Ev.loc rfl (Ev.int (Op2.mod (by decide) ?_))))
        refine Evs.nil ⟨Nat.le_of_ble_eq_true rfl, _, rfl, rfl, ?_⟩
        rw [fdivE, fmodE]
        exact Ex.nil (Ex.nil (tail _ _ ts₂ j (kd / 3) (kd % 3) [[16, (i' : Int)]] rfl rfl rfl rfl rfl rfl (S₂.fresh hj) H.self (S₂.off hj) hcr (by omega) (by omega) (Nat.le_of_ble_eq_true rfl)))
    · rw [show decide ((i : Int) < 36) = false from decide_eq_false (by omega)]
      refine Ex.cons (Ex1.assign sc rfl (Ev.nextC k 9 S₁ rfl rfl fun σ₂ ts₂ i' hi' S₂ => ?_))
      refine Ex.cons (Ex1.swap (xs := [Str.ofString "some", Str.ofString "takes", Str.ofString "puts"]) sc (by decide) ?_)
      refine Ev.tuple <| Evs.cons <| Ev.listE <| Evs.cons <| Ev.tuple <| Evs.cons <| Ev.int <| Evs.cons <| Ev.loc rfl <| Evs.cons <| Ev.int <| Evs.nil ⟨Nat.le_of_ble_eq_true rfl, ?_⟩
      refine Evs.nil ⟨Nat.le_of_ble_eq_true rfl, fun j hj => ?_⟩
      refine Evs.cons (Ev.bin (Ev.bin (Ev.loc rfl (Ev.int (Op2.fdiv (by decide) (pylong3 (by omega)) (Ev.int (Op2.add ?_)))))))
      refine Evs.cons (Ev.bin (Ev.loc rfl (Ev.int (Op2.mod (by decide) ?_))))
      refine Evs.nil ⟨Nat.le_of_ble_eq_true rfl, _, rfl, rfl, ?_⟩
      rw [fdivE, fmodE]
      exact Ex.nil (Ex.nil (tail _ _ ts₂ j (i' / 3 + 1) (i' % 3) [[17, (i' : Int), 0]] rfl rfl rfl rfl rfl rfl (S₂.fresh hj) H.self (S₂.off hj) (indirect_run hi') (by omega) (by omega) (Nat.le_of_ble_eq_true rfl)))
end
end Mine

namespace Mine
open PySem PySem.W PyProof.Rows PySem.Calls PySem.Spec

section
variable {c : Cx} {n : Nat} {sc : Scope} {ρ : Loc} {σ : H}
/-- a comprehension that maps a list, the heap kept -/
theorem LoopC.map {x : Str} {ρf : Loc} {elt : Expr} {i : Nat} {l : List V} {g : V → V} {Q : List V → H → Prop} (hi : σ i = some (.list l)) (hz : l.length ≤ sizeLine)
    (he : ∀ v ∈ l, ∀ {Q : V → H → Prop}, Q (g v) σ → Ev c n sc elt ((x, v) :: ρf) σ Q) (q : Q (l.map g) σ) :
    ∀ (m k : Nat) (acc : List V), k + m = l.length → acc = (l.take k).map g → LoopC c n sc x ρf [] elt (itList i) Q (m + 1) k acc σ
  | 0, k, acc, hk, ha => by
    have : l[k]? = none := by rw [List.getElem?_eq_none_iff]; omega
    simp only [LoopC, itList, hi, this]
    rw [ha, List.take_of_length_le (by omega)]; exact q
  | m + 1, k, acc, hk, ha => by
    have hlt : k < l.length := by omega
    have : l[k]? = some l[k] := List.getElem?_eq_getElem hlt
    simp only [LoopC, itList, hi, this, Tests, if_true]
    refine he _ (List.getElem_mem hlt) ⟨?_, ?_⟩
    · rw [ha, List.length_map, List.length_take]; omega
    · refine LoopC.map hi hz he q m (k + 1) _ (by omega) ?_
      rw [ha, List.take_add_one, this, List.map_append]; rfl
end

noncomputable def W (d : Nat) : Nat := 5000 * 10 ^ d
theorem W_succ (d : Nat) : W (d + 1) = 10 * W d := by unfold W; rw [Nat.pow_succ]; omega
theorem W_pos : ∀ d : Nat, 5000 ≤ W d
  | 0 => by decide
  | d + 1 => by rw [W_succ]; have := W_pos d; omega
noncomputable def ListC (c : Cx) (d n : Nat) : Prop := ∀ {σ₀ σ : H} {t a b : Nat} {ts : List Int} {N F : List Ins} {h res dp tl lb : Nat} {tls ls : List Nat} {Q : V → H → Prop},
  St3 σ₀ t a b σ ts N F → σ tl = some (natO tls) → St3.Off t a b tl → σ lb = some (natO ls.reverse) → St3.Off t a b lb → ls.length = dp + 1 → (∀ x ∈ ls, x ≤ 2) → tls.length ≤ dp + 1 → dp + d ≤ 3 → h ≤ 2 → res ≤ 2 →
  N.length + W d + 2000 ≤ sizeLine → F.length + W d + 2000 ≤ sizeLine →
  (∀ σ' ts' X Y, St3 σ₀ t a b σ' ts' (N ++ X.flat) (F ++ Y.flat) → wf X = true → CutR (d + 1) X h res tls dp Y → X.flat.length ≤ W d → Y.flat.length ≤ W d → Q .none σ') →
  CodeR c n (.ref 542) [.ref t, .ref a, .ref b, .int h, .int res, .ref tl, .ref lb, .int d] σ Q
theorem about_ok {kc ab : Int} {t p : Nat} (hk : kc = 2 ∨ kc = 3 ∨ kc = 4) (ht : t ≤ 2) (hp : p ≤ 2) (ha : ab = 3 * (t : Int) + p ∨ (ab = -64 ∧ t = 0 ∧ p = 0) ∨ (ab = -1 ∧ t = 0 ∧ p = 1)) : blkAr [kc, ab] = some (kc, t, p) := by
  have h1 : t = 0 ∨ t = 1 ∨ t = 2 := by omega
  have h2 : p = 0 ∨ p = 1 ∨ p = 2 := by omega
  rcases ha with rfl | ⟨rfl, rfl, rfl⟩ | ⟨rfl, rfl, rfl⟩
  · rcases hk with rfl | rfl | rfl <;> rcases h1 with rfl | rfl | rfl <;> rcases h2 with rfl | rfl | rfl <;> decide
  · rcases hk with rfl | rfl | rfl <;> decide
  · rcases hk with rfl | rfl | rfl <;> decide
theorem mul3 {t : Nat} (ht : t ≤ 2) : IntMulOk 3 (t : Int) := .of_left (by decide)
theorem flat_preB {k : Int} {r : Pcs} : (preB k r).flat = (if k = 4 then [[32, 0]] else []) ++ r.flat := by
  unfold preB; split <;> rfl

theorem natO_app {l l' : List Nat} : O.list (l.map natV ++ l'.map natV) = natO (l ++ l') := by rw [← List.map_append]; rfl
section
variable {c : Cx} {m : Nat} {σ σ₀ : H} {t a b : Nat} {ts : List Int} {N F : List Ins}
theorem block_ok (k : Ok c) {d : Nat} (L : ListC c d (m + 4)) {dp tk p tl lb : Nat} {tls ls : List Nat} {Q : V → H → Prop} (S : St3 σ₀ t a b σ ts N F) (htl : σ tl = some (natO tls)) (otl : St3.Off t a b tl)
    (hlb : σ lb = some (natO ls.reverse)) (olb : St3.Off t a b lb) (hls : ls.length = dp + 1) (hl2 : ∀ x ∈ ls, x ≤ 2) (htls : tls.length ≤ dp + 1) (hdp : dp + (d + 1) ≤ 3) (htk : tk ≤ 2) (hp : p ≤ 2)
    (hN : N.length + 2 * W d + 2010 ≤ sizeLine) (hF : F.length + 2 * W d + 2010 ≤ sizeLine)
    (q : ∀ σ' ts' X Y, St3 σ₀ t a b σ' ts' (N ++ X.flat) (F ++ Y.flat) → BlkG (d + 1) dp tk p tls X Y → X.flat.length ≤ 2 * W d + 4 → Y.flat.length ≤ 2 * W d + 4 → Q .none σ') :
    CodeR c (m + 5) (.ref 528) [.ref t, .ref a, .ref b, .int tk, .int p, .ref tl, .ref lb, .int (d + 1 : Nat)] σ Q := by
  refine CodeR.enter (d_law_block k) rfl ?_
  have sc := (d_law_block k).ok
  refine Ex.cons (Ex1.assign sc rfl (Ev.sub (Ev.listE (Evs.cons (Ev.int (Evs.cons (Ev.int (Evs.cons (Ev.int (Evs.nil ⟨Nat.le_of_ble_eq_true rfl, fun j hj => ?_⟩))))))))))
  refine Ev.nextC k 3 (S.fresh hj).base rfl rfl fun σ₁ ts₁ i hi S₁ => ?_
  have hj₁ := S₁.get (S.off hj) H.self
  have htl := S₁.get otl (H.get hj htl)
  have hlb := S₁.get olb (H.get hj hlb)
  replace S := (S.fresh hj).trans S₁
  obtain ⟨kc, hkc, hk⟩ : ∃ kc : Int, [V.int 2, V.int 3, V.int 4][i]? = some (V.int kc) ∧ (kc = 2 ∨ kc = 3 ∨ kc = 4) := by
    have : i = 0 ∨ i = 1 ∨ i = 2 := by omega
    rcases this with rfl | rfl | rfl
    · exact ⟨2, rfl, .inl rfl⟩
    · exact ⟨3, rfl, .inr (.inl rfl)⟩
    · exact ⟨4, rfl, .inr (.inr rfl)⟩
  refine Op2.itemList hj₁ (by omega) (by omega) (seq_nat hi) hkc ?_
  clear hj₁ S₁ hkc hj
  refine Ex.cons (Ex1.assign sc rfl (Ev.bin (Ev.bin (Ev.int (Ev.loc rfl (Op2.mul (mul3 htk) (Ev.loc rfl (Op2.add ?_))))))))
  have tail : ∀ (ab : Int) (σ₂ : H) (ts₂ : List Int), (ab = 3 * (tk : Int) + p ∨ (ab = -64 ∧ tk = 0 ∧ p = 0) ∨ (ab = -1 ∧ tk = 0 ∧ p = 1)) → St3 σ₀ t a b σ₂ ts₂ N F → σ₂ tl = some (natO tls) → σ₂ lb = some (natO ls.reverse) →
      Ex c (m + 4) s_law_block (b_law_block.drop 3) [(Str.ofString "tape", .ref t), (Str.ofString "near", .ref a), (Str.ofString "far", .ref b), (Str.ofString "takes", .int tk), (Str.ofString "puts", .int p), (Str.ofString "tails", .ref tl),
        (Str.ofString "labels", .ref lb), (Str.ofString "depth", .int (d + 1 : Nat)), (Str.ofString "code", .int kc), (Str.ofString "about", .int ab)] σ₂
        fun fl _ σ' => match fl with | .ret v => Q v σ' | .next => Q .none σ' | _ => False := by
    intro ab σ₂ ts₂ hab S htl hlb
    have hblk := about_ok hk htk hp hab
    refine Ex.cons <| Ex1.expr sc <| Ev.callG rfl (g_law_both k) (kp_509 k) <| Evs.cons <| Ev.loc rfl <| Evs.cons <| Ev.loc rfl <| Evs.cons <| Ev.bin <| Ev.mono (Q := fun v σ' => ∃ j, v = .ref j ∧ σ' = σ₂.set j (insO (if kc = 4 then [[32, 0]] else [])) ∧ σ₂ j = none)
      (Ev.ite <| Tr.cmp <| Ev.loc rfl <| Ev.int <| Op2.eqI ⟨_, rfl, ?_⟩) ?_
    · by_cases h4 : kc = 4
      · rw [if_pos h4, show (kc == 4) = true from beq_iff_eq.mpr h4]
        exact Ev.cLst (X := [[32, 0]]) rfl (by decide) fun j hj => ⟨j, rfl, rfl, hj⟩
      · rw [if_neg h4, show (kc == 4) = false from beq_eq_false_iff_ne.mpr h4]
        exact Ev.cLst (X := []) rfl (by decide) fun j hj => ⟨j, rfl, rfl, hj⟩
    rintro _ _ ⟨j, rfl, rfl, hj⟩
    refine Ev.listE <| Evs.cons <| Ev.tuple <| Evs.cons <| Ev.loc rfl <| Evs.cons <| Ev.loc rfl <| Evs.nil ⟨Nat.le_of_ble_eq_true rfl, Evs.nil ⟨Nat.le_of_ble_eq_true rfl, fun j' hj' => ?_⟩⟩
    refine Op2.addList (H.get hj' H.self) H.self ?_ fun r hr => ?_
    · split <;> exact Nat.le_of_ble_eq_true rfl
    have e : O.list ((if kc = 4 then [[32, 0]] else []).map insV ++ [.tup [.int kc, .int ab]]) = insO ((if kc = 4 then [[32, 0]] else []) ++ [[kc, ab]]) := by rw [insO, List.map_append]; rfl
    rw [e]
    have S1 := ((S.fresh (o := insO (if kc = 4 then [[32, 0]] else [])) hj).fresh (o := .list [.tup [.int kc, .int ab]]) hj').fresh (o := insO ((if kc = 4 then [[32, 0]] else []) ++ [[kc, ab]])) hr
    have htl := H.get (o' := insO ((if kc = 4 then [[32, 0]] else []) ++ [[kc, ab]])) hr (H.get (o' := .list [.tup [.int kc, .int ab]]) hj' (H.get (o' := insO (if kc = 4 then [[32, 0]] else [])) hj htl))
    have hlb := H.get (o' := insO ((if kc = 4 then [[32, 0]] else []) ++ [[kc, ab]])) hr (H.get (o' := .list [.tup [.int kc, .int ab]]) hj' (H.get (o' := insO (if kc = 4 then [[32, 0]] else [])) hj hlb))
    have or := (((S.fresh (o := insO (if kc = 4 then [[32, 0]] else [])) hj).fresh (o := .list [.tup [.int kc, .int ab]]) hj')).off hr
    generalize hpre : (if kc = 4 then [[32, 0]] else []) ++ [[kc, ab]] = pre at *
    have hpl : pre.length ≤ 2 := by rw [← hpre]; split <;> simp
    refine Evs.nil (both_ok k S1.base H.self or (by omega) (by omega) fun σ₃ S₃ => ⟨rfl, ?_⟩)
    replace htl := S₃.get otl htl
    replace hlb := S₃.get olb hlb
    replace S₃ := S1.trans S₃
    clear S1 or e
    refine Ex.cons <| Ex1.assign sc rfl <| Ev.mono (Q := fun v σ' => v = .int ((if kc = 3 then tk else p : Nat) : Int) ∧ σ₃ = σ') (Ev.ite <| Tr.cmp <| Ev.loc rfl <| Ev.int <| Op2.eqI ⟨_, rfl, ?_⟩) ?_
    · by_cases h3 : kc = 3
      · rw [if_pos h3, show (kc == 3) = true from beq_iff_eq.mpr h3]; exact Ev.loc rfl ⟨rfl, rfl⟩
      · rw [if_neg h3, show (kc == 3) = false from beq_eq_false_iff_ne.mpr h3]; exact Ev.loc rfl ⟨rfl, rfl⟩
    rintro _ _ ⟨rfl, rfl⟩
    have hlab2 : (if kc = 3 then tk else p) ≤ 2 := by split <;> assumption
    generalize (if kc = 3 then tk else p) = label at hlab2 ⊢
    refine Ex.cons <| Ex1.assign sc rfl <| Ev.bin <| Ev.mono (Q := fun v σ' => ∃ j, v = .ref j ∧ σ' = σ₃.set j (natO (base kc)) ∧ σ₃ j = none) (Ev.ite <| Tr.cmp <| Ev.loc rfl <| Ev.int <| Op2.eqI ⟨_, rfl, ?_⟩) ?_
    · by_cases h3 : kc = 3
      · rw [show base kc = [] by rw [base, if_pos h3], show (kc == 3) = true from beq_iff_eq.mpr h3]; exact Ev.listE (Evs.nil ⟨Nat.le_of_ble_eq_true rfl, fun j hj => ⟨j, rfl, rfl, hj⟩⟩)
      · rw [show base kc = [0] by rw [base, if_neg h3], show (kc == 3) = false from beq_eq_false_iff_ne.mpr h3]; exact Ev.listE <| Evs.cons <| Ev.int <| Evs.nil ⟨Nat.le_of_ble_eq_true rfl, fun j hj => ⟨j, rfl, rfl, hj⟩⟩
    rintro _ _ ⟨j₂, rfl, rfl, hj₂⟩
    have hg : (tls.map natV).map (fun v => match v with | .int i => .int (i + 1) | v => v) = (tls.map (· + 1)).map natV := by
      rw [List.map_map, List.map_map]
      exact List.map_congr_left fun x _ => by simp [natV]
    refine Ev.comp ⟨rfl, rfl⟩ (by rfl) (by rfl) rfl <| IterE.of <| Ev.loc rfl ⟨itList tl, Itr.list (H.get hj₂ htl), (tls.map natV).length + 1,
      LoopC.map (g := fun v => match v with | .int i => .int (i + 1) | v => v) (H.get hj₂ htl) (by rw [List.length_map]; exact Nat.le_trans (show tls.length ≤ 10 by omega) (Nat.le_of_ble_eq_true rfl))
        (fun v hv Q q => ?_) ?_ (tls.map natV).length 0 [] (by omega) rfl⟩
    · obtain ⟨x, _, rfl⟩ := List.mem_map.mp hv
      exact Ev.bin <| Ev.loc rfl <| Ev.int <| Op2.add q
    rw [hg]
    intro j₃ hj₃
    have e₂ : O.list ((base kc).map natV ++ (tls.map (· + 1)).map natV) = natO (base kc ++ tls.map (· + 1)) := natO_app
    have hbl : (base kc).length ≤ 1 := by unfold base; split <;> simp
    refine Op2.addList (H.get hj₃ H.self) H.self ?_ fun r₂ hr₂ => ?_
    · rw [List.length_map, List.length_map, List.length_map]; exact Nat.le_trans (show _ ≤ 20 by omega) (Nat.le_of_ble_eq_true rfl)
    rw [e₂]
    generalize hinn : base kc ++ tls.map (· + 1) = inner at *
    have hil : inner.length ≤ dp + 1 + 1 := by rw [← hinn, List.length_append, List.length_map]; omega
    replace htl := H.get (o' := natO inner) hr₂ (H.get (o' := .list ((tls.map (· + 1)).map natV)) hj₃ (H.get (o' := natO (base kc)) hj₂ htl))
    replace hlb := H.get (o' := natO inner) hr₂ (H.get (o' := .list ((tls.map (· + 1)).map natV)) hj₃ (H.get (o' := natO (base kc)) hj₂ hlb))
    have S₄ := ((S₃.fresh (o := natO (base kc)) hj₂).fresh (o := .list ((tls.map (· + 1)).map natV)) hj₃).fresh (o := natO inner) hr₂
    have oin := ((S₃.fresh (o := natO (base kc)) hj₂).fresh (o := .list ((tls.map (· + 1)).map natV)) hj₃).off hr₂
    have hin : (((σ₃.set j₂ (natO (base kc))).set j₃ (.list ((tls.map (· + 1)).map natV))).set r₂ (natO inner)) r₂ = some (natO inner) := H.self
    generalize ((σ₃.set j₂ (natO (base kc))).set j₃ (.list ((tls.map (· + 1)).map natV))).set r₂ (natO inner) = σ₄ at *
    -- a call of _law_list
    have hls' : (label :: ls).length = dp + 1 + 1 := by rw [List.length_cons, hls]
    have hl2' : ∀ x ∈ label :: ls, x ≤ 2 := fun x hx => by rcases List.mem_cons.mp hx with rfl | hx; exact hlab2; exact hl2 x hx
    have elbl : O.list (ls.reverse.map natV ++ [.int label]) = natO (label :: ls).reverse := by rw [natO, List.reverse_cons, List.map_append]; rfl
    have esub : ((d + 1 : Nat) : Int) - 1 = (d : Nat) := by omega
    have fin : ∀ (ρ : Loc) (σ' : H) (ts' : List Int) (X Y : Pcs) (Xf Yf : List Ins), ρ.lookup (Str.ofString "near") = some (.ref a) → ρ.lookup (Str.ofString "far") = some (.ref b) → St3 σ₀ t a b σ' ts' (N ++ Xf) (F ++ Yf) →
        X.flat = Xf ++ [[11]] → Y.flat = Yf ++ [[11]] → Xf.length ≤ 2 * W d + 3 → Yf.length ≤ 2 * W d + 3 → BlkG (d + 1) dp tk p tls X Y →
        Ex c (m + 4) s_law_block (b_law_block.drop 8) ρ σ' fun fl _ σ' => match fl with | .ret v => Q v σ' | .next => Q .none σ' | _ => False := by
      intro ρ σ' ts' X Y Xf Yf l1 l2 S eX eY hX hY hB
      refine Ex.cons <| Ex1.expr sc <| Ev.callG rfl (g_law_both k) (kp_509 k) <| Evs.cons <| Ev.loc l1 <| Evs.cons <| Ev.loc l2 <| Evs.cons <| Ev.cLst (X := [[11]]) rfl (by decide) fun j hj => Evs.nil <| both_ok k (S.fresh hj) H.self (S.off hj) ?_ ?_ fun σ₅ S₅ => ⟨rfl, Ex.nil (q σ₅ ts' X Y ?_ hB ?_ ?_)⟩
      · simp only [List.length_append, List.length_cons, List.length_nil]; omega
      · simp only [List.length_append, List.length_cons, List.length_nil]; omega
      · rw [List.append_assoc N, List.append_assoc F, ← eX, ← eY] at S₅; exact S₅
      · rw [eX]; simp only [List.length_append, List.length_cons, List.length_nil]; omega
      · rw [eY]; simp only [List.length_append, List.length_cons, List.length_nil]; omega
    refine Ex.cons <| Ex1.expr sc <| Ev.callG rfl (g_law_list k) (kp_542 k) <| Evs.cons <| Ev.loc rfl <| Evs.cons <| Ev.loc rfl <| Evs.cons <| Ev.loc rfl <| Evs.cons <| Ev.loc rfl <| Evs.cons <| Ev.loc rfl <| Evs.cons <| Ev.loc rfl <| Evs.cons <|
      Ev.bin <| Ev.loc rfl <| Ev.listE <| Evs.cons <| Ev.loc rfl <| Evs.nil ⟨Nat.le_of_ble_eq_true rfl, fun j₅ hj₅ => Op2.addList (H.get hj₅ hlb) H.self ?_ fun r₅ hr₅ => ?_⟩
    · simp only [List.length_map, List.length_reverse, List.length_cons, List.length_nil]; exact Nat.le_trans (show _ ≤ 20 by omega) (Nat.le_of_ble_eq_true rfl)
    refine Evs.cons <| Ev.bin <| Ev.loc rfl <| Ev.int <| Op2.sub <| Evs.nil ?_
    rw [esub, elbl]
    have S₅ := (S₄.fresh (o := .list [.int label]) hj₅).fresh (o := natO (label :: ls).reverse) hr₅
    have o₅ := (S₄.fresh (o := .list [.int label]) hj₅).off hr₅
    have hW := W_pos d
    refine L S₅.base (H.get hr₅ (H.get hj₅ hin)) oin H.self o₅ hls' hl2' hil (by omega) htk hp (by simp only [List.length_append]; omega) (by simp only [List.length_append]; omega) fun σ₆ ts₆ X₁ Y₁ S₆ wX cX lX lY => ⟨rfl, ?_⟩
    replace hin := S₆.get oin (H.get hr₅ (H.get hj₅ hin))
    replace hlb := S₆.get olb (H.get hr₅ (H.get hj₅ hlb))
    replace S₆ := S₅.trans S₆
    clear S₅ o₅
    refine Ex.cons <| Ex1.iff sc <| Tr.mono (Q := fun bt σ' => (bt = true → kc = 4) ∧ ∃ ts', St3 σ₆ t a b σ' ts' (N ++ pre ++ X₁.flat) (F ++ pre ++ Y₁.flat)) (Tr.andE <| Tr.cmp <| Ev.loc rfl <| Ev.int <| Op2.eqI ⟨_, rfl, ?_⟩) ?_
    · by_cases h4 : kc = 4
      · rw [show (kc == 4) = true from beq_iff_eq.mpr h4]
        refine Tr.andE <| Tr.orE <| Tr.cmp <| Ev.loc rfl <| Ev.loc rfl <| Op2.neI ⟨_, rfl, ?_⟩
        split
        · simp only [if_true]; exact Tr.and0 ⟨fun _ => h4, _, S₆.base⟩
        · refine Tr.orE <| Tr.cmp <| Ev.nextC k 3 S₆.base rfl rfl fun σ₇ ts₇ i hi S₇ => Ev.int <| Op2.gtI ⟨_, rfl, ?_⟩
          split
          · simp only [if_true]; exact Tr.and0 ⟨fun _ => h4, _, S₇⟩
          · exact Tr.or0 (by simp only [Bool.false_eq_true, if_false]; exact ⟨fun _ => h4, _, S₇⟩)
      · rw [show (kc == 4) = false from beq_eq_false_iff_ne.mpr h4]
        simp only [Bool.false_eq_true, if_false]
        exact ⟨(fun e => by cases e), _, S₆.base⟩
    rintro bt σ₇ ⟨h4, ts₇, S₇⟩
    have e1 : ∀ X : Pcs, (preB kc (.blk1 [kc, ab] X .nil)).flat = pre ++ X.flat ++ [[11]] := fun X => by rw [flat_preB, ← hpre]; simp [Pcs.flat]
    have e2 : ∀ X X' : Pcs, (preB kc (.blk2 [kc, ab] X X' .nil)).flat = pre ++ X.flat ++ [[5]] ++ X'.flat ++ [[11]] := fun X X' => by rw [flat_preB, ← hpre]; simp [Pcs.flat]
    cases bt with
    | false =>
      refine Ex.nil (fin _ σ₇ ts₇ (preB kc (.blk1 [kc, ab] X₁ .nil)) (preB kc (.blk1 [kc, ab] Y₁ .nil)) (pre ++ X₁.flat) (pre ++ Y₁.flat) rfl rfl ?_ (e1 _) (e1 _) ?_ ?_ (.one hblk wX (by rw [hinn]; exact cX)))
      · have := S₆.trans S₇; rw [List.append_assoc, List.append_assoc] at this; exact this
      · simp only [List.length_append]; omega
      · simp only [List.length_append]; omega
    | true =>
      replace h4 := h4 rfl
      replace hin := S₇.get oin hin
      replace hlb := S₇.get olb hlb
      replace S₇ := S₆.trans S₇
      refine Ex.cons <| Ex1.expr sc <| Ev.callG rfl (g_law_both k) (kp_509 k) <| Evs.cons <| Ev.loc rfl <| Evs.cons <| Ev.loc rfl <| Evs.cons <| Ev.cLst (X := [[5]]) rfl (by decide) fun j hj => Evs.nil <|
        both_ok k (S₇.fresh hj).base H.self (S₇.off hj) ?_ ?_ fun σ₈ S₈ => ⟨rfl, ?_⟩
      · simp only [List.length_append, List.length_cons, List.length_nil]; omega
      · simp only [List.length_append, List.length_cons, List.length_nil]; omega
      replace hin := S₈.get oin (H.get hj hin)
      replace hlb := S₈.get olb (H.get hj hlb)
      replace S₈ := (S₇.fresh hj).trans S₈
      refine Ex.cons <| Ex1.expr sc <| Ev.callG rfl (g_law_list k) (kp_542 k) <| Evs.cons <| Ev.loc rfl <| Evs.cons <| Ev.loc rfl <| Evs.cons <| Ev.loc rfl <| Evs.cons <| Ev.loc rfl <| Evs.cons <| Ev.loc rfl <| Evs.cons <| Ev.loc rfl <| Evs.cons <|
        Ev.bin <| Ev.loc rfl <| Ev.listE <| Evs.cons <| Ev.loc rfl <| Evs.nil ⟨Nat.le_of_ble_eq_true rfl, fun j₅ hj₅ => Op2.addList (H.get hj₅ hlb) H.self ?_ fun r₅ hr₅ => ?_⟩
      · simp only [List.length_map, List.length_reverse, List.length_cons, List.length_nil]; exact Nat.le_trans (show _ ≤ 20 by omega) (Nat.le_of_ble_eq_true rfl)
      refine Evs.cons <| Ev.bin <| Ev.loc rfl <| Ev.int <| Op2.sub <| Evs.nil ?_
      rw [esub, elbl]
      have S₉ := (S₈.fresh (o := .list [.int label]) hj₅).fresh (o := natO (label :: ls).reverse) hr₅
      have o₉ := (S₈.fresh (o := .list [.int label]) hj₅).off hr₅
      refine L S₉.base (H.get hr₅ (H.get hj₅ hin)) oin H.self o₉ hls' hl2' hil (by omega) htk hp ?_ ?_ fun σ₁₀ ts₁₀ X₂ Y₂ S₁₀ wX' cX' lX' lY' => ⟨rfl, ?_⟩
      · simp only [List.length_append, List.length_cons, List.length_nil]; omega
      · simp only [List.length_append, List.length_cons, List.length_nil]; omega
      refine Ex.nil (fin _ σ₁₀ ts₁₀ (preB kc (.blk2 [kc, ab] X₁ X₂ .nil)) (preB kc (.blk2 [kc, ab] Y₁ Y₂ .nil)) (pre ++ X₁.flat ++ [[5]] ++ X₂.flat) (pre ++ Y₁.flat ++ [[5]] ++ Y₂.flat) rfl rfl ?_ (e2 _ _) (e2 _ _) ?_ ?_ (.two hblk wX wX' (by rw [hinn]; exact cX) (by rw [hinn]; exact cX')))
      · have := S₉.trans S₁₀; simp only [List.append_assoc] at this ⊢; exact this
      · simp only [List.length_append, List.length_cons, List.length_nil]; omega
      · simp only [List.length_append, List.length_cons, List.length_nil]; omega
  refine Ex.cons <| Ex1.iff sc <| Tr.andE <| Tr.cmp <| Ev.loc rfl <| Ev.int <| Op2.ltI ⟨_, rfl, ?_⟩
  split
  · rename_i hlt
    have hlt : (3 * (tk : Int) + p) < 2 := of_decide_eq_true hlt
    refine Tr.andE <| Tr.cmp <| Ev.nextC k 2 S.base rfl rfl fun σ₂ ts₂ i₂ hi₂ S₂ => Ev.int <| Op2.eqI ⟨_, rfl, ?_⟩
    replace htl := S₂.get otl htl
    replace hlb := S₂.get olb hlb
    replace S₂ := S.trans S₂
    split
    · refine Tr.and0 ?_
      simp only [if_true]
      refine Ex.cons <| Ex1.assign sc rfl <| Ev.sub <| Ev.listE <| Evs.cons <| Ev.neg <| Ev.int ⟨_, rfl, Evs.cons <| Ev.neg <| Ev.int ⟨_, rfl, Evs.nil ⟨Nat.le_of_ble_eq_true rfl, fun j hj => Ev.loc rfl ?_⟩⟩⟩
      have ht0 : tk = 0 := by omega
      have hp1 : p = 0 ∨ p = 1 := by omega
      subst ht0
      have S₃ := S₂.fresh (o := .list [.int (-64), .int (-1)]) hj
      rcases hp1 with rfl | rfl
      · refine Op2.itemList H.self (by omega) (by omega) (seq_nat (i := 0) (by decide)) rfl ?_
        exact Ex.nil (tail (-64) _ ts₂ (.inr (.inl ⟨rfl, rfl, rfl⟩)) S₃ (H.get hj htl) (H.get hj hlb))
      · refine Op2.itemList H.self (by omega) (by omega) (seq_nat (i := 1) (by decide)) rfl ?_
        exact Ex.nil (tail (-1) _ ts₂ (.inr (.inr ⟨rfl, rfl, rfl⟩)) S₃ (H.get hj htl) (H.get hj hlb))
    · simp only [Bool.false_eq_true, if_false]
      exact Ex.nil (tail _ σ₂ ts₂ (.inl rfl) S₂ htl hlb)
  · simp only [Bool.false_eq_true, if_false]
    exact Ex.nil (tail _ σ₁ ts₁ (.inl rfl) S htl hlb)
end
end Mine

namespace Mine
open PySem PySem.W PyProof.Rows PySem.Calls PySem.Spec

theorem natO_int (l : List Nat) : natO l = .list ((l.map fun i : Nat => (i : Int)).map V.int) := by rw [natO, List.map_map]; rfl
theorem any_nat (l : List Nat) (x : Nat) : ((l.map fun i : Nat => (i : Int)).any (· == (x : Int))) = decide (x ∈ l) := by
  rw [Bool.eq_iff_iff]
  simp only [List.any_eq_true, List.mem_map, beq_iff_eq, decide_eq_true_eq]
  constructor
  · rintro ⟨_, ⟨y, hy, rfl⟩, e⟩
    have : y = x := by omega
    exact this ▸ hy
  · exact fun h => ⟨_, ⟨x, h, rfl⟩, rfl⟩
theorem rev_get {ls : List Nat} {l : Nat} (h : l < ls.length) : (ls.reverse.map natV)[(ls.reverse.map natV).length - 1 - l]? = some (.int (ls[l] : Nat)) := by
  rw [List.length_map, List.length_reverse, List.getElem?_map, List.getElem?_reverse (by omega), show ls.length - 1 - (ls.length - 1 - l) = l by omega, List.getElem?_eq_getElem h]; rfl
section
variable {c : Cx} {n m : Nat} {σ σ₀ : H} {t a b : Nat} {ts : List Int} {N F : List Ins} {sc : Scope} {ρ : Loc}
theorem Op2.inNat {x i : Nat} {l : List Nat} {Q : V → H → Prop} (e : σ i = some (natO l)) (q : Q (.bool (decide (x ∈ l))) σ) : Op2 c n (compareOp .In) (.int x) (.ref i) σ Q :=
  Op2.inList (by rw [e, natO_int]) (by rw [any_nat]; exact q)
theorem Ev.nextLen (k : Ok c) {p1 p2 p3 p4 p5 p6 pos : Pos} {lb : Nat} {l : List V} {M : Nat} {Q : V → H → Prop} (S : St3 σ t a b σ ts N F) (hlb : σ lb = some (.list l)) (olb : St3.Off t a b lb) (hM : l.length = M) (h0 : 0 < M) (h1 : M ≤ 100)
    (hx : sc.names.lookup (Str.ofString "_law_next") = some .globalImplicit) (hx' : sc.names.lookup (Str.ofString "len") = some .globalImplicit) (hl : ρ.lookup (Str.ofString "tape") = some (.ref t)) (hl' : ρ.lookup (Str.ofString "labels") = some (.ref lb))
    (q : ∀ σ' ts' i, i < M → St3 σ t a b σ' ts' N F → Q (.int (i : Nat)) σ') :
    Ev c (n + 1) sc (.BinOp (.Call (.Name (Str.ofString "_law_next") p1) [.Name (Str.ofString "tape") p2] [] p3) .Mod (.Call (.Name (Str.ofString "len") p4) [.Name (Str.ofString "labels") p5] [] p6) pos) ρ σ Q := by
  refine Ev.bin <| Ev.callG hx (g_law_next k) (kp_495 k) <| Evs.cons <| Ev.loc hl <| Evs.nil <| next_ok k S fun σ' S' => ?_
  refine Ev.callB <| Ev.blt hx' (gb_len k) bb_len ⟨_, rfl, Evs.cons <| Ev.loc hl' <| Evs.nil <| CallR.lenList (S'.get olb hlb) (by rw [hM]; exact Nat.le_trans h1 (Nat.le_of_ble_eq_true rfl)) ?_⟩ (by decide) rfl
  rw [hM]
  refine Op2.mod (by omega) ?_
  rw [nx_fmod ts h0]
  exact q σ' _ _ (nx_lt ts h0) S'
theorem Ev.label (k : Ok c) {e : Expr} {p1 pos p2 p3 p4 : Pos} {kk : Nat} {lb l : Nat} {ls : List Nat} {Q : V → H → Prop} (hlb : σ lb = some (natO ls.reverse)) (hl : l < ls.length) (hz : ls.length ≤ 100) (hl' : ρ.lookup (Str.ofString "labels") = some (.ref lb))
    (he : ∀ {Q : V → H → Prop}, Q (.int l) σ → Ev c n sc e ρ σ Q) (q : Q (.int (ls[l] : Nat)) σ) :
    Ev c n sc (.Subscript (.Name (Str.ofString "labels") p1) (.BinOp (.UnaryOp .USub (.Constant (.int 1) kk p2) p3) .Sub e p4) pos) ρ σ Q := by
  refine Ev.sub <| Ev.loc hl' <| Ev.bin <| Ev.neg <| Ev.int ⟨1, rfl, he <| Op2.sub ?_⟩
  have hle : (ls.reverse.map natV).length = ls.length := by rw [List.length_map, List.length_reverse]
  exact Op2.itemList hlb (by omega) (by omega) (seq_neg (n := (ls.reverse.map natV).length) (by omega)) (rev_get hl) q

/-- a list letter beside the three -/
noncomputable def LQ (σ : H) (t a b : Nat) (X : List Ins) (v : V) (σ' : H) : Prop := ∃ j, v = .ref j ∧ σ' j = some (insO X) ∧ Sub σ σ' ∧ St3.Off t a b j
noncomputable def lastEnd : List Stmt := match b_law_end.drop 3 with
  | [.If _ _ [.If _ b _ _] _] => b.drop 8
  | _ => []
set_option maxHeartbeats 4000000 in
theorem end_ok (k : Ok c) {d h res dp tl lb : Nat} {tls ls : List Nat} {Q : V → H → Prop} (S : St3 σ₀ t a b σ ts N F) (htl : σ tl = some (natO tls)) (otl : St3.Off t a b tl)
    (hlb : σ lb = some (natO ls.reverse)) (olb : St3.Off t a b lb) (hls : ls.length = dp + 1) (hl2 : ∀ x ∈ ls, x ≤ 2) (htls : tls.length ≤ dp + 1) (hdp : dp ≤ 3) (hh : h ≤ 50) (hr : res ≤ 2)
    (hN : N.length + 1000 ≤ sizeLine) (hF : F.length + 1000 ≤ sizeLine)
    (q : ∀ σ' ts' E E', St3 σ₀ t a b σ' ts' (N ++ E.flat) (F ++ E'.flat) → EndR d dp res tls E E' h → E.flat.length ≤ 200 → E'.flat.length ≤ 200 → Q .none σ') :
    CodeR c (m + 3) (.ref 535) [.ref t, .ref a, .ref b, .int h, .int res, .ref tl, .ref lb] σ Q := by
  refine CodeR.enter (d_law_end k) rfl ?_
  have sc := (d_law_end k).ok
  have fin : ∀ σ' ts' h₂ P P', St3 σ₀ t a b σ' ts' (N ++ (pad h h₂ ++ P)) (F ++ (pad h h₂ ++ P')) → EndR d dp res tls (Pcs.ofL P) (Pcs.ofL P') h₂ → h₂ ≤ 50 → P.length ≤ 10 → P'.length ≤ 10 → Q .none σ' := by
    intro σ' ts' h₂ P P' S e h1 h2 h3
    have := pad_len h h₂
    refine q σ' ts' (Pcs.ofL (pad h h₂ ++ P)) (Pcs.ofL (pad h h₂ ++ P')) (by rw [Pcs.flat_ofL, Pcs.flat_ofL]; exact S) ?_ (by rw [Pcs.flat_ofL, List.length_append]; omega) (by rw [Pcs.flat_ofL, List.length_append]; omega)
    rw [Pcs.ofL_app, Pcs.ofL_app]
    exact e.pre (Mid.run (run_pad h h₂))
  refine Ex.cons <| Ex1.assign sc rfl <| Ev.nextC k 5 S.base rfl rfl fun σ₁ ts₁ w hw S₁ => ?_
  replace htl := S₁.get otl htl
  replace hlb := S₁.get olb hlb
  replace S := S.trans S₁
  clear S₁
  have hll : (ls.reverse.map natV).length = dp + 1 := by rw [List.length_map, List.length_reverse, hls]
  refine Ex.cons <| Ex1.assign sc rfl <| Ev.mono (Q := fun v σ' => ∃ l ts', v = .int (l : Nat) ∧ l < dp + 1 ∧ (w = 2 → l = dp) ∧ St3 σ₁ t a b σ' ts' N F) (Ev.ite <| Tr.cmp <| Ev.loc rfl <| Ev.int <| Op2.eqI ⟨_, rfl, ?_⟩) ?_
  · by_cases h2 : w = 2
    · subst h2
      refine Ev.bin <| Ev.callB <| Ev.blt rfl (gb_len k) bb_len ⟨_, rfl, Evs.cons <| Ev.loc rfl <| Evs.nil <| CallR.lenList hlb (by rw [hll]; exact Nat.le_trans (show _ ≤ 100 by omega) (Nat.le_of_ble_eq_true rfl)) <| Ev.int <| Op2.sub ⟨dp, ts₁, ?_, by omega, fun _ => rfl, S.base⟩⟩ (by decide) rfl
      rw [hll]; congr 1; omega
    · rw [show ((w : Int) == 2) = false from beq_eq_false_iff_ne.mpr (by omega)]
      exact Ev.nextLen k S.base hlb olb hll (by omega) (by omega) rfl rfl rfl rfl fun σ' ts' i hi S' => ⟨i, ts', rfl, hi, fun e => absurd e h2, S'⟩
  rintro _ σ₂ ⟨l, ts₂, rfl, hl, hl2', S₂⟩
  replace htl := S₂.get otl htl
  replace hlb := S₂.get olb hlb
  replace S := S.trans S₂
  clear S₂
  have hlt : l < ls.length := by omega
  have hmn : ls[l] ≤ 2 := hl2 _ (List.getElem_mem hlt)
  refine Ex.cons <| Ex1.swap (xs := [Str.ofString "many", Str.ofString "plain"]) sc (by decide) <| Ev.tuple <| Evs.cons <| Ev.label k hlb hlt (by omega) rfl (fun hq => Ev.loc rfl hq) <| Evs.cons <| Ev.listE <| Evs.cons <|
    Ev.mono (Q := fun v σ' => v = insV (if w = 2 then [15] else [12, (l : Int)]) ∧ σ₂ = σ') (Ev.ite <| Tr.cmp <| Ev.loc rfl <| Ev.int <| Op2.eqI ⟨_, rfl, ?_⟩) ?_
  · by_cases h2 : w = 2
    · subst h2
      exact Ev.tuple <| Evs.cons <| Ev.int <| Evs.nil ⟨Nat.le_of_ble_eq_true rfl, rfl, rfl⟩
    · rw [show ((w : Int) == 2) = false from beq_eq_false_iff_ne.mpr (by omega), if_neg h2]
      exact Ev.tuple <| Evs.cons <| Ev.int <| Evs.cons <| Ev.loc rfl <| Evs.nil ⟨Nat.le_of_ble_eq_true rfl, rfl, rfl⟩
  rintro _ _ ⟨rfl, rfl⟩
  have hx : (if w = 2 then [15] else [12, (l : Int)]) = [12, (l : Int)] ∨ (if w = 2 then [15] else [12, (l : Int)]) = [15] ∧ l = dp := by
    by_cases h2 : w = 2
    · right; rw [if_pos h2]; exact ⟨rfl, hl2' h2⟩
    · left; rw [if_neg h2]
  have hx4 : w ≠ 2 → (if w = 2 then [15] else [12, (l : Int)]) = [12, (l : Int)] := fun h => if_neg h
  generalize (if w = 2 then [15] else [12, (l : Int)]) = x at hx hx4 ⊢
  refine Evs.nil ⟨Nat.le_of_ble_eq_true rfl, fun pl hpl => Evs.nil ⟨Nat.le_of_ble_eq_true rfl, _, rfl, rfl, ?_⟩⟩
  have opl := S.off hpl
  replace htl := H.get (o' := insO [x]) hpl htl
  replace hlb := H.get (o' := insO [x]) hpl hlb
  replace S := S.fresh (o := insO [x]) hpl
  have hp : σ₂.set pl (insO [x]) pl = some (insO [x]) := H.self
  change Ex _ _ _ _ _ (σ₂.set pl (insO [x])) _
  generalize σ₂.set pl (insO [x]) = σ₃ at *
  generalize ls[l] = mn at hmn ⊢
  refine Ex.cons <| Ex1.iff sc <| Tr.mono (Q := fun bt σ' => σ₃ = σ' ∧ bt = decide (w = 1 ∨ w = 2)) (Tr.orE <| Tr.cmp <| Ev.loc rfl <| Ev.int <| Op2.eqI ⟨_, rfl, ?_⟩) ?_
  · by_cases h1 : w = 1
    · subst h1; exact ⟨rfl, rfl⟩
    · rw [show ((w : Int) == 1) = false from beq_eq_false_iff_ne.mpr (by omega)]
      refine Tr.orE <| Tr.cmp <| Ev.loc rfl <| Ev.int <| Op2.eqI ⟨_, rfl, ?_⟩
      by_cases h2 : w = 2
      · subst h2; exact ⟨rfl, rfl⟩
      · rw [show ((w : Int) == 2) = false from beq_eq_false_iff_ne.mpr (by omega)]
        exact Tr.or0 ⟨rfl, (decide_eq_false (by omega)).symm⟩
  rintro bt _ ⟨rfl, hbt⟩
  by_cases hw12 : w = 1 ∨ w = 2
  · rw [hbt, decide_eq_true hw12]
    refine Ex.cons <| Ex1.assign sc rfl <| Ev.callG rfl (g_law_high k) (kp_516 k) <| Evs.cons <| Ev.loc rfl <| Evs.cons <| Ev.loc rfl <| Evs.cons <| Ev.loc rfl <| Evs.cons <| Ev.bin <| Ev.loc rfl <| Ev.nextC k 2 S.base rfl rfl fun σ₄ ts₄ i hi S₄ => Op2.add <| Evs.nil ?_
    rw [show (mn : Int) + i = ((mn + i : Nat) : Int) by omega]
    refine high_ok k S₄ (by omega) (by omega) (by omega) (by omega) fun σ₅ S₅ => ?_
    have hpd := pad_len h (mn + i)
    replace hp := S₅.get opl hp
    replace htl := S₅.get otl htl
    replace S := S.trans S₅
    clear S₄ S₅
    refine Ex.cons <| Ex1.expr sc <| Ev.lmeth lm_extend (Ev.loc rfl ⟨a, _, rfl, S.nr, Evs.cons <| Ev.loc rfl <| Evs.nil ?_⟩) (fun env => ⟨_, rfl⟩)
    refine CallR.extend S.nr hp (by simp only [List.length_map, List.length_append, List.length_cons, List.length_nil]; omega) ⟨rfl, ?_⟩
    rw [← List.map_append]
    replace htl := (H.ne (o := insO (N ++ pad h (mn + i) ++ [x])) otl.a).trans htl
    replace hp := (H.ne (o := insO (N ++ pad h (mn + i) ++ [x])) opl.a).trans hp
    replace S := S.near (N' := N ++ pad h (mn + i) ++ [x])
    change Ex _ _ _ _ _ (σ₅.set a (insO (N ++ pad h (mn + i) ++ [x]))) _
    generalize σ₅.set a (insO (N ++ pad h (mn + i) ++ [x])) = σ₆ at *
    refine Ex.cons <| Ex1.expr sc <| Ev.lmeth lm_extend (Ev.loc rfl ⟨b, _, rfl, S.fr, Evs.cons <| Ev.mono (Q := fun v σ' => ∃ j, v = .ref j ∧ σ' j = some (insO (if l ∈ tls ∧ mn + i = res then [] else [x])) ∧ St3 σ₀ t a b σ' ts₄ (N ++ pad h (mn + i) ++ [x]) (F ++ pad h (mn + i)))
      (Ev.ite <| Tr.andE <| Tr.cmp <| Ev.loc rfl <| Ev.loc rfl <| Op2.inNat htl ⟨_, rfl, ?_⟩) ?_⟩) (fun env => ⟨_, rfl⟩)
    · by_cases h1 : l ∈ tls
      · rw [decide_eq_true h1]
        refine Tr.andE <| Tr.cmp <| Ev.loc rfl <| Ev.loc rfl <| Op2.eqI ⟨_, rfl, ?_⟩
        by_cases h2 : mn + i = res
        · rw [show (if l ∈ tls ∧ mn + i = res then ([] : List Ins) else [x]) = [] from if_pos ⟨h1, h2⟩, show (((mn + i : Nat) : Int) == res) = true from beq_iff_eq.mpr (by omega)]
          exact Tr.and0 <| Ev.cLst (X := []) rfl (by decide) fun j hj => ⟨j, rfl, H.self, S.fresh hj⟩
        · rw [show (if l ∈ tls ∧ mn + i = res then ([] : List Ins) else [x]) = [x] from if_neg fun e => h2 e.2, show (((mn + i : Nat) : Int) == res) = false from beq_eq_false_iff_ne.mpr (by omega)]
          exact Ev.loc rfl ⟨pl, rfl, hp, S⟩
      · rw [show (if l ∈ tls ∧ mn + i = res then ([] : List Ins) else [x]) = [x] from if_neg fun e => h1 e.1, decide_eq_false h1]
        exact Ev.loc rfl ⟨pl, rfl, hp, S⟩
    rintro _ σ₇ ⟨j, rfl, hj, S₇⟩
    refine Evs.nil <| CallR.extend S₇.fr hj ?_ ⟨rfl, ?_⟩
    · have : (if l ∈ tls ∧ mn + i = res then [] else [x]).length ≤ 1 := by split <;> simp
      simp only [List.length_map, List.length_append]; omega
    rw [← List.map_append]
    refine Ex.nil (Ex.nil (fin _ ts₄ (mn + i) [x] (if l ∈ tls ∧ mn + i = res then [] else [x]) ?_ (EndR.br hx) (by omega) (by simp) (by split <;> simp)))
    rw [← List.append_assoc, ← List.append_assoc]
    exact S₇.far
  · rw [hbt, decide_eq_false hw12]
    refine Ex.cons <| Ex1.iff sc <| Tr.cmp <| Ev.loc rfl <| Ev.int <| Op2.gtI ⟨_, rfl, ?_⟩
    by_cases h0 : w = 0
    · subst h0
      refine Ex.cons <| Ex1.drop sc <| Ev.callG rfl (g_law_high k) (kp_516 k) <| Evs.cons <| Ev.loc rfl <| Evs.cons <| Ev.loc rfl <| Evs.cons <| Ev.loc rfl <| Evs.cons <| Ev.loc rfl <| Evs.nil <| high_ok k S (by omega) (by omega) (by omega) (by omega) fun σ₄ S₄ => ?_
      exact Ex.nil (Ex.nil (Ex.nil (fin σ₄ _ res [] [] (by simpa using S₄) EndR.nil (by omega) (by simp) (by simp))))
    · rw [decide_eq_true (show (2 : Int) < w by omega)]
      have hx4 := hx4 (by omega)
      subst hx4
      have hlz : ls.length ≤ 100 := by omega
      refine Ex.cons <| Ex1.assign sc rfl <| Ev.nextLen k S.base hlb olb hll (by omega) (by omega) rfl rfl rfl rfl fun σ₄ ts₄ m0 hm0 S₄ => ?_
      replace htl := S₄.get otl htl
      replace hlb := S₄.get olb hlb
      replace hp := S₄.get opl hp
      replace S := S.trans S₄
      clear S₄
      refine Ex.cons <| Ex1.assign sc rfl <| Ev.callG rfl (g_law_high k) (kp_516 k) <| Evs.cons <| Ev.loc rfl <| Evs.cons <| Ev.loc rfl <| Evs.cons <| Ev.loc rfl <| Evs.cons <|
        Ev.mono (Q := fun v σ' => v = .int ((if w = 3 then res else mn : Nat) : Int) ∧ σ₄ = σ') (Ev.ite <| Tr.cmp <| Ev.loc rfl <| Ev.int <| Op2.eqI ⟨_, rfl, ?_⟩) ?_
      · by_cases h3 : w = 3
        · subst h3; exact Ev.loc rfl ⟨rfl, rfl⟩
        · rw [show ((w : Int) == 3) = false from beq_eq_false_iff_ne.mpr (by omega), if_neg h3]; exact Ev.loc rfl ⟨rfl, rfl⟩
      rintro _ _ ⟨rfl, rfl⟩
      have hh3 : w = 3 → (if w = 3 then res else mn) = res := fun e => if_pos e
      have hhb : (if w = 3 then res else mn) ≤ 2 := by split <;> assumption
      generalize (if w = 3 then res else mn) = h₂ at hh3 hhb ⊢
      refine Evs.nil <| high_ok k S.base (by omega) (by omega) (by omega) (by omega) fun σ₅ S₅ => ?_
      have hpd := pad_len h h₂
      replace htl := S₅.get otl htl
      replace hlb := S₅.get olb hlb
      replace hp := S₅.get opl hp
      replace S := S.trans S₅
      clear S₅
      have hm0' : m0 < ls.length := by omega
      refine Ex.cons <| Ex1.assign sc rfl <| Ev.mono (Q := fun v σ' => ∃ m1, v = .int (m1 : Nat) ∧ m1 < ls.length ∧ σ₅ = σ') (Ev.ite <| Tr.cmp <| Ev.label k hlb hm0' hlz rfl (fun hq => Ev.loc rfl hq) <| Ev.loc rfl <| Op2.leI ⟨_, rfl, ?_⟩) ?_
      · split
        · exact Ev.loc rfl ⟨m0, rfl, hm0', rfl⟩
        · exact Ev.int ⟨0, rfl, by omega, rfl⟩
      rintro _ _ ⟨m1, rfl, hm1, rfl⟩
      refine Ex.cons <| Ex1.assign sc rfl <| Ev.cmp <| Ev.label k hlb hm1 hlz rfl (fun hq => Ev.loc rfl hq) <| Ev.loc rfl <| Op2.leI ?_
      generalize decide ((ls[m1] : Int) ≤ h₂) = ak
      refine Ex.cons <| Ex1.expr sc <| Ev.callG rfl (g_law_both k) (kp_509 k) <| Evs.cons <| Ev.loc rfl <| Evs.cons <| Ev.loc rfl <| Evs.cons <| Ev.mono (Q := LQ σ₅ t a b (if ak then [[32, 0]] else [])) (Ev.ite <| Tr.val <| Ev.loc rfl ⟨_, rfl, ?_⟩) ?_
      · cases ak
        · exact Ev.cLst (X := []) rfl (by decide) fun j hj => ⟨j, rfl, H.self, Sub.fresh hj, S.off hj⟩
        · exact Ev.cLst (X := [[32, 0]]) rfl (by decide) fun j hj => ⟨j, rfl, H.self, Sub.fresh hj, S.off hj⟩
      rintro _ σ₆ ⟨j, rfl, hj, hs, oj⟩
      have hX1 : (if ak then [[32, 0]] else [] : List Ins).length ≤ 1 := by split <;> simp
      refine Evs.nil <| both_ok k (S.sub hs).base hj oj (by simp only [List.length_append]; omega) (by simp only [List.length_append]; omega) fun σ₇ S₇ => ⟨rfl, ?_⟩
      replace htl := S₇.get otl (hs _ _ htl)
      replace hp := S₇.get opl (hs _ _ hp)
      replace S := (S.sub hs).trans S₇
      clear hs hj oj S₇ hlb
      refine Ex.cons <| Ex1.expr sc <| Ev.lmeth lm_extend (Ev.loc rfl ⟨a, _, rfl, S.nr, Evs.cons <| Ev.bin <| Ev.mono (Q := LQ σ₇ t a b (if ak then [[13, (m1 : Int)]] else [])) (Ev.ite <| Tr.val <| Ev.loc rfl ⟨_, rfl, ?_⟩) ?_⟩) (fun env => ⟨_, rfl⟩)
      · cases ak
        · exact Ev.cLst (X := []) rfl (by decide) fun j hj => ⟨j, rfl, H.self, Sub.fresh hj, S.off hj⟩
        · exact Ev.listE <| Evs.cons <| Ev.tuple <| Evs.cons <| Ev.int <| Evs.cons <| Ev.loc rfl <| Evs.nil ⟨Nat.le_of_ble_eq_true rfl, Evs.nil ⟨Nat.le_of_ble_eq_true rfl, fun j hj => ⟨j, rfl, H.self, Sub.fresh hj, S.off hj⟩⟩⟩
      rintro _ σ₈ ⟨j, rfl, hj, hs, oj⟩
      have S₈ := S.sub hs
      refine Ev.mono (Q := LQ σ₈ t a b (if w = 4 then [[12, (l : Int)]] else [])) (Ev.ite <| Tr.cmp <| Ev.loc rfl <| Ev.int <| Op2.eqI ⟨_, rfl, ?_⟩) ?_
      · by_cases h4 : w = 4
        · subst h4; exact Ev.loc rfl ⟨pl, rfl, hs _ _ hp, .refl _, opl⟩
        · rw [show ((w : Int) == 4) = false from beq_eq_false_iff_ne.mpr (by omega), show (if w = 4 then [[12, (l : Int)]] else [] : List Ins) = [] from if_neg h4]
          exact Ev.cLst (X := []) rfl (by decide) fun j hj => ⟨j, rfl, H.self, Sub.fresh hj, S₈.off hj⟩
      rintro _ σ₉ ⟨j', rfl, hj', hs', oj'⟩
      have hX2 : (if ak then [[13, (m1 : Int)]] else [] : List Ins).length ≤ 1 := by split <;> simp
      have hX3 : (if w = 4 then [[12, (l : Int)]] else [] : List Ins).length ≤ 1 := by split <;> simp
      refine Op2.addList (hs' _ _ hj) hj' (by rw [List.length_map, List.length_map]; exact Nat.le_trans (show _ ≤ 2 by omega) (Nat.le_of_ble_eq_true rfl)) fun r hr => ?_
      rw [← List.map_append, insE]
      have S₉ := (S₈.sub hs').fresh (o := insO ((if ak then [[13, (m1 : Int)]] else []) ++ (if w = 4 then [[12, (l : Int)]] else []))) hr
      have hp' := H.get (o' := insO ((if ak then [[13, (m1 : Int)]] else []) ++ (if w = 4 then [[12, (l : Int)]] else []))) hr (hs' _ _ (hs _ _ hp))
      have htl' := H.get (o' := insO ((if ak then [[13, (m1 : Int)]] else []) ++ (if w = 4 then [[12, (l : Int)]] else []))) hr (hs' _ _ (hs _ _ htl))
      refine Evs.nil <| CallR.extend S₉.nr H.self (by simp only [List.length_map, List.length_append]; omega) ⟨rfl, ?_⟩
      rw [← List.map_append, insE]
      have S' := S₉.near (N' := N ++ pad h h₂ ++ (if ak then [[32, 0]] else []) ++ ((if ak then [[13, (m1 : Int)]] else []) ++ (if w = 4 then [[12, (l : Int)]] else [])))
      replace hp := (H.ne (o := insO (N ++ pad h h₂ ++ (if ak then [[32, 0]] else []) ++ ((if ak then [[13, (m1 : Int)]] else []) ++ (if w = 4 then [[12, (l : Int)]] else [])))) opl.a).trans hp'
      replace htl := (H.ne (o := insO (N ++ pad h h₂ ++ (if ak then [[32, 0]] else []) ++ ((if ak then [[13, (m1 : Int)]] else []) ++ (if w = 4 then [[12, (l : Int)]] else [])))) otl.a).trans htl'
      generalize H.set (H.set σ₉ r (insO ((if ak then [[13, (m1 : Int)]] else []) ++ (if w = 4 then [[12, (l : Int)]] else [])))) a (insO (N ++ pad h h₂ ++ (if ak then [[32, 0]] else []) ++ ((if ak then [[13, (m1 : Int)]] else []) ++ (if w = 4 then [[12, (l : Int)]] else [])))) = σ₁₁ at S' hp htl ⊢
      clear hp' htl' S₉ S₈ S hs hs' hj hj' hr oj oj'
      have last : ∀ {ρ : Loc} {σ' : H} {N1 F1 : List Ins} {Q' : AF → Loc → H → Prop} (ct : Bool), ρ.lookup (Str.ofString "far") = some (.ref b) → ρ.lookup (Str.ofString "plain") = some (.ref pl) → ρ.lookup (Str.ofString "is_cut") = some (.bool ct) →
          σ' pl = some (insO [[12, (l : Int)]]) → St3 σ₀ t a b σ' ts₄ N1 F1 → F1.length + 1 ≤ sizeLine → (∀ σ'', St3 σ₀ t a b σ'' ts₄ N1 (F1 ++ (if ct then [] else [[12, (l : Int)]])) → Q' .next ρ σ'') → Ex c (m + 2) s_law_end lastEnd ρ σ' Q' := by
        intro ρ σ' N1 F1 Q' ct l1 l2 l3 hp S hz hq
        refine Ex.cons <| Ex1.expr sc <| Ev.lmeth lm_extend (Ev.loc l1 ⟨b, _, rfl, S.fr, Evs.cons <| Ev.mono (Q := LQ σ' t a b (if ct then [] else [[12, (l : Int)]])) (Ev.ite <| Tr.val <| Ev.loc l3 ⟨_, rfl, ?_⟩) ?_⟩) (fun env => ⟨_, rfl⟩)
        · cases ct
          · exact Ev.loc l2 ⟨pl, rfl, hp, .refl _, opl⟩
          · exact Ev.cLst (X := []) rfl (by decide) fun j hj => ⟨j, rfl, H.self, Sub.fresh hj, S.off hj⟩
        rintro _ σ'' ⟨j, rfl, hj, hs, oj⟩
        have hX : (if ct then [] else [[12, (l : Int)]] : List Ins).length ≤ 1 := by split <;> simp
        refine Evs.nil <| CallR.extend (S.sub hs).fr hj (by simp only [List.length_map]; omega) ⟨rfl, ?_⟩
        rw [← List.map_append]
        exact Ex.nil (hq _ (S.sub hs).far)
      refine Ex.cons <| Ex1.assign sc rfl <| Ev.mono (Q := fun v σ' => v = .bool (decide (w = 3 ∨ (l ∈ tls ∧ h₂ = res))) ∧ σ₁₁ = σ') (Ev.or2 <| Ev.cmp <| Ev.loc rfl <| Ev.int <| Op2.eqI ⟨_, rfl, ?_⟩) ?_
      · by_cases h3 : w = 3
        · rw [show ((w : Int) == 3) = true from beq_iff_eq.mpr (by omega)]
          exact ⟨by rw [decide_eq_true (.inl h3)], rfl⟩
        · rw [show ((w : Int) == 3) = false from beq_eq_false_iff_ne.mpr (by omega)]
          refine Ev.and2 <| Ev.cmp <| Ev.loc rfl <| Ev.loc rfl <| Op2.inNat htl ⟨_, rfl, ?_⟩
          by_cases h1 : l ∈ tls
          · rw [decide_eq_true h1]
            refine Ev.cmp <| Ev.loc rfl <| Ev.loc rfl <| Op2.eqI ⟨?_, rfl⟩
            by_cases h2 : h₂ = res
            · rw [decide_eq_true (.inr ⟨h1, h2⟩), show ((h₂ : Int) == res) = true from beq_iff_eq.mpr (by omega)]
            · rw [decide_eq_false (by rintro (e | e); exact h3 e; exact h2 e.2), show ((h₂ : Int) == res) = false from beq_eq_false_iff_ne.mpr (by omega)]
          · rw [decide_eq_false h1]
            exact ⟨by rw [decide_eq_false (by rintro (e | e); exact h3 e; exact h1 e.1)], rfl⟩
      rintro _ _ ⟨rfl, rfl⟩
      generalize hct : decide (w = 3 ∨ (l ∈ tls ∧ h₂ = res)) = ct
      refine Ex.cons <| Ex1.iff sc <| Tr.val <| Ev.loc rfl ⟨ak, rfl, ?_⟩
      cases ak with
      | false =>
        refine Ex.nil (last ct rfl rfl rfl hp S' (by simp only [List.length_append, Bool.false_eq_true, if_false, List.length_nil]; omega) fun σ₁₂ S => Ex.nil (Ex.nil (fin σ₁₂ ts₄ h₂ (if w = 4 then [[12, (l : Int)]] else []) (if ct then [] else [[12, (l : Int)]]) (by simpa using S) ?_ (by omega) (by omega) (by split <;> simp))))
        by_cases h3 : w = 3
        · rw [if_neg (by omega), ← hct, decide_eq_true (.inl h3)]; exact EndR.nil
        · have h4 : w = 4 := by omega
          rw [if_pos h4, ← hct]
          have := EndR.br (d := d) (dp := dp) (res := res) (tl := tls) (h := h₂) (l := l) (.inl rfl)
          by_cases h5 : l ∈ tls ∧ h₂ = res
          · rw [if_pos h5] at this; rw [decide_eq_true (.inr h5)]; exact this
          · rw [if_neg h5] at this; rw [decide_eq_false (by rintro (e | e); exact h3 e; exact h5 e)]; exact this
      | true =>
        replace S' : St3 σ₀ t a b σ₁₁ ts₄ (N ++ pad h h₂ ++ [[32, 0]] ++ ([[13, (m1 : Int)]] ++ (if w = 4 then [[12, (l : Int)]] else []))) (F ++ pad h h₂ ++ [[32, 0]]) := S'
        refine Ex.cons <| Ex1.expr sc <| Ev.lmeth lm_append (Ev.loc rfl ⟨b, _, rfl, S'.fr, Evs.cons <| Ev.mono (Q := fun v σ' => v = insV (if ct = true ∧ m1 ∈ tls then [26] else [13, (m1 : Int)]) ∧ σ₁₁ = σ') (Ev.ite <| Tr.andE <| Tr.val <| Ev.loc rfl ⟨_, rfl, ?_⟩) ?_⟩) (fun env => ⟨_, rfl⟩)
        · cases ct with
          | false => exact Ev.tuple <| Evs.cons <| Ev.int <| Evs.cons <| Ev.loc rfl <| Evs.nil ⟨Nat.le_of_ble_eq_true rfl, rfl, rfl⟩
          | true =>
            refine Tr.andE <| Tr.cmp <| Ev.loc rfl <| Ev.loc rfl <| Op2.inNat htl ⟨_, rfl, ?_⟩
            by_cases h1 : m1 ∈ tls
            · rw [decide_eq_true h1, show (if true = true ∧ m1 ∈ tls then [26] else [13, (m1 : Int)] : Ins) = [26] from if_pos ⟨rfl, h1⟩]
              exact Tr.and0 <| Ev.tuple <| Evs.cons <| Ev.int <| Evs.nil ⟨Nat.le_of_ble_eq_true rfl, rfl, rfl⟩
            · rw [decide_eq_false h1, show (if true = true ∧ m1 ∈ tls then [26] else [13, (m1 : Int)] : Ins) = [13, (m1 : Int)] from if_neg fun e => h1 e.2]
              exact Ev.tuple <| Evs.cons <| Ev.int <| Evs.cons <| Ev.loc rfl <| Evs.nil ⟨Nat.le_of_ble_eq_true rfl, rfl, rfl⟩
        rintro _ _ ⟨rfl, rfl⟩
        refine Evs.nil <| CallR.append S'.fr (by simp only [List.length_map, List.length_append, List.length_cons, List.length_nil]; omega) ⟨rfl, ?_⟩
        have e1 : O.list ((F ++ pad h h₂ ++ [[32, 0]]).map insV ++ [insV (if ct = true ∧ m1 ∈ tls then [26] else [13, (m1 : Int)])]) = insO (F ++ pad h h₂ ++ [[32, 0]] ++ [if ct = true ∧ m1 ∈ tls then [26] else [13, (m1 : Int)]]) := by
          rw [insO, List.map_append (l₂ := [if ct = true ∧ m1 ∈ tls then [26] else [13, (m1 : Int)]])]; rfl
        rw [e1]
        refine Ex.nil (last ct rfl rfl rfl ((H.ne opl.b).trans hp) S'.far (by simp only [List.length_append, List.length_cons, List.length_nil]; omega) fun σ₁₂ S => Ex.nil (Ex.nil (fin σ₁₂ ts₄ h₂ ([[32, 0], [13, (m1 : Int)]] ++ if w = 4 then [[12, (l : Int)]] else [])
          ([[32, 0], if ct = true ∧ m1 ∈ tls then [26] else [13, (m1 : Int)]] ++ if ct then [] else [[12, (l : Int)]]) (by simpa using S) ?_ (by omega) (by simp only [List.length_append, List.length_cons, List.length_nil]; omega) (by simp only [List.length_append, List.length_cons, List.length_nil]; split <;> simp))))
        by_cases h3 : w = 3
        · rw [if_neg (by omega), ← hct, decide_eq_true (.inl h3)]
          have := EndR.brif (d := d) (dp := dp) (tl := tls) (m := m1) (res := res)
          rw [hh3 h3]; simpa using this
        · have h4 : w = 4 := by omega
          rw [if_pos h4, ← hct]
          have := EndR.brifbr (d := d) (dp := dp) (tl := tls) (m := m1) (l := l) (h := h₂) (res := res)
          by_cases h5 : l ∈ tls ∧ h₂ = res
          · rw [if_pos h5] at this; rw [decide_eq_true (.inr h5)]; simpa using this
          · rw [if_neg h5] at this; rw [decide_eq_false (by rintro (e | e); exact h3 e; exact h5 e)]; simpa using this
end
end Mine

namespace Mine
open PySem PySem.W PyProof.Rows PySem.Calls PySem.Spec

structure LL (ρ : Loc) (t a b h res tl lb d : Nat) : Prop where
  tape : ρ.lookup (Str.ofString "tape") = some (.ref t)
  near : ρ.lookup (Str.ofString "near") = some (.ref a)
  far : ρ.lookup (Str.ofString "far") = some (.ref b)
  high : ρ.lookup (Str.ofString "high") = some (.int h)
  results : ρ.lookup (Str.ofString "results") = some (.int res)
  tails : ρ.lookup (Str.ofString "tails") = some (.ref tl)
  labels : ρ.lookup (Str.ofString "labels") = some (.ref lb)
  depth : ρ.lookup (Str.ofString "depth") = some (.int d)
theorem set_other {ρ : Loc} {x y : Str} {v : V} {u : Option V} (h : (y == x) = false) (l : ρ.lookup y = u) : (setL ρ x v).lookup y = u := (lookup_setL ..).trans ((if_neg (by simpa using h)).trans l)
theorem set_self {ρ : Loc} {x : Str} {v : V} : (setL ρ x v).lookup x = some v := (lookup_setL ..).trans (if_pos rfl)
noncomputable def llNames : List Str := [Str.ofString "tape", Str.ofString "near", Str.ofString "far", Str.ofString "results", Str.ofString "tails", Str.ofString "labels", Str.ofString "depth", Str.ofString "high"]
theorem ll_ne {x : Str} (h : (llNames.all fun y => !(y == x)) = true) {y : Str} (hy : y ∈ llNames) : (y == x) = false := by
  have := List.all_eq_true.mp h y hy
  simpa using this
theorem LL.set {ρ : Loc} {t a b h res tl lb d : Nat} {x : Str} {v : V} (l : LL ρ t a b h res tl lb d) (hx : (llNames.all fun y => !(y == x)) = true) : LL (setL ρ x v) t a b h res tl lb d :=
  ⟨set_other (ll_ne hx (by decide)) l.tape, set_other (ll_ne hx (by decide)) l.near, set_other (ll_ne hx (by decide)) l.far, set_other (ll_ne hx (by decide)) l.high, set_other (ll_ne hx (by decide)) l.results, set_other (ll_ne hx (by decide)) l.tails, set_other (ll_ne hx (by decide)) l.labels, set_other (ll_ne hx (by decide)) l.depth⟩
theorem LL.set_high {ρ : Loc} {t a b h res tl lb d h' : Nat} (l : LL ρ t a b h res tl lb d) : LL (setL ρ (Str.ofString "high") (.int h')) t a b h' res tl lb d :=
  ⟨set_other (by decide) l.tape, set_other (by decide) l.near, set_other (by decide) l.far, set_self, set_other (by decide) l.results, set_other (by decide) l.tails, set_other (by decide) l.labels, set_other (by decide) l.depth⟩

noncomputable def bodyL : List Stmt := match b_law_list with
  | .For _ _ b _ _ :: _ => b
  | _ => []
section
variable {c : Cx} {n m : Nat} {σ σ₀ : H} {t a b : Nat} {ts : List Int} {N F : List Ins} {sc : Scope} {ρ : Loc}
/-- one turn of the loop of law_list -/
theorem turn_ok (k : Ok c) {d h res dp tl lb : Nat} {ls : List Nat} {Q : AF → Loc → H → Prop} (hB : ∀ e, d = e + 1 → ListC c e (n + 2 * e + 4)) (L : LL ρ t a b h res tl lb d) (S : St3 σ₀ t a b σ ts N F)
    (hlb : σ lb = some (natO ls.reverse)) (olb : St3.Off t a b lb) (hls : ls.length = dp + 1) (hl2 : ∀ x ∈ ls, x ≤ 2) (hdp : dp + d ≤ 3) (hh : h ≤ 40)
    (hN : N.length + W d / 5 + 2500 ≤ sizeLine) (hF : F.length + W d / 5 + 2500 ≤ sizeLine)
    (q : ∀ ρ' σ' ts' X Y h', LL ρ' t a b h' res tl lb d → St3 σ₀ t a b σ' ts' (N ++ X.flat) (F ++ Y.flat) → Mid d dp X Y h h' → h' ≤ max h 3 + 2 → X.flat.length ≤ W d / 5 + 200 → Y.flat.length ≤ W d / 5 + 200 → Q .next ρ' σ') :
    Ex c (n + 2 * d + 3) s_law_list bodyL ρ σ Q := by
  have sc := (d_law_list k).ok
  refine Ex.cons <| Ex1.iff sc <| Tr.mono (Q := fun bt σ' => (bt = true → ∃ e, d = e + 1) ∧ ∃ ts', St3 σ t a b σ' ts' N F) (Tr.andE <| Tr.cmp <| Ev.loc L.depth <| Ev.int <| Op2.gtI ⟨_, rfl, ?_⟩) ?_
  · by_cases h0 : d = 0
    · rw [decide_eq_false (show ¬ ((0 : Int) < d) by omega)]
      simp only [Bool.false_eq_true, if_false]
      exact ⟨(fun e => by cases e), _, S.base⟩
    · rw [decide_eq_true (show (0 : Int) < d by omega)]
      refine Tr.andE <| Tr.cmp <| Ev.nextC k 4 S.base rfl L.tape fun σ₁ ts₁ i hi S₁ => Ev.int <| Op2.eqI ⟨_, rfl, ?_⟩
      split
      · refine Tr.and0 ?_
        exact ⟨fun _ => ⟨d - 1, by omega⟩, _, S₁⟩
      · exact ⟨(fun e => by cases e), _, S₁⟩
  rintro bt σ₁ ⟨hbt, ts₁, S₁⟩
  replace hlb := S₁.get olb hlb
  replace S := S.trans S₁
  clear S₁
  cases bt with
  | false =>
    refine Ex.cons <| Ex1.assign sc rfl <| Ev.callG rfl (g_law_plain k) (kp_523 k) <| Evs.cons <| Ev.loc L.tape <| Evs.cons <| Ev.loc L.near <| Evs.cons <| Ev.loc L.far <| Evs.cons <| Ev.loc L.high <| Evs.nil <| plain_ok k S (by omega) ?_ ?_ fun σ₂ ts₂ X h' S₂ hr hh' hX => ?_
    · omega
    · omega
    refine Ex.nil (Ex.nil (q _ σ₂ ts₂ (Pcs.ofL X) (Pcs.ofL X) h' L.set_high (by rw [Pcs.flat_ofL]; exact S₂) (Mid.run hr) hh' (by rw [Pcs.flat_ofL]; omega) (by rw [Pcs.flat_ofL]; omega)))
  | true =>
    obtain ⟨e, rfl⟩ := hbt rfl
    have LC : ListC c e (n + 2 * e + 4) := hB e rfl
    have hWe := W_succ e
    have hWp := W_pos e
    refine Ex.cons <| Ex1.swap (xs := [Str.ofString "takes", Str.ofString "puts"]) sc (by decide) <| Ev.tuple <| Evs.cons <| Ev.nextC k 3 S.base rfl L.tape fun σ₂ ts₂ tk htk S₂ => Evs.cons <| Ev.nextC k 3 S₂ rfl L.tape fun σ₃ ts₃ p hp S₃ => Evs.nil ⟨Nat.le_of_ble_eq_true rfl, _, rfl, rfl, ?_⟩
    replace hlb := S₃.get olb hlb
    replace S := S.trans S₃
    clear S₂ S₃
    have L₁ : LL (setLs ρ [Str.ofString "puts", Str.ofString "takes"] [.int p, .int tk]) t a b h res tl lb (e + 1) := (L.set (by decide)).set (by decide)
    have lt₁ : (setLs ρ [Str.ofString "puts", Str.ofString "takes"] [.int p, .int tk]).lookup (Str.ofString "takes") = some (.int tk) := set_self
    have lp₁ : (setLs ρ [Str.ofString "puts", Str.ofString "takes"] [.int p, .int tk]).lookup (Str.ofString "puts") = some (.int p) := set_other (by decide) set_self
    change Ex _ _ _ _ (setLs ρ [Str.ofString "puts", Str.ofString "takes"] [.int p, .int tk]) _ _
    generalize setLs ρ [Str.ofString "puts", Str.ofString "takes"] [.int p, .int tk] = ρ₁ at *
    refine Ex.cons <| Ex1.assign sc rfl <| Ev.callG rfl (g_law_high k) (kp_516 k) <| Evs.cons <| Ev.loc L₁.near <| Evs.cons <| Ev.loc L₁.far <| Evs.cons <| Ev.loc L₁.high <| Evs.cons <| Ev.callB <| Ev.blt rfl (gb_max k) bb_max ⟨_, rfl, Evs.cons <| Ev.loc L₁.high <| Evs.cons <| Ev.loc lt₁ <| Evs.nil <| CallR.maxI ?_⟩ (by decide) rfl
    rw [maxE]
    refine Evs.nil <| high_ok k S.base (by omega) (by omega) (by omega) (by omega) fun σ₄ S₄ => ?_
    have hpd := pad_len h (max h tk)
    replace hlb := S₄.get olb hlb
    replace S := S.trans S₄
    clear S₄
    have L₂ := L₁.set_high (h' := max h tk)
    have lt₂ := set_other (x := Str.ofString "high") (v := .int (max h tk : Nat)) (by decide) lt₁
    have lp₂ := set_other (x := Str.ofString "high") (v := .int (max h tk : Nat)) (by decide) lp₁
    change Ex _ _ _ _ (setL ρ₁ (Str.ofString "high") (.int (max h tk : Nat))) _ _
    generalize setL ρ₁ (Str.ofString "high") (.int (max h tk : Nat)) = ρ₂ at *
    refine Ex.cons <| Ex1.expr sc <| Ev.callG rfl (g_law_block k) (kp_528 k) <| Evs.cons <| Ev.loc L₂.tape <| Evs.cons <| Ev.loc L₂.near <| Evs.cons <| Ev.loc L₂.far <| Evs.cons <| Ev.loc lt₂ <| Evs.cons <| Ev.loc lp₂ <| Evs.cons <|
      Ev.listE <| Evs.nil ⟨Nat.le_of_ble_eq_true rfl, fun j hj => Evs.cons <| Ev.loc L₂.labels <| Evs.cons <| Ev.loc L₂.depth <| Evs.nil ?_⟩
    refine block_ok k (m := n + 2 * e) (tls := []) LC (S.fresh hj).base H.self (S.off hj) (H.get hj hlb) olb hls hl2 (by simp) hdp (by omega) (by omega) (by simp only [List.length_append]; omega) (by simp only [List.length_append]; omega) fun σ₅ ts₅ X Y S₅ B hX hY => ⟨rfl, ?_⟩
    replace S := (S.fresh hj).trans S₅
    clear S₅
    refine Ex.cons <| Ex1.expr sc <| Ev.callG rfl (g_law_both k) (kp_509 k) <| Evs.cons <| Ev.loc L₂.near <| Evs.cons <| Ev.loc L₂.far <| Evs.cons <| Ev.cLst (X := [[1]]) rfl (by decide) fun j hj => Evs.nil <| both_ok k (S.fresh hj) H.self (S.off hj) ?_ ?_ fun σ₆ S₆ => ⟨rfl, ?_⟩
    · simp only [List.length_append, List.length_cons, List.length_nil]; omega
    · simp only [List.length_append, List.length_cons, List.length_nil]; omega
    refine Ex.cons <| Ex1.assign sc rfl <| Ev.bin <| Ev.bin <| Ev.loc L₂.high <| Ev.loc lt₂ <| Op2.sub <| Ev.loc lp₂ <| Op2.add ?_
    rw [show ((max h tk : Nat) : Int) - tk + p = ((max h tk - tk + p : Nat) : Int) by omega]
    have M1 : Mid (e + 1) dp (Pcs.ofL (pad h (max h tk))) (Pcs.ofL (pad h (max h tk))) h (max h tk) := Mid.run (run_pad h (max h tk))
    have M2 := M1.comp (Mid.blk B (by omega) rfl)
    refine Ex.nil (Ex.nil (q _ σ₆ ts₅ _ _ _ L₂.set_high ?_ M2 (by omega) ?_ ?_))
    · simpa [Pcs.flat_app, Pcs.flat_ofL, Pcs.flat] using S₆
    · simp only [Pcs.flat_app, Pcs.flat_ofL, Pcs.flat, List.length_append, List.length_cons, List.length_nil]; omega
    · simp only [Pcs.flat_app, Pcs.flat_ofL, Pcs.flat, List.length_append, List.length_cons, List.length_nil]; omega

theorem fmodN (i m : Nat) : (i : Int).fmod ((m : Int) + 1) = ((i % (m + 1) : Nat) : Int) := by rw [Int.fmod_eq_emod_of_nonneg _ (by omega)]; rfl
theorem loop_ok (k : Ok c) {d h res dp tl lb M : Nat} {ls : List Nat} {Q : AF → Loc → H → Prop} (hB : ∀ e, d = e + 1 → ListC c e (n + 2 * e + 4))
    (olb : St3.Off t a b lb) (hlb : σ₀ lb = some (natO ls.reverse)) (hls : ls.length = dp + 1) (hl2 : ∀ x ∈ ls, x ≤ 2) (hdp : dp + d ≤ 3) (hM : M ≤ 3)
    (hN : N.length + W d + 2000 ≤ sizeLine) (hF : F.length + W d + 2000 ≤ sizeLine)
    (q : ∀ ρ' σ' ts' X Y h', LL ρ' t a b h' res tl lb d → St3 σ₀ t a b σ' ts' (N ++ X.flat) (F ++ Y.flat) → Mid d dp X Y h h' → h' ≤ 9 → X.flat.length ≤ 3 * (W d / 5 + 200) → Y.flat.length ≤ 3 * (W d / 5 + 200) → Q .next ρ' σ') :
    ∀ (r i : Nat) (ρ : Loc) (σ : H) (ts : List Int) (X Y : Pcs) (hi : Nat), i + r = M → LL ρ t a b hi res tl lb d → St3 σ₀ t a b σ ts (N ++ X.flat) (F ++ Y.flat) → Mid d dp X Y h hi → hi ≤ 3 + 2 * i →
      X.flat.length ≤ i * (W d / 5 + 200) → Y.flat.length ≤ i * (W d / 5 + 200) → LoopF c (n + 2 * d + 3) s_law_list (.name (Str.ofString "k")) bodyL (itRange 0 M) Q (r + 1) i ρ σ
  | 0, i, ρ, σ, ts, X, Y, hi, hr, L, S, Md, hh, hX, hY => by
    have e : itRange 0 M i σ = some none := by unfold itRange; rw [if_neg (by omega)]
    simp only [LoopF, e]
    have h3 : i * (W d / 5 + 200) ≤ 3 * (W d / 5 + 200) := Nat.mul_le_mul_right _ (by omega)
    exact q ρ σ ts X Y hi L S Md (by omega) (by omega) (by omega)
  | r + 1, i, ρ, σ, ts, X, Y, hi, hr, L, S, Md, hh, hX, hY => by
    have e : itRange 0 M i σ = some (some (.int (0 + i))) := by unfold itRange; rw [if_pos (by omega)]
    have hW := W_pos d
    have h2 : i * (W d / 5 + 200) ≤ 2 * (W d / 5 + 200) := Nat.mul_le_mul_right _ (by omega)
    rw [LoopF]
    simp only [e]
    refine ⟨_, rfl, turn_ok k hB (L.set (by decide)) S (S.get olb hlb) olb hls hl2 hdp (by omega) ?_ ?_ fun ρ' σ' ts' X' Y' h' L' S' M' hh' hX' hY' => ?_⟩
    · rw [List.length_append]; omega
    · rw [List.length_append]; omega
    · have h4 : (i + 1) * (W d / 5 + 200) = i * (W d / 5 + 200) + (W d / 5 + 200) := by rw [Nat.add_mul, Nat.one_mul]
      refine loop_ok k hB olb hlb hls hl2 hdp hM hN hF q r (i + 1) ρ' σ' ts' (X.app X') (Y.app Y') h' (by omega) L' ?_ (Md.comp M') (by omega) ?_ ?_
      · rw [Pcs.flat_app, Pcs.flat_app, ← List.append_assoc, ← List.append_assoc]; exact S'
      · rw [Pcs.flat_app, List.length_append]; omega
      · rw [Pcs.flat_app, List.length_append]; omega
theorem list_step (k : Ok c) {d : Nat} (hB : ∀ e, d = e + 1 → ListC c e (n + 2 * e + 4)) : ListC c d (n + 2 * d + 4) := by
  intro σ₀ σ t a b ts N F h res dp tl lb tls ls Q S htl otl hlb olb hls hl2 htls hdp hh hr hN hF q
  refine CodeR.enter (d_law_list k) rfl ?_
  have sc := (d_law_list k).ok
  have L₀ : LL ([Str.ofString "tape", Str.ofString "near", Str.ofString "far", Str.ofString "high", Str.ofString "results", Str.ofString "tails", Str.ofString "labels", Str.ofString "depth"].zip [.ref t, .ref a, .ref b, .int h, .int res, .ref tl, .ref lb, .int d]) t a b h res tl lb d :=
    ⟨rfl, rfl, rfl, rfl, rfl, rfl, rfl, rfl⟩
  have hW := W_pos d
  have rest : ∀ ρ σ₁ ts₁ X Y hi, LL ρ t a b hi res tl lb d → St3 σ t a b σ₁ ts₁ (N ++ X.flat) (F ++ Y.flat) → Mid d dp X Y h hi → hi ≤ 9 → X.flat.length ≤ 3 * (W d / 5 + 200) → Y.flat.length ≤ 3 * (W d / 5 + 200) →
      Ex c (n + 2 * d + 3) s_law_list (b_law_list.drop 1) ρ σ₁ fun fl _ σ' => match fl with | .ret v => Q v σ' | .next => Q .none σ' | _ => False := by
    intro ρ σ₁ ts₁ X Y hi L S₁ Md hh hX hY
    replace htl := S₁.get otl htl
    replace hlb := S₁.get olb hlb
    replace S := S.trans S₁
    clear S₁
    refine Ex.cons <| Ex1.iff sc <| Tr.mono (Q := fun bt σ' => (bt = true → ∃ e, d = e + 1) ∧ ∃ ts', St3 σ₁ t a b σ' ts' (N ++ X.flat) (F ++ Y.flat)) (Tr.andE <| Tr.cmp <| Ev.loc L.depth <| Ev.int <| Op2.gtI ⟨_, rfl, ?_⟩) ?_
    · by_cases h0 : d = 0
      · rw [decide_eq_false (show ¬ ((0 : Int) < d) by omega)]
        simp only [Bool.false_eq_true, if_false]
        exact ⟨(fun e => by cases e), _, S.base⟩
      · rw [decide_eq_true (show (0 : Int) < d by omega)]
        refine Tr.andE <| Tr.cmp <| Ev.nextC k 2 S.base rfl L.tape fun σ₁ ts₁ i hi S₁ => Ev.int <| Op2.eqI ⟨_, rfl, ?_⟩
        split
        · refine Tr.and0 ?_
          exact ⟨fun _ => ⟨d - 1, by omega⟩, _, S₁⟩
        · exact ⟨(fun e => by cases e), _, S₁⟩
    rintro bt σ₂ ⟨hbt, ts₂, S₂⟩
    replace htl := S₂.get otl htl
    replace hlb := S₂.get olb hlb
    replace S := S.trans S₂
    clear S₂
    have hfin : ∀ σ' ts' E E', St3 σ₀ t a b σ' ts' (N ++ X.flat ++ E.flat) (F ++ Y.flat ++ E'.flat) → EndR d dp res tls E E' hi → E.flat.length ≤ W d / 5 + 300 → E'.flat.length ≤ W d / 5 + 300 → Q .none σ' := by
      intro σ' ts' E E' S e h1 h2
      have e' := e.pre Md
      refine q σ' ts' (X.app E) (Y.app E') ?_ e'.1 e'.cut ?_ ?_
      · rw [Pcs.flat_app, Pcs.flat_app, ← List.append_assoc, ← List.append_assoc]; exact S
      · rw [Pcs.flat_app, List.length_append]; omega
      · rw [Pcs.flat_app, List.length_append]; omega
    cases bt with
    | false =>
      refine Ex.cons <| Ex1.expr sc <| Ev.callG rfl (g_law_end k) (kp_535 k) <| Evs.cons <| Ev.loc L.tape <| Evs.cons <| Ev.loc L.near <| Evs.cons <| Ev.loc L.far <| Evs.cons <| Ev.loc L.high <| Evs.cons <| Ev.loc L.results <| Evs.cons <| Ev.loc L.tails <| Evs.cons <| Ev.loc L.labels <| Evs.nil ?_
      refine end_ok k (d := d) S htl otl hlb olb hls hl2 htls (by omega) (by omega) hr ?_ ?_ fun σ' ts' E E' S' e h1 h2 => ⟨rfl, Ex.nil (Ex.nil (hfin σ' ts' E E' S' e (by omega) (by omega)))⟩
      · rw [List.length_append]; omega
      · rw [List.length_append]; omega
    | true =>
      obtain ⟨e, rfl⟩ := hbt rfl
      have LC : ListC c e (n + 2 * e + 4) := hB e rfl
      have hWe := W_succ e
      have hWp := W_pos e
      refine Ex.cons <| Ex1.assign sc rfl <| Ev.bin <| Ev.nextC k 3 S.base rfl L.tape fun σ₃ ts₃ i hi' S₃ => Ev.bin <| Ev.loc L.results <| Ev.int <| Op2.add <| Op2.mod (by omega) ?_
      rw [fmodN]
      have hbe : i % (res + 1) ≤ res := Nat.le_of_lt_succ (Nat.mod_lt _ (Nat.succ_pos _))
      generalize i % (res + 1) = be at hbe ⊢
      replace htl := S₃.get otl htl
      replace hlb := S₃.get olb hlb
      replace S := S.trans S₃
      clear S₃
      have L₁ := L.set (x := Str.ofString "beneath") (v := .int be) (by decide)
      have lb₁ : (setL ρ (Str.ofString "beneath") (.int be)).lookup (Str.ofString "beneath") = some (.int be) := set_self
      generalize setL ρ (Str.ofString "beneath") (.int be) = ρ₁ at *
      refine Ex.cons <| Ex1.assign sc rfl <| Ev.nextC k 3 S.base rfl L₁.tape fun σ₄ ts₄ tk htk S₄ => ?_
      replace htl := S₄.get otl htl
      replace hlb := S₄.get olb hlb
      replace S := S.trans S₄
      clear S₄
      have L₂ := L₁.set (x := Str.ofString "takes") (v := .int tk) (by decide)
      have lb₂ := set_other (x := Str.ofString "takes") (v := .int tk) (by decide) lb₁
      have lt₂ : (setL ρ₁ (Str.ofString "takes") (.int tk)).lookup (Str.ofString "takes") = some (.int tk) := set_self
      generalize setL ρ₁ (Str.ofString "takes") (.int tk) = ρ₂ at *
      refine Ex.cons <| Ex1.drop sc <| Ev.callG rfl (g_law_high k) (kp_516 k) <| Evs.cons <| Ev.loc L₂.near <| Evs.cons <| Ev.loc L₂.far <| Evs.cons <| Ev.loc L₂.high <| Evs.cons <| Ev.bin <| Ev.loc lb₂ <| Ev.loc lt₂ <| Op2.add <| Evs.nil ?_
      rw [show (be : Int) + tk = ((be + tk : Nat) : Int) by omega]
      refine high_ok k S.base (by omega) (by omega) (by rw [List.length_append]; omega) (by rw [List.length_append]; omega) fun σ₅ S₅ => ?_
      have hpd := pad_len hi (be + tk)
      replace htl := S₅.get otl htl
      replace hlb := S₅.get olb hlb
      replace S := S.trans S₅
      clear S₅
      refine Ex.cons <| Ex1.expr sc <| Ev.callG rfl (g_law_block k) (kp_528 k) <| Evs.cons <| Ev.loc L₂.tape <| Evs.cons <| Ev.loc L₂.near <| Evs.cons <| Ev.loc L₂.far <| Evs.cons <| Ev.loc lt₂ <| Evs.cons <| Ev.bin <| Ev.loc L₂.results <| Ev.loc lb₂ <| Op2.sub <| Evs.cons <|
        Ev.mono (Q := fun v σ' => ∃ j, v = .ref j ∧ σ' j = some (natO (if be = 0 then tls else [])) ∧ Sub σ₅ σ' ∧ St3.Off t a b j) (Ev.ite <| Tr.cmp <| Ev.loc lb₂ <| Ev.int <| Op2.eqI ⟨_, rfl, ?_⟩) ?_
      · by_cases h0 : be = 0
        · subst h0; exact Ev.loc L₂.tails ⟨tl, rfl, htl, .refl _, otl⟩
        · rw [show ((be : Int) == 0) = false from beq_eq_false_iff_ne.mpr (by omega), if_neg h0]
          exact Ev.listE <| Evs.nil ⟨Nat.le_of_ble_eq_true rfl, fun j hj => ⟨j, rfl, H.self, Sub.fresh hj, S.off hj⟩⟩
      rintro _ σ₆ ⟨j, rfl, hj, hs, oj⟩
      rw [show (res : Int) - be = ((res - be : Nat) : Int) by omega]
      refine Evs.cons <| Ev.loc L₂.labels <| Evs.cons <| Ev.loc L₂.depth <| Evs.nil ?_
      refine block_ok k (m := n + 2 * e) LC (S.sub hs).base hj oj (hs _ _ hlb) olb hls hl2 ?_ hdp (by omega) (by omega) ?_ ?_ fun σ₇ ts₇ BX BY S₇ B hBX hBY => ⟨rfl, Ex.nil (Ex.nil (hfin σ₇ ts₇ ((Pcs.ofL (pad hi (be + tk))).app BX) ((Pcs.ofL (pad hi (be + tk))).app BY) ?_ ?_ ?_ ?_))⟩
      · split
        · exact htls
        · exact Nat.zero_le _
      · simp only [List.length_append]; omega
      · simp only [List.length_append]; omega
      · have := (S.sub hs).trans S₇
        simp only [Pcs.flat_app, Pcs.flat_ofL, List.append_assoc] at this ⊢; exact this
      · exact EndR.pre (Mid.run (run_pad hi (be + tk))) (EndR.blk (by omega) B)
      · simp only [Pcs.flat_app, Pcs.flat_ofL, List.length_append]; omega
      · simp only [Pcs.flat_app, Pcs.flat_ofL, List.length_append]; omega
  refine Ex.cons <| Ex1.forE (T := .name (Str.ofString "k")) sc ⟨⟨_, rfl⟩, rfl⟩ (IterE.toF <| IterE.range (Ev.blt rfl (gb_range k) bb_range ⟨rfl, Ev.nextC k 4 S.base rfl L₀.tape fun σ₁ ts₁ M hM S₁ => ⟨M, rfl, by omega, M + 1, ?_⟩⟩ (by decide) rfl))
  refine loop_ok k hB olb hlb hls hl2 hdp (by omega) hN hF (fun ρ' σ' ts' X Y h' L' S' M' h1 h2 h3 => rest ρ' σ' ts' X Y h' L' S' M' h1 h2 h3) M 0 _ σ₁ ts₁ .nil .nil h (by omega) L₀ (by simpa [Pcs.flat] using S₁) .nil (by omega) (by simp [Pcs.flat]) (by simp [Pcs.flat])
theorem list_ok (k : Ok c) : ∀ (d n : Nat), ListC c d (n + 2 * d + 4)
  | 0, n => list_step k fun e h => by omega
  | d + 1, n => list_step k fun e h => by
    have : e = d := by omega
    subst this
    intro σ₀ σ t a b ts N F h res dp tl lb tls ls Q
    exact list_ok k e n
end
end Mine

namespace Mine
open PySem PySem.W PyProof.Rows PySem.Calls PySem.Spec

noncomputable def tabEs (K : Frag) (a : Addr) : Array DictEntry := match K.lookup a with
  | some ⟨_, _, .dict es _, _⟩ => es
  | _ => #[]
noncomputable def keysB (es : Array DictEntry) : Bool := es.toList.all fun e => match e.key with
  | .int i _ => e.hash == hashInt i
  | _ => false
theorem keysOf {prog : Program} {w : World} {es : Array DictEntry} (h : keysB es = true) : KeysOf (intKind prog w) es := by
  intro e he
  have := List.all_eq_true.mp h e (by simpa using he)
  split at this
  · rename_i i t hk
    exact ⟨i, by rw [hk]; show Value.isInt i (.int i t) = true; simp [Value.isInt], by show e.hash = hashInt i; simpa using this⟩
  · cases this
structure TabOk (c : Cx) (a : Addr) (es : Array DictEntry) : Prop where
  sys : (a == sysModules) = false
  lk : ∃ ep, c.K.lookup a = some ⟨.type "dict", none, .dict es ep, #[]⟩
  keys : keysB es = true
noncomputable def seen (es : Array DictEntry) (k : Int) : Option Value := findBy Value.isInt es k
section
variable {c : Cx} {n : Nat} {σ : H}
theorem Op2.inAt {a : Addr} {es : Array DictEntry} {k : Int} {Q : V → H → Prop} (T : TabOk c a es) (q : Q (.bool (seen es k).isSome) σ) : Op2 c n (compareOp .In) (.int k) (.con (.ref a)) σ Q := by
  obtain ⟨ep, h⟩ := T.lk
  refine Op2.inTab (f := fun k => (seen es k).map V.con) ⟨T.sys, es, ep, h, keysOf T.keys, fun k => ?_⟩ ?_
  · show match (seen es k).map V.con with | none => seen es k = none | some v => ∃ cv, seen es k = some cv ∧ ∀ w, RepV c w v cv
    cases seen es k with
    | none => rfl
    | some v => exact ⟨v, rfl, fun w => by simp only [RepV]⟩
  · rw [Option.isSome_map]; exact q
theorem Op2.itemAt {value slice : Expr} {a : Addr} {es : Array DictEntry} {k : Int} {v : V} {cv : Value} {Q : V → H → Prop} (T : TabOk c a es) (hk : seen es k = some cv) (hv : ∀ w, RepV c w v cv) (q : Q v σ)
    (hs : ∀ o x, subscripted slice false o x = operate [o, x] (getItem o x) := by intro _ _; rfl) : Op2 c n (subscriptTail value slice) (.con (.ref a)) (.int k) σ Q := by
  obtain ⟨ep, h⟩ := T.lk
  refine Op2.itemTab (f := fun j => if j = k then some v else (seen es j).map V.con) ⟨T.sys, es, ep, h, keysOf T.keys, fun j => ?_⟩ (if_pos rfl) q hs
  by_cases hj : j = k
  · subst hj
    simp only [if_true]
    exact ⟨cv, hk, hv⟩
  · simp only [if_neg hj]
    show match (seen es j).map V.con with | none => seen es j = none | some v => ∃ cv, seen es j = some cv ∧ ∀ w, RepV c w v cv
    cases seen es j with
    | none => rfl
    | some v => exact ⟨v, rfl, fun w => by simp only [RepV]⟩
end
noncomputable def es_LOADS (P : Params) : Array DictEntry := tabEs (Hd.heap P) 22
theorem tab_LOADS {c : Cx} (k : Ok c) : TabOk c 22 (es_LOADS c.w.params) := by
  refine ⟨by decide, ?_, by kernel_rfl⟩
  rw [k.K]; exact ⟨_, rfl⟩
noncomputable def es_STORES (P : Params) : Array DictEntry := tabEs (Hd.heap P) 35
theorem tab_STORES {c : Cx} (k : Ok c) : TabOk c 35 (es_STORES c.w.params) := by
  refine ⟨by decide, ?_, by kernel_rfl⟩
  rw [k.K]; exact ⟨_, rfl⟩
noncomputable def es_FIXED (P : Params) : Array DictEntry := tabEs (Hd.heap P) 43
theorem tab_FIXED {c : Cx} (k : Ok c) : TabOk c 43 (es_FIXED c.w.params) := by
  refine ⟨by decide, ?_, by kernel_rfl⟩
  rw [k.K]; exact ⟨_, rfl⟩
noncomputable def es_COUNTS (P : Params) : Array DictEntry := tabEs (Hd.heap P) 138
theorem tab_COUNTS {c : Cx} (k : Ok c) : TabOk c 138 (es_COUNTS c.w.params) := by
  refine ⟨by decide, ?_, by kernel_rfl⟩
  rw [k.K]; exact ⟨_, rfl⟩
theorem t_53 {c : Cx} (k : Ok c) (w : Wd) : RepV c w (.tup []) (.ref 53) := by
  rw [RepV]; refine ⟨53, _, _, rfl, .inr (by rw [k.K]; rfl), ?_⟩
  simp only [RepVs]
theorem t_54 {c : Cx} (k : Ok c) (w : Wd) : RepV c w (.tup [.int (-1)]) (.ref 54) := by
  rw [RepV]; refine ⟨54, _, _, rfl, .inr (by rw [k.K]; rfl), ?_⟩
  simp only [RepVs, RepV]
  exact ⟨_, _, rfl, ⟨_, rfl⟩, rfl⟩
theorem t_55 {c : Cx} (k : Ok c) (w : Wd) : RepV c w (.tup [.tup [], .tup [.int (-1)]]) (.ref 55) := by
  rw [RepV]; refine ⟨55, _, _, rfl, .inr (by rw [k.K]; rfl), ?_⟩
  simp only [RepVs, RepV]
  exact ⟨_, _, rfl, (by simpa only [RepVs, RepV] using t_53 k w), _, _, rfl, (by simpa only [RepVs, RepV] using t_54 k w), rfl⟩
theorem t_143 {c : Cx} (k : Ok c) (w : Wd) : RepV c w (.tup [.int (0), .int (1)]) (.ref 143) := by
  rw [RepV]; refine ⟨143, _, _, rfl, .inr (by rw [k.K]; rfl), ?_⟩
  simp only [RepVs, RepV]
  exact ⟨_, _, rfl, ⟨_, rfl⟩, _, _, rfl, ⟨_, rfl⟩, rfl⟩
theorem t_144 {c : Cx} (k : Ok c) (w : Wd) : RepV c w (.tup [.int (1), .int (0)]) (.ref 144) := by
  rw [RepV]; refine ⟨144, _, _, rfl, .inr (by rw [k.K]; rfl), ?_⟩
  simp only [RepVs, RepV]
  exact ⟨_, _, rfl, ⟨_, rfl⟩, _, _, rfl, ⟨_, rfl⟩, rfl⟩
theorem t_145 {c : Cx} (k : Ok c) (w : Wd) : RepV c w (.tup [.int (1), .int (1)]) (.ref 145) := by
  rw [RepV]; refine ⟨145, _, _, rfl, .inr (by rw [k.K]; rfl), ?_⟩
  simp only [RepVs, RepV]
  exact ⟨_, _, rfl, ⟨_, rfl⟩, _, _, rfl, ⟨_, rfl⟩, rfl⟩
theorem t_146 {c : Cx} (k : Ok c) (w : Wd) : RepV c w (.tup [.int (0), .int (1)]) (.ref 146) := by
  rw [RepV]; refine ⟨146, _, _, rfl, .inr (by rw [k.K]; rfl), ?_⟩
  simp only [RepVs, RepV]
  exact ⟨_, _, rfl, ⟨_, rfl⟩, _, _, rfl, ⟨_, rfl⟩, rfl⟩
theorem t_147 {c : Cx} (k : Ok c) (w : Wd) : RepV c w (.tup [.int (1), .int (0)]) (.ref 147) := by
  rw [RepV]; refine ⟨147, _, _, rfl, .inr (by rw [k.K]; rfl), ?_⟩
  simp only [RepVs, RepV]
  exact ⟨_, _, rfl, ⟨_, rfl⟩, _, _, rfl, ⟨_, rfl⟩, rfl⟩
theorem t_140 {c : Cx} (k : Ok c) (w : Wd) : RepV c w (.tup [.int (1), .int (0)]) (.ref 140) := by
  rw [RepV]; refine ⟨140, _, _, rfl, .inr (by rw [k.K]; rfl), ?_⟩
  simp only [RepVs, RepV]
  exact ⟨_, _, rfl, ⟨_, rfl⟩, _, _, rfl, ⟨_, rfl⟩, rfl⟩
theorem t_141 {c : Cx} (k : Ok c) (w : Wd) : RepV c w (.tup [.int (3), .int (1)]) (.ref 141) := by
  rw [RepV]; refine ⟨141, _, _, rfl, .inr (by rw [k.K]; rfl), ?_⟩
  simp only [RepVs, RepV]
  exact ⟨_, _, rfl, ⟨_, rfl⟩, _, _, rfl, ⟨_, rfl⟩, rfl⟩
theorem t_142 {c : Cx} (k : Ok c) (w : Wd) : RepV c w (.tup [.int (3), .int (1)]) (.ref 142) := by
  rw [RepV]; refine ⟨142, _, _, rfl, .inr (by rw [k.K]; rfl), ?_⟩
  simp only [RepVs, RepV]
  exact ⟨_, _, rfl, ⟨_, rfl⟩, _, _, rfl, ⟨_, rfl⟩, rfl⟩
theorem t_23 {c : Cx} (k : Ok c) (w : Wd) : RepV c w (.tup [.int (-1), .int (4), .int (0)]) (.ref 23) := by
  rw [RepV]; refine ⟨23, _, _, rfl, .inr (by rw [k.K]; rfl), ?_⟩
  simp only [RepVs, RepV]
  exact ⟨_, _, rfl, ⟨_, rfl⟩, _, _, rfl, ⟨_, rfl⟩, _, _, rfl, ⟨_, rfl⟩, rfl⟩
theorem t_36 {c : Cx} (k : Ok c) (w : Wd) : RepV c w (.tup [.int (-1), .int (4)]) (.ref 36) := by
  rw [RepV]; refine ⟨36, _, _, rfl, .inr (by rw [k.K]; rfl), ?_⟩
  simp only [RepVs, RepV]
  exact ⟨_, _, rfl, ⟨_, rfl⟩, _, _, rfl, ⟨_, rfl⟩, rfl⟩
theorem t_47 {c : Cx} (k : Ok c) (w : Wd) : RepV c w (.tup []) (.ref 47) := by
  rw [RepV]; refine ⟨47, _, _, rfl, .inr (by rw [k.K]; rfl), ?_⟩
  simp only [RepVs]
theorem t_48 {c : Cx} (k : Ok c) (w : Wd) : RepV c w (.tup [.int (-1)]) (.ref 48) := by
  rw [RepV]; refine ⟨48, _, _, rfl, .inr (by rw [k.K]; rfl), ?_⟩
  simp only [RepVs, RepV]
  exact ⟨_, _, rfl, ⟨_, rfl⟩, rfl⟩
theorem t_49 {c : Cx} (k : Ok c) (w : Wd) : RepV c w (.tup [.tup [], .tup [.int (-1)]]) (.ref 49) := by
  rw [RepV]; refine ⟨49, _, _, rfl, .inr (by rw [k.K]; rfl), ?_⟩
  simp only [RepVs, RepV]
  exact ⟨_, _, rfl, (by simpa only [RepVs, RepV] using t_47 k w), _, _, rfl, (by simpa only [RepVs, RepV] using t_48 k w), rfl⟩
theorem t_50 {c : Cx} (k : Ok c) (w : Wd) : RepV c w (.tup [.int (-1)]) (.ref 50) := by
  rw [RepV]; refine ⟨50, _, _, rfl, .inr (by rw [k.K]; rfl), ?_⟩
  simp only [RepVs, RepV]
  exact ⟨_, _, rfl, ⟨_, rfl⟩, rfl⟩
theorem t_51 {c : Cx} (k : Ok c) (w : Wd) : RepV c w (.tup [.int (-1)]) (.ref 51) := by
  rw [RepV]; refine ⟨51, _, _, rfl, .inr (by rw [k.K]; rfl), ?_⟩
  simp only [RepVs, RepV]
  exact ⟨_, _, rfl, ⟨_, rfl⟩, rfl⟩
theorem t_52 {c : Cx} (k : Ok c) (w : Wd) : RepV c w (.tup [.tup [.int (-1)], .tup [.int (-1)]]) (.ref 52) := by
  rw [RepV]; refine ⟨52, _, _, rfl, .inr (by rw [k.K]; rfl), ?_⟩
  simp only [RepVs, RepV]
  exact ⟨_, _, rfl, (by simpa only [RepVs, RepV] using t_50 k w), _, _, rfl, (by simpa only [RepVs, RepV] using t_51 k w), rfl⟩
theorem t_68 {c : Cx} (k : Ok c) (w : Wd) : RepV c w (.tup [.int (-1), .int (-1), .int (-1)]) (.ref 68) := by
  rw [RepV]; refine ⟨68, _, _, rfl, .inr (by rw [k.K]; rfl), ?_⟩
  simp only [RepVs, RepV]
  exact ⟨_, _, rfl, ⟨_, rfl⟩, _, _, rfl, ⟨_, rfl⟩, _, _, rfl, ⟨_, rfl⟩, rfl⟩
theorem t_69 {c : Cx} (k : Ok c) (w : Wd) : RepV c w (.tup []) (.ref 69) := by
  rw [RepV]; refine ⟨69, _, _, rfl, .inr (by rw [k.K]; rfl), ?_⟩
  simp only [RepVs]
theorem t_70 {c : Cx} (k : Ok c) (w : Wd) : RepV c w (.tup [.tup [.int (-1), .int (-1), .int (-1)], .tup []]) (.ref 70) := by
  rw [RepV]; refine ⟨70, _, _, rfl, .inr (by rw [k.K]; rfl), ?_⟩
  simp only [RepVs, RepV]
  exact ⟨_, _, rfl, (by simpa only [RepVs, RepV] using t_68 k w), _, _, rfl, (by simpa only [RepVs, RepV] using t_69 k w), rfl⟩
theorem t_71 {c : Cx} (k : Ok c) (w : Wd) : RepV c w (.tup [.int (-1), .int (-1), .int (-1)]) (.ref 71) := by
  rw [RepV]; refine ⟨71, _, _, rfl, .inr (by rw [k.K]; rfl), ?_⟩
  simp only [RepVs, RepV]
  exact ⟨_, _, rfl, ⟨_, rfl⟩, _, _, rfl, ⟨_, rfl⟩, _, _, rfl, ⟨_, rfl⟩, rfl⟩
theorem t_72 {c : Cx} (k : Ok c) (w : Wd) : RepV c w (.tup []) (.ref 72) := by
  rw [RepV]; refine ⟨72, _, _, rfl, .inr (by rw [k.K]; rfl), ?_⟩
  simp only [RepVs]
theorem t_73 {c : Cx} (k : Ok c) (w : Wd) : RepV c w (.tup [.tup [.int (-1), .int (-1), .int (-1)], .tup []]) (.ref 73) := by
  rw [RepV]; refine ⟨73, _, _, rfl, .inr (by rw [k.K]; rfl), ?_⟩
  simp only [RepVs, RepV]
  exact ⟨_, _, rfl, (by simpa only [RepVs, RepV] using t_71 k w), _, _, rfl, (by simpa only [RepVs, RepV] using t_72 k w), rfl⟩
theorem t_83 {c : Cx} (k : Ok c) (w : Wd) : RepV c w (.tup []) (.ref 83) := by
  rw [RepV]; refine ⟨83, _, _, rfl, .inr (by rw [k.K]; rfl), ?_⟩
  simp only [RepVs]
theorem t_84 {c : Cx} (k : Ok c) (w : Wd) : RepV c w (.tup [.int (-1)]) (.ref 84) := by
  rw [RepV]; refine ⟨84, _, _, rfl, .inr (by rw [k.K]; rfl), ?_⟩
  simp only [RepVs, RepV]
  exact ⟨_, _, rfl, ⟨_, rfl⟩, rfl⟩
theorem t_85 {c : Cx} (k : Ok c) (w : Wd) : RepV c w (.tup [.tup [], .tup [.int (-1)]]) (.ref 85) := by
  rw [RepV]; refine ⟨85, _, _, rfl, .inr (by rw [k.K]; rfl), ?_⟩
  simp only [RepVs, RepV]
  exact ⟨_, _, rfl, (by simpa only [RepVs, RepV] using t_83 k w), _, _, rfl, (by simpa only [RepVs, RepV] using t_84 k w), rfl⟩
theorem t_150 {c : Cx} (k : Ok c) (w : Wd) : RepV c w (.tup [.int (0), .int (1)]) (.ref 150) := by
  rw [RepV]; refine ⟨150, _, _, rfl, .inr (by rw [k.K]; rfl), ?_⟩
  simp only [RepVs, RepV]
  exact ⟨_, _, rfl, ⟨_, rfl⟩, _, _, rfl, ⟨_, rfl⟩, rfl⟩
theorem t_151 {c : Cx} (k : Ok c) (w : Wd) : RepV c w (.tup [.int (1), .int (1)]) (.ref 151) := by
  rw [RepV]; refine ⟨151, _, _, rfl, .inr (by rw [k.K]; rfl), ?_⟩
  simp only [RepVs, RepV]
  exact ⟨_, _, rfl, ⟨_, rfl⟩, _, _, rfl, ⟨_, rfl⟩, rfl⟩
theorem t_148 {c : Cx} (k : Ok c) (w : Wd) : RepV c w (.tup [.int (1), .int (1)]) (.ref 148) := by
  rw [RepV]; refine ⟨148, _, _, rfl, .inr (by rw [k.K]; rfl), ?_⟩
  simp only [RepVs, RepV]
  exact ⟨_, _, rfl, ⟨_, rfl⟩, _, _, rfl, ⟨_, rfl⟩, rfl⟩
theorem t_149 {c : Cx} (k : Ok c) (w : Wd) : RepV c w (.tup [.int (2), .int (0)]) (.ref 149) := by
  rw [RepV]; refine ⟨149, _, _, rfl, .inr (by rw [k.K]; rfl), ?_⟩
  simp only [RepVs, RepV]
  exact ⟨_, _, rfl, ⟨_, rfl⟩, _, _, rfl, ⟨_, rfl⟩, rfl⟩
theorem t_152 {c : Cx} (k : Ok c) (w : Wd) : RepV c w (.tup [.int (2), .int (1)]) (.ref 152) := by
  rw [RepV]; refine ⟨152, _, _, rfl, .inr (by rw [k.K]; rfl), ?_⟩
  simp only [RepVs, RepV]
  exact ⟨_, _, rfl, ⟨_, rfl⟩, _, _, rfl, ⟨_, rfl⟩, rfl⟩
theorem t_153 {c : Cx} (k : Ok c) (w : Wd) : RepV c w (.tup [.int (3), .int (0)]) (.ref 153) := by
  rw [RepV]; refine ⟨153, _, _, rfl, .inr (by rw [k.K]; rfl), ?_⟩
  simp only [RepVs, RepV]
  exact ⟨_, _, rfl, ⟨_, rfl⟩, _, _, rfl, ⟨_, rfl⟩, rfl⟩
theorem t_59 {c : Cx} (k : Ok c) (w : Wd) : RepV c w (.tup []) (.ref 59) := by
  rw [RepV]; refine ⟨59, _, _, rfl, .inr (by rw [k.K]; rfl), ?_⟩
  simp only [RepVs]
theorem t_60 {c : Cx} (k : Ok c) (w : Wd) : RepV c w (.tup [.int (-16)]) (.ref 60) := by
  rw [RepV]; refine ⟨60, _, _, rfl, .inr (by rw [k.K]; rfl), ?_⟩
  simp only [RepVs, RepV]
  exact ⟨_, _, rfl, ⟨_, rfl⟩, rfl⟩
theorem t_61 {c : Cx} (k : Ok c) (w : Wd) : RepV c w (.tup [.tup [], .tup [.int (-16)]]) (.ref 61) := by
  rw [RepV]; refine ⟨61, _, _, rfl, .inr (by rw [k.K]; rfl), ?_⟩
  simp only [RepVs, RepV]
  exact ⟨_, _, rfl, (by simpa only [RepVs, RepV] using t_59 k w), _, _, rfl, (by simpa only [RepVs, RepV] using t_60 k w), rfl⟩
theorem t_44 {c : Cx} (k : Ok c) (w : Wd) : RepV c w (.tup []) (.ref 44) := by
  rw [RepV]; refine ⟨44, _, _, rfl, .inr (by rw [k.K]; rfl), ?_⟩
  simp only [RepVs]
theorem t_45 {c : Cx} (k : Ok c) (w : Wd) : RepV c w (.tup []) (.ref 45) := by
  rw [RepV]; refine ⟨45, _, _, rfl, .inr (by rw [k.K]; rfl), ?_⟩
  simp only [RepVs]
theorem t_46 {c : Cx} (k : Ok c) (w : Wd) : RepV c w (.tup [.tup [], .tup []]) (.ref 46) := by
  rw [RepV]; refine ⟨46, _, _, rfl, .inr (by rw [k.K]; rfl), ?_⟩
  simp only [RepVs, RepV]
  exact ⟨_, _, rfl, (by simpa only [RepVs, RepV] using t_44 k w), _, _, rfl, (by simpa only [RepVs, RepV] using t_45 k w), rfl⟩
theorem t_62 {c : Cx} (k : Ok c) (w : Wd) : RepV c w (.tup [.int (-1), .int (-1), .int (-1)]) (.ref 62) := by
  rw [RepV]; refine ⟨62, _, _, rfl, .inr (by rw [k.K]; rfl), ?_⟩
  simp only [RepVs, RepV]
  exact ⟨_, _, rfl, ⟨_, rfl⟩, _, _, rfl, ⟨_, rfl⟩, _, _, rfl, ⟨_, rfl⟩, rfl⟩
theorem t_63 {c : Cx} (k : Ok c) (w : Wd) : RepV c w (.tup []) (.ref 63) := by
  rw [RepV]; refine ⟨63, _, _, rfl, .inr (by rw [k.K]; rfl), ?_⟩
  simp only [RepVs]
theorem t_64 {c : Cx} (k : Ok c) (w : Wd) : RepV c w (.tup [.tup [.int (-1), .int (-1), .int (-1)], .tup []]) (.ref 64) := by
  rw [RepV]; refine ⟨64, _, _, rfl, .inr (by rw [k.K]; rfl), ?_⟩
  simp only [RepVs, RepV]
  exact ⟨_, _, rfl, (by simpa only [RepVs, RepV] using t_62 k w), _, _, rfl, (by simpa only [RepVs, RepV] using t_63 k w), rfl⟩
theorem t_65 {c : Cx} (k : Ok c) (w : Wd) : RepV c w (.tup []) (.ref 65) := by
  rw [RepV]; refine ⟨65, _, _, rfl, .inr (by rw [k.K]; rfl), ?_⟩
  simp only [RepVs]
theorem t_66 {c : Cx} (k : Ok c) (w : Wd) : RepV c w (.tup []) (.ref 66) := by
  rw [RepV]; refine ⟨66, _, _, rfl, .inr (by rw [k.K]; rfl), ?_⟩
  simp only [RepVs]
theorem t_67 {c : Cx} (k : Ok c) (w : Wd) : RepV c w (.tup [.tup [], .tup []]) (.ref 67) := by
  rw [RepV]; refine ⟨67, _, _, rfl, .inr (by rw [k.K]; rfl), ?_⟩
  simp only [RepVs, RepV]
  exact ⟨_, _, rfl, (by simpa only [RepVs, RepV] using t_65 k w), _, _, rfl, (by simpa only [RepVs, RepV] using t_66 k w), rfl⟩
theorem t_74 {c : Cx} (k : Ok c) (w : Wd) : RepV c w (.tup [.int (-1), .int (-1), .int (-1)]) (.ref 74) := by
  rw [RepV]; refine ⟨74, _, _, rfl, .inr (by rw [k.K]; rfl), ?_⟩
  simp only [RepVs, RepV]
  exact ⟨_, _, rfl, ⟨_, rfl⟩, _, _, rfl, ⟨_, rfl⟩, _, _, rfl, ⟨_, rfl⟩, rfl⟩
theorem t_75 {c : Cx} (k : Ok c) (w : Wd) : RepV c w (.tup []) (.ref 75) := by
  rw [RepV]; refine ⟨75, _, _, rfl, .inr (by rw [k.K]; rfl), ?_⟩
  simp only [RepVs]
theorem t_76 {c : Cx} (k : Ok c) (w : Wd) : RepV c w (.tup [.tup [.int (-1), .int (-1), .int (-1)], .tup []]) (.ref 76) := by
  rw [RepV]; refine ⟨76, _, _, rfl, .inr (by rw [k.K]; rfl), ?_⟩
  simp only [RepVs, RepV]
  exact ⟨_, _, rfl, (by simpa only [RepVs, RepV] using t_74 k w), _, _, rfl, (by simpa only [RepVs, RepV] using t_75 k w), rfl⟩
theorem t_77 {c : Cx} (k : Ok c) (w : Wd) : RepV c w (.tup []) (.ref 77) := by
  rw [RepV]; refine ⟨77, _, _, rfl, .inr (by rw [k.K]; rfl), ?_⟩
  simp only [RepVs]
theorem t_78 {c : Cx} (k : Ok c) (w : Wd) : RepV c w (.tup []) (.ref 78) := by
  rw [RepV]; refine ⟨78, _, _, rfl, .inr (by rw [k.K]; rfl), ?_⟩
  simp only [RepVs]
theorem t_79 {c : Cx} (k : Ok c) (w : Wd) : RepV c w (.tup [.tup [], .tup []]) (.ref 79) := by
  rw [RepV]; refine ⟨79, _, _, rfl, .inr (by rw [k.K]; rfl), ?_⟩
  simp only [RepVs, RepV]
  exact ⟨_, _, rfl, (by simpa only [RepVs, RepV] using t_77 k w), _, _, rfl, (by simpa only [RepVs, RepV] using t_78 k w), rfl⟩
theorem t_139 {c : Cx} (k : Ok c) (w : Wd) : RepV c w (.tup [.int (1), .int (0)]) (.ref 139) := by
  rw [RepV]; refine ⟨139, _, _, rfl, .inr (by rw [k.K]; rfl), ?_⟩
  simp only [RepVs, RepV]
  exact ⟨_, _, rfl, ⟨_, rfl⟩, _, _, rfl, ⟨_, rfl⟩, rfl⟩
theorem t_86 {c : Cx} (k : Ok c) (w : Wd) : RepV c w (.tup [.int (-1)]) (.ref 86) := by
  rw [RepV]; refine ⟨86, _, _, rfl, .inr (by rw [k.K]; rfl), ?_⟩
  simp only [RepVs, RepV]
  exact ⟨_, _, rfl, ⟨_, rfl⟩, rfl⟩
theorem t_87 {c : Cx} (k : Ok c) (w : Wd) : RepV c w (.tup [.int (-1)]) (.ref 87) := by
  rw [RepV]; refine ⟨87, _, _, rfl, .inr (by rw [k.K]; rfl), ?_⟩
  simp only [RepVs, RepV]
  exact ⟨_, _, rfl, ⟨_, rfl⟩, rfl⟩
theorem t_88 {c : Cx} (k : Ok c) (w : Wd) : RepV c w (.tup [.int (69), .int (69), .tup [.int (-1)], .tup [.int (-1)]]) (.ref 88) := by
  rw [RepV]; refine ⟨88, _, _, rfl, .inr (by rw [k.K]; rfl), ?_⟩
  simp only [RepVs, RepV]
  exact ⟨_, _, rfl, ⟨_, rfl⟩, _, _, rfl, ⟨_, rfl⟩, _, _, rfl, (by simpa only [RepVs, RepV] using t_86 k w), _, _, rfl, (by simpa only [RepVs, RepV] using t_87 k w), rfl⟩
theorem t_89 {c : Cx} (k : Ok c) (w : Wd) : RepV c w (.tup [.int (-1), .int (-1)]) (.ref 89) := by
  rw [RepV]; refine ⟨89, _, _, rfl, .inr (by rw [k.K]; rfl), ?_⟩
  simp only [RepVs, RepV]
  exact ⟨_, _, rfl, ⟨_, rfl⟩, _, _, rfl, ⟨_, rfl⟩, rfl⟩
theorem t_90 {c : Cx} (k : Ok c) (w : Wd) : RepV c w (.tup [.int (-1)]) (.ref 90) := by
  rw [RepV]; refine ⟨90, _, _, rfl, .inr (by rw [k.K]; rfl), ?_⟩
  simp only [RepVs, RepV]
  exact ⟨_, _, rfl, ⟨_, rfl⟩, rfl⟩
theorem t_91 {c : Cx} (k : Ok c) (w : Wd) : RepV c w (.tup [.int (70), .int (79), .tup [.int (-1), .int (-1)], .tup [.int (-1)]]) (.ref 91) := by
  rw [RepV]; refine ⟨91, _, _, rfl, .inr (by rw [k.K]; rfl), ?_⟩
  simp only [RepVs, RepV]
  exact ⟨_, _, rfl, ⟨_, rfl⟩, _, _, rfl, ⟨_, rfl⟩, _, _, rfl, (by simpa only [RepVs, RepV] using t_89 k w), _, _, rfl, (by simpa only [RepVs, RepV] using t_90 k w), rfl⟩
theorem t_92 {c : Cx} (k : Ok c) (w : Wd) : RepV c w (.tup [.int (-2)]) (.ref 92) := by
  rw [RepV]; refine ⟨92, _, _, rfl, .inr (by rw [k.K]; rfl), ?_⟩
  simp only [RepVs, RepV]
  exact ⟨_, _, rfl, ⟨_, rfl⟩, rfl⟩
theorem t_93 {c : Cx} (k : Ok c) (w : Wd) : RepV c w (.tup [.int (-1)]) (.ref 93) := by
  rw [RepV]; refine ⟨93, _, _, rfl, .inr (by rw [k.K]; rfl), ?_⟩
  simp only [RepVs, RepV]
  exact ⟨_, _, rfl, ⟨_, rfl⟩, rfl⟩
theorem t_94 {c : Cx} (k : Ok c) (w : Wd) : RepV c w (.tup [.int (80), .int (80), .tup [.int (-2)], .tup [.int (-1)]]) (.ref 94) := by
  rw [RepV]; refine ⟨94, _, _, rfl, .inr (by rw [k.K]; rfl), ?_⟩
  simp only [RepVs, RepV]
  exact ⟨_, _, rfl, ⟨_, rfl⟩, _, _, rfl, ⟨_, rfl⟩, _, _, rfl, (by simpa only [RepVs, RepV] using t_92 k w), _, _, rfl, (by simpa only [RepVs, RepV] using t_93 k w), rfl⟩
theorem t_95 {c : Cx} (k : Ok c) (w : Wd) : RepV c w (.tup [.int (-2), .int (-2)]) (.ref 95) := by
  rw [RepV]; refine ⟨95, _, _, rfl, .inr (by rw [k.K]; rfl), ?_⟩
  simp only [RepVs, RepV]
  exact ⟨_, _, rfl, ⟨_, rfl⟩, _, _, rfl, ⟨_, rfl⟩, rfl⟩
theorem t_96 {c : Cx} (k : Ok c) (w : Wd) : RepV c w (.tup [.int (-1)]) (.ref 96) := by
  rw [RepV]; refine ⟨96, _, _, rfl, .inr (by rw [k.K]; rfl), ?_⟩
  simp only [RepVs, RepV]
  exact ⟨_, _, rfl, ⟨_, rfl⟩, rfl⟩
theorem t_97 {c : Cx} (k : Ok c) (w : Wd) : RepV c w (.tup [.int (81), .int (90), .tup [.int (-2), .int (-2)], .tup [.int (-1)]]) (.ref 97) := by
  rw [RepV]; refine ⟨97, _, _, rfl, .inr (by rw [k.K]; rfl), ?_⟩
  simp only [RepVs, RepV]
  exact ⟨_, _, rfl, ⟨_, rfl⟩, _, _, rfl, ⟨_, rfl⟩, _, _, rfl, (by simpa only [RepVs, RepV] using t_95 k w), _, _, rfl, (by simpa only [RepVs, RepV] using t_96 k w), rfl⟩
theorem t_98 {c : Cx} (k : Ok c) (w : Wd) : RepV c w (.tup [.int (-1)]) (.ref 98) := by
  rw [RepV]; refine ⟨98, _, _, rfl, .inr (by rw [k.K]; rfl), ?_⟩
  simp only [RepVs, RepV]
  exact ⟨_, _, rfl, ⟨_, rfl⟩, rfl⟩
theorem t_99 {c : Cx} (k : Ok c) (w : Wd) : RepV c w (.tup [.int (-1)]) (.ref 99) := by
  rw [RepV]; refine ⟨99, _, _, rfl, .inr (by rw [k.K]; rfl), ?_⟩
  simp only [RepVs, RepV]
  exact ⟨_, _, rfl, ⟨_, rfl⟩, rfl⟩
theorem t_100 {c : Cx} (k : Ok c) (w : Wd) : RepV c w (.tup [.int (103), .int (105), .tup [.int (-1)], .tup [.int (-1)]]) (.ref 100) := by
  rw [RepV]; refine ⟨100, _, _, rfl, .inr (by rw [k.K]; rfl), ?_⟩
  simp only [RepVs, RepV]
  exact ⟨_, _, rfl, ⟨_, rfl⟩, _, _, rfl, ⟨_, rfl⟩, _, _, rfl, (by simpa only [RepVs, RepV] using t_98 k w), _, _, rfl, (by simpa only [RepVs, RepV] using t_99 k w), rfl⟩
theorem t_101 {c : Cx} (k : Ok c) (w : Wd) : RepV c w (.tup [.int (-1), .int (-1)]) (.ref 101) := by
  rw [RepV]; refine ⟨101, _, _, rfl, .inr (by rw [k.K]; rfl), ?_⟩
  simp only [RepVs, RepV]
  exact ⟨_, _, rfl, ⟨_, rfl⟩, _, _, rfl, ⟨_, rfl⟩, rfl⟩
theorem t_102 {c : Cx} (k : Ok c) (w : Wd) : RepV c w (.tup [.int (-1)]) (.ref 102) := by
  rw [RepV]; refine ⟨102, _, _, rfl, .inr (by rw [k.K]; rfl), ?_⟩
  simp only [RepVs, RepV]
  exact ⟨_, _, rfl, ⟨_, rfl⟩, rfl⟩
theorem t_103 {c : Cx} (k : Ok c) (w : Wd) : RepV c w (.tup [.int (106), .int (120), .tup [.int (-1), .int (-1)], .tup [.int (-1)]]) (.ref 103) := by
  rw [RepV]; refine ⟨103, _, _, rfl, .inr (by rw [k.K]; rfl), ?_⟩
  simp only [RepVs, RepV]
  exact ⟨_, _, rfl, ⟨_, rfl⟩, _, _, rfl, ⟨_, rfl⟩, _, _, rfl, (by simpa only [RepVs, RepV] using t_101 k w), _, _, rfl, (by simpa only [RepVs, RepV] using t_102 k w), rfl⟩
theorem t_104 {c : Cx} (k : Ok c) (w : Wd) : RepV c w (.tup [.int (-2)]) (.ref 104) := by
  rw [RepV]; refine ⟨104, _, _, rfl, .inr (by rw [k.K]; rfl), ?_⟩
  simp only [RepVs, RepV]
  exact ⟨_, _, rfl, ⟨_, rfl⟩, rfl⟩
theorem t_105 {c : Cx} (k : Ok c) (w : Wd) : RepV c w (.tup [.int (-2)]) (.ref 105) := by
  rw [RepV]; refine ⟨105, _, _, rfl, .inr (by rw [k.K]; rfl), ?_⟩
  simp only [RepVs, RepV]
  exact ⟨_, _, rfl, ⟨_, rfl⟩, rfl⟩
theorem t_106 {c : Cx} (k : Ok c) (w : Wd) : RepV c w (.tup [.int (121), .int (123), .tup [.int (-2)], .tup [.int (-2)]]) (.ref 106) := by
  rw [RepV]; refine ⟨106, _, _, rfl, .inr (by rw [k.K]; rfl), ?_⟩
  simp only [RepVs, RepV]
  exact ⟨_, _, rfl, ⟨_, rfl⟩, _, _, rfl, ⟨_, rfl⟩, _, _, rfl, (by simpa only [RepVs, RepV] using t_104 k w), _, _, rfl, (by simpa only [RepVs, RepV] using t_105 k w), rfl⟩
theorem t_107 {c : Cx} (k : Ok c) (w : Wd) : RepV c w (.tup [.int (-2), .int (-2)]) (.ref 107) := by
  rw [RepV]; refine ⟨107, _, _, rfl, .inr (by rw [k.K]; rfl), ?_⟩
  simp only [RepVs, RepV]
  exact ⟨_, _, rfl, ⟨_, rfl⟩, _, _, rfl, ⟨_, rfl⟩, rfl⟩
theorem t_108 {c : Cx} (k : Ok c) (w : Wd) : RepV c w (.tup [.int (-2)]) (.ref 108) := by
  rw [RepV]; refine ⟨108, _, _, rfl, .inr (by rw [k.K]; rfl), ?_⟩
  simp only [RepVs, RepV]
  exact ⟨_, _, rfl, ⟨_, rfl⟩, rfl⟩
theorem t_109 {c : Cx} (k : Ok c) (w : Wd) : RepV c w (.tup [.int (124), .int (138), .tup [.int (-2), .int (-2)], .tup [.int (-2)]]) (.ref 109) := by
  rw [RepV]; refine ⟨109, _, _, rfl, .inr (by rw [k.K]; rfl), ?_⟩
  simp only [RepVs, RepV]
  exact ⟨_, _, rfl, ⟨_, rfl⟩, _, _, rfl, ⟨_, rfl⟩, _, _, rfl, (by simpa only [RepVs, RepV] using t_107 k w), _, _, rfl, (by simpa only [RepVs, RepV] using t_108 k w), rfl⟩
theorem t_110 {c : Cx} (k : Ok c) (w : Wd) : RepV c w (.tup [.int (-2)]) (.ref 110) := by
  rw [RepV]; refine ⟨110, _, _, rfl, .inr (by rw [k.K]; rfl), ?_⟩
  simp only [RepVs, RepV]
  exact ⟨_, _, rfl, ⟨_, rfl⟩, rfl⟩
theorem t_111 {c : Cx} (k : Ok c) (w : Wd) : RepV c w (.tup [.int (-1)]) (.ref 111) := by
  rw [RepV]; refine ⟨111, _, _, rfl, .inr (by rw [k.K]; rfl), ?_⟩
  simp only [RepVs, RepV]
  exact ⟨_, _, rfl, ⟨_, rfl⟩, rfl⟩
theorem t_112 {c : Cx} (k : Ok c) (w : Wd) : RepV c w (.tup [.int (167), .int (167), .tup [.int (-2)], .tup [.int (-1)]]) (.ref 112) := by
  rw [RepV]; refine ⟨112, _, _, rfl, .inr (by rw [k.K]; rfl), ?_⟩
  simp only [RepVs, RepV]
  exact ⟨_, _, rfl, ⟨_, rfl⟩, _, _, rfl, ⟨_, rfl⟩, _, _, rfl, (by simpa only [RepVs, RepV] using t_110 k w), _, _, rfl, (by simpa only [RepVs, RepV] using t_111 k w), rfl⟩
theorem t_113 {c : Cx} (k : Ok c) (w : Wd) : RepV c w (.tup [.int (-1)]) (.ref 113) := by
  rw [RepV]; refine ⟨113, _, _, rfl, .inr (by rw [k.K]; rfl), ?_⟩
  simp only [RepVs, RepV]
  exact ⟨_, _, rfl, ⟨_, rfl⟩, rfl⟩
theorem t_114 {c : Cx} (k : Ok c) (w : Wd) : RepV c w (.tup [.int (-2)]) (.ref 114) := by
  rw [RepV]; refine ⟨114, _, _, rfl, .inr (by rw [k.K]; rfl), ?_⟩
  simp only [RepVs, RepV]
  exact ⟨_, _, rfl, ⟨_, rfl⟩, rfl⟩
theorem t_115 {c : Cx} (k : Ok c) (w : Wd) : RepV c w (.tup [.int (172), .int (173), .tup [.int (-1)], .tup [.int (-2)]]) (.ref 115) := by
  rw [RepV]; refine ⟨115, _, _, rfl, .inr (by rw [k.K]; rfl), ?_⟩
  simp only [RepVs, RepV]
  exact ⟨_, _, rfl, ⟨_, rfl⟩, _, _, rfl, ⟨_, rfl⟩, _, _, rfl, (by simpa only [RepVs, RepV] using t_113 k w), _, _, rfl, (by simpa only [RepVs, RepV] using t_114 k w), rfl⟩
theorem t_116 {c : Cx} (k : Ok c) (w : Wd) : RepV c w (.tup [.int (-1)]) (.ref 116) := by
  rw [RepV]; refine ⟨116, _, _, rfl, .inr (by rw [k.K]; rfl), ?_⟩
  simp only [RepVs, RepV]
  exact ⟨_, _, rfl, ⟨_, rfl⟩, rfl⟩
theorem t_117 {c : Cx} (k : Ok c) (w : Wd) : RepV c w (.tup [.int (-1)]) (.ref 117) := by
  rw [RepV]; refine ⟨117, _, _, rfl, .inr (by rw [k.K]; rfl), ?_⟩
  simp only [RepVs, RepV]
  exact ⟨_, _, rfl, ⟨_, rfl⟩, rfl⟩
theorem t_118 {c : Cx} (k : Ok c) (w : Wd) : RepV c w (.tup [.int (192), .int (193), .tup [.int (-1)], .tup [.int (-1)]]) (.ref 118) := by
  rw [RepV]; refine ⟨118, _, _, rfl, .inr (by rw [k.K]; rfl), ?_⟩
  simp only [RepVs, RepV]
  exact ⟨_, _, rfl, ⟨_, rfl⟩, _, _, rfl, ⟨_, rfl⟩, _, _, rfl, (by simpa only [RepVs, RepV] using t_116 k w), _, _, rfl, (by simpa only [RepVs, RepV] using t_117 k w), rfl⟩
theorem t_119 {c : Cx} (k : Ok c) (w : Wd) : RepV c w (.tup [.int (-2)]) (.ref 119) := by
  rw [RepV]; refine ⟨119, _, _, rfl, .inr (by rw [k.K]; rfl), ?_⟩
  simp only [RepVs, RepV]
  exact ⟨_, _, rfl, ⟨_, rfl⟩, rfl⟩
theorem t_120 {c : Cx} (k : Ok c) (w : Wd) : RepV c w (.tup [.int (-2)]) (.ref 120) := by
  rw [RepV]; refine ⟨120, _, _, rfl, .inr (by rw [k.K]; rfl), ?_⟩
  simp only [RepVs, RepV]
  exact ⟨_, _, rfl, ⟨_, rfl⟩, rfl⟩
theorem t_121 {c : Cx} (k : Ok c) (w : Wd) : RepV c w (.tup [.int (194), .int (196), .tup [.int (-2)], .tup [.int (-2)]]) (.ref 121) := by
  rw [RepV]; refine ⟨121, _, _, rfl, .inr (by rw [k.K]; rfl), ?_⟩
  simp only [RepVs, RepV]
  exact ⟨_, _, rfl, ⟨_, rfl⟩, _, _, rfl, ⟨_, rfl⟩, _, _, rfl, (by simpa only [RepVs, RepV] using t_119 k w), _, _, rfl, (by simpa only [RepVs, RepV] using t_120 k w), rfl⟩
theorem t_122 {c : Cx} (k : Ok c) (w : Wd) : RepV c w (.tup [.tup [.int (69), .int (69), .tup [.int (-1)], .tup [.int (-1)]], .tup [.int (70), .int (79), .tup [.int (-1), .int (-1)], .tup [.int (-1)]], .tup [.int (80), .int (80), .tup [.int (-2)], .tup [.int (-1)]], .tup [.int (81), .int (90), .tup [.int (-2), .int (-2)], .tup [.int (-1)]], .tup [.int (103), .int (105), .tup [.int (-1)], .tup [.int (-1)]], .tup [.int (106), .int (120), .tup [.int (-1), .int (-1)], .tup [.int (-1)]], .tup [.int (121), .int (123), .tup [.int (-2)], .tup [.int (-2)]], .tup [.int (124), .int (138), .tup [.int (-2), .int (-2)], .tup [.int (-2)]], .tup [.int (167), .int (167), .tup [.int (-2)], .tup [.int (-1)]], .tup [.int (172), .int (173), .tup [.int (-1)], .tup [.int (-2)]], .tup [.int (192), .int (193), .tup [.int (-1)], .tup [.int (-1)]], .tup [.int (194), .int (196), .tup [.int (-2)], .tup [.int (-2)]]]) (.ref 122) := by
  rw [RepV]; refine ⟨122, _, _, rfl, .inr (by rw [k.K]; rfl), ?_⟩
  simp only [RepVs, RepV]
  exact ⟨_, _, rfl, (by simpa only [RepVs, RepV] using t_88 k w), _, _, rfl, (by simpa only [RepVs, RepV] using t_91 k w), _, _, rfl, (by simpa only [RepVs, RepV] using t_94 k w), _, _, rfl, (by simpa only [RepVs, RepV] using t_97 k w), _, _, rfl, (by simpa only [RepVs, RepV] using t_100 k w), _, _, rfl, (by simpa only [RepVs, RepV] using t_103 k w), _, _, rfl, (by simpa only [RepVs, RepV] using t_106 k w), _, _, rfl, (by simpa only [RepVs, RepV] using t_109 k w), _, _, rfl, (by simpa only [RepVs, RepV] using t_112 k w), _, _, rfl, (by simpa only [RepVs, RepV] using t_115 k w), _, _, rfl, (by simpa only [RepVs, RepV] using t_118 k w), _, _, rfl, (by simpa only [RepVs, RepV] using t_121 k w), rfl⟩
theorem t_137 {c : Cx} (k : Ok c) (w : Wd) : RepV c w (.tup [.int (0), .int (12), .int (14), .int (15), .int (18), .int (19)]) (.ref 137) := by
  rw [RepV]; refine ⟨137, _, _, rfl, .inr (by rw [k.K]; rfl), ?_⟩
  simp only [RepVs, RepV]
  exact ⟨_, _, rfl, ⟨_, rfl⟩, _, _, rfl, ⟨_, rfl⟩, _, _, rfl, ⟨_, rfl⟩, _, _, rfl, ⟨_, rfl⟩, _, _, rfl, ⟨_, rfl⟩, _, _, rfl, ⟨_, rfl⟩, rfl⟩
end Mine

namespace Mine
open PySem PySem.W PyProof.Rows PySem.Calls PySem.Spec

noncomputable abbrev Row := Int × Int × List Int × List Int
noncomputable def rowV (r : Row) : V := .tup [.int r.1, .int r.2.1, .tup (r.2.2.1.map V.int), .tup (r.2.2.2.map V.int)]
noncomputable def rowsD : List Row := [(69, 69, [-1], [-1]), (70, 79, [-1, -1], [-1]), (80, 80, [-2], [-1]), (81, 90, [-2, -2], [-1]), (103, 105, [-1], [-1]), (106, 120, [-1, -1], [-1]), (121, 123, [-2], [-2]), (124, 138, [-2, -2], [-2]),
  (167, 167, [-2], [-1]), (172, 173, [-1], [-2]), (192, 193, [-1], [-1]), (194, 196, [-2], [-2])]
noncomputable def numFind : List Row → Int → Option (List Int × List Int)
  | [], _ => none
  | r :: l, x => if r.1 ≤ x then (if x ≤ r.2.1 then some r.2.2 else numFind l x) else numFind l x
noncomputable def numBody : List Stmt := match b_number_kind with
  | .For _ _ b _ _ :: _ => b
  | _ => []
noncomputable def numNames : List Str := [Str.ofString "least", Str.ofString "most", Str.ofString "params", Str.ofString "results"]
section
variable {c : Cx} {n : Nat} {σ : H}
theorem num_loop (k : Ok c) {x : Int} {ps rs : List Int} {Q : AF → Loc → H → Prop} {R : List Row} (q : ∀ ρ, Q (.ret (.tup [.tup (ps.map V.int), .tup (rs.map V.int)])) ρ σ) :
    ∀ (r : List Row) (i : Nat) (ρ : Loc), R.drop i = r → ρ.lookup (Str.ofString "code") = some (.int x) → numFind r x = some (ps, rs) →
      LoopF c n s_number_kind (.names numNames) numBody (itTup (R.map rowV)) Q (r.length + 1) i ρ σ
  | [], i, ρ, hr, l, h => by cases h
  | r0 :: r, i, ρ, hr, l, h => by
    have hlt : i < R.length := by
      rcases Nat.lt_or_ge i R.length with h | h
      · exact h
      · rw [List.drop_eq_nil_of_le h] at hr; cases hr
    have e0 : R[i]? = some r0 := by
      have := List.getElem?_drop (xs := R) (i := i) (j := 0)
      rw [hr] at this; simpa using this.symm
    have e : itTup (R.map rowV) i σ = some (some (rowV r0)) := by unfold itTup; rw [List.getElem?_map, e0]; rfl
    have hd : R.drop (i + 1) = r := by rw [← List.tail_drop, hr]; rfl
    have sc := (d_number_kind k).ok
    rw [List.length_cons, LoopF]
    simp only [e]
    refine ⟨_, rfl, ?_⟩
    have l1 : (setLs ρ numNames [.int r0.1, .int r0.2.1, .tup (r0.2.2.1.map V.int), .tup (r0.2.2.2.map V.int)]).lookup (Str.ofString "code") = some (.int x) := set_other (by decide) <| set_other (by decide) <| set_other (by decide) <| set_other (by decide) l
    have l2 : (setLs ρ numNames [.int r0.1, .int r0.2.1, .tup (r0.2.2.1.map V.int), .tup (r0.2.2.2.map V.int)]).lookup (Str.ofString "least") = some (.int r0.1) := set_other (by decide) <| set_other (by decide) <| set_other (by decide) set_self
    have l3 : (setLs ρ numNames [.int r0.1, .int r0.2.1, .tup (r0.2.2.1.map V.int), .tup (r0.2.2.2.map V.int)]).lookup (Str.ofString "most") = some (.int r0.2.1) := set_other (by decide) <| set_other (by decide) set_self
    have l4 : (setLs ρ numNames [.int r0.1, .int r0.2.1, .tup (r0.2.2.1.map V.int), .tup (r0.2.2.2.map V.int)]).lookup (Str.ofString "params") = some (.tup (r0.2.2.1.map V.int)) := set_other (by decide) set_self
    have l5 : (setLs ρ numNames [.int r0.1, .int r0.2.1, .tup (r0.2.2.1.map V.int), .tup (r0.2.2.2.map V.int)]).lookup (Str.ofString "results") = some (.tup (r0.2.2.2.map V.int)) := set_self
    generalize setLs ρ numNames [.int r0.1, .int r0.2.1, .tup (r0.2.2.1.map V.int), .tup (r0.2.2.2.map V.int)] = ρ₁ at *
    refine Ex.cons <| Ex1.iff sc <| Tr.chainLe <| Ev.loc l2 <| Ev.loc l1 ⟨_, _, rfl, rfl, ?_⟩
    unfold numFind at h
    have go : numFind r x = some (ps, rs) → LoopF c n s_number_kind (.names numNames) numBody (itTup (R.map rowV)) Q (r.length + 1) (i + 1) ρ₁ σ := fun h => num_loop k q r (i + 1) ρ₁ hd l1 h
    split
    · rename_i h1
      rw [if_pos h1] at h
      refine Ev.loc l3 ⟨_, rfl, ?_⟩
      by_cases h2 : x ≤ r0.2.1
      · rw [if_pos h2] at h
        rw [decide_eq_true h2]
        simp only [Option.some.injEq] at h
        refine Ex.cons <| Ex1.ret sc <| Ev.tuple <| Evs.cons <| Ev.loc l4 <| Evs.cons <| Ev.loc l5 <| Evs.nil ⟨Nat.le_of_ble_eq_true rfl, ?_⟩
        have := q ρ₁
        rw [h]; exact this
      · rw [if_neg h2] at h
        rw [decide_eq_false h2]
        exact Ex.nil (Ex.nil (go h))
    · rename_i h1
      rw [if_neg h1] at h
      exact Ex.nil (Ex.nil (go h))
theorem number_kind_ok (k : Ok c) {x : Int} {ps rs : List Int} {Q : V → H → Prop} (h : numFind rowsD x = some (ps, rs)) (q : Q (.tup [.tup (ps.map V.int), .tup (rs.map V.int)]) σ) : CodeR c (n + 1) (.ref 129) [.int x] σ Q := by
  refine CodeR.enter (d_number_kind k) rfl ?_
  have sc := (d_number_kind k).ok
  refine Ex.cons <| Ex1.forE (T := .names numNames) sc ⟨⟨_, _, _, rfl, fun env => ⟨[(_, _), (_, _), (_, _), (_, _)], rfl, rfl⟩⟩, by decide⟩ (IterE.toF <| IterE.of <| Ev.glob rfl (g_NUMBERS k) (fun w => t_122 k w) ⟨_, Itr.tup, rowsD.length + 1, ?_⟩ rfl)
  exact num_loop (R := rowsD) k (fun ρ => q) rowsD 0 _ rfl rfl h
end
end Mine

namespace Mine
open PySem PySem.W PyProof.Rows PySem.Calls PySem.Spec

inductive StackS (c : Cx) : Int → Nat → Nat → Prop
  | fixed {x cv} {ps rs : List V} : seen (es_FIXED c.w.params) x = some cv → (∀ w, RepV c w (.tup [.tup ps, .tup rs]) cv) → StackS c x ps.length rs.length
  | load {x cv} {a : Int} {r : List V} : seen (es_FIXED c.w.params) x = none → seen (es_LOADS c.w.params) x = some cv → (∀ w, RepV c w (.tup (.int a :: r)) cv) → StackS c x 1 1
  | store {x cv} {a : Int} {r : List V} : seen (es_FIXED c.w.params) x = none → seen (es_LOADS c.w.params) x = none → seen (es_STORES c.w.params) x = some cv → (∀ w, RepV c w (.tup (.int a :: r)) cv) → StackS c x 2 0
  | num {x} {ps rs : List Int} : seen (es_FIXED c.w.params) x = none → seen (es_LOADS c.w.params) x = none → seen (es_STORES c.w.params) x = none → numFind rowsD x = some (ps, rs) → StackS c x ps.length rs.length
section
variable {c : Cx} {n : Nat} {σ : H}
theorem stack_ok (k : Ok c) {x : Int} {t p : Nat} {Q : V → H → Prop} (h : StackS c x t p) (q : ∀ ps rs : List V, ps.length = t → rs.length = p → Q (.tup [.tup ps, .tup rs]) σ) : CodeR c (n + 2) (.ref 136) [.int x] σ Q := by
  refine CodeR.enter (d_stack_of k) rfl ?_
  have sc := (d_stack_of k).ok
  have F := tab_FIXED k
  have Ld := tab_LOADS k
  have St := tab_STORES k
  refine Ex.cons <| Ex1.iff sc <| Tr.cmp <| Ev.loc rfl <| Ev.gref rfl (g_FIXED k) <| Op2.inAt F ⟨_, rfl, ?_⟩
  cases h with
  | @fixed cv ps rs h1 h2 =>
    rw [h1]
    refine Ex.cons <| Ex1.ret sc <| Ev.sub <| Ev.gref rfl (g_FIXED k) <| Ev.loc rfl <| Op2.itemAt F h1 h2 ?_
    exact q ps rs rfl rfl
  | @load cv a r h0 h1 h2 =>
    rw [h0]
    refine Ex.nil <| Ex.cons <| Ex1.iff sc <| Tr.cmp <| Ev.loc rfl <| Ev.gref rfl (g_LOADS k) <| Op2.inAt Ld ⟨_, rfl, ?_⟩
    rw [h1]
    refine Ex.cons <| Ex1.ret sc <| Ev.tuple <| Evs.cons <| Ev.tuple <| Evs.cons <| Ev.gint rfl (gi_I32 k) <| Evs.nil ⟨Nat.le_of_ble_eq_true rfl, Evs.cons <| Ev.tuple <| Evs.cons <| Ev.sub <| Ev.sub (Ev.gref rfl (g_LOADS k) <| Ev.loc rfl <| Op2.itemAt Ld h1 h2 <| Ev.int <| Op2.itemTup (j := 0) (by decide) (by decide) (by simp [seqIndex?]) rfl <| Evs.nil ⟨Nat.le_of_ble_eq_true rfl, Evs.nil ⟨Nat.le_of_ble_eq_true rfl, ?_⟩⟩)⟩
    exact q [_] [_] rfl rfl
  | @store cv a r h0 h0' h1 h2 =>
    rw [h0]
    refine Ex.nil <| Ex.cons <| Ex1.iff sc <| Tr.cmp <| Ev.loc rfl <| Ev.gref rfl (g_LOADS k) <| Op2.inAt Ld ⟨_, rfl, ?_⟩
    rw [h0']
    refine Ex.nil <| Ex.cons <| Ex1.iff sc <| Tr.cmp <| Ev.loc rfl <| Ev.gref rfl (g_STORES k) <| Op2.inAt St ⟨_, rfl, ?_⟩
    rw [h1]
    refine Ex.cons <| Ex1.ret sc <| Ev.tuple <| Evs.cons <| Ev.tuple <| Evs.cons <| Ev.gint rfl (gi_I32 k) <| Evs.cons <| Ev.sub <| Ev.sub (Ev.gref rfl (g_STORES k) <| Ev.loc rfl <| Op2.itemAt St h1 h2 <| Ev.int <| Op2.itemTup (j := 0) (by decide) (by decide) (by simp [seqIndex?]) rfl <| Evs.nil ⟨Nat.le_of_ble_eq_true rfl, Evs.cons <| Ev.tuple <| Evs.nil ⟨Nat.le_of_ble_eq_true rfl, Evs.nil ⟨Nat.le_of_ble_eq_true rfl, ?_⟩⟩⟩)
    exact q [_, _] [] rfl rfl
  | @num ps rs h0 h1 h2 h3 =>
    rw [h0]
    refine Ex.nil <| Ex.cons <| Ex1.iff sc <| Tr.cmp <| Ev.loc rfl <| Ev.gref rfl (g_LOADS k) <| Op2.inAt Ld ⟨_, rfl, ?_⟩
    rw [h1]
    refine Ex.nil <| Ex.cons <| Ex1.iff sc <| Tr.cmp <| Ev.loc rfl <| Ev.gref rfl (g_STORES k) <| Op2.inAt St ⟨_, rfl, ?_⟩
    rw [h2]
    refine Ex.nil <| Ex.cons <| Ex1.ret sc <| Ev.callG rfl (g_number_kind k) (kp_129 k) <| Evs.cons <| Ev.loc rfl <| Evs.nil <| number_kind_ok k h3 ?_
    exact q (ps.map V.int) (rs.map V.int) (List.length_map _) (List.length_map _)

/-- where Arities stands -/
noncomputable def kindV (i : Nat) : V := .tup [.tup (List.replicate (i / 3) (.int (-1))), .tup (List.replicate (i % 3) (.int (-1)))]
noncomputable def funcsL : List Int := [5, 0, 1, 2, 3, 4, 5, 6, 7, 8]
structure EnvA (σ : H) (ar kl fl : Nat) : Prop where
  ar : σ ar = some (.inst 268 [(Str.ofString "kinds", .ref kl), (Str.ofString "funcs", .ref fl)])
  kl : σ kl = some (.list ((List.range 9).map kindV))
  fl : σ fl = some (.list (funcsL.map V.int))
theorem EnvA.sub {σ σ' : H} {ar kl fl : Nat} (E : EnvA σ ar kl fl) (h : Sub σ σ') : EnvA σ' ar kl fl := ⟨h _ _ E.ar, h _ _ E.kl, h _ _ E.fl⟩
theorem of_kind_ok (k : Ok c) {ar kl fl i : Nat} {Q : V → H → Prop} (E : EnvA σ ar kl fl) (hi : i < 9) (q : Q (.tup [.int (i / 3 : Nat), .int (i % 3 : Nat)]) σ) : CodeR c (n + 1) (.ref 237) [.ref ar, .int i] σ Q := by
  refine CodeR.enter (d_of_kind k) rfl ?_
  have sc := (d_of_kind k).ok
  have hk : ((List.range 9).map kindV)[i]? = some (kindV i) := by rw [List.getElem?_map, List.getElem?_range hi]; rfl
  refine Ex.cons <| Ex1.unpack (xs := [Str.ofString "params", Str.ofString "results"]) sc (by decide) (fun env => ⟨[(_, _), (_, _)], rfl, rfl⟩) <| Ev.sub <| Ev.attr (Ev.loc rfl <| Op1.field (f_268_kinds k) E.ar rfl rfl <| Ev.loc rfl <| Op2.itemList E.kl (by omega) (by omega) (seq_nat (by rw [List.length_map, List.length_range]; exact hi)) hk ⟨_, rfl, rfl, ?_⟩)
  refine Ex.cons <| Ex1.ret sc <| Ev.tuple <| Evs.cons <| Ev.callB <| Ev.blt rfl (gb_len k) bb_len ⟨_, rfl, Evs.cons <| Ev.loc rfl <| Evs.nil <| CallR.lenTup (by rw [List.length_replicate]; exact Nat.le_trans (show _ ≤ 10 by omega) (Nat.le_of_ble_eq_true rfl)) <|
    Evs.cons <| Ev.callB <| Ev.blt rfl (gb_len k) bb_len ⟨_, rfl, Evs.cons <| Ev.loc rfl <| Evs.nil <| CallR.lenTup (by rw [List.length_replicate]; exact Nat.le_trans (show _ ≤ 10 by omega) (Nat.le_of_ble_eq_true rfl)) <| Evs.nil ⟨Nat.le_of_ble_eq_true rfl, ?_⟩⟩ (by decide) rfl⟩ (by decide) rfl
  rw [List.length_replicate, List.length_replicate]
  exact q

theorem of_block_ok (k : Ok c) {ar kl fl : Nat} {kc ab : Int} {t p : Nat} {Q : V → H → Prop} (E : EnvA σ ar kl fl) (h : blkAr [kc, ab] = some (kc, t, p)) (q : Q (.tup [.int t, .int p]) σ) : CodeR c (n + 2) (.ref 244) [.ref ar, .int ab] σ Q := by
  refine CodeR.enter (d_of_block k) rfl ?_
  have sc := (d_of_block k).ok
  refine Ex.cons <| Ex1.iff sc <| Tr.cmp <| Ev.loc rfl <| Ev.gint rfl (gi_EMPTY k) <| Op2.eqI ⟨_, rfl, ?_⟩
  simp only [blkAr] at h
  split at h
  · split at h
    · rename_i h1 h2
      subst h2
      cases h
      exact Ex.cons <| Ex1.ret sc <| Ev.tuple <| Evs.cons <| Ev.int <| Evs.cons <| Ev.int <| Evs.nil ⟨Nat.le_of_ble_eq_true rfl, q⟩
    · rename_i h1 h2
      rw [show (ab == -64) = false from beq_eq_false_iff_ne.mpr h2]
      refine Ex.nil <| Ex.cons <| Ex1.ret sc <| Ev.ite <| Tr.cmp <| Ev.loc rfl <| Ev.int <| Op2.ltI ⟨_, rfl, ?_⟩
      split at h
      · rename_i h3
        subst h3
        cases h
        exact Ev.tuple <| Evs.cons <| Ev.int <| Evs.cons <| Ev.int <| Evs.nil ⟨Nat.le_of_ble_eq_true rfl, q⟩
      · split at h
        · rename_i h3 h4
          cases h
          rw [decide_eq_false (by omega)]
          refine Ev.meth (Ev.loc rfl ⟨ar, _, _, _, rfl, E.ar, rfl, m_of_kind k, Evs.cons <| Ev.loc rfl <| Evs.nil <| CodeR.call ?_⟩) (fun env => ⟨_, rfl⟩)
          have : ab = (ab.toNat : Int) := by omega
          rw [this]
          exact of_kind_ok k E (by omega) q
        · cases h
  · cases h

inductive CodeS (c : Cx) : Int → Nat → Nat → Prop
  | counts {x cv} {t p : Nat} : seen (es_COUNTS c.w.params) x = some cv → (∀ w, RepV c w (.tup [.int t, .int p]) cv) → CodeS c x t p
  | stack {x t p} : seen (es_COUNTS c.w.params) x = none → StackS c x t p → t ≤ 10 → p ≤ 10 → CodeS c x t p
set_option maxHeartbeats 4000000 in
theorem codes_ok (k : Ok c) : ∀ x ∈ arTab, CodeS c x.1 x.2.1 x.2.2 := by
  unfold arTab
  simp only [List.forall_mem_cons]
  refine ⟨?h0, ?h1, ?h2, ?h3, ?h4, ?h5, ?h6, ?h7, ?h8, ?h9, ?h10, ?h11, ?h12, ?h13, ?h14, ?h15, ?h16, ?h17, ?h18, ?h19, ?h20, ?h21, ?h22, ?h23, ?h24, ?h25, ?h26, ?h27, ?h28, ?h29, ?h30, ?h31, ?h32, ?h33, by simp⟩
  case h0 => exact .stack (by rfl) (.fixed (cv := .ref 55) (by rfl) (t_55 k)) (by decide) (by decide)
  case h1 => refine .counts (cv := .ref 143) (by rfl) (t_143 k)
  case h2 => refine .counts (cv := .ref 144) (by rfl) (t_144 k)
  case h3 => refine .counts (cv := .ref 145) (by rfl) (t_145 k)
  case h4 => refine .counts (cv := .ref 146) (by rfl) (t_146 k)
  case h5 => refine .counts (cv := .ref 147) (by rfl) (t_147 k)
  case h6 => refine .counts (cv := .ref 140) (by rfl) (t_140 k)
  case h7 => refine .counts (cv := .ref 141) (by rfl) (t_141 k)
  case h8 => refine .counts (cv := .ref 142) (by rfl) (t_142 k)
  case h9 => exact .stack (by rfl) (.num (x := 106) (ps := [-1, -1]) (rs := [-1]) (by rfl) (by rfl) (by rfl) (by rfl)) (by decide) (by decide)
  case h10 => exact .stack (by rfl) (.num (x := 69) (ps := [-1]) (rs := [-1]) (by rfl) (by rfl) (by rfl) (by rfl)) (by decide) (by decide)
  case h11 => exact .stack (by rfl) (.num (x := 70) (ps := [-1, -1]) (rs := [-1]) (by rfl) (by rfl) (by rfl) (by rfl)) (by decide) (by decide)
  case h12 => exact .stack (by rfl) (.load (cv := .ref 23) (by rfl) (by rfl) (t_23 k)) (by decide) (by decide)
  case h13 => exact .stack (by rfl) (.store (cv := .ref 36) (by rfl) (by rfl) (by rfl) (t_36 k)) (by decide) (by decide)
  case h14 => exact .stack (by rfl) (.fixed (cv := .ref 49) (by rfl) (t_49 k)) (by decide) (by decide)
  case h15 => exact .stack (by rfl) (.fixed (cv := .ref 52) (by rfl) (t_52 k)) (by decide) (by decide)
  case h16 => exact .stack (by rfl) (.fixed (cv := .ref 70) (by rfl) (t_70 k)) (by decide) (by decide)
  case h17 => exact .stack (by rfl) (.fixed (cv := .ref 73) (by rfl) (t_73 k)) (by decide) (by decide)
  case h18 => exact .stack (by rfl) (.fixed (cv := .ref 85) (by rfl) (t_85 k)) (by decide) (by decide)
  case h19 => refine .counts (cv := .ref 150) (by rfl) (t_150 k)
  case h20 => refine .counts (cv := .ref 151) (by rfl) (t_151 k)
  case h21 => refine .counts (cv := .ref 148) (by rfl) (t_148 k)
  case h22 => refine .counts (cv := .ref 149) (by rfl) (t_149 k)
  case h23 => refine .counts (cv := .ref 152) (by rfl) (t_152 k)
  case h24 => refine .counts (cv := .ref 153) (by rfl) (t_153 k)
  case h25 => exact .stack (by rfl) (.fixed (cv := .ref 61) (by rfl) (t_61 k)) (by decide) (by decide)
  case h26 => exact .stack (by rfl) (.fixed (cv := .ref 46) (by rfl) (t_46 k)) (by decide) (by decide)
  case h27 => exact .stack (by rfl) (.fixed (cv := .ref 64) (by rfl) (t_64 k)) (by decide) (by decide)
  case h28 => exact .stack (by rfl) (.fixed (cv := .ref 67) (by rfl) (t_67 k)) (by decide) (by decide)
  case h29 => exact .stack (by rfl) (.fixed (cv := .ref 76) (by rfl) (t_76 k)) (by decide) (by decide)
  case h30 => exact .stack (by rfl) (.fixed (cv := .ref 79) (by rfl) (t_79 k)) (by decide) (by decide)
  case h31 => exact .stack (by rfl) (.num (x := 167) (ps := [-2]) (rs := [-1]) (by rfl) (by rfl) (by rfl) (by rfl)) (by decide) (by decide)
  case h32 => exact .stack (by rfl) (.num (x := 172) (ps := [-1]) (rs := [-2]) (by rfl) (by rfl) (by rfl) (by rfl)) (by decide) (by decide)
  case h33 => refine .counts (cv := .ref 139) (by rfl) (t_139 k)

end
end Mine

namespace Mine
open PySem PySem.W PyProof.Rows PySem.Calls PySem.Spec

theorem seq0 {n : Nat} (h : 0 < n) : seqIndex? 0 n = some 0 := seq_nat (i := 0) h
noncomputable def pieceO (x : Ins) (f s : V) : O := .inst 191 [(Str.ofString "plain", insV x), (Str.ofString "first", f), (Str.ofString "second", s)]
section
variable {c : Cx} {n : Nat} {sc : Scope} {ρ : Loc} {σ : H}
theorem Ev.head {e : Expr} {k : Nat} {p1 pos : Pos} {k0 : Int} {r : Ins} {Q : V → H → Prop} (h : ∀ {Q : V → H → Prop}, Q (insV (k0 :: r)) σ → Ev c n sc e ρ σ Q) (q : Q (.int k0) σ) : Ev c n sc (.Subscript e (.Constant (.int 0) k p1) pos) ρ σ Q := by
  refine Ev.sub <| h <| Ev.int <| Op2.itemTup (j := 0) (by decide) (by decide) (seq0 (by simp)) rfl q
theorem Ev.second {e : Expr} {k : Nat} {p1 pos : Pos} {k0 k1 : Int} {r : Ins} {Q : V → H → Prop} (h : ∀ {Q : V → H → Prop}, Q (insV (k0 :: k1 :: r)) σ → Ev c n sc e ρ σ Q) (q : Q (.int k1) σ) : Ev c n sc (.Subscript e (.Constant (.int 1) k p1) pos) ρ σ Q := by
  refine Ev.sub <| h <| Ev.int <| Op2.itemTup (j := 1) (by decide) (by decide) (seq_nat (i := 1) (by simp)) rfl q
theorem Ev.plainF (k : Ok c) {x : Str} {p : Nat} {p1 p2 : Pos} {ins : Ins} {f s : V} {Q : V → H → Prop} (l : ρ.lookup x = some (.ref p)) (h : σ p = some (pieceO ins f s)) (q : Q (insV ins) σ) : Ev c n sc (.Attribute (.Name x p1) (Str.ofString "plain") p2) ρ σ Q :=
  Ev.attr (Ev.loc l <| Op1.field (f_191_plain k) h rfl rfl q)
theorem Ev.firstF (k : Ok c) {x : Str} {p : Nat} {p1 p2 : Pos} {ins : Ins} {f s : V} {Q : V → H → Prop} (l : ρ.lookup x = some (.ref p)) (h : σ p = some (pieceO ins f s)) (hf : f.noCon = true) (q : Q f σ) : Ev c n sc (.Attribute (.Name x p1) (Str.ofString "first") p2) ρ σ Q :=
  Ev.attr (Ev.loc l <| Op1.field (f_191_first k) h rfl hf q)
theorem Ev.secondF (k : Ok c) {x : Str} {p : Nat} {p1 p2 : Pos} {ins : Ins} {f s : V} {Q : V → H → Prop} (l : ρ.lookup x = some (.ref p)) (h : σ p = some (pieceO ins f s)) (hf : s.noCon = true) (q : Q s σ) : Ev c n sc (.Attribute (.Name x p1) (Str.ofString "second") p2) ρ σ Q :=
  Ev.attr (Ev.loc l <| Op1.field (f_191_second k) h rfl hf q)
theorem code_ok (k : Ok c) {p : Nat} {k0 : Int} {r : Ins} {f s : V} {Q : V → H → Prop} (h : σ p = some (pieceO (k0 :: r) f s)) (q : Q (.int k0) σ) : CodeR c (n + 1) (.ref 175) [.ref p] σ Q := by
  refine CodeR.enter (d_code k) rfl ?_
  exact Ex.cons <| Ex1.ret (d_code k).ok <| Ev.head (fun q => Ev.plainF k rfl h q) q
theorem Ev.code (k : Ok c) {x : Str} {p : Nat} {p1 p2 : Pos} {k0 : Int} {r : Ins} {f s : V} {Q : V → H → Prop} (l : ρ.lookup x = some (.ref p)) (h : σ p = some (pieceO (k0 :: r) f s)) (q : Q (.int k0) σ) :
    Ev c (n + 2) sc (.Attribute (.Name x p1) (Str.ofString "code") p2) ρ σ Q :=
  Ev.attr (Ev.loc l <| Op1.prop (p_code k) h <| code_ok k h ⟨rfl, q⟩)

theorem funcs_get {i : Nat} (hi : i < 10) : (funcsL.map V.int)[i]? = some (.int ((if i = 0 then 5 else i - 1 : Nat) : Int)) := by
  have : i = 0 ∨ i = 1 ∨ i = 2 ∨ i = 3 ∨ i = 4 ∨ i = 5 ∨ i = 6 ∨ i = 7 ∨ i = 8 ∨ i = 9 := by omega
  rcases this with rfl | rfl | rfl | rfl | rfl | rfl | rfl | rfl | rfl | rfl <;> rfl
theorem of_ok (k : Ok c) {ar kl fl : Nat} {x : Ins} {t p : Nat} {Q : V → H → Prop} (E : EnvA σ ar kl fl) (h : Mine.ar x = some (t, p)) (q : Q (.tup [.int t, .int p]) σ) : CodeR c (n + 3) (.ref 251) [.ref ar, insV x] σ Q := by
  refine CodeR.enter (d_of k) rfl ?_
  have sc := (d_of k).ok
  cases x with
  | nil => cases h
  | cons k0 r =>
  refine Ex.cons <| Ex1.iff sc <| Tr.cmp <| Ev.head (fun q => Ev.loc rfl q) <| Ev.gint rfl (gi_CALL k) <| Op2.eqI ⟨_, rfl, ?_⟩
  simp only [Mine.ar] at h
  by_cases h16 : k0 = 16
  · rw [if_pos h16] at h
    rw [show (k0 == 16) = true from beq_iff_eq.mpr h16]
    split at h
    · rename_i i
      split at h
      · rename_i hi
        cases h
        have hi' : i = (i.toNat : Int) := by omega
        refine Ex.cons <| Ex1.ret sc <| Ev.meth (Ev.loc rfl ⟨ar, _, _, _, rfl, E.ar, rfl, m_of_kind k, Evs.cons <| Ev.sub <| Ev.attr (Ev.loc rfl <| Op1.field (f_268_funcs k) E.ar rfl rfl <| Ev.second (fun q => Ev.loc rfl q) ?_)⟩) (fun env => ⟨_, rfl⟩)
        have key : CodeR c (n + 2) (.ref 237) [.ref ar, .int ((if i.toNat = 0 then 5 else i.toNat - 1 : Nat) : Int)] σ Q := of_kind_ok k E (by split <;> omega) (by
          have e : (if i.toNat = 0 then 5 else i.toNat - 1) = (if i = 0 then 5 else i.toNat - 1) := by
            by_cases h0 : i = 0
            · subst h0; rfl
            · rw [if_neg h0, if_neg (by omega)]
          rw [e]; exact q)
        refine Op2.itemList (j := i.toNat) E.fl (by omega) (by omega) (by rw [hi']; exact seq_nat (by simp [funcsL]; omega)) (funcs_get (by omega)) (Evs.nil key.call)
      · cases h
    · cases h
  · rw [if_neg h16] at h
    rw [show (k0 == 16) = false from beq_eq_false_iff_ne.mpr h16]
    refine Ex.nil <| Ex.cons <| Ex1.iff sc <| Tr.cmp <| Ev.head (fun q => Ev.loc rfl q) <| Ev.gint rfl (gi_CALL_INDIRECT k) <| Op2.eqI ⟨_, rfl, ?_⟩
    by_cases h17 : k0 = 17
    · rw [if_pos h17] at h
      rw [show (k0 == 17) = true from beq_iff_eq.mpr h17]
      split at h
      · rename_i i j
        split at h
        · rename_i hi
          cases h
          have hi' : i = (i.toNat : Int) := by omega
          refine Ex.cons <| Ex1.unpack (xs := [Str.ofString "takes", Str.ofString "puts"]) sc (by decide) (fun env => ⟨[(_, _), (_, _)], rfl, rfl⟩) <| Ev.meth (Ev.loc rfl ⟨ar, _, _, _, rfl, E.ar, rfl, m_of_kind k, Evs.cons <| Ev.second (fun q => Ev.loc rfl q) <| Evs.nil <| CodeR.call ?_⟩) (fun env => ⟨_, rfl⟩)
          rw [hi']
          refine of_kind_ok k E (by omega) ⟨_, rfl, rfl, ?_⟩
          exact Ex.cons <| Ex1.ret sc <| Ev.tuple <| Evs.cons <| Ev.bin <| Ev.loc rfl <| Ev.int <| Op2.add <| Evs.cons <| Ev.loc rfl <| Evs.nil ⟨Nat.le_of_ble_eq_true rfl, q⟩
        · cases h
      · cases h
    · rw [if_neg h17] at h
      rw [show (k0 == 17) = false from beq_eq_false_iff_ne.mpr h17]
      have C := tab_COUNTS k
      obtain ⟨y, hy, e1, e2⟩ : ∃ y ∈ arTab, y.1 = k0 ∧ y.2 = (t, p) := by
        have := List.lookup_eq_some_iff.mp h
        obtain ⟨l₁, l₂, e, _⟩ := this
        exact ⟨(k0, t, p), by rw [e]; simp, rfl, rfl⟩
      have hc := codes_ok k y hy
      rw [e1, e2] at hc
      refine Ex.nil <| Ex.cons <| Ex1.iff sc <| Tr.cmp <| Ev.head (fun q => Ev.loc rfl q) <| Ev.gref rfl (g_COUNTS k) <| Op2.inAt C ⟨_, rfl, ?_⟩
      cases hc with
      | counts h1 h2 =>
        rw [h1]
        exact Ex.cons <| Ex1.ret sc <| Ev.sub <| Ev.gref rfl (g_COUNTS k) <| Ev.head (fun q => Ev.loc rfl q) <| Op2.itemAt C h1 h2 q
      | stack h1 h2 h3 h4 =>
        rw [h1]
        refine Ex.nil <| Ex.cons <| Ex1.unpack (xs := [Str.ofString "takes", Str.ofString "puts"]) sc (by decide) (fun env => ⟨[(_, _), (_, _)], rfl, rfl⟩) <| Ev.callG rfl (g_stack_of k) (kp_136 k) <| Evs.cons <| Ev.head (fun q => Ev.loc rfl q) <| Evs.nil <| stack_ok k h2 fun ps rs hp hr => ⟨_, rfl, rfl, ?_⟩
        refine Ex.cons <| Ex1.ret sc <| Ev.tuple <| Evs.cons <| Ev.callB <| Ev.blt rfl (gb_len k) bb_len ⟨_, rfl, Evs.cons <| Ev.loc rfl <| Evs.nil <| CallR.lenTup (by rw [hp]; exact Nat.le_trans h3 (Nat.le_of_ble_eq_true rfl)) <|
          Evs.cons <| Ev.callB <| Ev.blt rfl (gb_len k) bb_len ⟨_, rfl, Evs.cons <| Ev.loc rfl <| Evs.nil <| CallR.lenTup (by rw [hr]; exact Nat.le_trans h4 (Nat.le_of_ble_eq_true rfl)) <| Evs.nil ⟨Nat.le_of_ble_eq_true rfl, ?_⟩⟩ (by decide) rfl⟩ (by decide) rfl
        rw [hp, hr]
        exact q
noncomputable def lastL : List Int := [0, 12, 14, 15, 18, 19]
theorem Tr.last (k : Ok c) {x : Str} {p : Nat} {p1 p2 p3 pos : Pos} {ins : Ins} {f s : V} {Q : Bool → H → Prop} (l : ρ.lookup x = some (.ref p)) (h : σ p = some (pieceO ins f s)) (hi : ins ≠ []) (hx : sc.names.lookup (Str.ofString "LAST") = some .globalImplicit) (q : Q (isLast ins) σ) :
    Tr c (n + 2) sc (.Compare (.Attribute (.Name x p1) (Str.ofString "code") p2) [.In] [.Name (Str.ofString "LAST") p3] pos) ρ σ Q := by
  cases ins with
  | nil => exact absurd rfl hi
  | cons k0 r =>
    refine Tr.cmp <| Ev.code k l h <| Ev.glob (v := .tup (lastL.map V.int)) hx (g_LAST k) (fun w => t_137 k w) (Op2.inTup ⟨_, rfl, q⟩) rfl
theorem behind_last (k : Ok c) {ar p : Nat} {x : Ins} {f s : V} {h : Int} {Q : V → H → Prop} (hp : σ p = some (pieceO x f s)) (hx : x ≠ []) (hl : isLast x = true) (q : Q .none σ) : CodeR c (n + 5) (.ref 258) [.ref ar, .ref p, .int h] σ Q := by
  refine CodeR.enter (d_behind k) rfl ?_
  have sc := (d_behind k).ok
  refine Ex.cons <| Ex1.iff sc <| Tr.last k rfl hp hx rfl ?_
  rw [hl]
  exact Ex.cons <| Ex1.ret sc <| Ev.noneE q
theorem behind_plain (k : Ok c) {ar kl fl p : Nat} {x : Ins} {s : V} {h : Int} {t u : Nat} {Q : V → H → Prop} (E : EnvA σ ar kl fl) (hp : σ p = some (pieceO x .none s)) (hl : isLast x = false) (ha : Mine.ar x = some (t, u)) (q : Q (.int (h - t + u)) σ) :
    CodeR c (n + 5) (.ref 258) [.ref ar, .ref p, .int h] σ Q := by
  refine CodeR.enter (d_behind k) rfl ?_
  have sc := (d_behind k).ok
  refine Ex.cons <| Ex1.iff sc <| Tr.last k rfl hp (by rintro rfl; cases ha) rfl ?_
  rw [hl]
  refine Ex.nil <| Ex.cons <| Ex1.iff sc <| Tr.cmp <| Ev.firstF k rfl hp rfl <| Ev.noneE <| Op2.isNone rfl ⟨_, rfl, ?_⟩
  refine Ex.cons <| Ex1.unpack (xs := [Str.ofString "takes", Str.ofString "puts"]) sc (by decide) (fun env => ⟨[(_, _), (_, _)], rfl, rfl⟩) <| Ev.meth (Ev.loc rfl ⟨ar, _, _, _, rfl, E.ar, rfl, m_of k, Evs.cons <| Ev.plainF k rfl hp <| Evs.nil <| CodeR.call <| of_ok k E ha ⟨_, rfl, rfl, ?_⟩⟩) (fun env => ⟨_, rfl⟩)
  exact Ex.cons <| Ex1.ret sc <| Ev.bin <| Ev.bin <| Ev.loc rfl <| Ev.loc rfl <| Op2.sub <| Ev.loc rfl <| Op2.add q
theorem behind_blk (k : Ok c) {ar kl fl p l : Nat} {x : Ins} {s : V} {h kc : Int} {t u : Nat} {Q : V → H → Prop} (E : EnvA σ ar kl fl) (hp : σ p = some (pieceO x (.ref l) s)) (ha : blkAr x = some (kc, t, u)) (q : Q (.int (h - t + u - is4 kc)) σ) :
    CodeR c (n + 5) (.ref 258) [.ref ar, .ref p, .int h] σ Q := by
  obtain ⟨h1, h2, h3⟩ := blkAr_head ha
  have hx : ∃ ab, x = [kc, ab] := by
    unfold blkAr at ha
    split at ha
    · rename_i k0 i0
      exact ⟨i0, by rw [← h1]; rfl⟩
    · cases ha
  obtain ⟨ab, rfl⟩ := hx
  refine CodeR.enter (d_behind k) rfl ?_
  have sc := (d_behind k).ok
  refine Ex.cons <| Ex1.iff sc <| Tr.last k rfl hp h3 rfl ?_
  rw [show isLast [kc, ab] = false by rcases h2 with rfl | rfl | rfl <;> rfl]
  refine Ex.nil <| Ex.cons <| Ex1.iff sc <| Tr.cmp <| Ev.firstF k rfl hp rfl <| Ev.noneE <| Op2.isNone rfl ⟨_, rfl, ?_⟩
  refine Ex.nil <| Ex.cons <| Ex1.unpack (xs := [Str.ofString "takes", Str.ofString "puts"]) sc (by decide) (fun env => ⟨[(_, _), (_, _)], rfl, rfl⟩) <| Ev.meth (Ev.loc rfl ⟨ar, _, _, _, rfl, E.ar, rfl, m_of_block k, Evs.cons <| Ev.second (fun q => Ev.plainF k rfl hp q) <| Evs.nil <| CodeR.call <| of_block_ok (n := n + 2) k E ha ⟨_, rfl, rfl, ?_⟩⟩) (fun env => ⟨_, rfl⟩)
  refine Ex.cons <| Ex1.ret sc <| Ev.bin <| Ev.bin <| Ev.bin <| Ev.loc rfl <| Ev.loc rfl <| Op2.sub <| Ev.loc rfl <| Op2.add <| Ev.callT <| Ev.blt rfl (gb_int k) bb_int ⟨_, rfl, Evs.cons <| Ev.cmp <| Ev.code k rfl hp <| Ev.gint rfl (gi_IF k) <| Op2.eqI <| Evs.nil <| CallR.intB <| Op2.sub ?_⟩ (by decide) rfl
  unfold is4 at q
  by_cases h4 : kc = 4
  · rw [if_pos h4] at q; rw [show (kc == 4) = true from beq_iff_eq.mpr h4]; exact q
  · rw [if_neg h4] at q; rw [show (kc == 4) = false from beq_eq_false_iff_ne.mpr h4]; exact q

/-- the pieces of a list in a heap: their letters, and what is at each letter -/
inductive PL : Pcs → List Nat → List (Nat × O) → Prop
  | nil : PL .nil [] []
  | plain {x r p xs cs} : PL r xs cs → PL (.plain x r) (p :: xs) ((p, pieceO x .none .none) :: cs)
  | blk1 {x a r p l xa ca xs cs} : PL a xa ca → PL r xs cs → PL (.blk1 x a r) (p :: xs) ((p, pieceO x (.ref l) .none) :: (l, .list (xa.map V.ref)) :: (ca ++ cs))
  | blk2 {x a b r p l l' xa ca xb cb xs cs} : PL a xa ca → PL b xb cb → PL r xs cs →
      PL (.blk2 x a b r) (p :: xs) ((p, pieceO x (.ref l) (.ref l')) :: (l, .list (xa.map V.ref)) :: (ca ++ ((l', .list (xb.map V.ref)) :: (cb ++ cs))))
noncomputable def Holds (σ : H) (cs : List (Nat × O)) : Prop := ∀ q ∈ cs, σ q.1 = some q.2
theorem behind_loop (k : Ok c) {ar kl fl j : Nat} {xa : List Nat} {v : Int} {Q : AF → Loc → H → Prop} (E : EnvA σ ar kl fl) (hj : σ j = some (.list (xa.map V.ref))) (q : ∀ ρ, ρ.lookup (Str.ofString "height") = some (.int v) → Q .next ρ σ) {body : List Stmt} (hb : body = match b_behind_all with | .For _ _ b _ _ :: _ => b | _ => []) :
    ∀ (X : Pcs) (xs : List Nat) (cs : List (Nat × O)) (i : Nat) (h : Int) (ρ : Loc), PL X xs cs → Holds σ cs → xa.drop i = xs → bh X h = some v → ρ.lookup (Str.ofString "self") = some (.ref ar) → ρ.lookup (Str.ofString "height") = some (.int h) →
      LoopF c (n + 5) s_behind_all (.name (Str.ofString "piece")) body (itList j) Q (xs.length + 1) i ρ σ := by
  intro X
  have sc := (d_behind_all k).ok
  have get : ∀ {i p xs}, xa.drop i = p :: xs → (xa.map V.ref)[i]? = some (.ref p) ∧ xa.drop (i + 1) = xs := by
    intro i p xs hr
    have := List.getElem?_drop (xs := xa) (i := i) (j := 0)
    rw [hr] at this
    refine ⟨by rw [List.getElem?_map, show xa[i]? = some p by simpa using this.symm]; rfl, by rw [← List.tail_drop, hr]; rfl⟩
  have step : ∀ {p xs i h h' ρ} , xa.drop i = p :: xs → ρ.lookup (Str.ofString "self") = some (.ref ar) → ρ.lookup (Str.ofString "height") = some (.int h) →
      (∀ {Q : V → H → Prop}, Q (.int h') σ → CodeR c (n + 5) (.ref 258) [.ref ar, .ref p, .int h] σ Q) →
      (∀ ρ', ρ'.lookup (Str.ofString "self") = some (.ref ar) → ρ'.lookup (Str.ofString "height") = some (.int h') → LoopF c (n + 5) s_behind_all (.name (Str.ofString "piece")) body (itList j) Q (xs.length + 1) (i + 1) ρ' σ) →
      LoopF c (n + 5) s_behind_all (.name (Str.ofString "piece")) body (itList j) Q ((p :: xs).length + 1) i ρ σ := by
    intro p xs i h h' ρ hr l1 l2 hc go
    rw [List.length_cons, LoopF]
    simp only [itList, hj, (get hr).1]
    refine ⟨_, rfl, ?_⟩
    subst hb
    have m1 := set_other (x := Str.ofString "piece") (v := .ref p) (by decide) l1
    have m2 := set_other (x := Str.ofString "piece") (v := .ref p) (by decide) l2
    have m3 : (setL ρ (Str.ofString "piece") (.ref p)).lookup (Str.ofString "piece") = some (.ref p) := set_self
    generalize setL ρ (Str.ofString "piece") (.ref p) = ρ₁ at *
    refine Ex.cons <| Ex1.assign sc rfl <| Ev.meth (Ev.loc m1 ⟨ar, _, _, _, rfl, E.ar, rfl, m_behind k, Evs.cons <| Ev.loc m3 <| Evs.cons <| Ev.loc m2 <| Evs.nil <| CodeR.call <| hc ?_⟩) (fun env => ⟨_, rfl⟩)
    refine Ex.cons <| Ex1.iff sc <| Tr.cmp <| Ev.loc set_self <| Ev.noneE <| Op2.isNone rfl ⟨_, rfl, ?_⟩
    refine Ex.nil (Ex.nil (go _ (set_other (by decide) m1) set_self))
  induction X with
  | nil =>
    intro xs cs i h ρ hp hh hr hbh l1 l2
    cases hp
    simp only [bh, Option.some.injEq] at hbh
    subst hbh
    have : (xa.map V.ref)[i]? = none := by
      rw [List.getElem?_eq_none_iff, List.length_map]
      exact List.drop_eq_nil_iff.mp hr
    rw [LoopF]
    simp only [itList, hj, this]
    exact q ρ l2
  | plain x r ih =>
    intro xs cs i h ρ hp hh hr hbh l1 l2
    cases hp with
    | @plain _ _ p xs cs hp =>
      simp only [bh] at hbh
      split at hbh
      · cases hbh
      · rename_i hl
        split at hbh
        · rename_i t u ha
          exact step hr l1 l2 (fun hq => behind_plain k E (hh _ (.head _)) (by simpa using hl) ha hq) fun ρ' m1 m2 => ih xs cs (i + 1) _ ρ' hp (fun y hy => hh y (.tail _ hy)) (get hr).2 hbh m1 m2
        · cases hbh
  | blk1 x a r iha ih =>
    intro xs cs i h ρ hp hh hr hbh l1 l2
    cases hp with
    | @blk1 _ _ _ p l xa' ca xs cs ha' hp =>
      simp only [bh] at hbh
      split at hbh
      · rename_i kc t u ha
        exact step hr l1 l2 (fun hq => behind_blk k E (hh _ (.head _)) ha hq) fun ρ' m1 m2 => ih xs cs (i + 1) _ ρ' hp (fun y hy => hh y (.tail _ (.tail _ (List.mem_append_right _ hy)))) (get hr).2 hbh m1 m2
      · cases hbh
  | blk2 x a b r iha ihb ih =>
    intro xs cs i h ρ hp hh hr hbh l1 l2
    cases hp with
    | @blk2 _ _ _ _ p l l' xa' ca xb cb xs cs ha' hb' hp =>
      simp only [bh] at hbh
      split at hbh
      · rename_i kc t u ha
        exact step hr l1 l2 (fun hq => behind_blk k E (hh _ (.head _)) ha hq) fun ρ' m1 m2 => ih xs cs (i + 1) _ ρ' hp (fun y hy => hh y (.tail _ (.tail _ (List.mem_append_right _ (.tail _ (List.mem_append_right _ hy)))))) (get hr).2 hbh m1 m2
      · cases hbh
theorem behind_all_ok (k : Ok c) {ar kl fl j : Nat} {xs : List Nat} {cs : List (Nat × O)} {X : Pcs} {h v : Int} {Q : V → H → Prop} (E : EnvA σ ar kl fl) (hj : σ j = some (.list (xs.map V.ref))) (hp : PL X xs cs) (hh : Holds σ cs) (hb : bh X h = some v) (q : Q (.int v) σ) :
    CodeR c (n + 6) (.ref 265) [.ref ar, .ref j, .int h] σ Q := by
  refine CodeR.enter (d_behind_all k) rfl ?_
  have sc := (d_behind_all k).ok
  refine Ex.cons <| Ex1.forE (T := .name (Str.ofString "piece")) sc ⟨⟨_, rfl⟩, rfl⟩ (IterE.toF <| IterE.of <| Ev.loc rfl ⟨_, Itr.list hj, xs.length + 1, ?_⟩)
  refine behind_loop k E hj (fun ρ l => ?_) rfl X xs cs 0 h _ hp hh rfl hb rfl rfl
  exact Ex.cons <| Ex1.ret sc <| Ev.loc l q
end
end Mine

namespace Mine
open PySem PySem.W PyProof.Rows PySem.Calls PySem.Spec

/-- a def with default values -/
structure DefAtD (c : Cx) (f : Value) (ps : List Str) (m : Nat) (dV' : List V) (dv : List Value) (body : List Stmt) (sc : Scope) : Prop where
  ex : ∃ a name qual params dV kV doc pm cdv ct oc an od osl, f = .ref a ∧ c.K.lookup a = some ⟨oc, od, .func (fnOf name qual params body sc dV kV doc pm an cdv ct), osl⟩ ∧ codeIn c.K cdv qual = true ∧
    ∀ (s : Shared) (xs : List Value), c.K.In s.heap → xs.length = m → BindsTo s (fnOf name qual params body sc dV kV doc pm an cdv ct) ⟨xs, []⟩ (ps.zip (xs ++ dv))
  rep : ∀ w, RepVs c w dV' dv
  len : m + dV'.length = ps.length
  loc : (ps.all fun x => sc.names.lookup x == some .local) = true
  nodup : ps.Nodup
  ok : ScOk sc
  gen : sc.isGenerator = false
  co : sc.isCoroutine = false
  cell : (sc.names.all fun x => x.2 != .cell) = true
section
variable {c : Cx} {n : Nat} {sc : Scope} {ρ : Loc} {σ : H}
theorem CodeR.enterD {f : Value} {ps : List Str} {body : List Stmt} {vs dV' : List V} {dv : List Value} {m : Nat} {Q : V → H → Prop} (D : DefAtD c f ps m dV' dv body sc) (hl : vs.length = m)
    (h : Ex c n sc body (ps.zip (vs ++ dV')) σ fun fl _ σ' => match fl with | .ret v => Q v σ' | .next => Q .none σ' | _ => False) : CodeR c (n + 1) f vs σ Q := by
  intro d m' w xs A r s R S k
  obtain ⟨a, name, qual, params, dV, kV, doc, pm, cdv, ct, oc, an, od, osl, rfl, ho, hcd, hb⟩ := D.ex
  have hxl := r.length
  have hx : xs.length = m := by omega
  have r' : RepVs c w (vs ++ dV') (xs ++ dv) := r.append (D.rep w)
  have hps : ps.length = (xs ++ dv).length := by rw [← r'.length, List.length_append, hl]; exact D.len.symm
  refine code_def A.B S.F A.X S.N A.T A.hA A.hf A.hk ho hcd (by have := A.dep; omega) (hb _ xs (A.X.keeps S.F.keep) hx) (fun y hy => ?_) (fun g L' h₁ FG F' N' B' X' T' => ?_) D.co D.gen D.ok.kind (fun x hx => by
    have := List.all_eq_true.mp D.cell x hx; simpa using this)
  · have := List.all_eq_true.mp D.loc y.1 (List.of_mem_zip hy).1
    simpa using this
  · have A' := A.deeper (m := m') (env := envOf qual sc L' a cdv) rfl D.ok.kind B' X' T'
    have S' : St c ⟨d.A.deeper (envOf qual sc L' a cdv), d.A, d.base, g, L', envOf qual sc L' a cdv, d.fenv :: d.outer, d.fr⟩ (fun y => (ps.zip (xs ++ dv)).reverse.lookup y) σ w h₁ := ⟨F', N', S.D⟩
    have l : Lcl c sc (fun y => (ps.zip (xs ++ dv)).reverse.lookup y) w (ps.zip (vs ++ dV')) := ⟨fun x v e => by
      obtain ⟨i, e1, e2⟩ := zip_lookup e
      refine ⟨?_, ?_⟩
      · have := List.all_eq_true.mp D.loc x (List.mem_of_getElem? e1)
        simpa using this
      · obtain ⟨y, e3, ry⟩ := r'.get e2
        exact ⟨y, (lookup_rev D.nodup hps e1).trans e3, ry⟩⟩
    refine wpAny_mono (h _ _ (envOf qual sc L' a cdv) w A' ⟨⟨qual, a, cdv, [], rfl⟩, rfl⟩ l _ (fun fl s' => LeaveK d.h₀ d.L m' g R (match fl with | .ret v => v | _ => .none) s') (fun e s' => wpAny (model c.prog c.w) (d.A.deeper (envOf qual sc L' a cdv)) (leaving (envOf qual sc L' a cdv) e) (fun _ s'' => R (.error e) s'') (fun e' s'' => R (.error e') s'') s') S' fun fl ρ' σ' fc m' w' h' tk q le S'' l'' rf => ?_) (fun _ _ x => x) fun _ _ x => x
    refine ⟨L', m', w'.news ++ d.fr, S''.F, S''.N, fun F₂ N₂ => ?_⟩
    cases fl with
    | next => simp only [RepFl] at rf; subst rf; exact k .none σ' .none w' h' tk q le ⟨F₂, N₂, S''.D⟩ (by simp only [RepV])
    | ret v => simp only [RepFl] at rf; obtain ⟨x, rfl, rx⟩ := rf; exact k v σ' x w' h' tk q le ⟨F₂, N₂, S''.D⟩ rx
    | brk => exact q.elim
    | cont => exact q.elim
end
noncomputable def b_piece_init : List Stmt := stBody (metS 58 0)
noncomputable def s_piece_init : Scope := stScope (metS 58 0)
noncomputable def pieceNames : List Str := [Str.ofString "self", Str.ofString "plain", Str.ofString "first", Str.ofString "second"]
theorem d_piece2 {c : Cx} (k : Ok c) : DefAtD c (.ref 168) pieceNames 2 [.none, .none] [.none, .none] b_piece_init s_piece_init where
  ex := by
    rw [k.K]
    refine ⟨168, _, _, _, _, _, _, _, _, _, _, _, _, _, rfl, rfl, by kernel_rfl, ?_⟩
    intro s xs X hx
    match xs, hx with
    | [a0, a1], _ => exact BindsTo.of_defaults (T := 161) rfl (X 161 _ rfl) rfl rfl rfl
  rep := fun w => by simp only [RepVs, RepV]; exact ⟨_, _, rfl, rfl, _, _, rfl, rfl, rfl⟩
  len := rfl
  loc := by kernel_rfl
  nodup := by decide
  ok := ⟨by rfl, by rfl⟩
  gen := rfl
  co := rfl
  cell := by kernel_rfl
theorem d_piece3 {c : Cx} (k : Ok c) : DefAtD c (.ref 168) pieceNames 3 [.none] [.none] b_piece_init s_piece_init where
  ex := by
    rw [k.K]
    refine ⟨168, _, _, _, _, _, _, _, _, _, _, _, _, _, rfl, rfl, by kernel_rfl, ?_⟩
    intro s xs X hx
    match xs, hx with
    | [a0, a1, a2], _ => exact BindsTo.of_defaults (T := 161) rfl (X 161 _ rfl) rfl rfl rfl
  rep := fun w => by simp only [RepVs, RepV]; exact ⟨_, _, rfl, rfl, rfl⟩
  len := rfl
  loc := by kernel_rfl
  nodup := by decide
  ok := ⟨by rfl, by rfl⟩
  gen := rfl
  co := rfl
  cell := by kernel_rfl
section
variable {c : Cx} {n : Nat} {σ : H}
theorem piece_body (k : Ok c) {i : Nat} {x : Ins} {f : V} {Q : V → H → Prop} (hi : σ i = some (.inst 191 [])) (q : Q .none (σ.set i (pieceO x f .none))) :
    Ex c n s_piece_init b_piece_init (pieceNames.zip [.ref i, insV x, f, .none]) σ fun fl _ σ' => match fl with | .ret v => Q v σ' | .next => Q .none σ' | _ => False := by
  have sc := (d_piece2 k).ok
  refine Ex.cons <| Ex1.setA sc <| Ev.loc rfl <| Ev.loc rfl ⟨i, _, _, rfl, hi, Nat.zero_le _, w_191_plain k, ?_⟩
  refine Ex.cons <| Ex1.setA sc <| Ev.loc rfl <| Ev.loc rfl ⟨i, _, _, rfl, H.self, Nat.le_of_ble_eq_true rfl, w_191_first k, ?_⟩
  refine Ex.cons <| Ex1.setA sc <| Ev.loc rfl <| Ev.loc rfl ⟨i, _, _, rfl, H.self, Nat.le_of_ble_eq_true rfl, w_191_second k, ?_⟩
  rw [H.set_set, H.set_set]
  exact Ex.nil q
theorem piece_new2 (k : Ok c) {x : Ins} {Q : V → H → Prop} (q : ∀ i, σ i = none → Q (.ref i) (σ.set i (pieceO x .none .none))) : CodeR c (n + 2) (.ref 191) [insV x] σ Q := by
  refine CodeR.make (mk_191 k) fun i hi => CodeR.enterD (d_piece2 k) rfl <| piece_body k H.self ?_
  rw [H.set_set]; exact ⟨rfl, q i hi⟩
theorem piece_new3 (k : Ok c) {x : Ins} {l : Nat} {Q : V → H → Prop} (q : ∀ i, σ i = none → Q (.ref i) (σ.set i (pieceO x (.ref l) .none))) : CodeR c (n + 2) (.ref 191) [insV x, .ref l] σ Q := by
  refine CodeR.make (mk_191 k) fun i hi => CodeR.enterD (d_piece3 k) rfl <| piece_body k H.self ?_
  rw [H.set_set]; exact ⟨rfl, q i hi⟩
end
end Mine

namespace Mine
open PySem PySem.W PyProof.Rows PySem.Calls PySem.Spec

noncomputable def keys (cs : List (Nat × O)) : List Nat := cs.map (·.1)
structure EnvE (σ : H) (e ar kl fl : Nat) : Prop where
  e : σ e = some (.inst 308 [(Str.ofString "arities", .ref ar)])
  a : EnvA σ ar kl fl
/-- all but some letters stand -/
noncomputable def Fra (ks : List Nat) (σ σ' : H) : Prop := ∀ j o, j ∉ ks → σ j = some o → σ' j = some o
noncomputable def NewK (ks : List Nat) (σ : H) (ks' : List Nat) : Prop := ∀ j ∈ ks', j ∈ ks ∨ σ j = none
theorem PL.split : ∀ {A P : Pcs} {xs cs}, PL (A.app P) xs cs → ∃ xa ca xp cp, xs = xa ++ xp ∧ cs = ca ++ cp ∧ PL A xa ca ∧ PL P xp cp
  | .nil, P, xs, cs, h => ⟨[], [], xs, cs, rfl, rfl, .nil, h⟩
  | .plain x r, P, _, _, .plain h => by
    obtain ⟨xa, ca, xp, cp, rfl, rfl, h1, h2⟩ := PL.split h
    exact ⟨_ :: xa, _ :: ca, xp, cp, rfl, rfl, .plain h1, h2⟩
  | .blk1 x a r, P, _, _, @PL.blk1 _ _ _ p l xa' ca' _ _ h0 h => by
    obtain ⟨xa, ca, xp, cp, rfl, rfl, h1, h2⟩ := PL.split h
    exact ⟨p :: xa, (p, pieceO x (.ref l) .none) :: (l, .list (xa'.map V.ref)) :: (ca' ++ ca), xp, cp, rfl, by simp only [List.cons_append, List.append_assoc], .blk1 h0 h1, h2⟩
  | .blk2 x a b r, P, _, _, @PL.blk2 _ _ _ _ p l l' xa' ca' xb' cb' _ _ h0 h0' h => by
    obtain ⟨xa, ca, xp, cp, rfl, rfl, h1, h2⟩ := PL.split h
    exact ⟨p :: xa, (p, pieceO x (.ref l) (.ref l')) :: (l, .list (xa'.map V.ref)) :: (ca' ++ ((l', .list (xb'.map V.ref)) :: (cb' ++ ca))), xp, cp, rfl, by simp only [List.cons_append, List.append_assoc], .blk2 h0 h0' h1, h2⟩
theorem PL.join : ∀ {A P : Pcs} {xa ca xp cp}, PL A xa ca → PL P xp cp → PL (A.app P) (xa ++ xp) (ca ++ cp)
  | _, P, _, _, xp, cp, .nil, h => h
  | _, P, _, _, xp, cp, .plain h1, h => .plain (h1.join h)
  | _, P, _, _, xp, cp, @PL.blk1 x _ _ p l xa' ca' _ _ h0 h1, h => by
    have := PL.blk1 (x := x) (p := p) (l := l) h0 (h1.join h)
    simpa only [List.cons_append, List.append_assoc, Pcs.app] using this
  | _, P, _, _, xp, cp, @PL.blk2 x _ _ _ p l l' xa' ca' xb' cb' _ _ h0 h0' h1, h => by
    have := PL.blk2 (x := x) (p := p) (l := l) (l' := l') h0 h0' (h1.join h)
    simpa only [List.cons_append, List.append_assoc, Pcs.app] using this
theorem Single.at {P : Pcs} {x : Ins} {xp cp} (s : Single P x) (h : PL P xp cp) : ∃ p f g, xp = [p] ∧ (p, pieceO x f g) ∈ cp := by
  cases s with
  | plain => cases h with | plain h => cases h; exact ⟨_, _, _, rfl, .head _⟩
  | blk1 => cases h with | blk1 h0 h => cases h; exact ⟨_, _, _, rfl, .head _⟩
  | blk2 => cases h with | blk2 h0 h0' h => cases h; exact ⟨_, _, _, rfl, .head _⟩
section
variable {c : Cx} {n : Nat} {sc : Scope} {ρ : Loc} {σ : H}
theorem Op2.notInNat {x : Int} {l : List Nat} {Q : V → H → Prop} (q : Q (.bool (decide (∀ i ∈ l, (i : Int) ≠ x))) σ) : Op2 c n (compareOp .NotIn) (.int x) (.tup (l.map natV)) σ Q := by
  have e : l.map natV = (l.map fun i : Nat => (i : Int)).map V.int := by rw [List.map_map]; rfl
  rw [e]
  refine Op2.notInTup ?_
  have : (!(l.map fun i : Nat => (i : Int)).any (· == x)) = decide (∀ i ∈ l, (i : Int) ≠ x) := by
    rw [Bool.eq_iff_iff]
    simp
  rw [this]; exact q
/-- label, of the last piece -/
noncomputable def wBody : List Stmt := match b_cut_last with
  | [.While _ b _ _] => b
  | _ => []
noncomputable def labelE : Expr := match wBody with
  | _ :: .Assign _ v _ :: _ => v
  | _ => default
theorem last_label (k : Ok c) {p dp : Nat} {x : Ins} {f s : V} {Q : V → H → Prop} (l1 : ρ.lookup (Str.ofString "last") = some (.ref p)) (l2 : ρ.lookup (Str.ofString "depth") = some (.int dp)) (h : σ p = some (pieceO x f s)) (hx : lok x) (q : Q (.int (lab dp x)) σ) :
    Ev c (n + 2) s_cut_last labelE ρ σ Q := by
  cases x with
  | nil => exact absurd rfl hx.1
  | cons k0 r =>
    refine Ev.ite <| Tr.cmp <| Ev.code k l1 h <| Ev.gint rfl (gi_RETURN k) <| Op2.eqI ⟨_, rfl, ?_⟩
    unfold lab at q
    by_cases h15 : k0 = 15
    · rw [if_pos (by exact h15)] at q
      rw [show (k0 == 15) = true from beq_iff_eq.mpr h15]
      exact Ev.loc l2 q
    · rw [if_neg (by exact h15)] at q
      rw [show (k0 == 15) = false from beq_eq_false_iff_ne.mpr h15]
      refine Ev.ite <| Tr.cmp <| Ev.code k l1 h <| Ev.tuple <| Evs.cons <| Ev.gint rfl (gi_BR k) <| Evs.cons <| Ev.gint rfl (gi_BR_IF k) <| Evs.nil ⟨Nat.le_of_ble_eq_true rfl, Op2.inTup (ns := [12, 13]) ⟨_, rfl, ?_⟩⟩
      by_cases hb : k0 = 12 ∨ k0 = 13
      · rw [if_pos (by exact hb)] at q
        have hl := hx.2 (by exact hb)
        have : ([12, 13] : List Int).any (· == k0) = true := by rcases hb with rfl | rfl <;> rfl
        rw [this]
        cases r with
        | nil => simp at hl
        | cons k1 r => exact Ev.second (fun q => Ev.plainF k l1 h q) q
      · rw [if_neg (by exact hb)] at q
        have : ([12, 13] : List Int).any (· == k0) = false := by simp; omega
        rw [this]
        exact Ev.neg <| Ev.int ⟨1, rfl, q⟩

/-- the local names of cut_last -/
structure LC (ρ : Loc) (e i h res dp : Nat) (tls : List Nat) : Prop where
  self : ρ.lookup (Str.ofString "self") = some (.ref e)
  pieces : ρ.lookup (Str.ofString "pieces") = some (.ref i)
  height : ρ.lookup (Str.ofString "height") = some (.int h)
  results : ρ.lookup (Str.ofString "results") = some (.int res)
  tails : ρ.lookup (Str.ofString "tails") = some (.tup (tls.map natV))
  depth : ρ.lookup (Str.ofString "depth") = some (.int dp)
noncomputable def lcNames : List Str := [Str.ofString "self", Str.ofString "pieces", Str.ofString "height", Str.ofString "results", Str.ofString "tails", Str.ofString "depth"]
theorem LC.set {ρ : Loc} {e i h res dp : Nat} {tls : List Nat} {x : Str} {v : V} (l : LC ρ e i h res dp tls) (hx : (lcNames.all fun y => !(y == x)) = true) : LC (setL ρ x v) e i h res dp tls := by
  have ne : ∀ y ∈ lcNames, (y == x) = false := fun y hy => by have := List.all_eq_true.mp hx y hy; simpa using this
  exact ⟨set_other (ne _ (by decide)) l.self, set_other (ne _ (by decide)) l.pieces, set_other (ne _ (by decide)) l.height, set_other (ne _ (by decide)) l.results, set_other (ne _ (by decide)) l.tails, set_other (ne _ (by decide)) l.depth⟩
noncomputable def wTest : Expr := match b_cut_last with
  | [.While t _ _ _] => t
  | _ => default
/-- the head of a turn: what the last piece says -/
theorem last_turn (k : Ok c) {e ar kl fl i h res dp p : Nat} {tls xa : List Nat} {ca : List (Nat × O)} {A : Pcs} {x : Ins} {f g : V} {v : Int} {Q : AF → Loc → H → Prop} (L : LC ρ e i h res dp tls) (E : EnvE σ e ar kl fl)
    (hi : σ i = some (.list ((xa ++ [p]).map V.ref))) (hA : PL A xa ca) (hh : Holds σ ca) (hp : σ p = some (pieceO x f g)) (hx : lok x) (hb : bh A h = some v) (hz : xa.length + 1 ≤ sizeLine)
    (stop : ∀ σ' ρ', Sub σ σ' → ((∀ j ∈ tls, (j : Int) ≠ lab dp x) ∨ v ≠ res + is13 x) → Q (.ret .none) ρ' σ')
    (go : ∀ σ' ρ', Sub σ σ' → LC ρ' e i h res dp tls → ρ'.lookup (Str.ofString "last") = some (.ref p) → ¬ ((∀ j ∈ tls, (j : Int) ≠ lab dp x) ∨ v ≠ res + is13 x) → Ex c (n + 7) s_cut_last (wBody.drop 4) ρ' σ' Q) :
    Ex c (n + 7) s_cut_last wBody ρ σ Q := by
  have sc := (d_cut_last k).ok
  have hlen : ((xa ++ [p]).map V.ref).length = xa.length + 1 := by simp
  have hlast : ((xa ++ [p]).map V.ref)[xa.length]? = some (.ref p) := by simp
  have hneg : seqIndex? (-1) ((xa ++ [p]).map V.ref).length = some xa.length := by
    have := seq_neg (i := 0) (n := ((xa ++ [p]).map V.ref).length) (by rw [hlen]; omega)
    rw [show (-1 - ((0 : Nat) : Int)) = -1 by rfl] at this
    rw [this, hlen]; congr 1
  refine Ex.cons <| Ex1.assign sc rfl <| Ev.sub <| Ev.loc L.pieces <| Ev.neg <| Ev.int ⟨1, rfl, Op2.itemList hi (by decide) (by decide) hneg hlast ?_⟩
  have L1 := L.set (x := Str.ofString "last") (v := .ref p) (by decide)
  have m1 : (setL ρ (Str.ofString "last") (.ref p)).lookup (Str.ofString "last") = some (.ref p) := set_self
  generalize setL ρ (Str.ofString "last") (.ref p) = ρ₁ at *
  refine Ex.cons <| Ex1.assign sc rfl <| last_label (n := n + 5) k m1 L1.depth hp hx ?_
  have L2 := L1.set (x := Str.ofString "label") (v := .int (lab dp x)) (by decide)
  have m2 := set_other (x := Str.ofString "label") (v := .int (lab dp x)) (by decide) m1
  have m3 : (setL ρ₁ (Str.ofString "label") (.int (lab dp x))).lookup (Str.ofString "label") = some (.int (lab dp x)) := set_self
  generalize setL ρ₁ (Str.ofString "label") (.int (lab dp x)) = ρ₂ at *
  refine Ex.cons <| Ex1.assign sc rfl <| Ev.meth (Ev.attr (Ev.loc L2.self <| Op1.field (f_308_arities k) E.e rfl rfl ⟨ar, _, _, _, rfl, E.a.ar, rfl, m_behind_all k, Evs.cons <| Ev.upto <| Ev.loc L2.pieces <| Ev.neg <| Ev.int ⟨1, rfl, i, _, -1, rfl, rfl, hi, by rw [hlen]; exact hz, .inl ⟨rfl, fun j hj => Evs.cons <| Ev.loc L2.height <| Evs.nil <| CodeR.call ?_⟩⟩⟩)) (fun env => ⟨_, rfl⟩)
  have hs : Sub σ (σ.set j (.list ((xa ++ [p]).map V.ref).dropLast)) := Sub.fresh hj
  have hd : ((xa ++ [p]).map V.ref).dropLast = xa.map V.ref := by simp
  refine behind_all_ok (n := n + 1) k (E.a.sub hs) (by rw [hd]; exact H.self) hA (fun y hy => hs _ _ (hh y hy)) hb ?_
  have L3 := L2.set (x := Str.ofString "ahead") (v := .int v) (by decide)
  have m4 := set_other (x := Str.ofString "ahead") (v := .int v) (by decide) m2
  have m5 := set_other (x := Str.ofString "ahead") (v := .int v) (by decide) m3
  have m6 : (setL ρ₂ (Str.ofString "ahead") (.int v)).lookup (Str.ofString "ahead") = some (.int v) := set_self
  generalize setL ρ₂ (Str.ofString "ahead") (.int v) = ρ₃ at *
  have hp' := hs _ _ hp
  generalize σ.set j (.list ((xa ++ [p]).map V.ref).dropLast) = σ₁ at hs hp' ⊢
  cases x with
  | nil => exact absurd rfl hx.1
  | cons k0 r =>
  refine Ex.cons <| Ex1.iff sc <| Tr.mono (Q := fun bt σ' => σ₁ = σ' ∧ bt = decide ((∀ j ∈ tls, (j : Int) ≠ lab dp (k0 :: r)) ∨ v ≠ res + is13 (k0 :: r))) (Tr.orE <| Tr.cmp <| Ev.loc m5 <| Ev.loc L3.tails <| Op2.notInNat ⟨_, rfl, ?_⟩) ?_
  · by_cases h1 : ∀ j ∈ tls, (j : Int) ≠ lab dp (k0 :: r)
    · rw [decide_eq_true h1]
      exact ⟨rfl, (decide_eq_true (.inl h1)).symm⟩
    · rw [decide_eq_false h1]
      refine Tr.orE <| Tr.cmp <| Ev.loc m6 <| Ev.bin <| Ev.loc L3.results <| Ev.callT <| Ev.blt rfl (gb_int k) bb_int ⟨_, rfl, Evs.cons <| Ev.cmp <| Ev.code k m4 hp' <| Ev.gint rfl (gi_BR_IF k) <| Op2.eqI <| Evs.nil <| CallR.intB <| Op2.add <| Op2.neI ⟨_, rfl, ?_⟩⟩ (by decide) rfl
      have e13 : (if (k0 == 13) = true then (1 : Int) else 0) = is13 (k0 :: r) := by
        unfold is13
        by_cases h : k0 = 13
        · subst h; rfl
        · rw [if_neg (by simpa using h), if_neg (by exact h)]
      rw [e13]
      by_cases h2 : v ≠ res + is13 (k0 :: r)
      · rw [show (v != (res : Int) + is13 (k0 :: r)) = true from by simpa using h2]
        exact ⟨rfl, (decide_eq_true (.inr h2)).symm⟩
      · rw [show (v != (res : Int) + is13 (k0 :: r)) = false from by simpa using h2]
        exact Tr.or0 ⟨rfl, (decide_eq_false (by rintro (e | e); exact h1 e; exact h2 e)).symm⟩
  rintro bt _ ⟨rfl, hbt⟩
  cases bt with
  | true => exact Ex.cons <| Ex1.ret0 (stop σ₁ ρ₃ hs (of_decide_eq_true hbt.symm))
  | false => exact Ex.nil (go σ₁ ρ₃ hs L3 m4 (of_decide_eq_false hbt.symm))

theorem w_test (L : LC ρ e i h res dp tls) {xs : List Nat} {Q : Bool → H → Prop} (hi : σ i = some (.list (xs.map V.ref))) (q : ∀ σ', Sub σ σ' → Q (!xs.isEmpty) σ') : Tr c n s_cut_last wTest ρ σ Q := by
  refine Tr.cmp <| Ev.loc L.pieces <| Ev.listE <| Evs.nil ⟨Nat.le_of_ble_eq_true rfl, fun j hj => Op2.neNil (H.get hj hi) H.self ⟨_, rfl, ?_⟩⟩
  have : (xs.map V.ref).isEmpty = xs.isEmpty := by cases xs <;> rfl
  rw [this]; exact q _ (Sub.fresh hj)
theorem EnvE.sub {σ σ' : H} {e ar kl fl : Nat} (E : EnvE σ e ar kl fl) (h : Sub σ σ') : EnvE σ' e ar kl fl := ⟨h _ _ E.e, E.a.sub h⟩
theorem EnvE.fra {σ σ' : H} {e ar kl fl : Nat} {ks : List Nat} (E : EnvE σ e ar kl fl) (h : Fra ks σ σ') (hk : ∀ y ∈ [e, ar, kl, fl], y ∉ ks) : EnvE σ' e ar kl fl :=
  ⟨h _ _ (hk _ (by simp)) E.e, h _ _ (hk _ (by simp)) E.a.ar, h _ _ (hk _ (by simp)) E.a.kl, h _ _ (hk _ (by simp)) E.a.fl⟩
theorem Sub.fra {σ σ' : H} {ks : List Nat} (h : Sub σ σ') : Fra ks σ σ' := fun j o _ e => h j o e
theorem Fra.trans {ks : List Nat} {a b d : H} (x : Fra ks a b) (y : Fra ks b d) : Fra ks a d := fun j o hj e => y j o hj (x j o hj e)
theorem Fra.set {ks : List Nat} {σ : H} {i : Nat} {o : O} (hi : i ∈ ks) : Fra ks σ (σ.set i o) := fun j o' hj e => (H.ne fun q => hj (by rw [q]; exact hi)).trans e
theorem Holds.sub {σ σ' : H} {cs : List (Nat × O)} (h : Holds σ cs) (s : Sub σ σ') : Holds σ' cs := fun q hq => s _ _ (h q hq)
theorem Holds.fra {σ σ' : H} {cs : List (Nat × O)} {ks : List Nat} (h : Holds σ cs) (s : Fra ks σ σ') (hd : ∀ j ∈ keys cs, j ∉ ks) : Holds σ' cs := fun q hq => s _ _ (hd _ (List.mem_map_of_mem hq)) (h q hq)
theorem keys_app {a b : List (Nat × O)} : keys (a ++ b) = keys a ++ keys b := List.map_append
theorem Holds.live {σ : H} {cs : List (Nat × O)} (h : Holds σ cs) {j : Nat} (hj : j ∈ keys cs) : ∃ o, σ j = some o := by
  obtain ⟨q, hq, rfl⟩ := List.mem_map.mp hj
  exact ⟨_, h q hq⟩

/-- what a call leaves of a list of pieces -/
structure After (σ : H) (i : Nat) (Y : Pcs) (ks : List Nat) (σ' : H) (xs' : List Nat) (cs' : List (Nat × O)) : Prop where
  pl : PL Y xs' cs'
  holds : Holds σ' cs'
  at_ : σ' i = some (.list (xs'.map V.ref))
  nodup : (keys cs').Nodup
  off : i ∉ keys cs'
  fra : Fra (i :: ks) σ σ'
  newk : NewK ks σ (keys cs')
  len : xs'.length ≤ sizeLine
theorem none_sub {σ σ' : H} (h : Sub σ σ') {j : Nat} (hj : σ' j = none) : σ j = none := none_of h hj
theorem cutlast_loop (k : Ok c) {e ar kl fl i h res dp : Nat} {tls : List Nat} {ks : List Nat} (hke : ∀ y ∈ [e, ar, kl, fl], y ≠ i) {X Y : Pcs} (hR : LastR h res tls dp X Y) :
    ∃ f, ∀ {σ : H} {xs : List Nat} {cs : List (Nat × O)} {ρ : Loc} {Q : AF → Loc → H → Prop}, EnvE σ e ar kl fl → σ i = some (.list (xs.map V.ref)) → PL X xs cs → Holds σ cs → (keys cs).Nodup → i ∉ keys cs → xs.length ≤ sizeLine → LC ρ e i h res dp tls → (∀ j ∈ keys cs, j ∈ ks) →
      (∀ fl ρ' σ' xs' cs', (fl = .next ∨ fl = .ret .none) → After σ i Y ks σ' xs' cs' → Q fl ρ' σ') → LoopW c (n + 7) s_cut_last wTest wBody Q f ρ σ := by
  have sc := (d_cut_last k).ok
  induction hR with
  | nil =>
    refine ⟨1, fun {σ xs cs ρ Q} E hi hp hh hn ho hz L hks q => ?_⟩
    cases hp
    refine w_test L hi fun σ' s => ?_
    exact q .next ρ σ' [] [] (.inl rfl) ⟨.nil, fun y hy => by simp at hy, s _ _ hi, by simp [keys], by simp [keys], s.fra, fun j hj => by simp [keys] at hj, hz⟩
  | @stop A P x v hx hs hb hst =>
    refine ⟨1, fun {σ xs cs ρ Q} E hi hp hh hn ho hz L hks q => ?_⟩
    obtain ⟨xa, ca, xp, cp, rfl, rfl, hA, hP⟩ := hp.split
    obtain ⟨p, f, g, rfl, hpc⟩ := hs.at hP
    have hfin : ∀ σ' ρ', Sub σ σ' → Q (.ret .none) ρ' σ' := fun σ' ρ' s => q _ ρ' σ' (xa ++ [p]) (ca ++ cp) (.inr rfl) ⟨hp, hh.sub s, s _ _ hi, hn, ho, s.fra, fun j hj => .inl (hks j hj), hz⟩
    refine w_test L hi fun σ₁ s₁ => ?_
    rw [show (!(xa ++ [p]).isEmpty) = true by simp]
    refine last_turn k L (E.sub s₁) (s₁ _ _ hi) hA (fun y hy => s₁ _ _ (hh y (List.mem_append_left _ hy))) (s₁ _ _ (hh _ (List.mem_append_right _ hpc))) hx hb (by simpa using hz) (fun σ' ρ' s _ => hfin σ' ρ' (s₁.trans s)) fun σ' ρ' s L' l hno => absurd hst hno
  | @brif A l hl hb =>
    refine ⟨1, fun {σ xs cs ρ Q} E hi hp hh hn ho hz L hks q => ?_⟩
    obtain ⟨xa, ca, xp, cp, rfl, rfl, hA, hP⟩ := hp.split
    obtain ⟨p, f, g, rfl, hpc⟩ := Single.plain.at hP
    refine w_test L hi fun σ₁ s₁ => ?_
    rw [show (!(xa ++ [p]).isEmpty) = true by simp]
    refine last_turn k L (E.sub s₁) (s₁ _ _ hi) hA (fun y hy => s₁ _ _ (hh y (List.mem_append_left _ hy))) (s₁ _ _ (hh _ (List.mem_append_right _ hpc))) (by simp [lok]) hb (by simpa using hz) (fun σ' ρ' s hst => ?_) fun σ' ρ' s L' l' hno => ?_
    · exfalso
      rcases hst with hst | hst
      · exact hst l hl (by simp [lab])
      · exact hst (by simp [is13])
    have hp' := (s₁.trans s) _ _ (hh _ (List.mem_append_right _ hpc))
    have hi' := (s₁.trans s) _ _ hi
    have hpi : p ≠ i := fun q => ho (q ▸ List.mem_map_of_mem (List.mem_append_right _ hpc))
    refine Ex.cons <| Ex1.drop sc <| Ev.lmeth0 lm_pop (Ev.loc L'.pieces ⟨i, _, rfl, hi', ?_⟩) (fun env => ⟨_, rfl⟩)
    refine CallR.pop (l := xa.map V.ref) (v := .ref p) (by rw [hi']; simp) (by rw [List.length_map]; simp at hz; omega) ?_
    refine Ex.cons <| Ex1.iff sc <| Tr.cmp <| Ev.code (n := n + 5) k l' ((H.ne hpi).trans hp') <| Ev.gint rfl (gi_BR_IF k) <| Op2.eqI ⟨_, rfl, ?_⟩
    refine Ex.cons <| Ex1.drop sc <| Ev.lmeth lm_append (Ev.loc L'.pieces ⟨i, _, rfl, H.self, Evs.cons <| Ev.callG rfl (g_Piece k) (kp_191 k) <| Evs.cons <| Ev.tuple <| Evs.cons <| Ev.gint rfl (gi_DROP k) <| Evs.nil ⟨Nat.le_of_ble_eq_true rfl, Evs.nil <| piece_new2 (x := [26]) (n := n + 5) k fun j hj => Evs.nil ?_⟩⟩) (fun env => ⟨_, rfl⟩)
    refine CallR.append (l := xa.map V.ref) ((H.ne (ne_of hj H.self)).trans H.self) (by rw [List.length_map]; simp at hz; omega) ?_
    refine Ex.cons <| Ex1.ret0 ?_
    have hji : i ≠ j := ne_of hj H.self
    have hj0 : σ' j = none := by rwa [H.ne hji.symm] at hj
    have hj1 : σ j = none := none_of (s₁.trans s) hj0
    have hjk : j ∉ keys (ca ++ cp) := fun hm => by obtain ⟨o, ho⟩ := hh.live hm; rw [hj1] at ho; cases ho
    refine q _ ρ' _ (xa ++ [j]) (ca ++ [(j, pieceO [26] .none .none)]) (.inr rfl) ⟨hA.join (.plain .nil), fun y hy => ?_, by rw [List.map_append]; exact H.self, ?_, ?_, ?_, ?_, by simpa using hz⟩
    · rcases List.mem_append.mp hy with hy | hy
      · have hyk : y.1 ∈ keys (ca ++ cp) := List.mem_map_of_mem (List.mem_append_left _ hy)
        have hyi : y.1 ≠ i := fun q => ho (q ▸ hyk)
        have hyj : y.1 ≠ j := fun q => hjk (q ▸ hyk)
        rw [H.ne hyi, H.ne hyj, H.ne hyi]; exact (s₁.trans s) _ _ (hh y (List.mem_append_left _ hy))
      · rw [List.mem_singleton.mp hy]
        rw [H.ne hji.symm]; exact H.self
    · rw [keys_app, List.nodup_append]
      rw [keys_app, List.nodup_append] at hn
      refine ⟨hn.1, by simp [keys], fun y hy z hz e => ?_⟩
      have : z = j := by simpa [keys] using hz
      exact hjk (by rw [keys_app]; exact List.mem_append_left _ (by rw [← this, ← e]; exact hy))
    · rw [keys_app]; intro hm
      rcases List.mem_append.mp hm with hm | hm
      · exact ho (by rw [keys_app]; exact List.mem_append_left _ hm)
      · exact hji (by simpa [keys] using hm)
    · intro y o hy e
      have hyi : y ≠ i := fun q => hy (q ▸ .head _)
      have hyj : y ≠ j := fun q => by rw [q, hj1] at e; cases e
      rw [H.ne hyi, H.ne hyj, H.ne hyi]; exact (s₁.trans s) _ _ e
    · intro y hy
      rw [keys_app] at hy
      rcases List.mem_append.mp hy with hy | hy
      · exact .inl (hks y (by rw [keys_app]; exact List.mem_append_left _ hy))
      · have : y = j := by simpa [keys] using hy
        exact .inr (this ▸ hj1)
  | @br A Y x l hx hl hb hR ih =>
    obtain ⟨fu, ih⟩ := ih
    refine ⟨fu + 1, fun {σ xs cs ρ Q} E hi hp hh hn ho hz L hks q => ?_⟩
    obtain ⟨xa, ca, xp, cp, rfl, rfl, hA, hP⟩ := hp.split
    obtain ⟨p, f, g, rfl, hpc⟩ := Single.plain.at hP
    have hxl : lok x := by rcases hx with rfl | ⟨rfl, _⟩ <;> simp [lok]
    have hlab : lab dp x = l := by rcases hx with rfl | ⟨rfl, e⟩ <;> simp [lab]; omega
    have h13 : is13 x = 0 := by rcases hx with rfl | ⟨rfl, e⟩ <;> simp [is13]
    refine w_test L hi fun σ₁ s₁ => ?_
    rw [show (!(xa ++ [p]).isEmpty) = true by simp]
    refine last_turn k L (E.sub s₁) (s₁ _ _ hi) hA (fun y hy => s₁ _ _ (hh y (List.mem_append_left _ hy))) (s₁ _ _ (hh _ (List.mem_append_right _ hpc))) hxl hb (by simpa using hz) (fun σ' ρ' s hst => ?_) fun σ' ρ' s L' l' hno => ?_
    · exfalso
      rcases hst with hst | hst
      · exact hst l hl (by rw [hlab])
      · exact hst (by rw [h13]; omega)
    have hp' := (s₁.trans s) _ _ (hh _ (List.mem_append_right _ hpc))
    have hi' := (s₁.trans s) _ _ hi
    have hpi : p ≠ i := fun q => ho (q ▸ List.mem_map_of_mem (List.mem_append_right _ hpc))
    refine Ex.cons <| Ex1.drop sc <| Ev.lmeth0 lm_pop (Ev.loc L'.pieces ⟨i, _, rfl, hi', ?_⟩) (fun env => ⟨_, rfl⟩)
    refine CallR.pop (l := xa.map V.ref) (v := .ref p) (by rw [hi']; simp) (by rw [List.length_map]; simp at hz; omega) ?_
    cases x with
    | nil => exact absurd rfl hxl.1
    | cons k0 r =>
    have hk0 : k0 ≠ 13 := by rcases hx with e | ⟨e, _⟩ <;> (cases e; decide)
    refine Ex.cons <| Ex1.iff sc <| Tr.cmp <| Ev.code (n := n + 5) k l' ((H.ne hpi).trans hp') <| Ev.gint rfl (gi_BR_IF k) <| Op2.eqI ⟨_, rfl, ?_⟩
    rw [show (k0 == 13) = false from beq_eq_false_iff_ne.mpr hk0]
    refine Ex.nil (Ex.nil ?_)
    have fr : Fra [i] σ (σ'.set i (.list (xa.map V.ref))) := (s₁.trans s).fra.trans (Fra.set (by simp))
    rw [keys_app, List.nodup_append] at hn
    have hoA : i ∉ keys ca := fun hm => ho (by rw [keys_app]; exact List.mem_append_left _ hm)
    refine ih (EnvE.fra E fr (by simpa using hke)) H.self hA (fun y hy => fr _ _ ?_ (hh y (List.mem_append_left _ hy))) hn.1 hoA (by simp at hz; omega) L' (fun j hj => hks j (by rw [keys_app]; exact List.mem_append_left _ hj)) fun fl ρ'' σ'' xs' cs' hfl af => q fl ρ'' σ'' xs' cs' hfl ⟨af.pl, af.holds, af.at_, af.nodup, af.off, ?_, ?_, af.len⟩
    · intro hm
      exact hoA (by rw [← List.mem_singleton.mp hm]; exact List.mem_map_of_mem hy)
    · intro y o hy e
      exact af.fra y o hy (fr y o (fun hm => hy (by rw [List.mem_singleton.mp hm]; exact .head _)) e)
    · intro y hy
      rcases af.newk y hy with h1 | h1
      · exact .inl h1
      · refine .inr ?_
        cases e : σ y with
        | none => rfl
        | some o =>
          by_cases hyi : y = i
          · rw [hyi] at h1; rw [H.self] at h1; cases h1
          · have := fr y o (fun hm => hyi (List.mem_singleton.mp hm)) e
            rw [h1] at this; cases this
theorem cutlast_ok (k : Ok c) {e ar kl fl i h res dp : Nat} {tls : List Nat} {X Y : Pcs} {xs : List Nat} {cs : List (Nat × O)} {Q : V → H → Prop} (hke : ∀ y ∈ [e, ar, kl, fl], y ≠ i) (hR : LastR h res tls dp X Y)
    (E : EnvE σ e ar kl fl) (hi : σ i = some (.list (xs.map V.ref))) (hp : PL X xs cs) (hh : Holds σ cs) (hn : (keys cs).Nodup) (ho : i ∉ keys cs) (hz : xs.length ≤ sizeLine)
    (q : ∀ σ' xs' cs', After σ i Y (keys cs) σ' xs' cs' → Q .none σ') : CodeR c (n + 8) (.ref 305) [.ref e, .ref i, .int h, .int res, .tup (tls.map natV), .int dp] σ Q := by
  refine CodeR.enter (d_cut_last k) rfl ?_
  obtain ⟨f, hf⟩ := cutlast_loop (n := n) (ks := keys cs) k hke hR
  refine Ex.cons <| Ex1.whileE (d_cut_last k).ok f (hf E hi hp hh hn ho hz ⟨rfl, rfl, rfl, rfl, rfl, rfl⟩ (fun _ h => h) fun fl ρ' σ' xs' cs' hfl af => ?_)
  rcases hfl with rfl | rfl
  · exact Ex.nil (q σ' xs' cs' af)
  · exact q σ' xs' cs' af
end
end Mine

namespace Mine
open PySem PySem.W PyProof.Rows PySem.Calls PySem.Spec

structure AfterC (σ : H) (A : List (Nat × O)) (σ' : H) (A' : List (Nat × O)) : Prop where
  holds : Holds σ' A'
  nodup : (keys A').Nodup
  fra : Fra (keys A) σ σ'
  newk : NewK (keys A) σ (keys A')
theorem AfterC.refl {σ : H} {A : List (Nat × O)} (h : Holds σ A) (n : (keys A).Nodup) : AfterC σ A σ A := ⟨h, n, fun _ _ _ e => e, fun j hj => .inl hj⟩
theorem AfterC.par {σ σ₁ σ₂ : H} {A A' B B' : List (Nat × O)} (x : AfterC σ A σ₁ A') (y : AfterC σ₁ B σ₂ B') (h : Holds σ (A ++ B)) (n : (keys (A ++ B)).Nodup) : AfterC σ (A ++ B) σ₂ (A' ++ B') := by
  rw [keys_app, List.nodup_append] at n
  have hA : Holds σ A := fun q hq => h q (List.mem_append_left _ hq)
  have hB : Holds σ B := fun q hq => h q (List.mem_append_right _ hq)
  have dAB : ∀ j ∈ keys A, j ∉ keys B := fun j hj hj' => n.2.2 j hj j hj' rfl
  have dA'B : ∀ j ∈ keys A', j ∉ keys B := fun j hj hj' => by
    rcases x.newk j hj with h1 | h1
    · exact dAB j h1 hj'
    · obtain ⟨o, ho⟩ := hB.live hj'; rw [h1] at ho; cases ho
  refine ⟨fun q hq => ?_, ?_, fun j o hj e => ?_, fun j hj => ?_⟩
  · rcases List.mem_append.mp hq with hq | hq
    · exact y.fra _ _ (dA'B _ (List.mem_map_of_mem hq)) (x.holds q hq)
    · exact y.holds q hq
  · rw [keys_app, List.nodup_append]
    refine ⟨x.nodup, y.nodup, fun j hj j' hj' e => ?_⟩
    subst e
    rcases y.newk j hj' with h1 | h1
    · exact dA'B j hj h1
    · obtain ⟨o, ho⟩ := x.holds.live hj; rw [h1] at ho; cases ho
  · rw [keys_app] at hj
    exact y.fra _ _ (fun q => hj (List.mem_append_right _ q)) (x.fra _ _ (fun q => hj (List.mem_append_left _ q)) e)
  · rw [keys_app] at hj ⊢
    rcases List.mem_append.mp hj with hj | hj
    · rcases x.newk j hj with h1 | h1
      · exact .inl (List.mem_append_left _ h1)
      · exact .inr h1
    · rcases y.newk j hj with h1 | h1
      · exact .inl (List.mem_append_right _ h1)
      · by_cases hk : j ∈ keys A
        · exact .inl (List.mem_append_left _ hk)
        · refine .inr ?_
          cases e : σ j with
          | none => rfl
          | some o => rw [x.fra j o hk e] at h1; cases h1
theorem AfterC.sub {σ₀ σ σ' : H} {A A' : List (Nat × O)} (s : Sub σ₀ σ) (x : AfterC σ A σ' A') : AfterC σ₀ A σ' A' :=
  ⟨x.holds, x.nodup, fun j o hj e => x.fra j o hj (s _ _ e), fun j hj => (x.newk j hj).imp id fun e => none_of s e⟩
theorem AfterC.dn {σ σ' σ'' : H} {A A' : List (Nat × O)} (x : AfterC σ A σ' A') (s : Sub σ' σ'') : AfterC σ A σ'' A' :=
  ⟨x.holds.sub s, x.nodup, x.fra.trans s.fra, x.newk⟩
theorem After.c {σ σ' : H} {i : Nat} {Y : Pcs} {cs cs' : List (Nat × O)} {xs' : List Nat} {o : O} (x : After σ i Y (keys cs) σ' xs' cs') : AfterC σ ((i, o) :: cs) σ' ((i, .list (xs'.map V.ref)) :: cs') :=
  ⟨fun q hq => by rcases List.mem_cons.mp hq with rfl | hq; exact x.at_; exact x.holds q hq, List.nodup_cons.mpr ⟨x.off, x.nodup⟩, x.fra, fun j hj => by
    rcases List.mem_cons.mp hj with rfl | hj
    · exact .inl (.head _)
    · exact (x.newk j hj).imp (fun h => .tail _ h) id⟩
theorem PL.len : ∀ {X : Pcs} {xs cs}, PL X xs cs → xs.length ≤ X.flat.length
  | _, _, _, .nil => Nat.le_refl _
  | _, _, _, .plain h => by simp only [Pcs.flat, List.length_cons]; have := h.len; omega
  | _, _, _, .blk1 h0 h => by simp only [Pcs.flat, List.length_cons, List.length_append]; have := h.len; omega
  | _, _, _, .blk2 h0 h0' h => by simp only [Pcs.flat, List.length_cons, List.length_append]; have := h.len; omega
section
variable {c : Cx} {n : Nat} {sc : Scope} {ρ : Loc} {σ : H}
theorem LoopC.mapT {x : Str} {ρf : Loc} {elt : Expr} {l : List V} {g : V → V} {Q : List V → H → Prop} (hz : l.length ≤ sizeLine)
    (he : ∀ v ∈ l, ∀ {Q : V → H → Prop}, Q (g v) σ → Ev c n sc elt ((x, v) :: ρf) σ Q) (q : Q (l.map g) σ) :
    ∀ (m k : Nat) (acc : List V), k + m = l.length → acc = (l.take k).map g → LoopC c n sc x ρf [] elt (itTup l) Q (m + 1) k acc σ
  | 0, k, acc, hk, ha => by
    have : l[k]? = none := by rw [List.getElem?_eq_none_iff]; omega
    simp only [LoopC, itTup, this]
    rw [ha, List.take_of_length_le (by omega)]; exact q
  | m + 1, k, acc, hk, ha => by
    have hlt : k < l.length := by omega
    have : l[k]? = some l[k] := List.getElem?_eq_getElem hlt
    simp only [LoopC, itTup, this, Tests, if_true]
    refine he _ (List.getElem_mem hlt) ⟨?_, ?_⟩
    · rw [ha, List.length_map, List.length_take]; omega
    · refine LoopC.mapT hz he q m (k + 1) _ (by omega) ?_
      rw [ha, List.take_add_one, this, List.map_append]; rfl
theorem parts1_ok (k : Ok c) {p l : Nat} {x : Ins} {Q : V → H → Prop} (hp : σ p = some (pieceO x (.ref l) .none)) (q : ∀ j, σ j = none → Q (.ref j) (σ.set j (.list [.ref l]))) : CodeR c (n + 1) (.ref 181) [.ref p] σ Q := by
  refine CodeR.enter (d_parts k) rfl ?_
  have sc := (d_parts k).ok
  refine Ex.cons <| Ex1.ret sc <| Ev.comp ⟨rfl, rfl⟩ (by rfl) (by rfl) rfl <| IterE.of <| Ev.tuple <| Evs.cons <| Ev.firstF k rfl hp rfl <| Evs.cons <| Ev.secondF k rfl hp rfl <| Evs.nil ⟨Nat.le_of_ble_eq_true rfl, itTup [.ref l, .none], Itr.tup, 3, ?_⟩
  simp only [LoopC, itTup, List.getElem?_cons_zero, List.getElem?_cons_succ, List.getElem?_nil, Tests]
  refine Tr.cmp <| Ev.loc rfl <| Ev.noneE <| Op2.notNone rfl ⟨_, rfl, ?_⟩
  refine Ev.loc rfl ⟨Nat.zero_lt_of_lt (show 0 < sizeLine by exact Nat.le_of_ble_eq_true rfl), ?_⟩
  refine Tr.cmp <| Ev.loc rfl <| Ev.noneE <| Op2.notNone rfl ⟨_, rfl, ?_⟩
  exact fun j hj => q j hj
theorem parts2_ok (k : Ok c) {p l l' : Nat} {x : Ins} {Q : V → H → Prop} (hp : σ p = some (pieceO x (.ref l) (.ref l'))) (q : ∀ j, σ j = none → Q (.ref j) (σ.set j (.list [.ref l, .ref l']))) : CodeR c (n + 1) (.ref 181) [.ref p] σ Q := by
  refine CodeR.enter (d_parts k) rfl ?_
  have sc := (d_parts k).ok
  refine Ex.cons <| Ex1.ret sc <| Ev.comp ⟨rfl, rfl⟩ (by rfl) (by rfl) rfl <| IterE.of <| Ev.tuple <| Evs.cons <| Ev.firstF k rfl hp rfl <| Evs.cons <| Ev.secondF k rfl hp rfl <| Evs.nil ⟨Nat.le_of_ble_eq_true rfl, itTup [.ref l, .ref l'], Itr.tup, 3, ?_⟩
  simp only [LoopC, itTup, List.getElem?_cons_zero, List.getElem?_cons_succ, List.getElem?_nil, Tests]
  refine Tr.cmp <| Ev.loc rfl <| Ev.noneE <| Op2.notNone rfl ⟨_, rfl, ?_⟩
  refine Ev.loc rfl ⟨Nat.le_of_ble_eq_true rfl, ?_⟩
  refine Tr.cmp <| Ev.loc rfl <| Ev.noneE <| Op2.notNone rfl ⟨_, rfl, ?_⟩
  refine Ev.loc rfl ⟨Nat.le_of_ble_eq_true rfl, ?_⟩
  exact fun j hj => q j hj

structure LW (ρ : Loc) (e p t u dp : Nat) (inner : List Nat) : Prop where
  self : ρ.lookup (Str.ofString "self") = some (.ref e)
  piece : ρ.lookup (Str.ofString "piece") = some (.ref p)
  takes : ρ.lookup (Str.ofString "takes") = some (.int t)
  puts : ρ.lookup (Str.ofString "puts") = some (.int u)
  inner : ρ.lookup (Str.ofString "inner") = some (.tup (inner.map natV))
  depth : ρ.lookup (Str.ofString "depth") = some (.int dp)
theorem natV_app {l l' : List Nat} : l.map natV ++ l'.map natV = (l ++ l').map natV := List.map_append.symm
noncomputable def cwNames : List Str := [Str.ofString "self", Str.ofString "piece", Str.ofString "height", Str.ofString "results", Str.ofString "tails", Str.ofString "depth"]
theorem within_head (k : Ok c) {e ar kl fl p l res dp t u : Nat} {h kc : Int} {x : Ins} {g : V} {tl : List Nat} {Q : AF → Loc → H → Prop} (E : EnvE σ e ar kl fl) (hp : σ p = some (pieceO x (.ref l) g)) (hx : blkAr x = some (kc, t, u)) (htl : tl.length ≤ 100)
    (rest : ∀ ρ' σ', Sub σ σ' → LW ρ' e p t u dp (inn kc t u h res tl) → Ex c (n + 6) s_cut_within (b_cut_within.drop 3) ρ' σ' Q) :
    Ex c (n + 6) s_cut_within b_cut_within (cwNames.zip [.ref e, .ref p, .int h, .int res, .tup (tl.map natV), .int dp]) σ Q := by
  obtain ⟨h1, h2, h3⟩ := blkAr_head hx
  obtain ⟨ab, rfl⟩ : ∃ ab, x = [kc, ab] := by
    unfold blkAr at hx
    split at hx
    · rename_i k0 i0
      exact ⟨i0, by rw [← h1]; rfl⟩
    · cases hx
  have sc := (d_cut_within k).ok
  refine Ex.cons <| Ex1.unpack (xs := [Str.ofString "takes", Str.ofString "puts"]) sc (by decide) (fun env => ⟨[(_, _), (_, _)], rfl, rfl⟩) <| Ev.meth (Ev.attr (Ev.loc rfl <| Op1.field (f_308_arities k) E.e rfl rfl ⟨ar, _, _, _, rfl, E.a.ar, rfl, m_of_block k, Evs.cons <| Ev.second (fun q => Ev.plainF k rfl hp q) <| Evs.nil <| CodeR.call <| of_block_ok (n := n + 4) k E.a hx ⟨_, rfl, rfl, ?_⟩⟩)) (fun env => ⟨_, rfl⟩)
  refine Ex.cons <| Ex1.assign sc rfl <| Ev.mono (Q := fun v σ' => v = .tup ((base kc).map natV) ∧ σ = σ') (Ev.ite <| Tr.cmp <| Ev.code (n := n + 4) k rfl hp <| Ev.gint rfl (gi_LOOP k) <| Op2.eqI ⟨_, rfl, ?_⟩) ?_
  · by_cases h3 : kc = 3
    · rw [show base kc = [] by rw [base, if_pos h3], show (kc == 3) = true from beq_iff_eq.mpr h3]; exact Ev.tuple <| Evs.nil ⟨Nat.le_of_ble_eq_true rfl, rfl, rfl⟩
    · rw [show base kc = [0] by rw [base, if_neg h3], show (kc == 3) = false from beq_eq_false_iff_ne.mpr h3]; exact Ev.tuple <| Evs.cons <| Ev.int <| Evs.nil ⟨Nat.le_of_ble_eq_true rfl, rfl, rfl⟩
  rintro _ _ ⟨rfl, rfl⟩
  have e4 : (if (kc == 4) = true then (1 : Int) else 0) = is4 kc := by
    unfold is4
    by_cases h4 : kc = 4
    · subst h4; rfl
    · rw [if_neg (by simpa using h4), if_neg h4]
  refine Ex.cons <| Ex1.iff sc <| Tr.mono (Q := fun bt σ' => bt = decide ((u : Int) = res ∧ h - t - is4 kc = 0) ∧ σ = σ') (Tr.andE <| Tr.cmp <| Ev.loc rfl <| Ev.loc rfl <| Op2.eqI ⟨_, rfl, ?_⟩) ?_
  · by_cases h5 : (u : Int) = res
    · rw [show ((u : Int) == res) = true from beq_iff_eq.mpr h5]
      refine Tr.andE <| Tr.cmp <| Ev.bin <| Ev.bin <| Ev.loc rfl <| Ev.loc rfl <| Op2.sub <| Ev.callT <| Ev.blt rfl (gb_int k) bb_int ⟨_, rfl, Evs.cons <| Ev.cmp <| Ev.code (n := n + 4) k rfl hp <| Ev.gint rfl (gi_IF k) <| Op2.eqI <| Evs.nil <| CallR.intB <| Op2.sub <| Ev.int <| Op2.eqI ⟨_, rfl, ?_⟩⟩ (by decide) rfl
      rw [e4]
      by_cases h6 : h - t - is4 kc = 0
      · rw [show (h - t - is4 kc == 0) = true from beq_iff_eq.mpr h6]
        exact Tr.and0 ⟨(decide_eq_true ⟨h5, h6⟩).symm, rfl⟩
      · rw [show (h - t - is4 kc == 0) = false from beq_eq_false_iff_ne.mpr h6]
        exact ⟨(decide_eq_false fun e => h6 e.2).symm, rfl⟩
    · rw [show ((u : Int) == res) = false from beq_eq_false_iff_ne.mpr h5]
      exact ⟨(decide_eq_false fun e => h5 e.1).symm, rfl⟩
  rintro bt _ ⟨hbt, rfl⟩
  cases bt with
  | false =>
    refine Ex.nil (rest _ σ (.refl _) ⟨rfl, rfl, rfl, rfl, ?_, rfl⟩)
    have := of_decide_eq_false hbt.symm
    unfold inn
    rw [if_neg this, List.append_nil]; rfl
  | true =>
    have hg : (tl.map natV).map (fun v => match v with | .int i => .int (i + 1) | v => v) = (tl.map (· + 1)).map natV := by
      rw [List.map_map, List.map_map]
      exact List.map_congr_left fun x _ => by simp [natV]
    have hbl : (base kc).length ≤ 1 := by unfold base; split <;> simp
    refine Ex.cons <| Ex1.assign sc rfl <| Ev.bin <| Ev.loc rfl <| Ev.callT <| Ev.blt rfl (gb_tuple k) bb_tuple ⟨_, rfl, Evs.cons <| Ev.comp ⟨rfl, rfl⟩ (by rfl) (by rfl) rfl <| IterE.of <| Ev.loc rfl ⟨itTup (tl.map natV), Itr.tup, (tl.map natV).length + 1,
      LoopC.mapT (g := fun v => match v with | .int i => .int (i + 1) | v => v) (by rw [List.length_map]; exact Nat.le_trans htl (Nat.le_of_ble_eq_true rfl)) (fun v hv Q q => ?_) ?_ (tl.map natV).length 0 [] (by omega) rfl⟩⟩ (by decide) rfl
    · obtain ⟨x, _, rfl⟩ := List.mem_map.mp hv
      exact Ev.bin <| Ev.loc rfl <| Ev.int <| Op2.add q
    rw [hg]
    intro j hj
    refine Evs.nil <| CallR.tupleL H.self (by rw [List.length_map, List.length_map]; exact Nat.le_trans htl (Nat.le_of_ble_eq_true rfl)) <| Op2.addTup (by rw [List.length_map, List.length_map, List.length_map]; exact Nat.le_trans (show _ ≤ 101 by omega) (Nat.le_of_ble_eq_true rfl)) ?_
    rw [natV_app]
    refine Ex.nil (rest _ _ (Sub.fresh hj) ⟨rfl, rfl, rfl, rfl, ?_, rfl⟩)
    have := of_decide_eq_true hbt.symm
    unfold inn
    rw [if_pos this]; rfl
end
end Mine

namespace Mine
open PySem PySem.W PyProof.Rows PySem.Calls PySem.Spec

noncomputable def CutC (c : Cx) (d n : Nat) : Prop := ∀ {σ : H} {e ar kl fl i h res dp : Nat} {tls : List Nat} {X Y : Pcs} {xs : List Nat} {cs : List (Nat × O)} {Q : V → H → Prop}, (∀ y ∈ [e, ar, kl, fl], y ∉ i :: keys cs) → CutR d X h res tls dp Y → EnvE σ e ar kl fl → σ i = some (.list (xs.map V.ref)) →
  PL X xs cs → Holds σ cs → (keys cs).Nodup → i ∉ keys cs → X.flat.length ≤ sizeLine → tls.length + d ≤ 100 → (∀ σ' xs' cs', After σ i Y (keys cs) σ' xs' cs' → Q .none σ') →
  CodeR c n (.ref 293) [.ref e, .ref i, .int h, .int res, .tup (tls.map natV), .int dp] σ Q
theorem inn_len {kc : Int} {t u : Nat} {h res : Int} {tl : List Nat} : (inn kc t u h res tl).length ≤ tl.length + 1 := by
  unfold inn base
  split <;> split <;> simp
section
variable {c : Cx} {n : Nat} {sc : Scope} {ρ : Loc} {σ : H}
/-- a call of self.cut on a part -/
theorem part_turn (k : Ok c) {d : Nat} (C : CutC c d (n + 9)) {e ar kl fl p l t u dp : Nat} {inner : List Nat} {a a' : Pcs} {xa : List Nat} {ca : List (Nat × O)} {Q : AF → Loc → H → Prop} (hke : ∀ y ∈ [e, ar, kl, fl], y ∉ l :: keys ca) (hR : CutR d a t u inner (dp + 1) a')
    (E : EnvE σ e ar kl fl) (hl : σ l = some (.list (xa.map V.ref))) (hp : PL a xa ca) (hh : Holds σ ca) (hn : (keys ca).Nodup) (ho : l ∉ keys ca) (hz : a.flat.length ≤ sizeLine) (hi : inner.length + d ≤ 100) (L : LW ρ e p t u dp inner) (hpart : ρ.lookup (Str.ofString "part") = some (.ref l))
    (q : ∀ σ' xa' ca', PL a' xa' ca' → AfterC σ ((l, .list (xa.map V.ref)) :: ca) σ' ((l, .list (xa'.map V.ref)) :: ca') → Q .next ρ σ')
    {body : List Stmt} (hb : body = match b_cut_within.drop 3 with | [.For _ _ b _ _] => b | _ => []) : Ex c (n + 9) s_cut_within body ρ σ Q := by
  subst hb
  have sc := (d_cut_within k).ok
  refine Ex.cons <| Ex1.expr sc <| Ev.meth (Ev.loc L.self ⟨e, _, _, _, rfl, E.e, rfl, m_cut k, Evs.cons <| Ev.loc hpart <| Evs.cons <| Ev.loc L.takes <| Evs.cons <| Ev.loc L.puts <| Evs.cons <| Ev.loc L.inner <| Evs.cons <| Ev.bin <| Ev.loc L.depth <| Ev.int <| Op2.add <| Evs.nil <| CodeR.call ?_⟩) (fun env => ⟨_, rfl⟩)
  rw [show (dp : Int) + 1 = ((dp + 1 : Nat) : Int) by omega]
  exact C hke hR E hl hp hh hn ho hz hi fun σ' xa' ca' af => ⟨rfl, Ex.nil (q σ' xa' ca' af.pl af.c)⟩
theorem LW.part {ρ : Loc} {e p t u dp l : Nat} {inner : List Nat} (L : LW ρ e p t u dp inner) : LW (setL ρ (Str.ofString "part") (.ref l)) e p t u dp inner :=
  ⟨set_other (by decide) L.self, set_other (by decide) L.piece, set_other (by decide) L.takes, set_other (by decide) L.puts, set_other (by decide) L.inner, set_other (by decide) L.depth⟩
theorem within1 (k : Ok c) {d : Nat} (C : CutC c d (n + 9)) {e ar kl fl p l res dp t u : Nat} {h kc : Int} {x : Ins} {tl : List Nat} {a a' : Pcs} {xa : List Nat} {ca : List (Nat × O)} {Q : V → H → Prop} (E : EnvE σ e ar kl fl) (hp : σ p = some (pieceO x (.ref l) .none)) (hx : blkAr x = some (kc, t, u))
    (htl : tl.length + 1 + d ≤ 100) (hR : CutR d a t u (inn kc t u h res tl) (dp + 1) a') (hke : ∀ y ∈ [e, ar, kl, fl], y ∉ l :: keys ca) (hl : σ l = some (.list (xa.map V.ref))) (hpl : PL a xa ca) (hh : Holds σ ca) (hn : (keys ca).Nodup) (ho : l ∉ keys ca) (hz : a.flat.length ≤ sizeLine)
    (q : ∀ σ' xa' ca', PL a' xa' ca' → AfterC σ ((l, .list (xa.map V.ref)) :: ca) σ' ((l, .list (xa'.map V.ref)) :: ca') → Q .none σ') :
    CodeR c (n + 10) (.ref 298) [.ref e, .ref p, .int h, .int res, .tup (tl.map natV), .int dp] σ Q := by
  refine CodeR.enter (d_cut_within k) rfl <| within_head (n := n + 3) k E hp hx (by omega) fun ρ₁ σ₁ s₁ L => ?_
  have sc := (d_cut_within k).ok
  have hp' := s₁ _ _ hp
  refine Ex.cons <| Ex1.forE (T := .name (Str.ofString "part")) sc ⟨⟨_, rfl⟩, rfl⟩ (IterE.toF <| IterE.of <| Ev.meth0 (Ev.loc L.piece ⟨p, _, _, _, rfl, hp', rfl, m_parts k, CodeR.call <| parts1_ok (n := n + 8) k hp' fun j hj => ⟨itList j, Itr.list H.self, 2, ?_⟩⟩) (fun env => ⟨_, rfl⟩))
  have s₂ := s₁.trans (Sub.fresh (o := .list [.ref l]) hj)
  have hj1 := none_of s₁ hj
  have hjl : j ∉ l :: keys ca := fun hm => by
    rcases List.mem_cons.mp hm with rfl | hm
    · rw [hl] at hj1; cases hj1
    · obtain ⟨o, ho⟩ := hh.live hm; rw [hj1] at ho; cases ho
  have hjj : (σ₁.set j (.list [.ref l])) j = some (.list [.ref l]) := H.self
  generalize σ₁.set j (.list [.ref l]) = σ₂ at s₂ hjj ⊢
  rw [LoopF]
  simp only [itList, hjj, List.getElem?_cons_zero]
  refine ⟨_, rfl, part_turn k C hke hR (E.sub s₂) (s₂ _ _ hl) hpl (hh.sub s₂) hn ho hz (by have := inn_len (kc := kc) (t := t) (u := u) (h := h) (res := res) (tl := tl); omega) L.part set_self (fun σ' xa' ca' pl' af => ?_) rfl⟩
  have hj' := af.fra j _ hjl hjj
  show LoopF _ _ _ _ _ _ _ 1 1 _ _
  rw [LoopF]
  simp only [itList, hj', List.getElem?_cons_succ, List.getElem?_nil]
  exact Ex.nil (q σ' xa' ca' pl' (af.sub s₂))
theorem within2 (k : Ok c) {d : Nat} (C : CutC c d (n + 9)) {e ar kl fl p l l' res dp t u : Nat} {h kc : Int} {x : Ins} {tl : List Nat} {a a' b b' : Pcs} {xa xb : List Nat} {ca cb : List (Nat × O)} {Q : V → H → Prop} (E : EnvE σ e ar kl fl) (hp : σ p = some (pieceO x (.ref l) (.ref l')))
    (hx : blkAr x = some (kc, t, u)) (htl : tl.length + 1 + d ≤ 100) (hR : CutR d a t u (inn kc t u h res tl) (dp + 1) a') (hR' : CutR d b t u (inn kc t u h res tl) (dp + 1) b')
    (hke : ∀ y ∈ [e, ar, kl, fl], y ∉ keys (((l, O.list (xa.map V.ref)) :: ca) ++ ((l', .list (xb.map V.ref)) :: cb))) (hpl : PL a xa ca) (hpl' : PL b xb cb) (hh : Holds σ (((l, .list (xa.map V.ref)) :: ca) ++ ((l', .list (xb.map V.ref)) :: cb)))
    (hn : (keys (((l, O.list (xa.map V.ref)) :: ca) ++ ((l', .list (xb.map V.ref)) :: cb))).Nodup) (hz : a.flat.length ≤ sizeLine) (hz' : b.flat.length ≤ sizeLine)
    (q : ∀ σ' xa' ca' xb' cb', PL a' xa' ca' → PL b' xb' cb' → AfterC σ (((l, .list (xa.map V.ref)) :: ca) ++ ((l', .list (xb.map V.ref)) :: cb)) σ' (((l, .list (xa'.map V.ref)) :: ca') ++ ((l', .list (xb'.map V.ref)) :: cb')) → Q .none σ') :
    CodeR c (n + 10) (.ref 298) [.ref e, .ref p, .int h, .int res, .tup (tl.map natV), .int dp] σ Q := by
  refine CodeR.enter (d_cut_within k) rfl <| within_head (n := n + 3) k E hp hx (by omega) fun ρ₁ σ₁ s₁ L => ?_
  have sc := (d_cut_within k).ok
  have hp' := s₁ _ _ hp
  have hA : Holds σ ((l, .list (xa.map V.ref)) :: ca) := fun q hq => hh q (List.mem_append_left _ hq)
  have hB : Holds σ ((l', .list (xb.map V.ref)) :: cb) := fun q hq => hh q (List.mem_append_right _ hq)
  have hn0 := hn
  rw [keys_app, List.nodup_append] at hn
  have nA := List.nodup_cons.mp hn.1
  have nB := List.nodup_cons.mp hn.2.1
  have keA : ∀ y ∈ [e, ar, kl, fl], y ∉ l :: keys ca := fun y hy hm => hke y hy (by rw [keys_app]; exact List.mem_append_left _ hm)
  have keB : ∀ y ∈ [e, ar, kl, fl], y ∉ l' :: keys cb := fun y hy hm => hke y hy (by rw [keys_app]; exact List.mem_append_right _ hm)
  have hil := inn_len (kc := kc) (t := t) (u := u) (h := h) (res := res) (tl := tl)
  refine Ex.cons <| Ex1.forE (T := .name (Str.ofString "part")) sc ⟨⟨_, rfl⟩, rfl⟩ (IterE.toF <| IterE.of <| Ev.meth0 (Ev.loc L.piece ⟨p, _, _, _, rfl, hp', rfl, m_parts k, CodeR.call <| parts2_ok (n := n + 8) k hp' fun j hj => ⟨itList j, Itr.list H.self, 3, ?_⟩⟩) (fun env => ⟨_, rfl⟩))
  have s₂ := s₁.trans (Sub.fresh (o := .list [.ref l, .ref l']) hj)
  have hj1 := none_of s₁ hj
  have hjl : j ∉ keys ((l, O.list (xa.map V.ref)) :: ca) := fun hm => by obtain ⟨o, ho⟩ := hA.live hm; rw [hj1] at ho; cases ho
  have hjl' : j ∉ keys ((l', O.list (xb.map V.ref)) :: cb) := fun hm => by obtain ⟨o, ho⟩ := hB.live hm; rw [hj1] at ho; cases ho
  have hjj : (σ₁.set j (.list [.ref l, .ref l'])) j = some (.list [.ref l, .ref l']) := H.self
  generalize σ₁.set j (.list [.ref l, .ref l']) = σ₂ at s₂ hjj ⊢
  rw [LoopF]
  simp only [itList, hjj, List.getElem?_cons_zero]
  refine ⟨_, rfl, part_turn k C keA hR (E.sub s₂) (s₂ _ _ (hA _ (.head _))) hpl (fun q hq => s₂ _ _ (hA q (.tail _ hq))) nA.2 nA.1 hz (by omega) L.part set_self (fun σ₃ xa' ca' pl' af => ?_) rfl⟩
  have hj' := af.fra j _ hjl hjj
  have hB3 : Holds σ₃ ((l', .list (xb.map V.ref)) :: cb) := fun q hq => af.fra _ _ (fun hm => hn.2.2 _ hm _ (List.mem_map_of_mem hq) rfl) (s₂ _ _ (hB q hq))
  show LoopF _ _ _ _ _ _ _ 2 1 _ _
  rw [LoopF]
  simp only [itList, hj', List.getElem?_cons_succ, List.getElem?_cons_zero]
  refine ⟨_, rfl, part_turn k C keB hR' ((E.sub s₂).fra af.fra keA) (hB3 _ (.head _)) hpl' (fun q hq => hB3 q (.tail _ hq)) nB.2 nB.1 hz' (by omega) L.part.part set_self (fun σ₄ xb' cb' pl'' af' => ?_) rfl⟩
  have hj'' := af'.fra j _ hjl' hj'
  show LoopF _ _ _ _ _ _ _ 1 2 _ _
  rw [LoopF]
  simp only [itList, hj'', List.getElem?_cons_succ, List.getElem?_nil]
  exact Ex.nil (q σ₄ xa' ca' xb' cb' pl' pl'' (((af.par af' (hh.sub s₂) hn0)).sub s₂))
end
end Mine

namespace Mine
open PySem PySem.W PyProof.Rows PySem.Calls PySem.Spec

noncomputable def cutBody : List Stmt := match b_cut with
  | _ :: .For _ _ b _ _ :: _ => b
  | _ => []
noncomputable def enumIt (i : Nat) : It := fun k σ => match itList i k σ with | some (some v) => some (some (.tup [.int k, v])) | some none => some none | none => none
theorem PL.nil_iff {X : Pcs} {xs cs} (h : PL X xs cs) : X.isNil = xs.isEmpty := by cases h <;> rfl
section
variable {c : Cx} {n : Nat} {sc : Scope} {ρ : Loc} {σ : H}
theorem behind_turn (k : Ok c) {e ar kl fl i h res dp p : Nat} {tls : List Nat} {at_ at' : Int} {Q : AF → Loc → H → Prop} (E : EnvE σ e ar kl fl) (L : LC ρ e i h res dp tls) (lat : ρ.lookup (Str.ofString "at") = some (.int at_)) (lp : ρ.lookup (Str.ofString "piece") = some (.ref p))
    (hc : ∀ {Q : V → H → Prop}, Q (.int at') σ → CodeR c (n + 5) (.ref 258) [.ref ar, .ref p, .int at_] σ Q) (q : ∀ ρ', LC ρ' e i h res dp tls → ρ'.lookup (Str.ofString "at") = some (.int at') → Q .next ρ' σ) :
    Ex c (n + 5) s_cut (cutBody.drop 1) ρ σ Q := by
  have sc := (d_cut k).ok
  refine Ex.cons <| Ex1.assign sc rfl <| Ev.meth (Ev.attr (Ev.loc L.self <| Op1.field (f_308_arities k) E.e rfl rfl ⟨ar, _, _, _, rfl, E.a.ar, rfl, m_behind k, Evs.cons <| Ev.loc lp <| Evs.cons <| Ev.loc lat <| Evs.nil <| CodeR.call <| hc ?_⟩)) (fun env => ⟨_, rfl⟩)
  refine Ex.cons <| Ex1.iff sc <| Tr.cmp <| Ev.loc set_self <| Ev.noneE <| Op2.isNone rfl ⟨_, rfl, ?_⟩
  exact Ex.nil (Ex.nil (q _ (L.set (by decide)) set_self))
theorem behind_stop (k : Ok c) {e ar kl fl i h res dp p : Nat} {tls : List Nat} {at_ : Int} {Q : AF → Loc → H → Prop} (E : EnvE σ e ar kl fl) (L : LC ρ e i h res dp tls) (lat : ρ.lookup (Str.ofString "at") = some (.int at_)) (lp : ρ.lookup (Str.ofString "piece") = some (.ref p))
    (hc : ∀ {Q : V → H → Prop}, Q .none σ → CodeR c (n + 5) (.ref 258) [.ref ar, .ref p, .int at_] σ Q) (q : ∀ ρ', LC ρ' e i h res dp tls → Q .brk ρ' σ) :
    Ex c (n + 5) s_cut (cutBody.drop 1) ρ σ Q := by
  have sc := (d_cut k).ok
  refine Ex.cons <| Ex1.assign sc rfl <| Ev.meth (Ev.attr (Ev.loc L.self <| Op1.field (f_308_arities k) E.e rfl rfl ⟨ar, _, _, _, rfl, E.a.ar, rfl, m_behind k, Evs.cons <| Ev.loc lp <| Evs.cons <| Ev.loc lat <| Evs.nil <| CodeR.call <| hc ?_⟩)) (fun env => ⟨_, rfl⟩)
  refine Ex.cons <| Ex1.iff sc <| Tr.cmp <| Ev.loc set_self <| Ev.noneE <| Op2.isNone rfl ⟨_, rfl, ?_⟩
  exact Ex.cons <| Ex1.brk (q _ (L.set (by decide)))
/-- the head of a turn, over a block -/
theorem blk_turn (k : Ok c) {e ar kl fl i h res dp p l k0 : Nat} {tls xsA : List Nat} {at_ : Int} {x : Ins} {g : V} {r : Pcs} {xs cs} {Q : AF → Loc → H → Prop} (L : LC ρ e i h res dp tls) (E : EnvE σ e ar kl fl) (lat : ρ.lookup (Str.ofString "at") = some (.int at_)) (lp : ρ.lookup (Str.ofString "piece") = some (.ref p))
    (lk : ρ.lookup (Str.ofString "place") = some (.int k0)) (hi : σ i = some (.list (xsA.map V.ref))) (hz : xsA.length ≤ sizeLine) (hd : xsA.drop k0 = p :: xs) (hr : PL r xs cs) (hp : σ p = some (pieceO x (.ref l) g))
    {P : H → Prop} (hcut : CodeR c (n + 5) (.ref 298) [.ref e, .ref p, .int at_, .int res, .tup ((if r.isNil then tls else []).map natV), .int dp] σ fun v σ' => v = .none ∧ P σ')
    (q : ∀ ρ' σ', P σ' → LC ρ' e i h res dp tls → ρ'.lookup (Str.ofString "at") = some (.int at_) → ρ'.lookup (Str.ofString "piece") = some (.ref p) → Ex c (n + 5) s_cut (cutBody.drop 1) ρ' σ' Q) :
    Ex c (n + 5) s_cut cutBody ρ σ Q := by
  have sc := (d_cut k).ok
  refine Ex.cons <| Ex1.iff sc <| Tr.cmp <| Ev.firstF k lp hp rfl <| Ev.noneE <| Op2.notNone rfl ⟨_, rfl, ?_⟩
  refine Ex.cons <| Ex1.assign sc rfl <| Ev.cmp <| Ev.loc lk <| Ev.bin <| Ev.callB <| Ev.blt rfl (gb_len k) bb_len ⟨_, rfl, Evs.cons <| Ev.loc L.pieces <| Evs.nil <| CallR.lenList hi (by rw [List.length_map]; exact hz) <| Ev.int <| Op2.sub <| Op2.eqI ?_⟩ (by decide) rfl
  have hlen : xsA.length = k0 + (xs.length + 1) := by
    have := congrArg List.length hd
    rw [List.length_drop, List.length_cons] at this; omega
  have hb : ((k0 : Int) == (((xsA.map V.ref).length : Nat) : Int) - 1) = r.isNil := by
    rw [List.length_map, hlen, hr.nil_iff]
    cases xs with
    | nil => simp
    | cons y ys => simp; omega
  rw [hb]
  have L1 := L.set (x := Str.ofString "is_last") (v := .bool r.isNil) (by decide)
  have m1 := set_other (x := Str.ofString "is_last") (v := .bool r.isNil) (by decide) lat
  have m2 := set_other (x := Str.ofString "is_last") (v := .bool r.isNil) (by decide) lp
  have m3 : (setL ρ (Str.ofString "is_last") (.bool r.isNil)).lookup (Str.ofString "is_last") = some (.bool r.isNil) := set_self
  generalize setL ρ (Str.ofString "is_last") (.bool r.isNil) = ρ₁ at *
  refine Ex.cons <| Ex1.expr sc <| Ev.meth (Ev.loc L1.self ⟨e, _, _, _, rfl, E.e, rfl, m_cut_within k, Evs.cons <| Ev.loc m2 <| Evs.cons <| Ev.loc m1 <| Evs.cons <| Ev.loc L1.results <| Evs.cons <|
    Ev.mono (Q := fun v σ' => v = .tup ((if r.isNil then tls else []).map natV) ∧ σ = σ') (Ev.ite <| Tr.val <| Ev.loc m3 ⟨_, rfl, ?_⟩) ?_⟩) (fun env => ⟨_, rfl⟩)
  · cases r.isNil
    · exact Ev.tuple <| Evs.nil ⟨Nat.le_of_ble_eq_true rfl, rfl, rfl⟩
    · exact Ev.loc L1.tails ⟨rfl, rfl⟩
  rintro _ _ ⟨rfl, rfl⟩
  refine Evs.cons <| Ev.loc L1.depth <| Evs.nil <| CodeR.call <| hcut.mono fun v σ' hv => ⟨hv.1, Ex.nil (q ρ₁ σ' hv.2 L1 m1 m2)⟩
theorem plain_head (k : Ok c) {p : Nat} {x : Ins} {Q : AF → Loc → H → Prop} (lp : ρ.lookup (Str.ofString "piece") = some (.ref p)) (hp : σ p = some (pieceO x .none .none)) (q : Ex c (n + 5) s_cut (cutBody.drop 1) ρ σ Q) : Ex c (n + 5) s_cut cutBody ρ σ Q := by
  have sc := (d_cut k).ok
  refine Ex.cons <| Ex1.iff sc <| Tr.cmp <| Ev.firstF k lp hp rfl <| Ev.noneE <| Op2.notNone rfl ⟨_, rfl, ?_⟩
  exact Ex.nil q

theorem drop_get {xsA : List Nat} {k0 p : Nat} {xs : List Nat} (hd : xsA.drop k0 = p :: xs) : (xsA.map V.ref)[k0]? = some (.ref p) ∧ xsA.drop (k0 + 1) = xs := by
  have := List.getElem?_drop (xs := xsA) (i := k0) (j := 0)
  rw [hd] at this
  exact ⟨by rw [List.getElem?_map, show xsA[k0]? = some p by simpa using this.symm]; rfl, by rw [← List.tail_drop, hd]; rfl⟩
noncomputable def cutTg : Tg := .names [Str.ofString "place", Str.ofString "piece"]
theorem loop_step (k : Ok c) {e i h res dp p k0 : Nat} {tls xsA xs : List Nat} {at_ : Int} {Q : AF → Loc → H → Prop} {f : Nat} (L : LC ρ e i h res dp tls) (lat : ρ.lookup (Str.ofString "at") = some (.int at_)) (hi : σ i = some (.list (xsA.map V.ref))) (hd : xsA.drop k0 = p :: xs)
    (q : ∀ ρ', LC ρ' e i h res dp tls → ρ'.lookup (Str.ofString "at") = some (.int at_) → ρ'.lookup (Str.ofString "piece") = some (.ref p) → ρ'.lookup (Str.ofString "place") = some (.int k0) → Ex c n s_cut cutBody ρ' σ fun fl ρ' σ' => match fl with
        | .next | .cont => LoopF c n s_cut cutTg cutBody (enumIt i) Q f (k0 + 1) ρ' σ'
        | .brk => Q .next ρ' σ'
        | .ret v => Q (.ret v) ρ' σ') : LoopF c n s_cut cutTg cutBody (enumIt i) Q (f + 1) k0 ρ σ := by
  rw [LoopF]
  simp only [enumIt, itList, hi, (drop_get hd).1]
  refine ⟨_, rfl, q _ ((L.set (x := Str.ofString "place") (by decide)).set (by decide)) (set_other (by decide) <| set_other (by decide) lat) set_self (set_other (by decide) set_self)⟩
theorem cut_loop (k : Ok c) {d : Nat} (C : CutC c d (n + 9)) {e ar kl fl i h res dp : Nat} {tls xsA : List Nat} {Q : AF → Loc → H → Prop} (hz : xsA.length ≤ sizeLine) (htl : tls.length + 1 + d ≤ 100) {X X' : Pcs} {at_ : Int} (hL : LoopR (CutR d) res tls dp X at_ X') :
    ∀ {σ : H} {k0 : Nat} {xs : List Nat} {cs : List (Nat × O)} {ρ : Loc}, EnvE σ e ar kl fl → (∀ y ∈ [e, ar, kl, fl], y ∉ keys cs) → σ i = some (.list (xsA.map V.ref)) → xsA.drop k0 = xs → i ∉ keys cs → PL X xs cs → Holds σ cs → (keys cs).Nodup → X.flat.length ≤ sizeLine →
      LC ρ e i h res dp tls → ρ.lookup (Str.ofString "at") = some (.int at_) → (∀ ρ' σ' cs', LC ρ' e i h res dp tls → PL X' xs cs' → AfterC σ cs σ' cs' → Q .next ρ' σ') → LoopF c (n + 11) s_cut cutTg cutBody (enumIt i) Q (xs.length + 1) k0 ρ σ := by
  induction hL with
  | nil =>
    intro σ k0 xs cs ρ E hke hi hd ho hp hh hn hf L lat q
    cases hp
    have : (xsA.map V.ref)[k0]? = none := by
      rw [List.getElem?_eq_none_iff, List.length_map]
      exact List.drop_eq_nil_iff.mp hd
    rw [LoopF]
    simp only [enumIt, itList, hi, this]
    exact q ρ σ [] L .nil (.refl hh hn)
  | @last x at_ hl hx =>
    intro σ k0 xs cs ρ E hke hi hd ho hp hh hn hf L lat q
    have hp0 := hp
    cases hp with
    | @plain _ _ p xs cs hp =>
    refine loop_step k L lat hi hd fun ρ' L' lat' lp lk => plain_head (n := n + 6) k lp (hh _ (.head _)) <| behind_stop (n := n + 6) k E L' lat' lp (fun hq => behind_last k (hh _ (.head _)) hx hl hq) fun ρ'' L'' => ?_
    exact q ρ'' σ _ L'' hp0 (.refl hh hn)
  | @plain x r at_ r' t u hl ha hL ih =>
    intro σ k0 xs cs ρ E hke hi hd ho hp hh hn hf L lat q
    cases hp with
    | @plain _ _ p xs cs hp =>
    have hn' := List.nodup_cons.mp hn
    refine loop_step k L lat hi hd fun ρ' L' lat' lp lk => plain_head (n := n + 6) k lp (hh _ (.head _)) <| behind_turn (n := n + 6) k E L' lat' lp (fun hq => behind_plain k E.a (hh _ (.head _)) hl ha hq) fun ρ'' L'' lat'' => ?_
    refine ih E (fun y hy hm => hke y hy (.tail _ hm)) hi (drop_get hd).2 (fun hm => ho (.tail _ hm)) hp (fun q hq => hh q (.tail _ hq)) hn'.2 (by simp only [Pcs.flat, List.length_cons] at hf; omega) L'' lat'' fun ρ₃ σ₃ cs' L₃ pl af => ?_
    refine q ρ₃ σ₃ _ L₃ (.plain (p := p) pl) ?_
    exact AfterC.par (A := [(p, pieceO x .none .none)]) (.refl (fun q hq => hh q (by rw [List.mem_singleton.mp hq]; exact .head _)) (by simp [keys])) af hh hn
  | @blk1 x a r at_ a' r' kc t u hx hC hL ih =>
    intro σ k0 xs cs ρ E hke hi hd ho hp hh hn hf L lat q
    cases hp with
    | @blk1 _ _ _ p l xa ca xs cs hpa hp =>
    simp only [Pcs.flat, List.length_cons, List.length_append] at hf
    have hA1 : Holds σ [(p, pieceO x (.ref l) .none)] := fun q hq => hh q (by rw [List.mem_singleton.mp hq]; exact .head _)
    have hAS : Holds σ ((l, .list (xa.map V.ref)) :: ca) := fun q hq => hh q (.tail _ (List.mem_append_left (bs := cs) hq))
    have hAR : Holds σ cs := fun q hq => hh q (.tail _ (.tail _ (List.mem_append_right _ hq)))
    have hn1 := List.nodup_cons.mp hn
    have hn2 : (keys (((l, O.list (xa.map V.ref)) :: ca) ++ cs)).Nodup := hn1.2
    have hn2' := hn2
    rw [keys_app, List.nodup_append] at hn2'
    have nS := List.nodup_cons.mp hn2'.1
    have keS : ∀ y ∈ [e, ar, kl, fl], y ∉ l :: keys ca := fun y hy hm => hke y hy (.tail _ (List.mem_append_left (keys cs) hm |> fun h => by show _ ∈ keys (((l, O.list (xa.map V.ref)) :: ca) ++ cs); rw [keys_app]; exact h))
    have keR : ∀ y ∈ [e, ar, kl, fl], y ∉ keys cs := fun y hy hm => hke y hy (.tail _ (by show _ ∈ keys (((l, O.list (xa.map V.ref)) :: ca) ++ cs); rw [keys_app]; exact List.mem_append_right _ hm))
    have hoS : i ∉ keys ((l, O.list (xa.map V.ref)) :: ca) := fun hm => ho (.tail _ (by show _ ∈ keys (((l, O.list (xa.map V.ref)) :: ca) ++ cs); rw [keys_app]; exact List.mem_append_left _ hm))
    have hoR : i ∉ keys cs := fun hm => ho (.tail _ (by show _ ∈ keys (((l, O.list (xa.map V.ref)) :: ca) ++ cs); rw [keys_app]; exact List.mem_append_right _ hm))
    have hpS : p ∉ keys ((l, O.list (xa.map V.ref)) :: ca) := fun hm => hn1.1 (by show _ ∈ keys (((l, O.list (xa.map V.ref)) :: ca) ++ cs); rw [keys_app]; exact List.mem_append_left _ hm)
    refine loop_step k L lat hi hd fun ρ' L' lat' lp lk => ?_
    refine blk_turn (n := n + 6) (P := fun σ' => ∃ xa' ca', PL a' xa' ca' ∧ AfterC σ ((l, .list (xa.map V.ref)) :: ca) σ' ((l, .list (xa'.map V.ref)) :: ca')) k L' E lat' lp lk hi hz hd hp (hh _ (.head _))
      ((within1 k C E (hh _ (.head _)) hx (by split; exact htl; simp only [List.length_nil]; omega) hC keS (hAS _ (.head _)) hpa (fun q hq => hAS q (.tail _ hq)) nS.2 nS.1 (by omega) fun σ' xa' ca' pl af => ⟨rfl, xa', ca', pl, af⟩).le (by omega)) fun ρ₁ σ₁ ⟨xa', ca', pla, af⟩ L₁ lat₁ lp₁ => ?_
    have E₁ := E.fra af.fra keS
    have hp₁ := af.fra _ _ hpS (hh _ (.head _))
    refine behind_turn (n := n + 6) k E₁ L₁ lat₁ lp₁ (fun hq => behind_blk k E₁.a hp₁ hx hq) fun ρ₂ L₂ lat₂ => ?_
    have hR₁ : Holds σ₁ cs := hAR.fra af.fra fun j hj hm => hn2'.2.2 j hm j hj rfl
    refine ih E₁ keR (af.fra _ _ hoS hi) (drop_get hd).2 hoR hp hR₁ hn2'.2.1 (by omega) L₂ lat₂ fun ρ₃ σ₃ cs' L₃ pl af' => ?_
    refine q ρ₃ σ₃ _ L₃ (.blk1 (p := p) (l := l) pla pl) ?_
    have par := (AfterC.refl hA1 (by simp [keys])).par (af.par af' (fun q hq => hh q (.tail _ hq)) hn2) hh hn
    exact par
  | @blk2 x a b r at_ a' b' r' kc t u hx hC hC' hL ih =>
    intro σ k0 xs cs ρ E hke hi hd ho hp hh hn hf L lat q
    cases hp with
    | @blk2 _ _ _ _ p l l' xa ca xb cb xs cs hpa hpb hp =>
    simp only [Pcs.flat, List.length_cons, List.length_append] at hf
    have eS : ((p, pieceO x (.ref l) (.ref l')) :: (l, O.list (xa.map V.ref)) :: (ca ++ ((l', O.list (xb.map V.ref)) :: (cb ++ cs)))) = (p, pieceO x (.ref l) (.ref l')) :: ((((l, O.list (xa.map V.ref)) :: ca) ++ ((l', O.list (xb.map V.ref)) :: cb)) ++ cs) := by simp
    rw [eS] at hke ho hh hn q
    have hA1 : Holds σ [(p, pieceO x (.ref l) (.ref l'))] := fun q hq => hh q (by rw [List.mem_singleton.mp hq]; exact .head _)
    have hAS : Holds σ (((l, O.list (xa.map V.ref)) :: ca) ++ ((l', O.list (xb.map V.ref)) :: cb)) := fun q hq => hh q (.tail _ (List.mem_append_left (bs := cs) hq))
    have hAR : Holds σ cs := fun q hq => hh q (.tail _ (List.mem_append_right _ hq))
    have hn1 := List.nodup_cons.mp hn
    have hn2 : (keys ((((l, O.list (xa.map V.ref)) :: ca) ++ ((l', O.list (xb.map V.ref)) :: cb)) ++ cs)).Nodup := hn1.2
    have hn2' := hn2
    rw [keys_app, List.nodup_append] at hn2'
    have keS : ∀ y ∈ [e, ar, kl, fl], y ∉ keys (((l, O.list (xa.map V.ref)) :: ca) ++ ((l', O.list (xb.map V.ref)) :: cb)) := fun y hy hm => hke y hy (.tail _ (by show _ ∈ keys ((((l, O.list (xa.map V.ref)) :: ca) ++ ((l', O.list (xb.map V.ref)) :: cb)) ++ cs); rw [keys_app]; exact List.mem_append_left _ hm))
    have keR : ∀ y ∈ [e, ar, kl, fl], y ∉ keys cs := fun y hy hm => hke y hy (.tail _ (by show _ ∈ keys ((((l, O.list (xa.map V.ref)) :: ca) ++ ((l', O.list (xb.map V.ref)) :: cb)) ++ cs); rw [keys_app]; exact List.mem_append_right _ hm))
    have hoS : i ∉ keys (((l, O.list (xa.map V.ref)) :: ca) ++ ((l', O.list (xb.map V.ref)) :: cb)) := fun hm => ho (.tail _ (by show _ ∈ keys ((((l, O.list (xa.map V.ref)) :: ca) ++ ((l', O.list (xb.map V.ref)) :: cb)) ++ cs); rw [keys_app]; exact List.mem_append_left _ hm))
    have hoR : i ∉ keys cs := fun hm => ho (.tail _ (by show _ ∈ keys ((((l, O.list (xa.map V.ref)) :: ca) ++ ((l', O.list (xb.map V.ref)) :: cb)) ++ cs); rw [keys_app]; exact List.mem_append_right _ hm))
    have hpS : p ∉ keys (((l, O.list (xa.map V.ref)) :: ca) ++ ((l', O.list (xb.map V.ref)) :: cb)) := fun hm => hn1.1 (by show _ ∈ keys ((((l, O.list (xa.map V.ref)) :: ca) ++ ((l', O.list (xb.map V.ref)) :: cb)) ++ cs); rw [keys_app]; exact List.mem_append_left _ hm)
    refine loop_step k L lat hi hd fun ρ' L' lat' lp lk => ?_
    refine blk_turn (n := n + 6) (P := fun σ' => ∃ xa' ca' xb' cb', PL a' xa' ca' ∧ PL b' xb' cb' ∧ AfterC σ (((l, O.list (xa.map V.ref)) :: ca) ++ ((l', O.list (xb.map V.ref)) :: cb)) σ' (((l, .list (xa'.map V.ref)) :: ca') ++ ((l', .list (xb'.map V.ref)) :: cb'))) k L' E lat' lp lk hi hz hd hp (hh _ (.head _))
      ((within2 k C E (hh _ (.head _)) hx (by split; exact htl; simp only [List.length_nil]; omega) hC hC' keS hpa hpb hAS hn2'.1 (by omega) (by omega) fun σ' xa' ca' xb' cb' pl pl' af => ⟨rfl, xa', ca', xb', cb', pl, pl', af⟩).le (by omega)) fun ρ₁ σ₁ ⟨xa', ca', xb', cb', pla, plb, af⟩ L₁ lat₁ lp₁ => ?_
    have E₁ := E.fra af.fra keS
    have hp₁ := af.fra _ _ hpS (hh _ (.head _))
    refine behind_turn (n := n + 6) k E₁ L₁ lat₁ lp₁ (fun hq => behind_blk k E₁.a hp₁ hx hq) fun ρ₂ L₂ lat₂ => ?_
    have hR₁ : Holds σ₁ cs := hAR.fra af.fra fun j hj hm => hn2'.2.2 j hm j hj rfl
    refine ih E₁ keR (af.fra _ _ hoS hi) (drop_get hd).2 hoR hp hR₁ hn2'.2.1 (by omega) L₂ lat₂ fun ρ₃ σ₃ cs' L₃ pl af' => ?_
    refine q ρ₃ σ₃ _ L₃ (.blk2 (p := p) (l := l) (l' := l') pla plb pl) ?_
    have par := (AfterC.refl hA1 (by simp [keys])).par (af.par af' (fun q hq => hh q (.tail _ hq)) hn2) hh hn
    simpa using par
theorem AfterC.at {σ σ' : H} {i : Nat} {A A' : List (Nat × O)} {o : O} (x : AfterC σ A σ' A') (hi : σ i = some o) (ho : i ∉ keys A) : i ∉ keys A' := fun hm => by
  rcases x.newk i hm with h | h
  · exact ho h
  · rw [hi] at h; cases h
theorem cut_step (k : Ok c) {d : Nat} (C : CutC c d (n + 9)) : CutC c (d + 1) (n + 12) := by
  intro σ e ar kl fl i h res dp tls X Y xs cs Q hke hR E hi hp hh hn ho hf htl q
  obtain ⟨X', hL, hLast⟩ := hR
  refine CodeR.enter (d_cut k) rfl ?_
  have sc := (d_cut k).ok
  have hz : xs.length ≤ sizeLine := Nat.le_trans hp.len hf
  have keC : ∀ y ∈ [e, ar, kl, fl], y ∉ keys cs := fun y hy hm => hke y hy (.tail _ hm)
  have keI : ∀ y ∈ [e, ar, kl, fl], y ≠ i := fun y hy e => hke y hy (e ▸ .head _)
  refine Ex.cons <| Ex1.assign sc rfl <| Ev.loc rfl ?_
  refine Ex.cons <| Ex1.forE (T := cutTg) sc ⟨⟨_, _, _, rfl, fun env => ⟨[(_, _), (_, _)], rfl, rfl⟩⟩, by decide⟩ (IterF.enum rfl <| Ev.blt rfl (gb_enumerate k) bb_enumerate ⟨rfl, Ev.loc rfl ⟨i, _, rfl, hi, xs.length + 1, ?_⟩⟩ (by decide) rfl)
  refine cut_loop k C hz (by omega) hL E keC hi rfl ho hp hh hn hf ⟨rfl, rfl, rfl, rfl, rfl, rfl⟩ rfl fun ρ₁ σ₁ cs₁ L₁ pl af => ?_
  have E₁ := E.fra af.fra keC
  refine Ex.cons <| Ex1.expr sc <| Ev.meth (Ev.loc L₁.self ⟨e, _, _, _, rfl, E₁.e, rfl, m_cut_last k, Evs.cons <| Ev.loc L₁.pieces <| Evs.cons <| Ev.loc L₁.height <| Evs.cons <| Ev.loc L₁.results <| Evs.cons <| Ev.loc L₁.tails <| Evs.cons <| Ev.loc L₁.depth <| Evs.nil <| CodeR.call ?_⟩) (fun env => ⟨_, rfl⟩)
  refine (cutlast_ok (n := n + 3) k keI hLast E₁ (af.fra _ _ ho hi) pl af.holds af.nodup (af.at hi ho) hz fun σ₂ xs' cs' a => ⟨rfl, Ex.nil (q σ₂ xs' cs' ⟨a.pl, a.holds, a.at_, a.nodup, a.off, ?_, ?_, a.len⟩)⟩).le (by omega)
  · intro j o hj e
    have hjc : j ∉ keys cs := fun hm => hj (.tail _ hm)
    have hji : j ≠ i := fun q => hj (q ▸ .head _)
    have e1 := af.fra j o hjc e
    refine a.fra j o (fun hm => ?_) e1
    rcases List.mem_cons.mp hm with h | hm
    · exact hji h
    · exact af.at e hjc hm
  · intro j hj
    rcases a.newk j hj with h1 | h1
    · exact af.newk j h1
    · by_cases hjc : j ∈ keys cs
      · exact .inl hjc
      · refine .inr ?_
        cases e : σ j with
        | none => rfl
        | some o => rw [af.fra j o hjc e] at h1; cases h1
theorem cut_ok (k : Ok c) : ∀ d : Nat, CutC c d (3 * d + 9)
  | 0 => fun hke hR => hR.elim
  | d + 1 => fun hke hR E hi hp hh hn ho hf htl q => cut_step (n := 3 * d) k (fun hke => cut_ok k d hke) hke hR E hi hp hh hn ho hf htl q
end
end Mine

namespace Mine
open PySem PySem.W PyProof.Rows PySem.Calls PySem.Spec

noncomputable def nest : Pcs → Nat
  | .nil => 0
  | .plain _ r => nest r
  | .blk1 _ a r => max (nest a + 1) (nest r)
  | .blk2 _ a b r => max (nest a + 1) (max (nest b + 1) (nest r))
theorem nest_app : ∀ A B : Pcs, nest (A.app B) = max (nest A) (nest B)
  | .nil, B => by simp [Pcs.app, nest]
  | .plain x r, B => by simp only [Pcs.app, nest, nest_app r B]
  | .blk1 x a r, B => by simp only [Pcs.app, nest, nest_app r B, Nat.max_assoc]
  | .blk2 x a b r, B => by simp only [Pcs.app, nest, nest_app r B, Nat.max_assoc]
theorem nest_last {h res : Nat} {tl : List Nat} {dp : Nat} {X Y : Pcs} (hL : LastR h res tl dp X Y) : nest Y ≤ nest X := by
  induction hL with
  | nil => exact Nat.le_refl _
  | stop => exact Nat.le_refl _
  | brif _ _ => rw [nest_app, nest_app]; simp [nest]
  | br _ _ _ _ ih => rw [nest_app]; omega
theorem nest_loop {C : Pcs → Nat → Nat → List Nat → Nat → Pcs → Prop} {d : Nat} (hC : ∀ {X h res tl dp Y}, C X h res tl dp Y → nest Y + 1 ≤ d) {res : Nat} {tl : List Nat} {dp : Nat} {X X' : Pcs} {h : Int} (hL : LoopR C res tl dp X h X') : nest X' ≤ d := by
  induction hL with
  | nil => exact Nat.zero_le _
  | last => exact Nat.zero_le _
  | plain _ _ _ ih => exact ih
  | blk1 _ hc _ ih => have := hC hc; simp only [nest]; omega
  | blk2 _ hc hc' _ ih => have := hC hc; have := hC hc'; simp only [nest]; omega
theorem nest_cut : ∀ {d : Nat} {X : Pcs} {h res : Nat} {tl : List Nat} {dp : Nat} {Y : Pcs}, CutR d X h res tl dp Y → nest Y + 1 ≤ d
  | 0, _, _, _, _, _, _, h => h.elim
  | d + 1, X, h, res, tl, dp, Y, ⟨X', hL, hl⟩ => by
    have h1 := nest_loop (fun h => nest_cut h) hL
    have h2 := nest_last hl
    omega
section
variable {c : Cx} {n : Nat} {σ : H}
noncomputable def putBody : List Stmt := match b_put_pieces with
  | [.For _ _ b _ _] => b
  | _ => []
theorem put_call (k : Ok c) {a : Pcs} {lvl : Nat} (PLp : ∀ {σ : H} {i bl : Nat} {xsA : List Nat} {k0 : Nat} {xs : List Nat} {cs : List (Nat × O)} {ρ : Loc} {N : List Ins} {Q : AF → Loc → H → Prop}, bl ≠ i → σ i = some (.list (xsA.map V.ref)) → xsA.drop k0 = xs →
    PL a xs cs → Holds σ cs → σ bl = some (insO N) → bl ∉ keys cs → N.length + a.flat.length ≤ sizeLine → ρ.lookup (Str.ofString "body") = some (.ref bl) →
    (∀ ρ' σ', σ' bl = some (insO (N ++ a.flat)) → Fra [bl] σ σ' → Q .next ρ' σ') → LoopF c (n + lvl + 2) s_put_pieces (.name (Str.ofString "piece")) putBody (itList i) Q (xs.length + 1) k0 ρ σ)
    {σ : H} {i bl : Nat} {xs : List Nat} {cs : List (Nat × O)} {N : List Ins} {Q : V → H → Prop} (hbi : bl ≠ i) (hi : σ i = some (.list (xs.map V.ref))) (hp : PL a xs cs) (hh : Holds σ cs) (hb : σ bl = some (insO N)) (ho : bl ∉ keys cs) (hz : N.length + a.flat.length ≤ sizeLine)
    (q : ∀ σ', σ' bl = some (insO (N ++ a.flat)) → Fra [bl] σ σ' → Q .none σ') : CodeR c (n + lvl + 3) (.ref 209) [.ref i, .ref bl] σ Q := by
  refine CodeR.enter (d_put_pieces k) rfl ?_
  refine Ex.cons <| Ex1.forE (T := .name (Str.ofString "piece")) (d_put_pieces k).ok ⟨⟨_, rfl⟩, rfl⟩ (IterE.toF <| IterE.of <| Ev.loc rfl ⟨itList i, Itr.list hi, xs.length + 1, ?_⟩)
  exact PLp hbi hi rfl hp hh hb ho hz rfl fun ρ' σ' hb' fr => Ex.nil (q σ' hb' fr)
theorem put_loop (k : Ok c) : ∀ (X : Pcs) (lvl : Nat), nest X ≤ lvl → ∀ {σ : H} {i bl : Nat} {xsA : List Nat} {k0 : Nat} {xs : List Nat} {cs : List (Nat × O)} {ρ : Loc} {N : List Ins} {Q : AF → Loc → H → Prop}, bl ≠ i → σ i = some (.list (xsA.map V.ref)) → xsA.drop k0 = xs →
    PL X xs cs → Holds σ cs → σ bl = some (insO N) → bl ∉ keys cs → N.length + X.flat.length ≤ sizeLine → ρ.lookup (Str.ofString "body") = some (.ref bl) →
    (∀ ρ' σ', σ' bl = some (insO (N ++ X.flat)) → Fra [bl] σ σ' → Q .next ρ' σ') → LoopF c (n + lvl + 2) s_put_pieces (.name (Str.ofString "piece")) putBody (itList i) Q (xs.length + 1) k0 ρ σ := by
  intro X
  have sc := (d_put_pieces k).ok
  induction X with
  | nil =>
    intro lvl hlv σ i bl xsA k0 xs cs ρ N Q hbi hi hd hp hh hb ho hz l q
    cases hp
    have : (xsA.map V.ref)[k0]? = none := by
      rw [List.getElem?_eq_none_iff, List.length_map]
      exact List.drop_eq_nil_iff.mp hd
    rw [LoopF]
    simp only [itList, hi, this]
    exact q ρ σ (by simpa [Pcs.flat] using hb) fun _ _ _ e => e
  | plain x r ih =>
    intro lvl hlv σ i bl xsA k0 xs cs ρ N Q hbi hi hd hp hh hb ho hz l q
    cases hp with
    | @plain _ _ p xs cs hp =>
    simp only [Pcs.flat, List.length_cons] at hz
    rw [List.length_cons, LoopF]
    simp only [itList, hi, (drop_get hd).1]
    refine ⟨_, rfl, ?_⟩
    have hpb : p ≠ bl := fun e => ho (e ▸ .head _)
    have l1 := set_other (x := Str.ofString "piece") (v := .ref p) (by decide) l
    have l2 : (setL ρ (Str.ofString "piece") (.ref p)).lookup (Str.ofString "piece") = some (.ref p) := set_self
    generalize setL ρ (Str.ofString "piece") (.ref p) = ρ₁ at *
    refine Ex.cons <| Ex1.expr sc <| Ev.lmeth lm_append (Ev.loc l1 ⟨bl, _, rfl, hb, Evs.cons <| Ev.plainF k l2 (hh _ (.head _)) <| Evs.nil <| CallR.append hb (by rw [List.length_map]; omega) ⟨rfl, ?_⟩⟩) (fun env => ⟨_, rfl⟩)
    have e1 : O.list (N.map insV ++ [insV x]) = insO (N ++ [x]) := by rw [insO, List.map_append]; rfl
    rw [e1]
    have fr : Fra [bl] σ (σ.set bl (insO (N ++ [x]))) := Fra.set (by simp)
    refine Ex.cons <| Ex1.iff sc <| Tr.cmp <| Ev.firstF k l2 ((H.ne hpb).trans (hh _ (.head _))) rfl <| Ev.noneE <| Op2.notNone rfl ⟨_, rfl, ?_⟩
    refine Ex.nil (Ex.nil ?_)
    refine ih lvl hlv hbi ((H.ne (Ne.symm hbi)).trans hi) (drop_get hd).2 hp (fun q hq => (H.ne fun e => ho (by rw [← e]; exact List.mem_map_of_mem (.tail _ hq))).trans (hh q (.tail _ hq))) H.self (fun hm => ho (.tail _ hm)) (by simp only [List.length_append, List.length_cons, List.length_nil]; omega) l1 fun ρ' σ' hb' fr' => q ρ' σ' ?_ (fr.trans fr')
    rw [hb', List.append_assoc]; rfl
  | blk1 x a r iha ih =>
    intro lvl hlv σ i bl xsA k0 xs cs ρ N Q hbi hi hd hp hh hb ho hz l q
    cases hp with
    | @blk1 _ _ _ p la xa ca xs cs hpa hp =>
    simp only [Pcs.flat, List.length_cons, List.length_append] at hz
    simp only [nest] at hlv
    obtain ⟨lv, rfl⟩ : ∃ lv, lvl = lv + 1 := ⟨lvl - 1, by omega⟩
    rw [List.length_cons, LoopF]
    simp only [itList, hi, (drop_get hd).1]
    refine ⟨_, rfl, ?_⟩
    have hne : ∀ j ∈ keys ((p, pieceO x (.ref la) .none) :: (la, O.list (xa.map V.ref)) :: (ca ++ cs)), j ≠ bl := fun j hj e => ho (e ▸ hj)
    have l1 := set_other (x := Str.ofString "piece") (v := .ref p) (by decide) l
    have l2 : (setL ρ (Str.ofString "piece") (.ref p)).lookup (Str.ofString "piece") = some (.ref p) := set_self
    generalize setL ρ (Str.ofString "piece") (.ref p) = ρ₁ at *
    refine Ex.cons <| Ex1.expr sc <| Ev.lmeth lm_append (Ev.loc l1 ⟨bl, _, rfl, hb, Evs.cons <| Ev.plainF k l2 (hh _ (.head _)) <| Evs.nil <| CallR.append hb (by rw [List.length_map]; omega) ⟨rfl, ?_⟩⟩) (fun env => ⟨_, rfl⟩)
    have e1 : O.list (N.map insV ++ [insV x]) = insO (N ++ [x]) := by rw [insO, List.map_append]; rfl
    rw [e1]
    have fr : Fra [bl] σ (σ.set bl (insO (N ++ [x]))) := Fra.set (by simp)
    have hb₁ : (σ.set bl (insO (N ++ [x]))) bl = some (insO (N ++ [x])) := H.self
    have hh₁ := hh.fra fr fun j hj hm => hne j hj (List.mem_singleton.mp hm)
    have hi₁ := fr _ _ (fun hm => hbi (List.mem_singleton.mp hm).symm) hi
    generalize σ.set bl (insO (N ++ [x])) = σ₁ at *
    refine Ex.cons <| Ex1.iff sc <| Tr.cmp <| Ev.firstF k l2 (hh₁ _ (.head _)) rfl <| Ev.noneE <| Op2.notNone rfl ⟨_, rfl, ?_⟩
    refine Ex.cons <| Ex1.expr sc <| Ev.callG rfl (g_put_pieces k) (kp_209 k) <| Evs.cons <| Ev.firstF k l2 (hh₁ _ (.head _)) rfl <| Evs.cons <| Ev.loc l1 <| Evs.nil <| put_call (n := n) (lvl := lv) k (iha lv (by omega)) (hne la (.tail _ (.head _))).symm (hh₁ _ (.tail _ (.head _))) hpa
      (fun q hq => hh₁ q (.tail _ (.tail _ (List.mem_append_left _ hq)))) hb₁ (fun hm => hne bl (.tail _ (.tail _ (by show _ ∈ keys (ca ++ cs); rw [keys_app]; exact List.mem_append_left _ hm))) rfl) (by simp only [List.length_append, List.length_cons, List.length_nil]; omega) fun σ₂ hb₂ fr₂ => ⟨rfl, ?_⟩
    have hh₂ := hh₁.fra fr₂ fun j hj hm => hne j hj (List.mem_singleton.mp hm)
    have hi₂ := fr₂ _ _ (fun hm => hbi (List.mem_singleton.mp hm).symm) hi₁
    refine Ex.cons <| Ex1.iff sc <| Tr.cmp <| Ev.secondF k l2 (hh₂ _ (.head _)) rfl <| Ev.noneE <| Op2.notNone rfl ⟨_, rfl, ?_⟩
    refine Ex.nil <| Ex.cons <| Ex1.expr sc <| Ev.lmeth lm_append (Ev.loc l1 ⟨bl, _, rfl, hb₂, Evs.cons <| Ev.tuple <| Evs.cons <| Ev.gint rfl (gi_END k) <| Evs.nil ⟨Nat.le_of_ble_eq_true rfl, Evs.nil <| CallR.append hb₂ (by simp only [List.length_map, List.length_append, List.length_cons, List.length_nil]; omega) ⟨rfl, ?_⟩⟩⟩) (fun env => ⟨_, rfl⟩)
    have e2 : O.list ((N ++ [x] ++ a.flat).map insV ++ [.tup [.int 11]]) = insO (N ++ [x] ++ a.flat ++ [[11]]) := by rw [insO, List.map_append (l₂ := [[11]])]; rfl
    rw [e2]
    have fr₃ : Fra [bl] σ₂ (σ₂.set bl (insO (N ++ [x] ++ a.flat ++ [[11]]))) := Fra.set (by simp)
    have hb₃ : (σ₂.set bl (insO (N ++ [x] ++ a.flat ++ [[11]]))) bl = some (insO (N ++ [x] ++ a.flat ++ [[11]])) := H.self
    have hh₃ := hh₂.fra fr₃ fun j hj hm => hne j hj (List.mem_singleton.mp hm)
    have hi₃ := fr₃ _ _ (fun hm => hbi (List.mem_singleton.mp hm).symm) hi₂
    generalize σ₂.set bl (insO (N ++ [x] ++ a.flat ++ [[11]])) = σ₃ at *
    refine Ex.nil (Ex.nil ?_)
    refine ih (lv + 1) (by omega) hbi hi₃ (drop_get hd).2 hp (fun q hq => hh₃ q (.tail _ (.tail _ (List.mem_append_right _ hq)))) hb₃ (fun hm => hne bl (.tail _ (.tail _ (by show _ ∈ keys (ca ++ cs); rw [keys_app]; exact List.mem_append_right _ hm))) rfl) (by simp only [List.length_append, List.length_cons, List.length_nil]; omega) l1 fun ρ' σ' hb' fr' => q ρ' σ' ?_ (((fr.trans fr₂).trans fr₃).trans fr')
    rw [hb']; simp [Pcs.flat]
  | blk2 x a b r iha ihb ih =>
    intro lvl hlv σ i bl xsA k0 xs cs ρ N Q hbi hi hd hp hh hb ho hz l q
    cases hp with
    | @blk2 _ _ _ _ p la lb xa ca xb cb xs cs hpa hpb hp =>
    simp only [Pcs.flat, List.length_cons, List.length_append] at hz
    simp only [nest] at hlv
    obtain ⟨lv, rfl⟩ : ∃ lv, lvl = lv + 1 := ⟨lvl - 1, by omega⟩
    rw [List.length_cons, LoopF]
    simp only [itList, hi, (drop_get hd).1]
    refine ⟨_, rfl, ?_⟩
    have hne : ∀ j ∈ keys ((p, pieceO x (.ref la) (.ref lb)) :: (la, O.list (xa.map V.ref)) :: (ca ++ ((lb, O.list (xb.map V.ref)) :: (cb ++ cs)))), j ≠ bl := fun j hj e => ho (e ▸ hj)
    have inB : ∀ {q : Nat × O}, q ∈ (lb, O.list (xb.map V.ref)) :: (cb ++ cs) → q ∈ (p, pieceO x (.ref la) (.ref lb)) :: (la, O.list (xa.map V.ref)) :: (ca ++ ((lb, O.list (xb.map V.ref)) :: (cb ++ cs))) := fun h => .tail _ (.tail _ (List.mem_append_right _ h))
    have kB : ∀ {j : Nat}, j ∈ keys ((lb, O.list (xb.map V.ref)) :: (cb ++ cs)) → j ≠ bl := fun hj => hne _ (.tail _ (.tail _ (by show _ ∈ keys (ca ++ _); rw [keys_app]; exact List.mem_append_right _ hj)))
    have l1 := set_other (x := Str.ofString "piece") (v := .ref p) (by decide) l
    have l2 : (setL ρ (Str.ofString "piece") (.ref p)).lookup (Str.ofString "piece") = some (.ref p) := set_self
    generalize setL ρ (Str.ofString "piece") (.ref p) = ρ₁ at *
    refine Ex.cons <| Ex1.expr sc <| Ev.lmeth lm_append (Ev.loc l1 ⟨bl, _, rfl, hb, Evs.cons <| Ev.plainF k l2 (hh _ (.head _)) <| Evs.nil <| CallR.append hb (by rw [List.length_map]; omega) ⟨rfl, ?_⟩⟩) (fun env => ⟨_, rfl⟩)
    have e1 : O.list (N.map insV ++ [insV x]) = insO (N ++ [x]) := by rw [insO, List.map_append]; rfl
    rw [e1]
    have fr : Fra [bl] σ (σ.set bl (insO (N ++ [x]))) := Fra.set (by simp)
    have hb₁ : (σ.set bl (insO (N ++ [x]))) bl = some (insO (N ++ [x])) := H.self
    have hh₁ := hh.fra fr fun j hj hm => hne j hj (List.mem_singleton.mp hm)
    have hi₁ := fr _ _ (fun hm => hbi (List.mem_singleton.mp hm).symm) hi
    generalize σ.set bl (insO (N ++ [x])) = σ₁ at *
    refine Ex.cons <| Ex1.iff sc <| Tr.cmp <| Ev.firstF k l2 (hh₁ _ (.head _)) rfl <| Ev.noneE <| Op2.notNone rfl ⟨_, rfl, ?_⟩
    refine Ex.cons <| Ex1.expr sc <| Ev.callG rfl (g_put_pieces k) (kp_209 k) <| Evs.cons <| Ev.firstF k l2 (hh₁ _ (.head _)) rfl <| Evs.cons <| Ev.loc l1 <| Evs.nil <| put_call (n := n) (lvl := lv) k (iha lv (by omega)) (hne la (.tail _ (.head _))).symm (hh₁ _ (.tail _ (.head _))) hpa
      (fun q hq => hh₁ q (.tail _ (.tail _ (List.mem_append_left _ hq)))) hb₁ (fun hm => hne bl (.tail _ (.tail _ (by show _ ∈ keys (ca ++ _); rw [keys_app]; exact List.mem_append_left _ hm))) rfl) (by simp only [List.length_append, List.length_cons, List.length_nil]; omega) fun σ₂ hb₂ fr₂ => ⟨rfl, ?_⟩
    have hh₂ := hh₁.fra fr₂ fun j hj hm => hne j hj (List.mem_singleton.mp hm)
    have hi₂ := fr₂ _ _ (fun hm => hbi (List.mem_singleton.mp hm).symm) hi₁
    refine Ex.cons <| Ex1.iff sc <| Tr.cmp <| Ev.secondF k l2 (hh₂ _ (.head _)) rfl <| Ev.noneE <| Op2.notNone rfl ⟨_, rfl, ?_⟩
    refine Ex.cons <| Ex1.expr sc <| Ev.lmeth lm_append (Ev.loc l1 ⟨bl, _, rfl, hb₂, Evs.cons <| Ev.tuple <| Evs.cons <| Ev.gint rfl (gi_ELSE k) <| Evs.nil ⟨Nat.le_of_ble_eq_true rfl, Evs.nil <| CallR.append hb₂ (by simp only [List.length_map, List.length_append, List.length_cons, List.length_nil]; omega) ⟨rfl, ?_⟩⟩⟩) (fun env => ⟨_, rfl⟩)
    have e2 : O.list ((N ++ [x] ++ a.flat).map insV ++ [.tup [.int 5]]) = insO (N ++ [x] ++ a.flat ++ [[5]]) := by rw [insO, List.map_append (l₂ := [[5]])]; rfl
    rw [e2]
    have fr₃ : Fra [bl] σ₂ (σ₂.set bl (insO (N ++ [x] ++ a.flat ++ [[5]]))) := Fra.set (by simp)
    have hb₃ : (σ₂.set bl (insO (N ++ [x] ++ a.flat ++ [[5]]))) bl = some (insO (N ++ [x] ++ a.flat ++ [[5]])) := H.self
    have hh₃ := hh₂.fra fr₃ fun j hj hm => hne j hj (List.mem_singleton.mp hm)
    have hi₃ := fr₃ _ _ (fun hm => hbi (List.mem_singleton.mp hm).symm) hi₂
    generalize σ₂.set bl (insO (N ++ [x] ++ a.flat ++ [[5]])) = σ₃ at *
    refine Ex.cons <| Ex1.expr sc <| Ev.callG rfl (g_put_pieces k) (kp_209 k) <| Evs.cons <| Ev.secondF k l2 (hh₃ _ (.head _)) rfl <| Evs.cons <| Ev.loc l1 <| Evs.nil <| put_call (n := n) (lvl := lv) k (ihb lv (by omega)) (kB (.head _)).symm (hh₃ _ (inB (.head _))) hpb
      (fun q hq => hh₃ q (inB (.tail _ (List.mem_append_left _ hq)))) hb₃ (fun hm => kB (.tail _ (by show _ ∈ keys (cb ++ _); rw [keys_app]; exact List.mem_append_left _ hm)) rfl) (by simp only [List.length_append, List.length_cons, List.length_nil]; omega) fun σ₄ hb₄ fr₄ => ⟨rfl, ?_⟩
    have hh₄ := hh₃.fra fr₄ fun j hj hm => hne j hj (List.mem_singleton.mp hm)
    have hi₄ := fr₄ _ _ (fun hm => hbi (List.mem_singleton.mp hm).symm) hi₃
    refine Ex.nil <| Ex.cons <| Ex1.expr sc <| Ev.lmeth lm_append (Ev.loc l1 ⟨bl, _, rfl, hb₄, Evs.cons <| Ev.tuple <| Evs.cons <| Ev.gint rfl (gi_END k) <| Evs.nil ⟨Nat.le_of_ble_eq_true rfl, Evs.nil <| CallR.append hb₄ (by simp only [List.length_map, List.length_append, List.length_cons, List.length_nil]; omega) ⟨rfl, ?_⟩⟩⟩) (fun env => ⟨_, rfl⟩)
    have e3 : O.list ((N ++ [x] ++ a.flat ++ [[5]] ++ b.flat).map insV ++ [.tup [.int 11]]) = insO (N ++ [x] ++ a.flat ++ [[5]] ++ b.flat ++ [[11]]) := by rw [insO, List.map_append (l₂ := [[11]])]; rfl
    rw [e3]
    have fr₅ : Fra [bl] σ₄ (σ₄.set bl (insO (N ++ [x] ++ a.flat ++ [[5]] ++ b.flat ++ [[11]]))) := Fra.set (by simp)
    have hb₅ : (σ₄.set bl (insO (N ++ [x] ++ a.flat ++ [[5]] ++ b.flat ++ [[11]]))) bl = some (insO (N ++ [x] ++ a.flat ++ [[5]] ++ b.flat ++ [[11]])) := H.self
    have hh₅ := hh₄.fra fr₅ fun j hj hm => hne j hj (List.mem_singleton.mp hm)
    have hi₅ := fr₅ _ _ (fun hm => hbi (List.mem_singleton.mp hm).symm) hi₄
    generalize σ₄.set bl (insO (N ++ [x] ++ a.flat ++ [[5]] ++ b.flat ++ [[11]])) = σ₅ at *
    refine Ex.nil (Ex.nil ?_)
    refine ih (lv + 1) (by omega) hbi hi₅ (drop_get hd).2 hp (fun q hq => hh₅ q (inB (.tail _ (List.mem_append_right _ hq)))) hb₅ (fun hm => kB (.tail _ (by show _ ∈ keys (cb ++ _); rw [keys_app]; exact List.mem_append_right _ hm)) rfl) (by simp only [List.length_append, List.length_cons, List.length_nil]; omega) l1 fun ρ' σ' hb' fr' => q ρ' σ' ?_ (((((fr.trans fr₂).trans fr₃).trans fr₄).trans fr₅).trans fr')
    rw [hb']; simp [Pcs.flat]
theorem body_of_ok (k : Ok c) {i : Nat} {X : Pcs} {lvl : Nat} {xs : List Nat} {cs : List (Nat × O)} {Q : V → H → Prop} (hlv : nest X ≤ lvl) (hi : σ i = some (.list (xs.map V.ref))) (hp : PL X xs cs) (hh : Holds σ cs) (hz : X.flat.length + 1 ≤ sizeLine)
    (q : ∀ j σ', σ' j = some (insO (X.flat ++ [[11]])) → Sub σ σ' → Q (.ref j) σ') : CodeR c (n + lvl + 4) (.ref 216) [.ref i] σ Q := by
  refine CodeR.enter (d_body_of k) rfl ?_
  have sc := (d_body_of k).ok
  refine Ex.cons <| Ex1.assign sc rfl <| Ev.listE <| Evs.nil ⟨Nat.le_of_ble_eq_true rfl, fun bl hbl => ?_⟩
  have s₁ : Sub σ (σ.set bl (.list [])) := Sub.fresh hbl
  have hb : (σ.set bl (.list [])) bl = some (insO []) := H.self
  generalize σ.set bl (.list []) = σ₁ at *
  have hbi : bl ≠ i := fun e => by rw [e, hi] at hbl; cases hbl
  have ho : bl ∉ keys cs := fun hm => by obtain ⟨o, ho⟩ := hh.live hm; rw [hbl] at ho; cases ho
  refine Ex.cons <| Ex1.expr sc <| Ev.callG rfl (g_put_pieces k) (kp_209 k) <| Evs.cons <| Ev.loc rfl <| Evs.cons <| Ev.loc rfl <| Evs.nil <| put_call (n := n) (lvl := lvl) k (put_loop k X lvl hlv) hbi (s₁ _ _ hi) hp (hh.sub s₁) hb ho (by simp; omega) fun σ₂ hb₂ fr => ⟨rfl, ?_⟩
  rw [List.nil_append] at hb₂
  refine Ex.cons <| Ex1.expr sc <| Ev.lmeth lm_append (Ev.loc rfl ⟨bl, _, rfl, hb₂, Evs.cons <| Ev.tuple <| Evs.cons <| Ev.gint rfl (gi_END k) <| Evs.nil ⟨Nat.le_of_ble_eq_true rfl, Evs.nil <| CallR.append hb₂ (by rw [List.length_map]; omega) ⟨rfl, ?_⟩⟩⟩) (fun env => ⟨_, rfl⟩)
  have e2 : O.list (X.flat.map insV ++ [.tup [.int 11]]) = insO (X.flat ++ [[11]]) := by rw [insO, List.map_append]; rfl
  rw [e2]
  refine Ex.cons <| Ex1.ret sc <| Ev.loc rfl (q bl _ H.self fun j o e => ?_)
  have hj : j ≠ bl := fun q => by rw [q, hbl] at e; cases e
  rw [H.ne hj]
  exact fr j o (fun hm => hj (List.mem_singleton.mp hm)) (s₁ _ _ e)
end
end Mine

namespace Mine
open PySem PySem.W PyProof.Rows PySem.Calls PySem.Spec

structure LP (ρ : Loc) (hl ol : Nat) : Prop where
  here : ρ.lookup (Str.ofString "here") = some (.ref hl)
  opened : ρ.lookup (Str.ofString "opened") = some (.ref ol)
noncomputable def poBody : List Stmt := match b_pieces_of with
  | _ :: .For _ _ b _ _ :: _ => b
  | _ => []
noncomputable def refO (xs : List Nat) : O := .list (xs.map V.ref)
theorem LP.set {ρ : Loc} {hl ol : Nat} {x : Str} {v : V} (L : LP ρ hl ol) (h1 : (Str.ofString "here" == x) = false) (h2 : (Str.ofString "opened" == x) = false) : LP (setL ρ x v) hl ol := ⟨set_other h1 L.here, set_other h2 L.opened⟩
theorem LP.here' {ρ : Loc} {hl ol hl' : Nat} (L : LP ρ hl ol) : LP (setL ρ (Str.ofString "here") (.ref hl')) hl' ol := ⟨set_self, set_other (by decide) L.opened⟩
theorem refO_app {xs : List Nat} {p : Nat} : O.list (xs.map V.ref ++ [.ref p]) = refO (xs ++ [p]) := by rw [refO, List.map_append]; rfl
section
variable {c : Cx} {n : Nat} {σ : H} {ρ : Loc}
theorem in234 (k : Ok c) {k0 : Int} {r : Ins} {sc : Scope} {p1 p2 p3 p4 p5 p6 p7 pos : Pos} {kk k1 : Nat} {Q : Bool → H → Prop} (hb : sc.names.lookup (Str.ofString "BLOCK") = some .globalImplicit) (hl : sc.names.lookup (Str.ofString "LOOP") = some .globalImplicit) (hi : sc.names.lookup (Str.ofString "IF") = some .globalImplicit)
    (lp : ρ.lookup (Str.ofString "plain") = some (insV (k0 :: r))) (q : Q ([2, 3, 4].any (· == k0)) σ) :
    Tr c n sc (.Compare (.Subscript (.Name (Str.ofString "plain") p1) (.Constant (.int 0) kk p2) p3) [.In] [.Tuple [.Name (Str.ofString "BLOCK") p4, .Name (Str.ofString "LOOP") p5, .Name (Str.ofString "IF") p6] k1 p7] pos) ρ σ Q :=
  Tr.cmp <| Ev.head (fun q => Ev.loc lp q) <| Ev.tuple <| Evs.cons <| Ev.gint hb (gi_BLOCK k) <| Evs.cons <| Ev.gint hl (gi_LOOP k) <| Evs.cons <| Ev.gint hi (gi_IF k) <| Evs.nil ⟨Nat.le_of_ble_eq_true rfl, Op2.inTup (ns := [2, 3, 4]) ⟨_, rfl, q⟩⟩
theorem po_plain (k : Ok c) {x : Ins} {hl ol : Nat} {xs0 : List Nat} {Q : AF → Loc → H → Prop} (hx : (!([2, 3, 4, 5, 11].any (· == x.headD 0)) && !x.isEmpty) = true) (lp : ρ.lookup (Str.ofString "plain") = some (insV x)) (L : LP ρ hl ol) (h1 : σ hl = some (refO xs0)) (hz : xs0.length ≤ sizeLine)
    (q : ∀ p, σ p = none → Q .next ρ ((σ.set p (pieceO x .none .none)).set hl (refO (xs0 ++ [p])))) : Ex c (n + 2) s_pieces_of poBody ρ σ Q := by
  have sc := (d_pieces_of k).ok
  cases x with
  | nil => simp at hx
  | cons k0 r =>
    simp only [Bool.and_eq_true, Bool.not_eq_true', List.any_cons, List.any_nil, Bool.or_false, Bool.or_eq_false_iff, beq_eq_false_iff_ne, ne_eq, List.headD_cons] at hx
    have c1 : [2, 3, 4].any (· == k0) = false := by simp; omega
    refine Ex.cons <| Ex1.iff sc <| in234 k rfl rfl rfl lp ?_
    rw [c1]
    refine Ex.cons <| Ex1.iff sc <| Tr.cmp <| Ev.head (fun q => Ev.loc lp q) <| Ev.gint rfl (gi_ELSE k) <| Op2.eqI ⟨_, rfl, ?_⟩
    rw [show (k0 == 5) = false from beq_eq_false_iff_ne.mpr (by omega)]
    refine Ex.cons <| Ex1.iff sc <| Tr.cmp <| Ev.head (fun q => Ev.loc lp q) <| Ev.gint rfl (gi_END k) <| Op2.eqI ⟨_, rfl, ?_⟩
    rw [show (k0 == 11) = false from beq_eq_false_iff_ne.mpr (by omega)]
    refine Ex.cons <| Ex1.expr sc <| Ev.lmeth lm_append (Ev.loc L.here ⟨hl, _, rfl, h1, Evs.cons <| Ev.callG rfl (g_Piece k) (kp_191 k) <| Evs.cons <| Ev.loc lp <| Evs.nil <| piece_new2 k fun p hp => Evs.nil <| CallR.append (H.get hp h1) (by rw [List.length_map]; exact hz) ⟨rfl, ?_⟩⟩) (fun env => ⟨_, rfl⟩)
    rw [refO_app]
    exact Ex.nil (Ex.nil (Ex.nil (Ex.nil (q p hp))))
theorem po_blk (k : Ok c) {x : Ins} {hl ol : Nat} {xs0 : List Nat} {op : List V} {Q : AF → Loc → H → Prop} (hx : ([2, 3, 4].any (· == x.headD 0) && !x.isEmpty) = true) (lp : ρ.lookup (Str.ofString "plain") = some (insV x)) (L : LP ρ hl ol) (h1 : σ hl = some (refO xs0)) (h2 : σ ol = some (.list op)) (hlo : hl ≠ ol)
    (hz : xs0.length ≤ sizeLine) (hz' : op.length ≤ sizeLine)
    (q : ∀ ρ' l p, σ l = none → (σ.set l (refO [])) p = none → LP ρ' l ol → Q .next ρ' ((((σ.set l (refO [])).set p (pieceO x (.ref l) .none)).set hl (refO (xs0 ++ [p]))).set ol (.list (op ++ [.tup [.ref p, .ref hl]])))) : Ex c (n + 2) s_pieces_of poBody ρ σ Q := by
  have sc := (d_pieces_of k).ok
  cases x with
  | nil => simp at hx
  | cons k0 r =>
    simp only [Bool.and_eq_true] at hx
    refine Ex.cons <| Ex1.iff sc <| in234 k rfl rfl rfl lp ?_
    rw [show ([2, 3, 4].any (· == k0)) = true from hx.1]
    refine Ex.cons <| Ex1.assign sc rfl <| Ev.callG rfl (g_Piece k) (kp_191 k) <| Evs.cons <| Ev.loc lp <| Evs.cons <| Ev.listE <| Evs.nil ⟨Nat.le_of_ble_eq_true rfl, fun l hl0 => Evs.nil <| piece_new3 k fun p hp => ?_⟩
    have L1 := L.set (x := Str.ofString "piece") (v := .ref p) (by decide) (by decide)
    have m1 : (setL ρ (Str.ofString "piece") (.ref p)).lookup (Str.ofString "piece") = some (.ref p) := set_self
    generalize setL ρ (Str.ofString "piece") (.ref p) = ρ₁ at *
    have g1 : ((σ.set l (.list [])).set p (pieceO (k0 :: r) (.ref l) .none)) hl = some (refO xs0) := H.get hp (H.get hl0 h1)
    have g2 : ((σ.set l (.list [])).set p (pieceO (k0 :: r) (.ref l) .none)) ol = some (.list op) := H.get hp (H.get hl0 h2)
    have hph : p ≠ hl := fun e => by have := ne_of hp (H.get (o' := .list []) hl0 h1); exact this e.symm
    have hpo : p ≠ ol := fun e => by have := ne_of hp (H.get (o' := .list []) hl0 h2); exact this e.symm
    refine Ex.cons <| Ex1.expr sc <| Ev.lmeth lm_append (Ev.loc L1.here ⟨hl, _, rfl, g1, Evs.cons <| Ev.loc m1 <| Evs.nil <| CallR.append g1 (by rw [List.length_map]; exact hz) ⟨rfl, ?_⟩⟩) (fun env => ⟨_, rfl⟩)
    rw [refO_app]
    refine Ex.cons <| Ex1.expr sc <| Ev.lmeth lm_append (Ev.loc L1.opened ⟨ol, _, rfl, (H.ne (Ne.symm hlo)).trans g2, Evs.cons <| Ev.tuple <| Evs.cons <| Ev.loc m1 <| Evs.cons <| Ev.loc L1.here <| Evs.nil ⟨Nat.le_of_ble_eq_true rfl, Evs.nil <| CallR.append ((H.ne (Ne.symm hlo)).trans g2) hz' ⟨rfl, ?_⟩⟩⟩) (fun env => ⟨_, rfl⟩)
    refine Ex.cons <| Ex1.assign sc rfl <| Ev.firstF k m1 ((H.ne hpo).trans ((H.ne hph).trans H.self)) rfl ?_
    exact Ex.nil (Ex.nil (q _ l p hl0 hp L1.here'))
theorem po_else (k : Ok c) {x : Ins} {hl ol p l : Nat} {op : List V} {v : V} {Q : AF → Loc → H → Prop} (lp : ρ.lookup (Str.ofString "plain") = some (insV [5])) (L : LP ρ hl ol) (h2 : σ ol = some (.list (op ++ [.tup [.ref p, v]]))) (hp : σ p = some (pieceO x (.ref l) .none)) (hz' : op.length ≤ 2 ^ 40)
    (q : ∀ ρ' l', σ l' = none → LP ρ' l' ol → Q .next ρ' ((σ.set l' (refO [])).set p (pieceO x (.ref l) (.ref l')))) : Ex c (n + 2) s_pieces_of poBody ρ σ Q := by
  have sc := (d_pieces_of k).ok
  refine Ex.cons <| Ex1.iff sc <| in234 k rfl rfl rfl lp ?_
  refine Ex.cons <| Ex1.iff sc <| Tr.cmp <| Ev.head (fun q => Ev.loc lp q) <| Ev.gint rfl (gi_ELSE k) <| Op2.eqI ⟨_, rfl, ?_⟩
  have hneg : seqIndex? (-1) (op ++ [V.tup [.ref p, v]]).length = some op.length := by
    have := seq_neg (i := 0) (n := (op ++ [V.tup [.ref p, v]]).length) (by simp)
    rw [show (-1 - ((0 : Nat) : Int)) = -1 by rfl] at this
    rw [this]; simp
  refine Ex.cons <| Ex1.assign sc rfl <| Ev.sub <| Ev.sub (Ev.loc L.opened <| Ev.neg <| Ev.int ⟨1, rfl, Op2.itemList h2 (by decide) (by decide) hneg (by simp) <| Ev.int <| Op2.itemTup (l := [.ref p, v]) (j := 0) (by decide) (by decide) (seq0 (Nat.le_of_ble_eq_true rfl)) rfl ?_⟩)
  have L1 := L.set (x := Str.ofString "piece") (v := .ref p) (by decide) (by decide)
  have m1 : (setL ρ (Str.ofString "piece") (.ref p)).lookup (Str.ofString "piece") = some (.ref p) := set_self
  generalize setL ρ (Str.ofString "piece") (.ref p) = ρ₁ at *
  refine Ex.cons <| Ex1.setA sc <| Ev.listE <| Evs.nil ⟨Nat.le_of_ble_eq_true rfl, fun l' hl' => Ev.loc m1 ⟨p, _, _, rfl, H.get hl' hp, Nat.le_of_ble_eq_true rfl, w_191_second k, ?_⟩⟩
  refine Ex.cons <| Ex1.assign sc rfl <| Ev.secondF k m1 (H.self (o := pieceO x (.ref l) (.ref l'))) rfl ?_
  exact Ex.nil (Ex.nil (Ex.nil (q _ l' hl' L1.here')))
theorem po_end (k : Ok c) {hl ol p h' : Nat} {op : List V} {Q : AF → Loc → H → Prop} (lp : ρ.lookup (Str.ofString "plain") = some (insV [11])) (L : LP ρ hl ol) (h2 : σ ol = some (.list (op ++ [.tup [.ref p, .ref h']]))) (hz' : op.length < sizeLine)
    (q : ∀ ρ', LP ρ' h' ol → Q .next ρ' (σ.set ol (.list op))) : Ex c (n + 2) s_pieces_of poBody ρ σ Q := by
  have sc := (d_pieces_of k).ok
  refine Ex.cons <| Ex1.iff sc <| in234 k rfl rfl rfl lp ?_
  refine Ex.cons <| Ex1.iff sc <| Tr.cmp <| Ev.head (fun q => Ev.loc lp q) <| Ev.gint rfl (gi_ELSE k) <| Op2.eqI ⟨_, rfl, ?_⟩
  refine Ex.cons <| Ex1.iff sc <| Tr.cmp <| Ev.head (fun q => Ev.loc lp q) <| Ev.gint rfl (gi_END k) <| Op2.eqI ⟨_, rfl, ?_⟩
  refine Ex.cons <| Ex1.unpack (xs := [Str.ofString "piece", Str.ofString "here"]) sc (by decide) (fun env => ⟨[(_, _), (_, _)], rfl, rfl⟩) <| Ev.lmeth0 lm_pop (Ev.loc L.opened ⟨ol, _, rfl, h2, CallR.pop h2 hz' ⟨_, rfl, rfl, ?_⟩⟩) (fun env => ⟨_, rfl⟩)
  exact Ex.nil (Ex.nil (Ex.nil (Ex.nil (q _ (L.set (x := Str.ofString "piece") (v := .ref p) (by decide) (by decide)).here'))))

theorem dropI {all : List Ins} {k0 : Nat} {x : Ins} {t : List Ins} (hd : all.drop k0 = x :: t) : (all.map insV)[k0]? = some (insV x) ∧ all.drop (k0 + 1) = t := by
  have := List.getElem?_drop (xs := all) (i := k0) (j := 0)
  rw [hd] at this
  exact ⟨by rw [List.getElem?_map, show all[k0]? = some x by simpa using this.symm]; rfl, by rw [← List.tail_drop, hd]; rfl⟩
theorem dropA {all : List Ins} {k0 : Nat} {A t : List Ins} (hd : all.drop k0 = A ++ t) : all.drop (k0 + A.length) = t := by
  rw [← List.drop_drop, hd, List.drop_left]
/-- all but two letters stand -/
noncomputable def F2 (a b : Nat) (σ σ' : H) : Prop := ∀ j o, j ≠ a → j ≠ b → σ j = some o → σ' j = some o
theorem po_turn {sl : Nat} {all t : List Ins} {x : Ins} {k0 f : Nat} {Q : AF → Loc → H → Prop} {hl ol : Nat} (hs : σ sl = some (insO all)) (hd : all.drop k0 = x :: t) (L : LP ρ hl ol)
    (q : ∀ ρ', ρ'.lookup (Str.ofString "plain") = some (insV x) → LP ρ' hl ol → Ex c n s_pieces_of poBody ρ' σ fun fl ρ' σ' => match fl with
        | .next | .cont => LoopF c n s_pieces_of (.name (Str.ofString "plain")) poBody (itList sl) Q f (k0 + 1) ρ' σ'
        | .brk => Q .next ρ' σ'
        | .ret v => Q (.ret v) ρ' σ') : LoopF c n s_pieces_of (.name (Str.ofString "plain")) poBody (itList sl) Q (f + 1) k0 ρ σ := by
  rw [LoopF]
  have hs' : σ sl = some (.list (all.map insV)) := hs
  simp only [itList, hs', (dropI hd).1]
  exact ⟨_, rfl, q _ set_self (L.set (by decide) (by decide))⟩
/-- what is built of pieces -/
structure Built (σ : H) (hl ol : Nat) (xs0 : List Nat) (op : List V) (X : Pcs) (σ' : H) (xs : List Nat) (cs : List (Nat × O)) : Prop where
  pl : PL X xs cs
  holds : Holds σ' cs
  nodup : (keys cs).Nodup
  new : ∀ j ∈ keys cs, σ j = none
  here : σ' hl = some (refO (xs0 ++ xs))
  op : σ' ol = some (.list op)
  fr : F2 hl ol σ σ'
theorem po_loop (k : Ok c) {sl ol : Nat} {all : List Ins} {Q : AF → Loc → H → Prop} : ∀ (X : Pcs), wf X = true → ∀ {f k0 : Nat} {σ : H} {hl : Nat} {xs0 : List Nat} {op : List V} {ρ : Loc} {rest : List Ins}, all.drop k0 = X.flat ++ rest → σ sl = some (insO all) → σ hl = some (refO xs0) → σ ol = some (.list op) →
    hl ≠ ol → hl ≠ sl → ol ≠ sl → LP ρ hl ol → xs0.length + X.flat.length < sizeLine → op.length + X.flat.length < sizeLine →
    (∀ ρ' σ' xs cs, LP ρ' hl ol → Built σ hl ol xs0 op X σ' xs cs → LoopF c (n + 2) s_pieces_of (.name (Str.ofString "plain")) poBody (itList sl) Q f (k0 + X.flat.length) ρ' σ') →
    LoopF c (n + 2) s_pieces_of (.name (Str.ofString "plain")) poBody (itList sl) Q (f + X.flat.length) k0 ρ σ := by
  intro X
  induction X with
  | nil =>
    intro _ f k0 σ hl xs0 op ρ rest hd hs h1 h2 hlo hls hos L hz hz' q
    exact q ρ σ [] [] L ⟨.nil, fun y hy => by simp at hy, by simp [keys], fun j hj => by simp [keys] at hj, by simpa using h1, h2, fun _ _ _ _ e => e⟩
  | plain x r ih =>
    intro hw f k0 σ hl xs0 op ρ rest hd hs h1 h2 hlo hls hos L hz hz' q
    simp only [wf, Bool.and_eq_true] at hw
    simp only [Pcs.flat, List.cons_append, List.length_cons] at hd hz hz' q ⊢
    refine po_turn hs hd L fun ρ' lp L' => po_plain k (by rw [Bool.and_eq_true]; exact hw.1) lp L' h1 (by omega) fun p hp => ?_
    have hph : p ≠ hl := (ne_of hp h1).symm
    have hpo : p ≠ ol := (ne_of hp h2).symm
    refine ih hw.2 (xs0 := xs0 ++ [p]) (op := op) (dropI hd).2 ((H.ne (Ne.symm hls)).trans (H.get hp hs)) H.self ((H.ne (Ne.symm hlo)).trans (H.get hp h2)) hlo hls hos L' (by simp only [List.length_append, List.length_cons, List.length_nil]; omega) (by omega) fun ρ₂ σ₂ xs cs L₂ B => ?_
    rw [show k0 + 1 + r.flat.length = k0 + (r.flat.length + 1) by omega]
    have hpn : p ∉ keys cs := fun hm => by have := B.new p hm; rw [H.ne hph, H.self] at this; cases this
    have newσ : ∀ j ∈ keys cs, σ j = none := fun j hj => by
      have h0 := B.new j hj
      have hjh : j ≠ hl := fun e => by rw [e, H.self] at h0; cases h0
      have hjp : j ≠ p := fun e => hpn (e ▸ hj)
      rwa [H.ne hjh, H.ne hjp] at h0
    refine q ρ₂ σ₂ (p :: xs) _ L₂ ⟨.plain B.pl, fun y hy => ?_, List.nodup_cons.mpr ⟨hpn, B.nodup⟩, fun j hj => ?_, ?_, B.op, fun j o j1 j2 e => ?_⟩
    · rcases List.mem_cons.mp hy with rfl | hy
      · exact B.fr p _ hph hpo ((H.ne hph).trans H.self)
      · exact B.holds y hy
    · rcases List.mem_cons.mp hj with rfl | hj
      · exact hp
      · exact newσ j hj
    · have := B.here; rw [List.append_assoc] at this; exact this
    · exact B.fr j o j1 j2 ((H.ne j1).trans (H.get hp e))
  | blk1 x a r iha ih =>
    intro hw f k0 σ hl xs0 op ρ rest hd hs h1 h2 hlo hls hos L hz hz' q
    simp only [wf, Bool.and_eq_true] at hw
    simp only [Pcs.flat, List.cons_append, List.append_assoc, List.length_cons, List.length_append] at hd hz hz' q ⊢
    rw [show f + (a.flat.length + (r.flat.length + 1) + 1) = (f + r.flat.length + 1 + a.flat.length) + 1 by omega]
    refine po_turn hs hd L fun ρ' lp L' => po_blk k (by rw [Bool.and_eq_true]; exact hw.1.1) lp L' h1 h2 hlo (by omega) (by omega) fun ρ₁ l p hl0 hp L₁ => ?_
    have hl_h : l ≠ hl := (ne_of hl0 h1).symm
    have hl_o : l ≠ ol := (ne_of hl0 h2).symm
    have hl_s : l ≠ sl := (ne_of hl0 hs).symm
    have hp_h : p ≠ hl := (ne_of hp (H.get hl0 h1)).symm
    have hp_o : p ≠ ol := (ne_of hp (H.get hl0 h2)).symm
    have hp_l : p ≠ l := (ne_of hp H.self).symm
    have hp0 : σ p = none := by rwa [H.ne hp_l] at hp
    have s1 : ((((σ.set l (refO [])).set p (pieceO x (.ref l) .none)).set hl (refO (xs0 ++ [p]))).set ol (.list (op ++ [.tup [.ref p, .ref hl]]))) l = some (refO []) := (H.ne hl_o).trans ((H.ne hl_h).trans ((H.ne (Ne.symm hp_l)).trans H.self))
    have s2 : ((((σ.set l (refO [])).set p (pieceO x (.ref l) .none)).set hl (refO (xs0 ++ [p]))).set ol (.list (op ++ [.tup [.ref p, .ref hl]]))) p = some (pieceO x (.ref l) .none) := (H.ne hp_o).trans ((H.ne hp_h).trans H.self)
    have s3 : ((((σ.set l (refO [])).set p (pieceO x (.ref l) .none)).set hl (refO (xs0 ++ [p]))).set ol (.list (op ++ [.tup [.ref p, .ref hl]]))) hl = some (refO (xs0 ++ [p])) := (H.ne hlo).trans H.self
    have s4 : ((((σ.set l (refO [])).set p (pieceO x (.ref l) .none)).set hl (refO (xs0 ++ [p]))).set ol (.list (op ++ [.tup [.ref p, .ref hl]]))) ol = some (.list (op ++ [.tup [.ref p, .ref hl]])) := H.self
    have s5 : F2 hl ol σ ((((σ.set l (refO [])).set p (pieceO x (.ref l) .none)).set hl (refO (xs0 ++ [p]))).set ol (.list (op ++ [.tup [.ref p, .ref hl]]))) := fun j o j1 j2 e => (H.ne j2).trans ((H.ne j1).trans (H.get hp (H.get hl0 e)))
    generalize ((((σ.set l (refO [])).set p (pieceO x (.ref l) .none)).set hl (refO (xs0 ++ [p]))).set ol (.list (op ++ [.tup [.ref p, .ref hl]]))) = σ₁ at *
    have hd1 := (dropI hd).2
    refine iha hw.1.2 (xs0 := []) hd1 (s5 _ _ (Ne.symm hls) (Ne.symm hos) hs) s1 s4 hl_o hl_s hos L₁ (by simp; omega) (by simp only [List.length_append, List.length_cons, List.length_nil]; omega) fun ρ₂ σ₂ xa ca L₂ A => ?_
    have hd2 := dropA hd1
    have t3 := A.fr hl _ (Ne.symm hl_h) hlo s3
    have t2 := A.fr p _ hp_l hp_o s2
    have tS := A.fr sl _ (Ne.symm hl_s) (Ne.symm hos) (s5 _ _ (Ne.symm hls) (Ne.symm hos) hs)
    refine po_turn tS hd2 L₂ fun ρ' lp L' => po_end k lp L' A.op (by omega) fun ρ₃ L₃ => ?_
    have hd3 := (dropI hd2).2
    refine ih hw.2 (xs0 := xs0 ++ [p]) (op := op) hd3 ((H.ne (Ne.symm hos)).trans tS) ((H.ne hlo).trans t3) H.self hlo hls hos L₃ (by simp only [List.length_append, List.length_cons, List.length_nil]; omega) (by omega) fun ρ₄ σ₄ xs cs L₄ B => ?_
    rw [show k0 + 1 + a.flat.length + 1 + r.flat.length = k0 + (a.flat.length + (r.flat.length + 1) + 1) by omega]
    -- letters
    have live₁ : ∀ j, σ₁ j = none → σ j = none := fun j h0 => by
      cases e : σ j with
      | none => rfl
      | some o =>
        by_cases j1 : j = hl
        · rw [j1, s3] at h0; cases h0
        · by_cases j2 : j = ol
          · rw [j2, s4] at h0; cases h0
          · rw [s5 j o j1 j2 e] at h0; cases h0
    have newA : ∀ j ∈ keys ca, σ j = none := fun j hj => live₁ j (A.new j hj)
    have pA : p ∉ keys ca := fun hm => by have := A.new p hm; rw [s2] at this; cases this
    have lA : l ∉ keys ca := fun hm => by have := A.new l hm; rw [s1] at this; cases this
    have offA : ∀ j ∈ keys ca, j ≠ hl ∧ j ≠ ol := fun j hj => ⟨(fun e => by have := newA j hj; rw [e, h1] at this; cases this), (fun e => by have := newA j hj; rw [e, h2] at this; cases this)⟩
    have setO : ∀ j o, j ≠ ol → σ₂ j = some o → (σ₂.set ol (.list op)) j = some o := fun j o h e => (H.ne h).trans e
    have nB : ∀ {j o}, j ≠ ol → σ₂ j = some o → j ∉ keys cs := fun h e hm => by have := B.new _ hm; rw [setO _ _ h e] at this; cases this
    have newB : ∀ j ∈ keys cs, σ j = none := fun j hj => by
      have h0 := B.new j hj
      cases e : σ j with
      | none => rfl
      | some o =>
        by_cases j1 : j = hl
        · rw [j1, setO _ _ hlo t3] at h0; cases h0
        · by_cases j2 : j = ol
          · rw [j2, H.self] at h0; cases h0
          · have e1 := s5 j o j1 j2 e
            by_cases j3 : j = l
            · rw [j3, hl0] at e; cases e
            · rw [setO _ _ j2 (A.fr j o j3 j2 e1)] at h0; cases h0
    have lB : l ∉ keys cs := nB hl_o A.here
    have pB : p ∉ keys cs := nB hp_o t2
    refine q ρ₄ σ₄ (p :: xs) _ L₄ ⟨.blk1 (l := l) A.pl B.pl, fun y hy => ?_, ?_, fun j hj => ?_, ?_, B.op, fun j o j1 j2 e => ?_⟩
    · rcases List.mem_cons.mp hy with rfl | hy
      · exact B.fr p _ hp_h hp_o (setO _ _ hp_o t2)
      · rcases List.mem_cons.mp hy with rfl | hy
        · exact B.fr l _ hl_h hl_o (setO _ _ hl_o A.here)
        · rcases List.mem_append.mp hy with hy | hy
          · have := offA y.1 (List.mem_map_of_mem hy)
            exact B.fr _ _ this.1 this.2 (setO _ _ this.2 (A.holds y hy))
          · exact B.holds y hy
    · show (p :: l :: keys (ca ++ cs)).Nodup
      rw [keys_app]
      refine List.nodup_cons.mpr ⟨fun hm => ?_, List.nodup_cons.mpr ⟨fun hm => ?_, List.nodup_append.mpr ⟨A.nodup, B.nodup, fun j hj j' hj' e => ?_⟩⟩⟩
      · rcases List.mem_cons.mp hm with h | hm
        · exact hp_l h
        · rcases List.mem_append.mp hm with h | h
          · exact pA h
          · exact pB h
      · rcases List.mem_append.mp hm with h | h
        · exact lA h
        · exact lB h
      · subst e
        obtain ⟨o, ho⟩ := A.holds.live hj
        exact nB (offA j hj).2 ho hj'
    · have hj' : j ∈ p :: l :: keys (ca ++ cs) := hj
      rw [keys_app] at hj'
      rcases List.mem_cons.mp hj' with rfl | hj
      · exact hp0
      · rcases List.mem_cons.mp hj with rfl | hj
        · exact hl0
        · rcases List.mem_append.mp hj with h | h
          · exact newA j h
          · exact newB j h
    · have := B.here; rw [List.append_assoc] at this; exact this
    · have jl : j ≠ l := fun q => by rw [q, hl0] at e; cases e
      exact B.fr j o j1 j2 (setO _ _ j2 (A.fr j o jl j2 (s5 j o j1 j2 e)))
  | blk2 x a b r iha ihb ih =>
    intro hw f k0 σ hl xs0 op ρ rest hd hs h1 h2 hlo hls hos L hz hz' q
    simp only [wf, Bool.and_eq_true] at hw
    simp only [Pcs.flat, List.cons_append, List.append_assoc, List.length_cons, List.length_append] at hd hz hz' q ⊢
    rw [show f + (a.flat.length + (b.flat.length + (r.flat.length + 1) + 1) + 1) = ((f + r.flat.length + 1 + b.flat.length) + 1 + a.flat.length) + 1 by omega]
    refine po_turn hs hd L fun ρ' lp L' => po_blk k (by rw [Bool.and_eq_true]; exact hw.1.1.1) lp L' h1 h2 hlo (by omega) (by omega) fun ρ₁ l p hl0 hp L₁ => ?_
    have hl_h : l ≠ hl := (ne_of hl0 h1).symm
    have hl_o : l ≠ ol := (ne_of hl0 h2).symm
    have hl_s : l ≠ sl := (ne_of hl0 hs).symm
    have hp_h : p ≠ hl := (ne_of hp (H.get hl0 h1)).symm
    have hp_o : p ≠ ol := (ne_of hp (H.get hl0 h2)).symm
    have hp_l : p ≠ l := (ne_of hp H.self).symm
    have hp0 : σ p = none := by rwa [H.ne hp_l] at hp
    have s1 : ((((σ.set l (refO [])).set p (pieceO x (.ref l) .none)).set hl (refO (xs0 ++ [p]))).set ol (.list (op ++ [.tup [.ref p, .ref hl]]))) l = some (refO []) := (H.ne hl_o).trans ((H.ne hl_h).trans ((H.ne (Ne.symm hp_l)).trans H.self))
    have s2 : ((((σ.set l (refO [])).set p (pieceO x (.ref l) .none)).set hl (refO (xs0 ++ [p]))).set ol (.list (op ++ [.tup [.ref p, .ref hl]]))) p = some (pieceO x (.ref l) .none) := (H.ne hp_o).trans ((H.ne hp_h).trans H.self)
    have s3 : ((((σ.set l (refO [])).set p (pieceO x (.ref l) .none)).set hl (refO (xs0 ++ [p]))).set ol (.list (op ++ [.tup [.ref p, .ref hl]]))) hl = some (refO (xs0 ++ [p])) := (H.ne hlo).trans H.self
    have s4 : ((((σ.set l (refO [])).set p (pieceO x (.ref l) .none)).set hl (refO (xs0 ++ [p]))).set ol (.list (op ++ [.tup [.ref p, .ref hl]]))) ol = some (.list (op ++ [.tup [.ref p, .ref hl]])) := H.self
    have s5 : F2 hl ol σ ((((σ.set l (refO [])).set p (pieceO x (.ref l) .none)).set hl (refO (xs0 ++ [p]))).set ol (.list (op ++ [.tup [.ref p, .ref hl]]))) := fun j o j1 j2 e => (H.ne j2).trans ((H.ne j1).trans (H.get hp (H.get hl0 e)))
    generalize ((((σ.set l (refO [])).set p (pieceO x (.ref l) .none)).set hl (refO (xs0 ++ [p]))).set ol (.list (op ++ [.tup [.ref p, .ref hl]]))) = σ₁ at *
    have hd1 := (dropI hd).2
    refine iha hw.1.1.2 (xs0 := []) hd1 (s5 _ _ (Ne.symm hls) (Ne.symm hos) hs) s1 s4 hl_o hl_s hos L₁ (by simp; omega) (by simp only [List.length_append, List.length_cons, List.length_nil]; omega) fun ρ₂ σ₂ xa ca L₂ A => ?_
    have hd2 := dropA hd1
    have t3 := A.fr hl _ (Ne.symm hl_h) hlo s3
    have t2 := A.fr p _ hp_l hp_o s2
    have tS := A.fr sl _ (Ne.symm hl_s) (Ne.symm hos) (s5 _ _ (Ne.symm hls) (Ne.symm hos) hs)
    refine po_turn tS hd2 L₂ fun ρ' lp L' => po_else k lp L' A.op t2 (by have : sizeLine ≤ 2 ^ 40 := Nat.le_of_ble_eq_true rfl
                                                                         omega) fun ρ₃ l' hl' L₃ => ?_
    have l'_p : l' ≠ p := (ne_of hl' t2).symm
    have l'_l : l' ≠ l := (ne_of hl' A.here).symm
    have l'_h : l' ≠ hl := (ne_of hl' t3).symm
    have l'_o : l' ≠ ol := (ne_of hl' A.op).symm
    have l'_s : l' ≠ sl := (ne_of hl' tS).symm
    have p_s : p ≠ sl := fun e => by rw [e, hs] at hp0; cases hp0
    have hd3 := (dropI hd2).2
    have u1 : ((σ₂.set l' (refO [])).set p (pieceO x (.ref l) (.ref l'))) p = some (pieceO x (.ref l) (.ref l')) := H.self
    have u2 : ((σ₂.set l' (refO [])).set p (pieceO x (.ref l) (.ref l'))) l' = some (refO []) := (H.ne l'_p).trans H.self
    have u3 : ∀ j o, j ≠ p → σ₂ j = some o → ((σ₂.set l' (refO [])).set p (pieceO x (.ref l) (.ref l'))) j = some o := fun j o h e => (H.ne h).trans (H.get hl' e)
    generalize (σ₂.set l' (refO [])).set p (pieceO x (.ref l) (.ref l')) = σ₂' at *
    have uo := u3 _ _ (Ne.symm hp_o) A.op
    have uh := u3 _ _ (Ne.symm hp_h) t3
    have us := u3 _ _ (Ne.symm p_s) tS
    have ul := u3 _ _ (Ne.symm hp_l) A.here
    refine ihb hw.1.2 (xs0 := []) hd3 us u2 uo l'_o l'_s hos L₃ (by simp; omega) (by simp only [List.length_append, List.length_cons, List.length_nil]; omega) fun ρ₄ σ₃ xb cb L₄ Bb => ?_
    have hd4 := dropA hd3
    have v : ∀ j o, j ≠ l' → j ≠ ol → σ₂' j = some o → σ₃ j = some o := Bb.fr
    have vS := v _ _ (Ne.symm l'_s) (Ne.symm hos) us
    have vh := v _ _ (Ne.symm l'_h) hlo uh
    have vp := v _ _ (Ne.symm l'_p) hp_o u1
    have vl := v _ _ (Ne.symm l'_l) hl_o ul
    refine po_turn vS hd4 L₄ fun ρ' lp L' => po_end k lp L' Bb.op (by omega) fun ρ₅ L₅ => ?_
    have hd5 := (dropI hd4).2
    refine ih hw.2 (xs0 := xs0 ++ [p]) (op := op) hd5 ((H.ne (Ne.symm hos)).trans vS) ((H.ne hlo).trans vh) H.self hlo hls hos L₅ (by simp only [List.length_append, List.length_cons, List.length_nil]; omega) (by omega) fun ρ₆ σ₄ xs cs L₆ B => ?_
    rw [show k0 + 1 + a.flat.length + 1 + b.flat.length + 1 + r.flat.length = k0 + (a.flat.length + (b.flat.length + (r.flat.length + 1) + 1) + 1) by omega]
    have setO : ∀ j o, j ≠ ol → σ₃ j = some o → (σ₃.set ol (.list op)) j = some o := fun j o h e => (H.ne h).trans e
    -- letters that live, stand
    have lv : ∀ j o, j ≠ hl → j ≠ ol → σ j = some o → σ₂ j = some o := fun j o j1 j2 e => A.fr j o (fun q => by rw [q, hl0] at e; cases e) j2 (s5 j o j1 j2 e)
    have lv' : ∀ j o, j ≠ hl → j ≠ ol → σ j = some o → σ₂' j = some o := fun j o j1 j2 e => u3 j o (fun q => by rw [q, hp0] at e; cases e) (lv j o j1 j2 e)
    have lv₃ : ∀ j o, j ≠ hl → j ≠ ol → σ j = some o → σ₃ j = some o := fun j o j1 j2 e => v j o (fun q => by have := lv j o j1 j2 e; rw [q, hl'] at this; cases this) j2 (lv' j o j1 j2 e)
    have n1 : ∀ j, σ₁ j = none → σ j = none := fun j h0 => by
      cases e : σ j with
      | none => rfl
      | some o =>
        by_cases j1 : j = hl
        · rw [j1, s3] at h0; cases h0
        · by_cases j2 : j = ol
          · rw [j2, s4] at h0; cases h0
          · rw [s5 j o j1 j2 e] at h0; cases h0
    have n2 : ∀ j, σ₂' j = none → σ j = none := fun j h0 => by
      cases e : σ j with
      | none => rfl
      | some o =>
        by_cases j1 : j = hl
        · rw [j1, uh] at h0; cases h0
        · by_cases j2 : j = ol
          · rw [j2, uo] at h0; cases h0
          · rw [lv' j o j1 j2 e] at h0; cases h0
    have n3 : ∀ j, (σ₃.set ol (.list op)) j = none → σ j = none := fun j h0 => by
      cases e : σ j with
      | none => rfl
      | some o =>
        by_cases j1 : j = hl
        · rw [j1, setO _ _ hlo vh] at h0; cases h0
        · by_cases j2 : j = ol
          · rw [j2, H.self] at h0; cases h0
          · rw [setO _ _ j2 (lv₃ j o j1 j2 e)] at h0; cases h0
    have l'0 : σ l' = none := by
      cases e : σ l' with
      | none => rfl
      | some o => have := lv l' o l'_h l'_o e; rw [hl'] at this; cases this
    have offN : ∀ j, σ j = none → j ≠ hl ∧ j ≠ ol := fun j hj => ⟨(fun e => by rw [e, h1] at hj; cases hj), (fun e => by rw [e, h2] at hj; cases hj)⟩
    have newA : ∀ j ∈ keys ca, σ j = none := fun j hj => n1 j (A.new j hj)
    have newB : ∀ j ∈ keys cb, σ j = none := fun j hj => n2 j (Bb.new j hj)
    have newR : ∀ j ∈ keys cs, σ j = none := fun j hj => n3 j (B.new j hj)
    have pA : p ∉ keys ca := fun hm => by have := A.new p hm; rw [s2] at this; cases this
    have lA : l ∉ keys ca := fun hm => by have := A.new l hm; rw [s1] at this; cases this
    have l'A : l' ∉ keys ca := fun hm => by obtain ⟨o, ho⟩ := A.holds.live hm; rw [hl'] at ho; cases ho
    have nB : ∀ {j o}, σ₂' j = some o → j ∉ keys cb := fun e hm => by have := Bb.new _ hm; rw [e] at this; cases this
    have nR : ∀ {j o}, j ≠ ol → σ₃ j = some o → j ∉ keys cs := fun h e hm => by have := B.new _ hm; rw [setO _ _ h e] at this; cases this
    have hA2 : ∀ q ∈ ca, σ₂' q.1 = some q.2 := fun q hq => u3 _ _ (fun e => pA (by rw [← e]; exact List.mem_map_of_mem hq)) (A.holds q hq)
    have hA3 : ∀ q ∈ ca, σ₃ q.1 = some q.2 := fun q hq => v _ _ (fun e => l'A (by rw [← e]; exact List.mem_map_of_mem hq)) (offN _ (newA _ (List.mem_map_of_mem hq))).2 (hA2 q hq)
    have fin : ∀ j o, σ j = none → σ₃ j = some o → σ₄ j = some o := fun j o hj e => B.fr j o (offN j hj).1 (offN j hj).2 (setO _ _ (offN j hj).2 e)
    refine q ρ₆ σ₄ (p :: xs) _ L₆ ⟨.blk2 (l := l) (l' := l') A.pl Bb.pl B.pl, fun y hy => ?_, ?_, fun j hj => ?_, ?_, B.op, fun j o j1 j2 e => ?_⟩
    · rcases List.mem_cons.mp hy with rfl | hy
      · exact fin p _ hp0 vp
      · rcases List.mem_cons.mp hy with rfl | hy
        · exact fin l _ hl0 vl
        · rcases List.mem_append.mp hy with hy | hy
          · exact fin _ _ (newA _ (List.mem_map_of_mem hy)) (hA3 y hy)
          · rcases List.mem_cons.mp hy with rfl | hy
            · exact fin l' _ l'0 Bb.here
            · rcases List.mem_append.mp hy with hy | hy
              · exact fin _ _ (newB _ (List.mem_map_of_mem hy)) (Bb.holds y hy)
              · exact B.holds y hy
    · show (p :: l :: keys (ca ++ ((l', O.list (xb.map V.ref)) :: (cb ++ cs)))).Nodup
      rw [keys_app]
      show (p :: l :: (keys ca ++ (l' :: keys (cb ++ cs)))).Nodup
      rw [keys_app]
      have pB := nB u1
      have lB := nB ul
      have l'B := nB u2
      have pR := nR hp_o vp
      have lR := nR hl_o vl
      have l'R := nR l'_o Bb.here
      have AB : ∀ j ∈ keys ca, j ∉ keys cb := fun j hj => by
        obtain ⟨y, hy, rfl⟩ := List.mem_map.mp hj
        exact nB (hA2 y hy)
      have AR : ∀ j ∈ keys ca, j ∉ keys cs := fun j hj => by
        have hjo := (offN j (newA j hj)).2
        obtain ⟨y, hy, rfl⟩ := List.mem_map.mp hj
        exact nR hjo (hA3 y hy)
      have BR : ∀ j ∈ keys cb, j ∉ keys cs := fun j hj => by
        have hjo := (offN j (newB j hj)).2
        obtain ⟨y, hy, rfl⟩ := List.mem_map.mp hj
        exact nR hjo (Bb.holds y hy)
      simp only [List.nodup_cons, List.nodup_append, List.mem_cons, List.mem_append, not_or]
      refine ⟨⟨hp_l, pA, Ne.symm l'_p, pB, pR⟩, ⟨lA, Ne.symm l'_l, lB, lR⟩, A.nodup, ⟨⟨l'B, l'R⟩, Bb.nodup, B.nodup, fun j hj j' hj' e => BR j hj (e ▸ hj')⟩, fun j hj j' hj' e => ?_⟩
      subst e
      rcases hj' with h | h | h
      · exact l'A (h ▸ hj)
      · exact AB j hj h
      · exact AR j hj h
    · have hj' : j ∈ p :: l :: keys (ca ++ ((l', O.list (xb.map V.ref)) :: (cb ++ cs))) := hj
      rw [keys_app] at hj'
      rcases List.mem_cons.mp hj' with rfl | hj
      · exact hp0
      · rcases List.mem_cons.mp hj with rfl | hj
        · exact hl0
        · rcases List.mem_append.mp hj with h | h
          · exact newA j h
          · have h' : j ∈ l' :: keys (cb ++ cs) := h
            rw [keys_app] at h'
            rcases List.mem_cons.mp h' with rfl | h
            · exact l'0
            · rcases List.mem_append.mp h with h | h
              · exact newB j h
              · exact newR j h
    · have := B.here; rw [List.append_assoc] at this; exact this
    · exact B.fr j o j1 j2 (setO _ _ j2 (lv₃ j o j1 j2 e))
theorem pieces_of_ok (k : Ok c) {i : Nat} {X : Pcs} {Q : V → H → Prop} (hw : wf X = true) (hi : σ i = some (insO (X.flat ++ [[11]]))) (hz : X.flat.length + 1 < sizeLine)
    (q : ∀ hl σ' xs cs, PL X xs cs → Holds σ' cs → (keys cs).Nodup → hl ∉ keys cs → σ' hl = some (refO xs) → (∀ j ∈ hl :: keys cs, σ j = none) → Sub σ σ' → Q (.ref hl) σ') : CodeR c (n + 3) (.ref 202) [.ref i] σ Q := by
  refine CodeR.enter (d_pieces_of k) rfl ?_
  have sc := (d_pieces_of k).ok
  refine Ex.cons <| Ex1.swap (xs := [Str.ofString "here", Str.ofString "opened"]) sc (by decide) <| Ev.tuple <| Evs.cons <| Ev.listE <| Evs.nil ⟨Nat.le_of_ble_eq_true rfl, fun hl hl0 => Evs.cons <| Ev.listE <| Evs.nil ⟨Nat.le_of_ble_eq_true rfl, fun ol ol0 => Evs.nil ⟨Nat.le_of_ble_eq_true rfl, _, rfl, rfl, ?_⟩⟩⟩
  have hlo : hl ≠ ol := (ne_of ol0 H.self)
  have ol00 : σ ol = none := by rwa [H.ne (Ne.symm hlo)] at ol0
  have a1 : ((σ.set hl (.list [])).set ol (.list [])) hl = some (refO []) := H.get ol0 H.self
  have a2 : ((σ.set hl (.list [])).set ol (.list [])) ol = some (.list []) := H.self
  have aS : Sub σ ((σ.set hl (.list [])).set ol (.list [])) := (Sub.fresh hl0).trans (Sub.fresh ol0)
  have aN : ∀ j, ((σ.set hl (.list [])).set ol (.list [])) j = none → σ j = none := fun j h => none_of aS h
  generalize (σ.set hl (.list [])).set ol (.list []) = σ₁ at *
  have hlen : ((X.flat ++ [[11]]).map insV).length = X.flat.length + 1 := by simp
  refine Ex.cons <| Ex1.forE (T := .name (Str.ofString "plain")) sc ⟨⟨_, rfl⟩, rfl⟩ (IterE.toF <| IterE.of <| Ev.upto <| Ev.loc rfl <| Ev.bin <| Ev.callB <| Ev.blt rfl (gb_len k) bb_len ⟨_, rfl, Evs.cons <| Ev.loc rfl <| Evs.nil <| CallR.lenList (aS _ _ hi) (by rw [hlen]; omega) <| Ev.int <| Op2.sub ⟨i, _, _, rfl, rfl, aS _ _ hi, by rw [hlen]; omega, .inr ⟨by rw [hlen]; omega, by omega, fun sl hsl => ⟨itList sl, Itr.list H.self, 1 + X.flat.length, ?_⟩⟩⟩⟩ (by decide) rfl)
  have et : O.list (((X.flat ++ [[11]]).map insV).take ((((X.flat ++ [[11]]).map insV).length : Int) - 1).toNat) = insO X.flat := by
    rw [hlen, show (((X.flat.length + 1 : Nat) : Int) - 1).toNat = X.flat.length by omega, List.map_append, List.take_left' (by simp)]; rfl
  rw [et]
  have b1 := H.get (o' := insO X.flat) hsl a1
  have b2 := H.get (o' := insO X.flat) hsl a2
  refine po_loop (n := n) k X hw (rest := []) (by simp) H.self b1 b2 hlo (ne_of hsl a1) (ne_of hsl a2) ⟨rfl, rfl⟩ (by simp; omega) (by simp; omega) fun ρ₂ σ₂ xs cs L B => ?_
  have hslh : sl ≠ hl := (ne_of hsl a1).symm
  have sl2 : σ₂ sl = some (insO X.flat) := B.fr sl _ hslh (ne_of hsl a2).symm H.self
  have sl2' : σ₂ sl = some (.list (X.flat.map insV)) := sl2
  have e0 : (X.flat.map insV)[0 + X.flat.length]? = none := by simp
  rw [LoopF]
  simp only [itList, sl2', e0]
  refine Ex.cons <| Ex1.ret sc <| Ev.loc L.here <| q hl σ₂ xs cs B.pl B.holds B.nodup (fun hm => by have := B.new hl hm; rw [b1] at this; cases this) (by simpa using B.here) (fun j hj => ?_) fun j o e => ?_
  · rcases List.mem_cons.mp hj with rfl | hj
    · exact hl0
    · exact aN j (none_of (Sub.fresh hsl) (B.new j hj))
  · exact B.fr j o (fun q => by rw [q, hl0] at e; cases e) (fun q => by rw [q, ol00] at e; cases e) (H.get hsl (aS _ _ e))
end
end Mine

namespace Mine
open PySem PySem.W PyProof.Rows PySem.Calls PySem.Spec

section
variable {c : Cx} {n : Nat} {σ : H} {ρ : Loc}
theorem imp_new (k : Ok c) {v1 v2 v3 v4 : V} {Q : V → H → Prop} (q : ∀ i, σ i = none → Q (.ref i) (σ.set i (.inst 336 [(Str.ofString "place", v1), (Str.ofString "name", v2), (Str.ofString "sort", v3), (Str.ofString "about", v4)]))) : CodeR c (n + 2) (.ref 336) [v1, v2, v3, v4] σ Q := by
  refine CodeR.make (mk_336 k) fun i hi => CodeR.enter (d_imp_init k) rfl ?_
  have sc := (d_imp_init k).ok
  refine Ex.cons <| Ex1.setA sc <| Ev.loc rfl <| Ev.loc rfl ⟨i, _, _, rfl, H.self, Nat.le_of_ble_eq_true rfl, w_336_place k, ?_⟩
  refine Ex.cons <| Ex1.setA sc <| Ev.loc rfl <| Ev.loc rfl ⟨i, _, _, rfl, H.self, Nat.le_of_ble_eq_true rfl, w_336_name k, ?_⟩
  refine Ex.cons <| Ex1.setA sc <| Ev.loc rfl <| Ev.loc rfl ⟨i, _, _, rfl, H.self, Nat.le_of_ble_eq_true rfl, w_336_sort k, ?_⟩
  refine Ex.cons <| Ex1.setA sc <| Ev.loc rfl <| Ev.loc rfl ⟨i, _, _, rfl, H.self, Nat.le_of_ble_eq_true rfl, w_336_about k, ?_⟩
  simp only [H.set_set]
  exact Ex.nil ⟨by first | rfl | trivial, q i hi⟩
theorem func_new (k : Ok c) {v1 v2 v3 : V} {Q : V → H → Prop} (q : ∀ i, σ i = none → Q (.ref i) (σ.set i (.inst 364 [(Str.ofString "kind", v1), (Str.ofString "locals", v2), (Str.ofString "body", v3)]))) : CodeR c (n + 2) (.ref 364) [v1, v2, v3] σ Q := by
  refine CodeR.make (mk_364 k) fun i hi => CodeR.enter (d_func_init k) rfl ?_
  have sc := (d_func_init k).ok
  refine Ex.cons <| Ex1.setA sc <| Ev.loc rfl <| Ev.loc rfl ⟨i, _, _, rfl, H.self, Nat.le_of_ble_eq_true rfl, w_364_kind k, ?_⟩
  refine Ex.cons <| Ex1.setA sc <| Ev.loc rfl <| Ev.loc rfl ⟨i, _, _, rfl, H.self, Nat.le_of_ble_eq_true rfl, w_364_locals k, ?_⟩
  refine Ex.cons <| Ex1.setA sc <| Ev.loc rfl <| Ev.loc rfl ⟨i, _, _, rfl, H.self, Nat.le_of_ble_eq_true rfl, w_364_body k, ?_⟩
  simp only [H.set_set]
  exact Ex.nil ⟨by first | rfl | trivial, q i hi⟩
theorem ends_new (k : Ok c) {v1 : V} {Q : V → H → Prop} (q : ∀ i, σ i = none → Q (.ref i) (σ.set i (.inst 308 [(Str.ofString "arities", v1)]))) : CodeR c (n + 2) (.ref 308) [v1] σ Q := by
  refine CodeR.make (mk_308 k) fun i hi => CodeR.enter (d_ends_init k) rfl ?_
  have sc := (d_ends_init k).ok
  refine Ex.cons <| Ex1.setA sc <| Ev.loc rfl <| Ev.loc rfl ⟨i, _, _, rfl, H.self, Nat.le_of_ble_eq_true rfl, w_308_arities k, ?_⟩
  simp only [H.set_set]
  exact Ex.nil ⟨by first | rfl | trivial, q i hi⟩
noncomputable def modN : List Str := [Str.ofString "kinds", Str.ofString "imports", Str.ofString "funcs", Str.ofString "tables", Str.ofString "memories", Str.ofString "globals", Str.ofString "exports", Str.ofString "start", Str.ofString "elems", Str.ofString "datas", Str.ofString "customs"]
/-- a Module in a heap: its fields, by name -/
noncomputable def ModAt (σ : H) (i : Nat) : Prop := ∃ vs : List V, vs.length = 11 ∧ σ i = some (.inst 479 (modN.zip vs))
theorem mod_field {σ : H} {i : Nat} {fs : List (Str × V)} {j : Nat} {o : O} (hi : σ i = some (.inst 479 fs)) (hj : σ j = none) : σ.set j o i = some (.inst 479 fs) := H.get hj hi
theorem mod_step (k : Ok c) {sc : Scope} {i : Nat} {x : Str} {p1 p2 p3 pos : Pos} {fs : List (Str × V)} {σ₀ : H} {Q : AF → Loc → H → Prop} (hs : ScOk sc) (ok : SetOk c.K 479 x) (l : ρ.lookup (Str.ofString "self") = some (.ref i)) (hi : σ i = some (.inst 479 fs)) (hz : fs.length ≤ 900) (h0 : σ₀ i = none) (s : Sub σ₀ σ)
    (q : ∀ v σ', σ' i = some (.inst 479 (setL fs x v)) → Sub σ₀ σ' → Q .next ρ σ')
    (hw : ∀ env, swapsWith (.List [] p1) (some (.Attribute (.Name (Str.ofString "self") p2) x p3)) pos.line env = pure false := by intros; rfl) :
    Ex1 c n sc (.Assign [.Attribute (.Name (Str.ofString "self") p2) x p3] (.List [] p1) pos) ρ σ Q := by
  refine Ex1.setA hs (Ev.listE <| Evs.nil ⟨Nat.le_of_ble_eq_true rfl, fun j hj => Ev.loc l ⟨i, _, _, rfl, H.get hj hi, hz, ok, ?_⟩⟩) hw
  refine q (.ref j) _ H.self fun y o e => ?_
  have hy : y ≠ i := fun q => by rw [q, h0] at e; cases e
  exact (H.ne hy).trans (H.get hj (s _ _ e))
theorem mod_new (k : Ok c) {Q : V → H → Prop} (q : ∀ i σ', σ i = none → ModAt σ' i → Sub σ σ' → Q (.ref i) σ') : CodeR c (n + 2) (.ref 479) [] σ Q := by
  refine CodeR.make (mk_479 k) fun i hi => CodeR.enter (d_mod_init k) rfl ?_
  have sc := (d_mod_init k).ok
  have s0 : Sub σ (σ.set i (.inst 479 [])) := Sub.fresh hi
  refine Ex.cons <| mod_step k sc (w_479_kinds k) rfl H.self (Nat.le_of_ble_eq_true rfl) hi s0 fun v1 σ₁ h1 s1 => ?_
  refine Ex.cons <| mod_step k sc (w_479_imports k) rfl h1 (Nat.le_of_ble_eq_true rfl) hi s1 fun v2 σ₂ h2 s2 => ?_
  refine Ex.cons <| mod_step k sc (w_479_funcs k) rfl h2 (Nat.le_of_ble_eq_true rfl) hi s2 fun v3 σ₃ h3 s3 => ?_
  refine Ex.cons <| mod_step k sc (w_479_tables k) rfl h3 (Nat.le_of_ble_eq_true rfl) hi s3 fun v4 σ₄ h4 s4 => ?_
  refine Ex.cons <| mod_step k sc (w_479_memories k) rfl h4 (Nat.le_of_ble_eq_true rfl) hi s4 fun v5 σ₅ h5 s5 => ?_
  refine Ex.cons <| mod_step k sc (w_479_globals k) rfl h5 (Nat.le_of_ble_eq_true rfl) hi s5 fun v6 σ₆ h6 s6 => ?_
  refine Ex.cons <| mod_step k sc (w_479_exports k) rfl h6 (Nat.le_of_ble_eq_true rfl) hi s6 fun v7 σ₇ h7 s7 => ?_
  refine Ex.cons <| Ex1.setA sc <| Ev.noneE <| Ev.loc rfl ⟨i, _, _, rfl, h7, Nat.le_of_ble_eq_true rfl, w_479_start k, ?_⟩
  have s8 : Sub σ (σ₇.set i (.inst 479 (setL (setL (setL (setL (setL (setL (setL (setL [] (Str.ofString "kinds") v1) (Str.ofString "imports") v2) (Str.ofString "funcs") v3) (Str.ofString "tables") v4) (Str.ofString "memories") v5) (Str.ofString "globals") v6) (Str.ofString "exports") v7) (Str.ofString "start") .none))) := fun y o e => by
    have hy : y ≠ i := fun q => by rw [q, hi] at e; cases e
    exact (H.ne hy).trans (s7 _ _ e)
  refine Ex.cons <| mod_step k sc (w_479_elems k) rfl H.self (Nat.le_of_ble_eq_true rfl) hi s8 fun v9 σ₉ h9 s9 => ?_
  refine Ex.cons <| mod_step k sc (w_479_datas k) rfl h9 (Nat.le_of_ble_eq_true rfl) hi s9 fun v10 σ₁₀ h10 s10 => ?_
  refine Ex.cons <| mod_step k sc (w_479_customs k) rfl h10 (Nat.le_of_ble_eq_true rfl) hi s10 fun v11 σ₁₁ h11 s11 => ?_
  exact Ex.nil ⟨rfl, q i σ₁₁ hi ⟨[v1, v2, v3, v4, v5, v6, v7, .none, v9, v10, v11], rfl, h11⟩ s11⟩
end
end Mine

namespace Mine
open PySem PySem.W PyProof.Rows PySem.Calls PySem.Spec

noncomputable def b_abouts : List Stmt := stBody (metS 68 2)
noncomputable def s_abouts : Scope := stScope (metS 68 2)
noncomputable def compX : Expr := match b_abouts with
  | [.Return (some e) _] => e
  | _ => default
noncomputable def compS : Scope := match compX with
  | .ListComp _ _ s _ => s
  | _ => default
noncomputable def sortN : Str := Str.ofString "sort"
noncomputable def selfN : Str := Str.ofString "self"
section
variable {c : Cx} {n : Nat} {σ : H}
theorem cells_ab (L : Addr) : cellsFrom (L + 1) s_abouts.names [] = [(sortN, L + 1)] := rfl
theorem abouts_comp (k : Ok c) {d : Dyn} {m : Str → Option Value} {w : Wd} {a0 : Addr} {cn : Str} {cdv : Value} {L' : Addr} {o : Obj} {mo il im : Nat} {fs : List (Str × V)} {t : Tok} {cv : Value} {Q : V → H → Prop} (A : Act c (n + 2) d)
    (hm : m selfN = some cv) (hr : RepV c w (.ref mo) cv) (ho : (L' + 1, o) ∈ d.fr) (hd : o.data = .cell (some (.int 0 t))) (hL : d.L = L') (hmo : σ mo = some (.inst 479 fs)) (hil : fs.lookup (Str.ofString "imports") = some (.ref il)) (hl : σ il = some (.list [.ref im]))
    (him : ∃ v1 v2, σ im = some (.inst 336 [(Str.ofString "place", v1), (Str.ofString "name", v2), (Str.ofString "sort", .int 0), (Str.ofString "about", .int 5)])) (q : ∀ j, σ j = none → Q (.ref j) (σ.set j (.list [.int 5]))) :
    Run c d m (eval compX (envX cn s_abouts L' a0 cdv [(sortN, L' + 1)])) (RepV c) σ w Q := by
  have hcl : closureFor compS (envX cn s_abouts L' a0 cdv [(sortN, L' + 1)]) = pure [(sortN, L' + 1)] := by rfl
  have B : Bind c d m (envX cn s_abouts L' a0 cdv [(sortN, L' + 1)]) s_abouts [(selfN, .ref mo)] w := by
    refine ⟨fun x v e => ?_, rfl, rfl, rfl, fun x h => h⟩
    simp only [List.lookup] at e
    split at e
    · rename_i hx
      cases e
      have : x = selfN := beq_iff_eq.mp hx
      subst this
      exact ⟨cv, hr, fun A Q E s pos F _ q => by
        subst hL
        exact nameX_L F hm q rfl rfl (by decide)⟩
    · cases e
  obtain ⟨v1, v2, him⟩ := him
  refine comp_core (ρf := [(sortN, .int 0)]) A B hcl ⟨rfl, rfl⟩ (by decide) (by decide) rfl (by intro y; rfl) (fun y u e => ?_) ?_
  · simp only [List.lookup] at e
    split at e
    · rename_i hx
      cases e
      have : y = sortN := beq_iff_eq.mp hx
      subst this
      refine ⟨.int 0 t, by simp only [RepV]; exact ⟨_, rfl⟩, fun C d' h0 hL' hfr => ?_⟩
      intro A' Q' E' s pos F hh q
      refine wpAny_Name (wpAny_loadName_cell rfl rfl rfl ⟨o, hh _ (hfr _ ho), hd⟩ q) (by decide)
    · cases e
  · refine IterE.of <| Ev.attr (Ev.loc rfl <| Op1.field (f_479_imports k) hmo hil rfl ⟨itList il, Itr.list hl, 2, ?_⟩)
    simp only [LoopC, itList, hl, List.getElem?_cons_zero, Tests]
    refine Tr.cmp <| Ev.attr (Ev.loc rfl <| Op1.field (f_336_sort k) him rfl rfl <| Ev.loc rfl <| Op2.eqI ⟨_, rfl, ?_⟩)
    refine Ev.attr (Ev.loc rfl <| Op1.field (f_336_about k) him rfl rfl ⟨Nat.le_of_ble_eq_true rfl, ?_⟩)
    simp only [hl, List.getElem?_cons_succ, List.getElem?_nil]
    exact fun j hj => q j hj
theorem abouts_ok (k : Ok c) {mo il im : Nat} {fs : List (Str × V)} {Q : V → H → Prop} (hmo : σ mo = some (.inst 479 fs)) (hil : fs.lookup (Str.ofString "imports") = some (.ref il)) (hl : σ il = some (.list [.ref im]))
    (him : ∃ v1 v2, σ im = some (.inst 336 [(Str.ofString "place", v1), (Str.ofString "name", v2), (Str.ofString "sort", .int 0), (Str.ofString "about", .int 5)])) (q : ∀ j, σ j = none → Q (.ref j) (σ.set j (.list [.int 5]))) :
    CodeR c (n + 3) (.ref 394) [.ref mo, .int 0] σ Q := by
  intro d m w xs A r s R S kq
  obtain ⟨x, y, rfl, r1, r2⟩ := r.two
  simp only [RepV] at r2
  obtain ⟨t, rfl⟩ := r2
  have hK : ∃ name qual params dV kV doc pm cdv ct oc an od osl, c.K.lookup 394 = some ⟨oc, od, .func (fnOf name qual params b_abouts s_abouts dV kV doc pm an cdv ct), osl⟩ ∧ codeIn c.K cdv qual = true ∧
      bindArgs (fnOf name qual params b_abouts s_abouts dV kV doc pm an cdv ct) ⟨[x, .int 0 t], []⟩ = pure [(selfN, x), (sortN, .int 0 t)] := by
    rw [k.K]
    exact ⟨_, _, _, _, _, _, _, _, _, _, _, _, _, rfl, by kernel_rfl, rfl⟩
  obtain ⟨name, qual, params, dV, kV, doc, pm, cdv, ct, oc, an, od, osl, hK, hcd, hb⟩ := hK
  refine code_defC A.B S.F A.X S.N A.T A.hA A.hf A.hk hK hcd (by have := A.dep; omega) (BindsTo.of_eq hb) (by rfl) (by rw [show cellsFrom 0 s_abouts.names [] = [(sortN, 0)] from rfl]; simp) (fun g L' h₁ tk cells FG F' N' Y B' X' T' hlt => ?_) (by rfl) (by rfl) (by rfl)
  rw [cells_ab] at Y
  obtain ⟨o, rfl, hd⟩ := Y.one
  have hd' : o.data = .cell (some (.int 0 t)) := hd
  have A' : Act c (n + 2) ⟨d.A.deeper (envOfC qual s_abouts L' 394 cdv), d.A, d.base, g, L', envOfC qual s_abouts L' 394 cdv, d.fenv :: d.outer, (L' + 1, o) :: d.fr⟩ :=
    ⟨B', Around.frames_deeper A.hA, rfl, rfl, A.hh, X', T', by have := A.dep; show d.A.depth + 1 + 4 * (n + 2) + 4 ≤ recursionLimit; omega, by have := A.un; show d.A.units + 3 + 16 * (n + 2) + 100 ≤ cLine; omega⟩
  have S' : St c ⟨d.A.deeper (envOfC qual s_abouts L' 394 cdv), d.A, d.base, g, L', envOfC qual s_abouts L' 394 cdv, d.fenv :: d.outer, (L' + 1, o) :: d.fr⟩ (bindL (envOfC qual s_abouts L' 394 cdv).kindOf [(selfN, x), (sortN, .int 0 t)] fun _ => none) σ w h₁ := by
    refine ⟨F', fun p hp => ?_, S.D.obj, S.D.apart, fun p hp q hq => ?_, S.D.fin⟩
    · rcases List.mem_append.mp hp with hp | hp
      · exact N' p (List.mem_append_right [(L' + 1, o)] (List.mem_append_left _ hp))
      · rcases List.mem_cons.mp hp with rfl | hp
        · exact N' _ (.head _)
        · exact N' p (List.mem_append_right [(L' + 1, o)] (List.mem_append_right _ hp))
    · rcases List.mem_cons.mp hq with rfl | hq
      · have := hlt p (List.mem_append_left _ hp)
        intro e
        have e' : p.1 = L' + 1 := e
        rw [e'] at this
        exact absurd this (Nat.not_lt.mpr (Nat.le_succ _))
      · exact S.D.frame p hp q hq
  refine wpAny_execs_cons (wpAny_Return_some ?_)
  refine abouts_comp (n := n) (o := o) (t := t) (cv := x) k A' rfl r1 (.head _) hd' rfl hmo hil hl him q { s with heap := h₁, toks := tk } _ _ S' fun v σ' a w' h' tk' q' le' S'' r' => ?_
  refine ⟨L', _, w'.news ++ ((L' + 1, o) :: d.fr), S''.F, S''.N, fun F₂ N₂ => ?_⟩
  refine kq v σ' a w' h' tk' q' le' ⟨F₂, fun p hp => N₂ p ?_, S''.D.obj, S''.D.apart, fun p hp q hq => S''.D.frame p hp q (.tail _ hq), S''.D.fin⟩ r'
  rcases List.mem_append.mp hp with hp | hp
  · exact List.mem_append_left _ hp
  · exact List.mem_append_right _ (.tail _ hp)
end
end Mine

namespace Mine
open PySem PySem.W PyProof.Rows PySem.Calls PySem.Spec

section
variable {c : Cx} {n : Nat} {sc : Scope} {σ : H} {ρ : Loc}
theorem LoopC.mapI {I : It} {x : Str} {ρf : Loc} {elt : Expr} {l : List V} {g : V → V} {Q : List V → H → Prop} (hI : ∀ k, I k σ = some l[k]?) (hz : l.length ≤ sizeLine)
    (he : ∀ v ∈ l, ∀ {Q : V → H → Prop}, Q (g v) σ → Ev c n sc elt ((x, v) :: ρf) σ Q) (q : Q (l.map g) σ) :
    ∀ (m k : Nat) (acc : List V), k + m = l.length → acc = (l.take k).map g → LoopC c n sc x ρf [] elt I Q (m + 1) k acc σ
  | 0, k, acc, hk, ha => by
    have : l[k]? = none := by rw [List.getElem?_eq_none_iff]; omega
    simp only [LoopC, hI, this]
    rw [ha, List.take_of_length_le (by omega)]; exact q
  | m + 1, k, acc, hk, ha => by
    have hlt : k < l.length := by omega
    have : l[k]? = some l[k] := List.getElem?_eq_getElem hlt
    simp only [LoopC, hI, this, Tests, if_true]
    refine he _ (List.getElem_mem hlt) ⟨?_, ?_⟩
    · rw [ha, List.length_map, List.length_take]; omega
    · refine LoopC.mapI hI hz he q m (k + 1) _ (by omega) ?_
      rw [ha, List.take_add_one, this, List.map_append]; rfl
structure FuncsAt (σ : H) (frs : List Nat) : Prop where
  at_ : ∀ i r, frs[i]? = some r → ∃ v2 v3, σ r = some (.inst 364 [(Str.ofString "kind", .int (i : Nat)), (Str.ofString "locals", v2), (Str.ofString "body", v3)])
theorem FuncsAt.sub {σ σ' : H} {frs : List Nat} (F : FuncsAt σ frs) (s : Sub σ σ') : FuncsAt σ' frs := ⟨fun i r h => let ⟨a, b, e⟩ := F.at_ i r h; ⟨a, b, s _ _ e⟩⟩
noncomputable def kindOfR (σ : H) : V → V
  | .ref r => match σ r with | some (.inst _ fs) => (fs.lookup (Str.ofString "kind")).getD .none | _ => .none
  | v => v
theorem FuncsAt.map {σ : H} {frs : List Nat} (F : FuncsAt σ frs) : (frs.map V.ref).map (kindOfR σ) = (List.range frs.length).map fun i => V.int (i : Nat) := by
  apply List.ext_getElem?
  intro i
  rw [List.getElem?_map, List.getElem?_map, List.getElem?_map]
  cases h : frs[i]? with
  | none =>
    have := List.getElem?_eq_none_iff.mp h
    rw [List.getElem?_eq_none (by rw [List.length_range]; exact this)]; rfl
  | some r =>
    obtain ⟨v2, v3, e⟩ := F.at_ i r h
    have hlt := (List.getElem?_eq_some_iff.mp h).1
    rw [List.getElem?_range hlt]
    simp only [Option.map_some, kindOfR, e]; rfl
theorem func_kinds_ok (k : Ok c) {mo il im ful : Nat} {frs : List Nat} {fs : List (Str × V)} {Q : V → H → Prop} (hmo : σ mo = some (.inst 479 fs)) (hab : fs.lookup (Str.ofString "abouts") = none) (hil : fs.lookup (Str.ofString "imports") = some (.ref il)) (hl : σ il = some (.list [.ref im]))
    (him : ∃ v1 v2, σ im = some (.inst 336 [(Str.ofString "place", v1), (Str.ofString "name", v2), (Str.ofString "sort", .int 0), (Str.ofString "about", .int 5)]))
    (hfu : fs.lookup (Str.ofString "funcs") = some (.ref ful)) (hfl : σ ful = some (.list (frs.map V.ref))) (F : FuncsAt σ frs) (h9 : frs.length = 9)
    (q : ∀ j σ', σ' j = some (.list (funcsL.map V.int)) → Sub σ σ' → Q (.ref j) σ') : CodeR c (n + 4) (.ref 399) [.ref mo] σ Q := by
  refine CodeR.enter (d_func_kinds k) rfl ?_
  have sc := (d_func_kinds k).ok
  refine Ex.cons <| Ex1.ret sc <| Ev.bin <| Ev.meth (Ev.loc rfl ⟨mo, _, _, _, rfl, hmo, hab, m_abouts k, Evs.cons <| Ev.gint rfl (gi_FUNCTION k) <| Evs.nil <| CodeR.call <| abouts_ok k hmo hil hl him fun j hj => ?_⟩) (fun env => ⟨_, rfl⟩)
  have s1 : Sub σ (σ.set j (.list [.int 5])) := Sub.fresh hj
  have hjj : (σ.set j (.list [.int 5])) j = some (.list [.int 5]) := H.self
  generalize σ.set j (.list [.int 5]) = σ₁ at *
  have F1 := F.sub s1
  refine Ev.comp ⟨rfl, rfl⟩ (by rfl) (by rfl) rfl <| IterE.of <| Ev.attr (Ev.loc rfl <| Op1.field (f_479_funcs k) (s1 _ _ hmo) hfu rfl ⟨itList ful, Itr.list (s1 _ _ hfl), (frs.map V.ref).length + 1,
    LoopC.map (g := kindOfR σ₁) (s1 _ _ hfl) (by rw [List.length_map, h9]; exact Nat.le_of_ble_eq_true rfl) (fun v hv Q q => ?_) ?_ (frs.map V.ref).length 0 [] (by omega) rfl⟩)
  · obtain ⟨r, hr, rfl⟩ := List.mem_map.mp hv
    obtain ⟨i, hi, rfl⟩ := List.getElem_of_mem hr
    obtain ⟨v2, v3, e⟩ := F1.at_ i _ (List.getElem?_eq_getElem hi)
    have e2 : kindOfR σ₁ (.ref frs[i]) = .int (i : Nat) := by simp only [kindOfR, e]; rfl
    rw [e2] at q
    exact Ev.attr (Ev.loc rfl <| Op1.field (f_364_kind k) e rfl rfl q)
  · rw [F1.map, h9]
    intro j' hj'
    refine Op2.addList (H.get hj' hjj) H.self (Nat.le_of_ble_eq_true rfl) fun r hr => ?_
    have e : O.list ([V.int 5] ++ (List.range 9).map fun i => V.int (i : Nat)) = .list (funcsL.map V.int) := rfl
    rw [e]
    exact q r _ H.self (s1.trans ((Sub.fresh hj').trans (Sub.fresh hr)))
theorem ari_new (k : Ok c) {mo il im ful kl : Nat} {frs : List Nat} {fs : List (Str × V)} {Q : V → H → Prop} (hmo : σ mo = some (.inst 479 fs)) (hab : fs.lookup (Str.ofString "abouts") = none) (hfk : fs.lookup (Str.ofString "func_kinds") = none) (hil : fs.lookup (Str.ofString "imports") = some (.ref il)) (hl : σ il = some (.list [.ref im]))
    (him : ∃ v1 v2, σ im = some (.inst 336 [(Str.ofString "place", v1), (Str.ofString "name", v2), (Str.ofString "sort", .int 0), (Str.ofString "about", .int 5)]))
    (hfu : fs.lookup (Str.ofString "funcs") = some (.ref ful)) (hfl : σ ful = some (.list (frs.map V.ref))) (F : FuncsAt σ frs) (h9 : frs.length = 9) (hk : fs.lookup (Str.ofString "kinds") = some (.ref kl)) (hkl : σ kl = some (.list ((List.range 9).map kindV)))
    (q : ∀ i fl σ', EnvA σ' i kl fl → Sub σ σ' → Q (.ref i) σ') : CodeR c (n + 6) (.ref 268) [.ref mo] σ Q := by
  refine CodeR.make (mk_268 k) fun i hi => CodeR.enter (d_ar_init k) rfl ?_
  have sc := (d_ar_init k).ok
  have s0 : Sub σ (σ.set i (.inst 268 [])) := Sub.fresh hi
  have hii : (σ.set i (.inst 268 [])) i = some (.inst 268 []) := H.self
  generalize σ.set i (.inst 268 []) = σ₁ at *
  have ne : ∀ {j o}, σ j = some o → j ≠ i := fun e q => by rw [q, hi] at e; cases e
  refine Ex.cons <| Ex1.setA sc <| Ev.attr (Ev.loc rfl <| Op1.field (f_479_kinds k) (s0 _ _ hmo) hk rfl <| Ev.loc rfl ⟨i, _, _, rfl, hii, Nat.le_of_ble_eq_true rfl, w_268_kinds k, ?_⟩)
  have s1 : Sub σ (σ₁.set i (.inst 268 (setL [] (Str.ofString "kinds") (.ref kl)))) := fun j o e => (H.ne (ne e)).trans (s0 _ _ e)
  have hi1 : (σ₁.set i (.inst 268 (setL [] (Str.ofString "kinds") (.ref kl)))) i = some (.inst 268 [(Str.ofString "kinds", .ref kl)]) := H.self
  generalize σ₁.set i (.inst 268 (setL [] (Str.ofString "kinds") (.ref kl))) = σ₂ at *
  refine Ex.cons <| Ex1.setA sc <| Ev.meth0 (Ev.loc rfl ⟨mo, _, _, _, rfl, s1 _ _ hmo, hfk, m_func_kinds k, CodeR.call <| func_kinds_ok k (s1 _ _ hmo) hab hil (s1 _ _ hl) (let ⟨a, b, e⟩ := him; ⟨a, b, s1 _ _ e⟩) hfu (s1 _ _ hfl) (F.sub s1) h9 fun j σ₃ hj s3 => Ev.loc rfl ⟨i, _, _, rfl, s3 _ _ hi1, Nat.le_of_ble_eq_true rfl, w_268_funcs k, ?_⟩⟩) (fun env => ⟨_, rfl⟩)
  have hji : j ≠ i := fun q => by rw [q, s3 _ _ hi1] at hj; cases hj
  refine Ex.nil ⟨rfl, q i j _ ⟨H.self, (H.ne (ne hkl)).trans ((s1.trans s3) _ _ hkl), (H.ne hji).trans hj⟩ fun y o e => (H.ne (ne e)).trans ((s1.trans s3) _ _ e)⟩
theorem range_it {M k : Nat} : itRange 0 (M : Nat) k σ = some ((List.range M).map fun i => V.int (i : Nat))[k]? := by
  unfold itRange
  by_cases h : k < M
  · rw [if_pos (by omega), List.getElem?_map, List.getElem?_range h]
    simp only [Option.map_some, Int.zero_add]
  · rw [if_neg (by omega), List.getElem?_eq_none (by simp; omega)]
end
end Mine

namespace Mine
open PySem PySem.W PyProof.Rows PySem.Calls PySem.Spec

noncomputable def b_law : List Stmt := stBody (topS 79)
noncomputable def s_law : Scope := stScope (topS 79)
theorem ok_law : ScOk s_law := ⟨by rfl, by rfl⟩
section
variable {c : Cx} {n : Nat} {sc : Scope} {σ : H} {ρ : Loc}
theorem next_ok0 (k : Ok c) {t : Nat} {ts : List Int} {Q : V → H → Prop} (ht : σ t = some (tapeO ts)) (hz : ts.length < sizeLine) (q : Q (.int (ts.headD 0)) (σ.set t (tapeO ts.tail))) :
    CodeR c (n + 1) (.ref 495) [.ref t] σ Q := by
  refine CodeR.def (d_law_next k) rfl ?_
  refine Ex.cons (Ex1.ret (d_law_next k).ok ?_)
  refine Ev.ite (Tr.cmp (Ev.loc rfl (Ev.listE (Evs.nil ⟨Nat.zero_le _, fun j hj => ?_⟩))))
  refine Op2.neNil (H.get hj ht) H.self ⟨_, rfl, ?_⟩
  cases ts with
  | nil => exact Ev.int ⟨σ.set t (tapeO []), by rw [H.same ht]; exact Sub.fresh hj, q⟩
  | cons x r =>
    have e : (!(List.map V.int (x :: r).reverse).isEmpty) = true := by simp
    rw [e]
    have ht' : σ t = some (.list (r.reverse.map V.int ++ [V.int x])) := by rw [ht, tapeO]; simp
    refine Ev.lmeth0 lm_pop (Ev.loc rfl ⟨t, _, rfl, H.get hj ht', ?_⟩) (fun env => ⟨_, rfl⟩)
    exact CallR.pop (H.get hj ht') (by simp at hz ⊢; omega) ⟨_, Sub.set (Sub.fresh hj), q⟩
theorem PL.kinds : ∀ {X : Pcs} {xs cs}, PL X xs cs → ∀ q ∈ cs, (∃ x f s, q.2 = pieceO x f s) ∨ ∃ xs : List Nat, q.2 = .list (xs.map V.ref)
  | _, _, _, .nil, q, hq => by simp at hq
  | _, _, _, .plain h, q, hq => by
    rcases List.mem_cons.mp hq with rfl | hq
    · exact .inl ⟨_, _, _, rfl⟩
    · exact h.kinds q hq
  | _, _, _, .blk1 h0 h, q, hq => by
    rcases List.mem_cons.mp hq with rfl | hq
    · exact .inl ⟨_, _, _, rfl⟩
    · rcases List.mem_cons.mp hq with rfl | hq
      · exact .inr ⟨_, rfl⟩
      · rcases List.mem_append.mp hq with hq | hq
        · exact h0.kinds q hq
        · exact h.kinds q hq
  | _, _, _, .blk2 h0 h0' h, q, hq => by
    rcases List.mem_cons.mp hq with rfl | hq
    · exact .inl ⟨_, _, _, rfl⟩
    · rcases List.mem_cons.mp hq with rfl | hq
      · exact .inr ⟨_, rfl⟩
      · rcases List.mem_append.mp hq with hq | hq
        · exact h0.kinds q hq
        · rcases List.mem_cons.mp hq with rfl | hq
          · exact .inr ⟨_, rfl⟩
          · rcases List.mem_append.mp hq with hq | hq
            · exact h0'.kinds q hq
            · exact h.kinds q hq
theorem env_off {σ : H} {e ar kl fl i : Nat} {X : Pcs} {xs : List Nat} {cs} (E : EnvE σ e ar kl fl) (hp : PL X xs cs) (hh : Holds σ cs) (hi : σ i = some (refO xs)) : ∀ y ∈ [e, ar, kl, fl], y ∉ i :: keys cs := by
  have key : ∀ y o, σ y = some o → (∀ x f s, o ≠ pieceO x f s) → (∀ xs : List Nat, o ≠ .list (xs.map V.ref)) → y ∉ i :: keys cs := by
    intro y o hy h1 h2 hm
    rcases List.mem_cons.mp hm with rfl | hm
    · rw [hy] at hi; cases hi; exact h2 xs rfl
    · obtain ⟨q, hq, rfl⟩ := List.mem_map.mp hm
      rw [hh q hq] at hy
      cases hy
      rcases hp.kinds q hq with ⟨x, f, s, e⟩ | ⟨xs, e⟩
      · exact h1 x f s e
      · exact h2 xs e
  have nref : ∀ (l : List V) (v : V), l.head? = some v → (∀ j, v ≠ .ref j) → ∀ xs : List Nat, O.list l ≠ .list (xs.map V.ref) := by
    intro l v hv hn xs e
    cases e
    cases xs with
    | nil => simp at hv
    | cons x xs => simp at hv; exact hn x hv.symm
  intro y hy
  simp only [List.mem_cons, List.not_mem_nil, or_false] at hy
  rcases hy with rfl | rfl | rfl | rfl
  · exact key _ _ E.e (fun x f s h => by simp [pieceO] at h) (fun xs h => by cases h)
  · exact key _ _ E.a.ar (fun x f s h => by simp [pieceO] at h) (fun xs h => by cases h)
  · exact key _ _ E.a.kl (fun x f s h => by cases h) (nref _ (kindV 0) rfl (fun j h => by cases h))
  · exact key _ _ E.a.fl (fun x f s h => by cases h) (nref _ (.int 5) rfl (fun j h => by cases h))
/-- the last lines of the law -/
theorem law_tail (k : Ok c) {mo il im ful kl a b res : Nat} {frs : List Nat} {fs : List (Str × V)} {X Y : Pcs} {Q : AF → Loc → H → Prop} (hmo : σ mo = some (.inst 479 fs)) (hab : fs.lookup (Str.ofString "abouts") = none) (hfk : fs.lookup (Str.ofString "func_kinds") = none) (hil : fs.lookup (Str.ofString "imports") = some (.ref il)) (hl : σ il = some (.list [.ref im]))
    (him : ∃ v1 v2, σ im = some (.inst 336 [(Str.ofString "place", v1), (Str.ofString "name", v2), (Str.ofString "sort", .int 0), (Str.ofString "about", .int 5)]))
    (hfu : fs.lookup (Str.ofString "funcs") = some (.ref ful)) (hfl : σ ful = some (.list (frs.map V.ref))) (F : FuncsAt σ frs) (h9 : frs.length = 9) (hk : fs.lookup (Str.ofString "kinds") = some (.ref kl)) (hkl : σ kl = some (.list ((List.range 9).map kindV)))
    (l1 : ρ.lookup (Str.ofString "module") = some (.ref mo)) (l2 : ρ.lookup (Str.ofString "near") = some (.ref a)) (l3 : ρ.lookup (Str.ofString "far") = some (.ref b)) (l4 : ρ.lookup (Str.ofString "results") = some (.int res))
    (ha : σ a = some (insO X.flat)) (hb : σ b = some (insO Y.flat)) (hw : wf X = true) (hc : CutR 4 X 0 res [0] 0 Y) (hX : X.flat.length ≤ 6000000) (hY : Y.flat.length ≤ 6000000)
    (q : ∀ ρ' σ', Q (.ret (.bool true)) ρ' σ') : Ex c 30 s_law (b_law.drop 8) ρ σ Q := by
  have sc := ok_law
  have sz : 6000000 + 100 ≤ sizeLine := Nat.le_of_ble_eq_true rfl
  refine Ex.cons <| Ex1.assign sc rfl <| Ev.callG rfl (g_pieces_of k) (kp_202 k) <| Evs.cons <| Ev.bin <| Ev.loc l2 <| Ev.cLst (X := [[11]]) rfl (by decide) fun j hj => ?_
  refine Op2.addList (H.get hj ha) H.self (by simp only [List.length_map, List.length_cons, List.length_nil]; omega) fun r hr => ?_
  rw [← List.map_append]
  have s1 : Sub σ ((σ.set j (insO [[11]])).set r (.list ((X.flat ++ [[11]]).map insV))) := (Sub.fresh hj).trans (Sub.fresh hr)
  have hr1 : ((σ.set j (insO [[11]])).set r (.list ((X.flat ++ [[11]]).map insV))) r = some (insO (X.flat ++ [[11]])) := H.self
  generalize (σ.set j (insO [[11]])).set r (.list ((X.flat ++ [[11]]).map insV)) = σ₁ at *
  refine Evs.nil <| (pieces_of_ok (n := 20) k hw hr1 (by omega) fun lt σ₂ xs cs pl hh hn ho hhl hnew s2 => ?_).le (by decide)
  have m1 := set_other (x := Str.ofString "pieces") (v := .ref lt) (by decide) l1
  have m3 := set_other (x := Str.ofString "pieces") (v := .ref lt) (by decide) l3
  have m4 := set_other (x := Str.ofString "pieces") (v := .ref lt) (by decide) l4
  have m5 : (setL ρ (Str.ofString "pieces") (.ref lt)).lookup (Str.ofString "pieces") = some (.ref lt) := set_self
  generalize setL ρ (Str.ofString "pieces") (.ref lt) = ρ₁ at *
  have s := s1.trans s2
  refine Ex.cons <| Ex1.expr sc <| Ev.meth (Ev.callG rfl (g_Ends k) (kp_308 k) <| Evs.cons <| Ev.callG rfl (g_Arities k) (kp_268 k) <| Evs.cons <| Ev.loc m1 <| Evs.nil <| (ari_new (n := 20) k (s _ _ hmo) hab hfk hil (s _ _ hl) (let ⟨a, b, e⟩ := him; ⟨a, b, s _ _ e⟩) hfu (s _ _ hfl) (F.sub s) h9 hk (s _ _ hkl) fun ar fl σ₃ EA s3 => Evs.nil <| (ends_new (n := 20) k fun e he => ?_).le (by decide)).le (by decide)) (fun env => ⟨_, rfl⟩)
  have s4 : Sub σ₃ (σ₃.set e (.inst 308 [(Str.ofString "arities", .ref ar)])) := Sub.fresh he
  have E : EnvE (σ₃.set e (.inst 308 [(Str.ofString "arities", .ref ar)])) e ar kl fl := ⟨H.self, EA.sub s4⟩
  generalize σ₃.set e (.inst 308 [(Str.ofString "arities", .ref ar)]) = σ₄ at *
  have s24 := s3.trans s4
  have hh4 := hh.sub s24
  have hl4 := s24 _ _ hhl
  refine ⟨e, _, _, _, rfl, E.e, rfl, m_cut k, Evs.cons <| Ev.loc m5 <| Evs.cons <| Ev.int <| Evs.cons <| Ev.loc m4 <| Evs.cons <| Ev.tuple <| Evs.cons <| Ev.int <| Evs.nil ⟨Nat.le_of_ble_eq_true rfl, Evs.cons <| Ev.int <| Evs.nil ?_⟩⟩
  have cut := cut_ok k 4 (h := 0) (res := res) (dp := 0) (tls := [0]) (env_off E pl hh4 hl4) hc E hl4 pl hh4 hn ho (by omega) (by decide)
    (Q := fun v σ' => v = .none ∧ ∃ xs' cs', After σ₄ lt Y (keys cs) σ' xs' cs') (fun σ' xs' cs' af => ⟨rfl, xs', cs', af⟩)
  refine CodeR.call ((cut.le (n := 30) (by decide)).mono fun v σ₅ hv => ⟨hv.1, ?_⟩)
  obtain ⟨_, xs', cs', af⟩ := hv
  have bNone : b ∉ lt :: keys cs := fun hm => by have := hnew b hm; rw [s1 _ _ hb] at this; cases this
  have hb5 := af.fra b _ bNone (s24 _ _ (s _ _ hb))
  have hnest := nest_cut hc
  refine Ex.cons <| Ex1.ret sc <| Ev.cmp <| Ev.callG rfl (g_body_of k) (kp_216 k) <| Evs.cons <| Ev.loc m5 <| Evs.nil <| (body_of_ok (n := 10) (lvl := 3) k (by omega) af.at_ af.pl af.holds (by omega) fun jb σ₆ hjb s6 => ?_).le (by decide)
  refine Ev.bin <| Ev.loc m3 <| Ev.cLst (X := [[11]]) rfl (by decide) fun j2 hj2 => ?_
  refine Op2.addList (H.get hj2 (s6 _ _ hb5)) H.self (by simp only [List.length_map, List.length_cons, List.length_nil]; omega) fun r2 hr2 => ?_
  rw [← List.map_append]
  refine Op2.eqIns (H.get hr2 (H.get hj2 hjb)) H.self ?_
  rw [decide_eq_true rfl]
  exact q _ _
end
end Mine

namespace Mine
open PySem PySem.W PyProof.Rows PySem.Calls PySem.Spec

noncomputable def kindG : V → V
  | .int i => kindV i.toNat
  | v => v
section
variable {c : Cx} {n : Nat} {sc : Scope} {σ : H} {ρ : Loc}
theorem funcs_comp {x : Str} {elt : Expr} {Q : List V → H → Prop} (he : ∀ {σ : H} (i : Nat) {Q : V → H → Prop}, (∀ r σ', Sub σ σ' → (∃ v2 v3, σ' r = some (.inst 364 [(Str.ofString "kind", .int (i : Nat)), (Str.ofString "locals", v2), (Str.ofString "body", v3)])) → Q (.ref r) σ') → Ev c n sc elt [(x, .int (i : Nat))] σ Q) (σ₀ : H)
    (q : ∀ frs σ', frs.length = 9 → FuncsAt σ' frs → Sub σ₀ σ' → Q (frs.map V.ref) σ') :
    ∀ (m k : Nat) (frs : List Nat) (σ : H), k + m = 9 → frs.length = k → FuncsAt σ frs → Sub σ₀ σ → LoopC c n sc x [] [] elt (itRange 0 (9 : Nat)) Q (m + 1) k (frs.map V.ref) σ
  | 0, k, frs, σ, hk, hf, F, s => by
    have e : itRange 0 (9 : Nat) k σ = some none := by unfold itRange; rw [if_neg (by omega)]
    simp only [LoopC, e]
    exact q frs σ (by omega) F s
  | m + 1, k, frs, σ, hk, hf, F, s => by
    have e : itRange 0 (9 : Nat) k σ = some (some (.int (k : Nat))) := by unfold itRange; rw [if_pos (by omega), Int.zero_add]
    simp only [LoopC, e, Tests, if_true]
    refine he k fun r σ' s' hr => ⟨by rw [List.length_map, hf]; exact Nat.lt_of_lt_of_le (show k < 10 by omega) (Nat.le_of_ble_eq_true rfl), ?_⟩
    have e2 : frs.map V.ref ++ [V.ref r] = (frs ++ [r]).map V.ref := by rw [List.map_append]; rfl
    rw [e2]
    refine funcs_comp he σ₀ q m (k + 1) (frs ++ [r]) σ' (by omega) (by rw [List.length_append, hf]; rfl) ⟨fun i r' h => ?_⟩ (s.trans s')
    by_cases hi : i < frs.length
    · rw [List.getElem?_append_left hi] at h
      exact (F.sub s').at_ i r' h
    · rw [List.getElem?_append_right (by omega)] at h
      have : i - frs.length = 0 := by
        rcases Nat.eq_zero_or_pos (i - frs.length) with h0 | h0
        · exact h0
        · rw [List.getElem?_eq_none (by simp; omega)] at h; cases h
      rw [this] at h
      simp at h
      subst h
      have : i = k := by omega
      subst this
      exact hr
theorem law_ex (k : Ok c) {v0 : V} {t : Nat} {ns : List Int} {Q : AF → Loc → H → Prop} {σ₁ : H} (ht1 : σ₁ t = some (tapeO ns)) (hn : ns.length ≤ 63) (q : ∀ ρ' σ', Q (.ret (.bool true)) ρ' σ') : Ex c 30 s_law (b_law.drop 1) [(Str.ofString "script", v0), (Str.ofString "tape", .ref t)] σ₁ Q := by
  have sc := ok_law
  have hsz : ns.length < sizeLine := Nat.lt_of_le_of_lt hn (Nat.le_of_ble_eq_true rfl)
  refine Ex.cons <| Ex1.assign sc rfl <| Ev.bin <| Ev.callG rfl (g_law_next k) (kp_495 k) <| Evs.cons <| Ev.loc rfl <| Evs.nil <| next_ok0 (n := 29) k ht1 hsz <| Ev.int <| Op2.mod (by decide) ?_
  rw [show ((ns.headD 0).fmod 3) = (nx ns 3 : Nat) from nx_fmod ns (m := 3) (by decide)]
  have hres : nx ns 3 ≤ 2 := by have := nx_lt ns (m := 3) (by decide); omega
  generalize nx ns 3 = res at hres ⊢
  have ht2 : (σ₁.set t (tapeO ns.tail)) t = some (tapeO ns.tail) := H.self
  generalize σ₁.set t (tapeO ns.tail) = σ₂ at *
  have htz : ns.tail.length < sizeLine := by rw [List.length_tail]; omega
  generalize ns.tail = ts at *
  refine Ex.cons <| Ex1.assign sc rfl <| Ev.callK0 <| Ev.gref rfl (g_Module k) ⟨_, rfl, kp_479 k, CodeR.call <| (mod_new (n := 20) k fun mo σ₃ hmo0 hmod s3 => ?_).le (by decide)⟩
  obtain ⟨vs, hv, hmo⟩ := hmod
  match vs, hv with
  | [v1, v2, v3, v4, v5, v6, v7, v8, v9, v10, v11], _ =>
  have ne : ∀ {j o}, σ₂ j = some o → j ≠ mo := fun e q => by rw [q, hmo0] at e; cases e
  -- kinds
  refine Ex.cons <| Ex1.setA sc <| Ev.comp ⟨rfl, rfl⟩ (by rfl) (by rfl) rfl <| IterE.range <| Ev.blt rfl (gb_range k) bb_range ⟨rfl, Ev.int ⟨9, rfl, by decide, 9 + 1,
    LoopC.mapI (l := (List.range 9).map fun i => V.int (i : Nat)) (g := kindG) (fun k => range_it) (Nat.le_of_ble_eq_true rfl) (fun v hv Q q => ?_) ?_ 9 0 [] rfl rfl⟩⟩ (by decide) rfl
  · obtain ⟨i, hi, rfl⟩ := List.mem_map.mp hv
    have hi9 := List.mem_range.mp hi
    refine Ev.tuple <| Evs.cons <| Ev.bin <| Ev.tuple <| Evs.cons <| Ev.neg <| Ev.int ⟨1, rfl, Evs.nil ⟨Nat.le_of_ble_eq_true rfl, Ev.bin <| Ev.loc rfl <| Ev.int <| Op2.fdiv (by decide) (pylong3 (by omega)) ?_⟩⟩
    rw [fdivE]
    refine Op2.mulTup1 (by omega) (by omega) <| Evs.cons <| Ev.bin <| Ev.tuple <| Evs.cons <| Ev.neg <| Ev.int ⟨1, rfl, Evs.nil ⟨Nat.le_of_ble_eq_true rfl, Ev.bin <| Ev.loc rfl <| Ev.int <| Op2.mod (by decide) ?_⟩⟩
    rw [fmodE]
    refine Op2.mulTup1 (by omega) (by omega) <| Evs.nil ⟨Nat.le_of_ble_eq_true rfl, ?_⟩
    exact q
  rw [show ((List.range 9).map fun i => V.int (i : Nat)).map kindG = (List.range 9).map kindV by rw [List.map_map]; rfl]
  intro kl hkl0
  refine Ev.loc rfl ⟨mo, _, _, rfl, H.get hkl0 hmo, Nat.le_of_ble_eq_true rfl, w_479_kinds k, ?_⟩
  have kl_mo : kl ≠ mo := (ne_of hkl0 hmo).symm
  have s4 : Sub σ₂ ((σ₃.set kl (.list ((List.range 9).map kindV))).set mo (.inst 479 (setL (modN.zip [v1, v2, v3, v4, v5, v6, v7, v8, v9, v10, v11]) (Str.ofString "kinds") (.ref kl)))) := fun j o e => (H.ne (ne e)).trans (H.get hkl0 (s3 _ _ e))
  have hkl4 : ((σ₃.set kl (.list ((List.range 9).map kindV))).set mo (.inst 479 (setL (modN.zip [v1, v2, v3, v4, v5, v6, v7, v8, v9, v10, v11]) (Str.ofString "kinds") (.ref kl)))) kl = some (.list ((List.range 9).map kindV)) := (H.ne kl_mo).trans H.self
  have hmo4 : ((σ₃.set kl (.list ((List.range 9).map kindV))).set mo (.inst 479 (setL (modN.zip [v1, v2, v3, v4, v5, v6, v7, v8, v9, v10, v11]) (Str.ofString "kinds") (.ref kl)))) mo = some (.inst 479 (modN.zip [.ref kl, v2, v3, v4, v5, v6, v7, v8, v9, v10, v11])) := H.self
  generalize (σ₃.set kl (.list ((List.range 9).map kindV))).set mo (.inst 479 (setL (modN.zip [v1, v2, v3, v4, v5, v6, v7, v8, v9, v10, v11]) (Str.ofString "kinds") (.ref kl))) = σ₄ at *
  -- imports
  refine Ex.cons <| Ex1.setA sc <| Ev.listE <| Evs.cons <| Ev.callG rfl (g_Import k) (kp_336 k) <| Evs.cons <| Ev.str <| Evs.cons <| Ev.str <| Evs.cons <| Ev.int <| Evs.cons <| Ev.int <| Evs.nil <| (imp_new (n := 20) k fun im him0 => Evs.nil ⟨Nat.le_of_ble_eq_true rfl, fun il hil0 => Ev.loc rfl ⟨mo, _, _, rfl, H.get hil0 (H.get him0 hmo4), Nat.le_of_ble_eq_true rfl, w_479_imports k, ?_⟩⟩).le (by decide)
  have im_mo : im ≠ mo := (ne_of him0 hmo4).symm
  have il_mo : il ≠ mo := (ne_of hil0 (H.get him0 hmo4)).symm
  have gen5 : ∀ (oI oL oM : O), ∃ σ₅, σ₅ = ((σ₄.set im oI).set il oL).set mo oM ∧ σ₅ im = some oI ∧ σ₅ il = some oL ∧ σ₅ mo = some oM ∧ (∀ j o, j ≠ mo → σ₄ j = some o → σ₅ j = some o) := fun oI oL oM =>
    ⟨_, rfl, (H.ne im_mo).trans ((H.ne (fun e => by rw [e] at hil0; rw [H.self] at hil0; cases hil0)).trans H.self), (H.ne il_mo).trans H.self, H.self, fun j o h e => (H.ne h).trans ((H.ne (ne_of hil0 (H.get him0 e))).trans (H.get him0 e))⟩
  obtain ⟨σ₅, e5, him5, hil5, hmo5, f5⟩ := gen5 _ _ _
  rw [← e5]
  clear gen5
  have hmo5' : σ₅ mo = some (.inst 479 (modN.zip [.ref kl, .ref il, v3, v4, v5, v6, v7, v8, v9, v10, v11])) := hmo5
  have s5 : Sub σ₂ σ₅ := fun j o e => f5 j o (ne e) (s4 _ _ e)
  have hkl5 := f5 _ _ kl_mo hkl4
  clear hmo5 e5
  -- funcs
  refine Ex.cons <| Ex1.setA sc <| Ev.comp ⟨rfl, rfl⟩ (by rfl) (by rfl) rfl <| IterE.range <| Ev.blt rfl (gb_range k) bb_range ⟨rfl, Ev.int ⟨9, rfl, by decide, 9 + 1,
    funcs_comp (fun i Q q => ?_) σ₅ (fun frs σ₆ h9 F s6 ful hful => ?_) 9 0 [] σ₅ rfl rfl ⟨fun i r h => by simp at h⟩ (.refl _)⟩⟩ (by decide) rfl
  · refine Ev.callG rfl (g_Func k) (kp_364 k) <| Evs.cons <| Ev.loc rfl <| Evs.cons <| Ev.tuple <| Evs.nil ⟨Nat.le_of_ble_eq_true rfl, Evs.cons <| Ev.cLst (X := [[11]]) rfl (by decide) fun j hj => Evs.nil <| (func_new (n := 20) k fun r hr => ?_).le (by decide)⟩
    exact q r _ ((Sub.fresh hj).trans (Sub.fresh hr)) ⟨_, _, H.self⟩
  have hmo6 := s6 _ _ hmo5'
  refine Ev.loc rfl ⟨mo, _, _, rfl, H.get hful hmo6, Nat.le_of_ble_eq_true rfl, w_479_funcs k, ?_⟩
  have ful_mo : ful ≠ mo := (ne_of hful hmo6).symm
  have gen7 : ∀ (oF oM : O), ∃ σ₇, σ₇ = (σ₆.set ful oF).set mo oM ∧ σ₇ ful = some oF ∧ σ₇ mo = some oM ∧ (∀ j o, j ≠ mo → σ₆ j = some o → σ₇ j = some o) := fun oF oM =>
    ⟨_, rfl, (H.ne ful_mo).trans H.self, H.self, fun j o h e => (H.ne h).trans (H.get hful e)⟩
  obtain ⟨σ₇, e7, hful7, hmo7, f7⟩ := gen7 _ _
  rw [← e7]
  clear gen7
  have hmo7' : σ₇ mo = some (.inst 479 (modN.zip [.ref kl, .ref il, .ref ful, v4, v5, v6, v7, v8, v9, v10, v11])) := hmo7
  have s7 : Sub σ₂ σ₇ := fun j o e => f7 j o (ne e) (s6 _ _ (s5 _ _ e))
  have hkl7 := f7 _ _ kl_mo (s6 _ _ hkl5)
  have hil7 := f7 _ _ il_mo (s6 _ _ hil5)
  have him7 := f7 _ _ im_mo (s6 _ _ him5)
  have F7 : FuncsAt σ₇ frs := ⟨fun i r h => by
    obtain ⟨a, b, e⟩ := F.at_ i r h
    exact ⟨a, b, f7 r _ (fun q => by rw [q, hmo6] at e; cases e) e⟩⟩
  clear hmo7 e7
  have ht7 := s7 _ _ ht2
  -- near, far
  refine Ex.cons <| Ex1.swap (xs := [Str.ofString "near", Str.ofString "far"]) sc (by decide) <| Ev.tuple <| Evs.cons <| Ev.listE <| Evs.nil ⟨Nat.le_of_ble_eq_true rfl, fun a ha0 => Evs.cons <| Ev.listE <| Evs.nil ⟨Nat.le_of_ble_eq_true rfl, fun b hb0 => Evs.nil ⟨Nat.le_of_ble_eq_true rfl, _, rfl, rfl, ?_⟩⟩⟩
  have s8 : Sub σ₇ ((σ₇.set a (.list [])).set b (.list [])) := (Sub.fresh ha0).trans (Sub.fresh hb0)
  have ha8 : ((σ₇.set a (.list [])).set b (.list [])) a = some (insO []) := H.get hb0 H.self
  have hb8 : ((σ₇.set a (.list [])).set b (.list [])) b = some (insO []) := H.self
  have ta : t ≠ a := ne_of ha0 ht7
  have tb : t ≠ b := ne_of hb0 (H.get ha0 ht7)
  have ab : a ≠ b := ne_of hb0 H.self
  have offO : ∀ {j o}, σ₇ j = some o → j ≠ t → St3.Off t a b j := fun e h => ⟨h, ne_of ha0 e, ne_of hb0 (H.get ha0 e)⟩
  generalize (σ₇.set a (.list [])).set b (.list []) = σ₈ at *
  refine Ex.cons <| Ex1.expr sc <| Ev.callG rfl (g_law_list k) (kp_542 k) <| Evs.cons <| Ev.loc rfl <| Evs.cons <| Ev.loc rfl <| Evs.cons <| Ev.loc rfl <| Evs.cons <| Ev.int <| Evs.cons <| Ev.loc rfl <| Evs.cons <| Ev.listE <| Evs.cons <| Ev.int <| Evs.nil ⟨Nat.le_of_ble_eq_true rfl, fun tl htl0 => Evs.cons <| Ev.listE <| Evs.cons <| Ev.loc rfl <| Evs.nil ⟨Nat.le_of_ble_eq_true rfl, fun lb hlb0 => Evs.cons <| Ev.int <| Evs.nil ?_⟩⟩
  have S8 : St3 σ₈ t a b σ₈ ts [] [] := ⟨s8 _ _ ht7, ha8, hb8, ta, tb, ab, fun _ _ _ _ _ e => e, htz⟩
  have S9 := (S8.fresh (o := .list [.int 0]) htl0).fresh (o := .list [.int res]) hlb0
  have oT := S8.off htl0
  have oL := (S8.fresh (o := .list [.int 0]) htl0).off hlb0
  have hT : ((σ₈.set tl (.list [.int 0])).set lb (.list [.int res])) tl = some (natO [0]) := H.get hlb0 H.self
  have hL : ((σ₈.set tl (.list [.int 0])).set lb (.list [.int res])) lb = some (natO [res].reverse) := H.self
  have sz : 5000000 + 3000 ≤ sizeLine := Nat.le_of_ble_eq_true rfl
  have hW : W 3 = 5000000 := by decide
  have LL := list_ok k 3 20 (h := 0) (res := res) (dp := 0) (tls := [0]) (ls := [res]) (Q := fun v σ' => v = .none ∧ ∃ ts' X Y, St3 σ₈ t a b σ' ts' (Pcs.flat X) (Pcs.flat Y) ∧ wf X = true ∧ CutR 4 X 0 res [0] 0 Y ∧ X.flat.length ≤ W 3 ∧ Y.flat.length ≤ W 3)
    S9 hT oT hL oL rfl (by simp; exact hres) (by decide) (by decide) (by decide) hres (by simp only [List.length_nil]; omega) (by simp only [List.length_nil]; omega) (fun σ' ts' X Y S' wX cX lX lY => ⟨rfl, ts', X, Y, by simpa using S', wX, cX, lX, lY⟩)
  refine (LL.le (n := 30) (by decide)).mono fun v σ₉ hv => ⟨hv.1, ?_⟩
  obtain ⟨_, ts', X, Y, S10, wX, cX, lX, lY⟩ := hv
  have off7 : ∀ {j o}, σ₇ j = some o → j ≠ t → σ₉ j = some o := fun e h => S10.get (offO e h) (s8 _ _ e)
  have net : ∀ {j o}, σ₇ j = some o → (∀ ts : List Int, o ≠ tapeO ts) → j ≠ t := fun e h q => by rw [q, ht7] at e; cases e; exact h _ rfl
  have n479 : ∀ fs, ∀ ts : List Int, O.inst 479 fs ≠ tapeO ts := fun fs ts h => by cases h
  have nhead : ∀ (l : List V) (v : V), l.head? = some v → (∀ j, v ≠ .int j) → ∀ ts : List Int, O.list l ≠ tapeO ts := by
    intro l v hv hn ts e
    have e' : l = ts.reverse.map V.int := by cases e; rfl
    rw [e'] at hv
    cases h : ts.reverse with
    | nil => rw [h] at hv; simp at hv
    | cons x xs => rw [h] at hv; simp at hv; exact hn x hv.symm
  have F9 : FuncsAt σ₉ frs := ⟨fun i r h => by
    obtain ⟨a, b, e⟩ := F7.at_ i r h
    exact ⟨a, b, off7 e (net e fun ts h => by cases h)⟩⟩
  have hfrs : ∃ r0 rs, frs = r0 :: rs := by
    cases frs with
    | nil => cases h9
    | cons r0 rs => exact ⟨r0, rs, rfl⟩
  obtain ⟨r0, rs, hfr⟩ := hfrs
  refine law_tail k (off7 hmo7' (net hmo7' (n479 _))) rfl rfl rfl (off7 hil7 (net hil7 (nhead _ (.ref im) rfl fun j h => by cases h))) ⟨_, _, off7 him7 (net him7 fun ts h => by cases h)⟩ rfl
    (off7 hful7 (net hful7 (nhead _ (.ref r0) (by rw [hfr]; rfl) fun j h => by cases h))) F9 h9 rfl (off7 hkl7 (net hkl7 (nhead _ (kindV 0) rfl fun j h => by cases h))) rfl rfl rfl rfl S10.nr S10.fr wX cX (by omega) (by omega) q

theorem RepVs.ints {c : Cx} {w : Wd} : ∀ {vs : List Value} {ns : List Int}, IntsAre vs ns → RepVs c w (ns.map V.int) vs
  | _, _, .nil => .nil
  | _, _, .cons n t h => RepVs.cons (by simp only [RepV]; exact ⟨t, rfl⟩) (RepVs.ints h)
/-- the whole body, the script's list in the heap ahead -/
theorem law_run (k : Ok c) {d : Dyn} {m : Str → Option Value} {env : Env} {w : Wd} {a : Addr} {vs : List Value} {ns : List Int} {Q : AF → Loc → H → Prop} (A : Act c 30 d) (fe : FnEnv s_law d env) (l : Lcl c s_law m w [(Str.ofString "script", .con (.ref a))]) (hl : d.h₀.IsList a vs.toArray) (hI : IntsAre vs ns) (hn : ns.length ≤ 63)
    (q : ∀ ρ' σ', Q (.ret (.bool true)) ρ' σ') : RunS c s_law d m (execs b_law env) [(Str.ofString "script", .con (.ref a))] σ w Q := by
  intro s Qc E S kk
  have sc := ok_law
  refine wpAny_execs_cons (wpAny_Assign_Name (pos := _) ?_ (by rfl))
  have B := l.bind sc fe
  refine Subscript_ (Ev.loc (c := c) (n := 30) (sc := s_law) (σ := σ) (Q := fun v σ' => v = .con (.ref a) ∧ σ' = σ) rfl ⟨rfl, rfl⟩ d m env w A B s _ E S fun u σ₁ x w₁ h₁ tk₁ q₁ le₁ S₁ r₁ => ?_)
  obtain ⟨rfl, rfl⟩ := q₁
  simp only [RepV] at r₁
  subst r₁
  refine wpAny_Slice ?_
  rw [evalPart_none, evalPart_some]
  refine wpAny_pure (wpAny_pure ?_)
  refine Ev.neg (c := c) (n := 30) (sc := s_law) (Q := fun v σ' => v = .int (-1) ∧ σ' = σ₁) (Ev.int ⟨1, rfl, rfl, rfl⟩) d m env w₁ A (B.mono le₁) _ _ E S₁ fun u σ₂ y w₂ h₂ tk₂ q₂ le₂ S₂ r₂ => ?_
  obtain ⟨rfl, rfl⟩ := q₂
  simp only [RepV] at r₂
  obtain ⟨u, rfl⟩ := r₂
  obtain ⟨ob, ho, hrest⟩ := hl
  have hl' : h₂.IsList a vs.toArray := ⟨ob, S₂.F.keep _ _ ho, hrest⟩
  have hlen : vs.length = ns.length := by have := (RepVs.ints (c := c) (w := w₂) hI).length; rw [List.length_map] at this; omega
  refine krv_lit (s := { s with heap := h₂, toks := tk₂ }) S₂.F S₂.N hl' (.int (-1) u) rfl (fun D h' F' N' hlt => ?_) (by rfl) (by intro _; rfl) (by simp only [List.size_toArray]; exact Nat.le_trans (show _ ≤ 63 by omega) (Nat.le_of_ble_eq_true rfl))
  obtain ⟨i', hi, hσ⟩ := S₂.free
  obtain ⟨le, S'⟩ := S₂.newListO (n := 0) (vs := vs.reverse) F' (by simpa using N') (fun q hq => Nat.ne_of_lt (hlt q hq)) (RepVs.ints (c := c) hI).reverse hi
  have leA := (le₁.trans le₂).trans le
  refine store_run (σ := σ₂.set i' (.list (ns.map V.int).reverse)) (v := .ref i') (x := Str.ofString "tape") (s := { s with heap := h', toks := tk₂ }) sc fe S' (l.mono leA) rfl (by simp only [RepV]; exact ⟨_, if_pos rfl, rfl⟩) fun m' h'' tk' S'' l'' => ?_
  have ht1 : (σ₂.set i' (.list (ns.map V.int).reverse)) i' = some (tapeO ns) := by rw [H.self, tapeO, List.map_reverse]
  refine law_ex k (v0 := .con (.ref a)) ht1 hn q d m' env _ A fe l'' _ _ E S'' fun f ρ' σ' fc m'' w'' h3 tk3 q' le' S3 l3 rf => ?_
  exact kk f ρ' σ' fc m'' w'' h3 tk3 q' (leA.trans le') S3 l3 rf
end
end Mine

namespace Mine
open PySem PySem.W PyProof.Rows PySem.Calls PySem.Spec
theorem finish {w : World} {p : Program} {loose : List Str} {mean : ExcName → Option Value} {mg mb : Str → Option Value} {h₀ : Heap} (T : Top p loose mean mg mb h₀) (KX : (Hd.heap w.params).In h₀) (K0 : Below callerA h₀ [] h₀) {a : Addr} {vs : List Value} {ns : List Int}
    (hL : h₀.IsList a vs.toArray) (hI : IntsAre vs ns) (hlen : ns.length ≤ 63) {L fa : Addr} {h₁ : Heap} {cdv : Value} {qual : Str} {m : Str → Option Value} (hm : m (Str.ofString "script") = some (.ref a)) (F : Fr h₀ L h₁ m) (N0 : News h₀ L h₁ []) {Qc : Flow → Shared → Prop} {E : Value → Shared → Prop} {s : Shared} (hs : s.heap = h₁)
    (post : ∀ h' tk m', Fr h₀ L h' m' → Qc (.ret (.bool true)) { s with heap := h', toks := tk }) : wpAny (model PySem.Challenge.pw_nm0148_01 w) (callerA.deeper (envOf qual s_law L fa cdv)) (execs b_law (envOf qual s_law L fa cdv)) Qc E s := by
  let c : Cx := ⟨PySem.Challenge.pw_nm0148_01, w, Hd.heap w.params, p, loose, mean, mg, mb⟩
  have k : Ok c := ⟨rfl, rfl⟩
  let d : Dyn := ⟨callerA.deeper (envOf qual s_law L fa cdv), callerA, h₀, h₀, L, envOf qual s_law L fa cdv, [], []⟩
  have A : Act c 30 d := ⟨K0, Around.frames_deeper K0.stack, rfl, ok_law.kind, rfl, KX, T, by show callerA.depth + 1 + 4 * 30 + 4 ≤ recursionLimit; decide, by show callerA.units + 3 + 16 * 30 + 100 ≤ cLine; decide⟩
  have fe : FnEnv s_law d (envOf qual s_law L fa cdv) := ⟨⟨qual, fa, cdv, [], rfl⟩, rfl⟩
  have l : Lcl c s_law m ⟨fun _ => none, []⟩ [(Str.ofString "script", .con (.ref a))] := ⟨fun x v e => by
    simp only [List.lookup] at e
    split at e
    · rename_i hx
      cases e
      have : x = Str.ofString "script" := beq_iff_eq.mp hx
      subst this
      exact ⟨rfl, _, hm, by simp only [RepV]⟩
    · cases e⟩
  subst hs
  have S : St c d m (fun _ => none) ⟨fun _ => none, []⟩ s.heap := ⟨F, N0, ⟨(fun i o e => nomatch e), (fun i j p q hij hi => nomatch hi), (fun p hp => nomatch hp), ⟨0, fun _ _ => rfl⟩⟩⟩
  refine law_run k (Q := fun f _ _ => f = .ret (.bool true)) A fe l hL hI hlen (fun _ _ => rfl) s Qc E S fun f ρ' σ' fc m' w' h' tk hf _ S' _ rf => ?_
  subst hf
  obtain ⟨x, rfl, rx⟩ := rf
  simp only [RepV] at rx
  subst rx
  exact post _ _ _ S'.F
end Mine

open PySem PySem.W PyProof.Rows in
set_option maxHeartbeats 8000000 in
theorem PySem.Challenge.cw_nm0148_01_holds : PySem.Challenge.rw_nm0148_01.Holds := by
  refine Mine.Hd.hd ?_
  intro w s₀ s₁ mg mb G Y fa o pm cd doc dV kV ho hd hcd hD hmg hg args vals as hpre hlay hrd hwl hlo
  have KX := kIn_of Y
  refine Ground.open G ?_
  intro T B D TE TW
  clear D
  clear hmg
  wrow_args hpre hlay hrd hwl hlo
  refine enter_call ?_
  w_top on
  refine codeAny_mono ?_ (fun _ _ g => GoodW.toG g)
  have K0 := below_caller (Top.heap T)
  w_call any ho hd hcd hD T F
  refine Mine.finish (by assumption) (by assumption) (by assumption) (by assumption) (by assumption) ?hlen ?hm (by assumption) (by assumption) rfl ?post
  case hm => rfl
  case hlen => omega
  case post => intro h' tk m' F'; exact goodW_bool F' (by assumption) (fun _ => rfl) (by first | decide +kernel | (with_unfolding_all rfl))
