import PyProof.Rows.All
import Wide.All
import OpenK.AllK
import Wide.FinOn
import PySem.Challenge.RW_nn0057_01
open PySem PySem.W PySem.Calls PyProof.Rows
set_option Elab.async false
set_option maxRecDepth 100000
set_option maxHeartbeats 0
set_option linter.unusedVariables false
set_option linter.unusedSimpArgs false
set_option compiler.extract_closed false
set_option genInjectivity false
set_option genSizeOf false
set_option bootstrap.genMatcherCode false
set_option hygiene false
namespace Mine
-- Head
noncomputable abbrev pg : Program := PySem.Challenge.rw_nn0057_01.row.toRowW.prog
noncomputable abbrev pgm : Program := PySem.Challenge.rw_nn0057_01.row.prog
noncomputable def nth : List Stmt → Nat → Stmt
  | [], _ => .Pass default
  | s :: _, 0 => s
  | _ :: r, n + 1 => nth r n
noncomputable def T (i : Nat) : Stmt := nth pg.main.body i
noncomputable def M (i j : Nat) : Stmt := match T i with
  | .ClassDef _ _ _ b _ _ _ _ _ _ _ => nth b j
  | s => s
noncomputable def fO (st : Stmt) (q : Str) (m d : Value) (c : Nat) : Obj := match st with
  | .FunctionDef n a b _ _ _ sc _ _ _ => { cls := .type "function", data := .func { name := n, qualname := q, params := a, body := .stmts b, scope := sc, globals := 3, closure := [], defaults := d, kwdefaults := .none, pyModule := m, code := .ref c } }
  | _ => { cls := .none, data := .plain }
noncomputable def gO' (st : Stmt) (q : Str) : Obj := match st with
  | .FunctionDef n a b _ _ _ sc _ _ _ => { cls := .none, data := .func { name := n, qualname := q, params := a, body := .stmts b, scope := sc, globals := 0, closure := [], defaults := .none, kwdefaults := .none } }
  | _ => { cls := .none, data := .plain }
noncomputable def nmO : Stmt → Str
  | .FunctionDef n .. => n
  | _ => ""
noncomputable def tO (vs : List Value) : Obj := { cls := .type "tuple", data := .seq vs.toArray 0 }
noncomputable def tks : List (Str × NameKind) → Nat → List Value
  | [], _ => []
  | (x, .local) :: r, t => .str x t :: tks r (t + 1)
  | _ :: r, t => tks r t
noncomputable def vnO (st : Stmt) (t : Nat) : Obj := match st with
  | .FunctionDef _ _ _ _ _ _ sc _ _ _ => tO (tks sc.names t)
  | _ => { cls := .none, data := .plain }
noncomputable def cO (n q : Str) (t l c b : Nat) (k : Bool) (u : Nat) : Obj := { cls := .type "code", data := .fields #[.str n t, .str q (t + 1), .str "/claim/cut.py" (t + 2), .int l 0, .int c 0, .int 0 0, .int 0 0, .int 3 0, .ref b, .bool true, .int 181 0, .ref (b + 1), .none,
  if k then .ref (b + 2) else .none, if k then .ref (b + 3) else .none, .ref (if k then b + 4 else b + 2), .int u 0, .int l 0, .str "/claim/cut.py" (u + 1)] }
noncomputable def ccO (n : Str) (t l b u : Nat) : Obj := { cls := .type "code", data := .fields #[.str n t, .str n (t + 1), .str "/claim/cut.py" (t + 2), .int l 0, .int 0 0, .int 0 0, .int 0 0, .int 0 0, .ref b, .bool false, .int 181 0, .ref (b + 1), .none, .none, .none, .none, .int u 0, .int l 0, .str "/claim/cut.py" (u + 1)] }
noncomputable def kO (n : Str) (bs mro sb : List Value) (ns : Nat) (s : Option Value) (t u : Nat) (nw : Value) : Obj := { cls := .type "type", data := .cls { name := n, bases := bs, mro := mro, ns := ns, qualname := n, subclasses := sb }, slots := #[s, none, some (.str n t), some (.str n u), some nw, some (.bool true)] }
noncomputable def dEn (P : Params) (e : Str × Nat × Value) : DictEntry := ⟨PyData.keyHash P e.1, .str e.1 e.2.1, e.2.2⟩
noncomputable def dO (P : Params) (n : Nat) (es : List (Str × Nat × Value)) : Obj := { cls := .type "dict", data := .dict (es.map (dEn P)).toArray n }
noncomputable def lO (es : List (Int × Int × Nat)) : Obj := { cls := .none, data := .fields (es.flatMap fun e => [.int e.1 0, .int e.2.1 0, .ref e.2.2]).toArray }
noncomputable def pO (a b : Value) : Obj := { cls := .type "builtin_function_or_method", data := .fields #[a, b] }
noncomputable def gO (vs : List Value) : Obj := { cls := .type "getset_descriptor", data := .fields vs.toArray }
noncomputable def sO (c : Nat) : Obj := { cls := .type "super", data := .fields #[.ref c, .ref c, .ref c] }
noncomputable def rO (c n : Nat) (m : Value) : Obj := { cls := .type "frame", data := .plain, slots := #[some (.ref c), some (.ref 3), some (.ref n), none, some m, none, some (.ref 0)] }
noncomputable def O (o : Obj) (r : List Obj) : List Obj := o :: r
noncomputable def D (st : Stmt) (q : Str) (m d : Value) (b t l c u : Nat) (k : Bool) (r : List Obj) : List Obj := match k with
  | true => tO [] :: lO [] :: vnO st (t + 3) :: tO [] :: gO' st q :: cO (nmO st) q t l c b true u :: fO st q m d (b + 5) :: r
  | false => tO [] :: lO [] :: gO' st q :: cO (nmO st) q t l c b false u :: fO st q m d (b + 3) :: r
noncomputable def o11 : Obj := tO []
noncomputable def o12 : Obj := lO []
noncomputable def o14 : Obj := rO 13 3 (.str "__main__" 164)
noncomputable def o13 : Obj := ccO "<module>" 182 1 11 185
noncomputable abbrev m0 : Value := .str "__main__" 164
noncomputable abbrev m1 : Value := .str "octetmint.basics" 194
noncomputable abbrev m2 : Value := .str "octetmint.flags" 289
noncomputable abbrev m3 : Value := .str "octetmint.registers" 408
noncomputable abbrev m4 : Value := .str "octetmint.machine" 533
noncomputable abbrev m5 : Value := .str "octetmint.operands" 825
noncomputable abbrev m6 : Value := .str "law_nn0057_01" 1034
noncomputable def ms24 (r : List (Str × Nat × Value)) : List (Str × Nat × Value) := ("__init__", 216, .ref 36) :: ("told", 223, .ref 43) :: r
noncomputable def ms52 (r : List (Str × Nat × Value)) : List (Str × Nat × Value) := r
noncomputable def ms64 (r : List (Str × Nat × Value)) : List (Str × Nat × Value) := r
noncomputable def ms97 (r : List (Str × Nat × Value)) : List (Str × Nat × Value) := ("__init__", 325, .ref 108) :: ("told", 332, .ref 115) :: ("pack", 340, .ref 122) :: ("unpack", 348, .ref 129) :: ("unpack_low", 356, .ref 136) :: ("copy", 364, .ref 143) :: ("get", 373, .ref 150) :: ("put", 385, .ref 157) :: ("show", 392, .ref 164) :: r
noncomputable def ms174 (r : List (Str × Nat × Value)) : List (Str × Nat × Value) := ("__init__", 442, .ref 185) :: ("code", 449, .ref 192) :: ("is_extended", 456, .ref 199) :: ("is_high", 463, .ref 206) :: ("needs_rex", 470, .ref 213) :: ("told", 477, .ref 220) :: r
noncomputable def ms272 (r : List (Str × Nat × Value)) : List (Str × Nat × Value) := ("__init__", 555, .ref 283) :: ("octet", 563, .ref 290) :: ("set_octet", 572, .ref 297) :: ("read", 583, .ref 304) :: ("write", 594, .ref 311) :: ("load", 603, .ref 318) :: ("octets", 609, .ref 323) :: ("written", 615, .ref 328) :: ("spans", 627, .ref 335) :: ("find", 638, .ref 342) :: ("copy", 647, .ref 349) :: ("told", 654, .ref 356) :: r
noncomputable def ms373 (r : List (Str × Nat × Value)) : List (Str × Nat × Value) := ("__init__", 692, .ref 384) :: ("get", 700, .ref 391) :: ("put", 710, .ref 398) :: ("put_low", 721, .ref 405) :: ("registers", 727, .ref 410) :: ("offset", 736, .ref 417) :: ("place", 745, .ref 424) :: ("size_of", 754, .ref 431) :: ("read", 763, .ref 438) :: ("write", 773, .ref 445) :: ("push", 782, .ref 452) :: ("pop", 791, .ref 459) :: ("told", 799, .ref 466) :: ("copy", 807, .ref 473) :: r
noncomputable def ms483 (r : List (Str × Nat × Value)) : List (Str × Nat × Value) := ("__init__", 846, .ref 494) :: ("told", 853, .ref 501) :: ("symbol", 860, .ref 508) :: ("registers", 867, .ref 515) :: r
noncomputable def ms525 (r : List (Str × Nat × Value)) : List (Str × Nat × Value) := ("__init__", 896, .ref 536) :: ("told", 903, .ref 543) :: ("registers", 910, .ref 550) :: r
noncomputable def ms558 (r : List (Str × Nat × Value)) : List (Str × Nat × Value) := ("__init__", 937, .ref 570) :: ("told", 944, .ref 577) :: ("symbol", 951, .ref 584) :: r
noncomputable def ms592 (r : List (Str × Nat × Value)) : List (Str × Nat × Value) := ("__init__", 986, .ref 604) :: ("told", 995, .ref 611) :: ("symbol", 1002, .ref 618) :: ("registers", 1008, .ref 623) :: ("is_rip", 1015, .ref 630) :: ("is_absolute", 1022, .ref 637) :: r
noncomputable def mD (P : Params) : Obj := dO P 66 (("__name__", 165, .str "law_nn0057_01" 1034) :: ("__doc__", 166, .none) :: ("__package__", 167, .none) :: ("__loader__", 168, .builtin "__main__.__loader__#opaque") :: ("__spec__", 169, .none) :: ("__annotations__", 170, .ref 6) :: ("__builtins__", 171, .ref 4) :: ("__file__", 173, .str "/claim/cut.py" 172) :: ("__cached__", 174, .none) :: ("_wall", 193, .ref 21) :: ("MintError", 233, .ref 46) :: ("OperandError", 249, .ref 59) :: ("MachineError", 265, .ref 71) :: ("mask", 272, .ref 80) :: ("wrap", 280, .ref 87) :: ("bit", 288, .ref 94) :: ("CF", 292, .int 0 291) :: ("PF", 294, .int 2 293) :: ("AF", 296, .int 4 295) :: ("ZF", 298, .int 6 297) :: ("SF", 300, .int 7 299) :: ("DF", 302, .int 10 301) :: ("OF", 304, .int 11 303) :: ("FLAG_NAMES", 306, .str "cf pf af zf sf of df" 305) :: ("Flags", 407, .ref 167) :: ("NAMES_8", 411, .str "al cl dl bl spl bpl sil dil" 410) :: ("NAMES_16", 413, .str "ax cx dx bx sp bp si di" 412) :: ("NAMES_32", 415, .str "eax ecx edx ebx esp ebp esi edi" 414) :: ("NAMES_64", 417, .str "rax rcx rdx rbx rsp rbp rsi rdi" 416) :: ("HIGH_NAMES", 419, .str "ah ch dh bh" 418) :: ("Register", 489, .ref 223) :: ("early_names", 496, .ref 234) :: ("late_ending", 503, .ref 241) :: ("gpr", 512, .ref 248) :: ("high", 519, .ref 255) :: ("xmm", 526, .ref 262) :: ("rip", 532, .ref 269) :: ("STACK", 536, .int 4 535) :: ("Memory", 663, .ref 359) :: ("joined", 672, .ref 370) :: ("State", 824, .ref 476) :: ("Operand", 876, .ref 518) :: ("Reg", 915, .ref 553) :: ("Imm", 957, .ref 587) :: ("Mem", 1033, .ref 640) :: ("_law_all", 1041, .ref 649) :: ("_law_raw", 1049, .ref 656) :: ("_law_draw", 1057, .ref 663) :: ("_law_worth", 1066, .ref 670) :: ("_law_register", 1075, .ref 677) :: ("_law_begin", 1082, .ref 684) :: ("_law_number", 1091, .ref 691) :: ("_law_get", 1101, .ref 698) :: ("_law_put", 1114, .ref 705) :: ("_law_load", 1120, .ref 710) :: ("_law_store", 1132, .ref 717) :: ("_law_spot", 1145, .ref 724) :: ("_law_mem", 1154, .ref 731) :: ("_law_offset", 1163, .ref 738) :: ("_law_place", 1171, .ref 745) :: ("_law_stack", 1184, .ref 752) :: ("_law_looked", 1190, .ref 757) :: ("_law_deed", 1207, .ref 764) :: ("_law_due", 1213, .ref 769) :: ("_law_spans_right", 1219, .ref 774) :: ("law", 1235, .ref 781) :: [])
noncomputable def sD (P : Params) : Obj := { dO P 2 (("type.__subclasses__.Exception.0", 230, .int 46 0) :: ("type.__subclasses__.Exception.n", 231, .int 1 0) :: []) with cls := .none }
noncomputable def o12z : Obj := lO ((1, 0, 20) :: (5, 0, 27) :: (16, 0, 55) :: (18, 0, 67) :: (20, 0, 79) :: (22, 0, 86) :: (24, 0, 93) :: (35, 0, 100) :: (92, 0, 177) :: (114, 0, 233) :: (124, 0, 240) :: (132, 0, 247) :: (139, 0, 254) :: (143, 0, 261) :: (147, 0, 268) :: (151, 0, 275) :: (208, 0, 369) :: (212, 0, 376) :: (313, 0, 486) :: (326, 0, 528) :: (337, 0, 561) :: (349, 0, 595) :: (378, 0, 648) :: (380, 0, 655) :: (386, 0, 662) :: (388, 0, 669) :: (391, 0, 676) :: (396, 0, 683) :: (400, 0, 690) :: (405, 0, 697) :: (408, 0, 704) :: (415, 0, 709) :: (417, 0, 716) :: (421, 0, 723) :: (432, 0, 730) :: (435, 0, 737) :: (444, 0, 744) :: (446, 0, 751) :: (456, 0, 756) :: (470, 0, 763) :: (491, 0, 768) :: (497, 0, 773) :: (505, 0, 780) :: [])
noncomputable def segs (P : Params) : List Obj :=
  D (T 0) "_wall" m0 (.none) 15 187 1 1 191 true <|
  O (tO [.type "Exception"]) <|
  O (pO (.builtin "type.__prepare__") (.type "type")) <|
  O (dO P 6 (("__module__", 203, .str "octetmint.basics" 194) :: ("__qualname__", 205, .str "MintError" 204) :: ("__firstlineno__", 207, .int 5 206) :: ms24 (("__static_attributes__", 226, .ref 44) :: []))) <|
  O (tO []) <|
  O (lO [(7, 4, 35), (12, 4, 42)]) <|
  O (ccO "MintError" 198 5 25 201) <|
  O (rO 27 24 m1) <|
  O (tO [.none]) <|
  D (M 2 0) "MintError.__init__" m1 (.ref 29) 30 208 7 3 214 true <|
  D (M 2 1) "MintError.told" m1 (.none) 37 217 12 1 221 true <|
  O (tO [.str "at" 224, .str "what" 225]) <|
  O (dO P 3 (("__module__", 203, .str "octetmint.basics" 194) :: ("__firstlineno__", 207, .int 5 206) :: ms24 (("__static_attributes__", 226, .ref 44) :: ("__weakref__", 228, .ref 47) :: ("__doc__", 229, .none) :: []))) <|
  O (kO "MintError" [.type "Exception"] [.ref 46, .type "Exception", .type "BaseException", .type "object"] [.ref 59, .ref 71] 45 (some (.ref 22)) 196 204 (.builtin "Exception.__new__")) <|
  O (gO [.str "__weakref__" 227, .ref 46, .builtin "ExceptionGroup.__weakref__", .none]) <|
  O (sO 46) <|
  O (pO (.builtin "object.__init_subclass__") (.ref 46)) <|
  O (tO [.ref 46]) <|
  O (pO (.builtin "type.__prepare__") (.type "type")) <|
  O (dO P 4 (("__module__", 241, .str "octetmint.basics" 194) :: ("__qualname__", 243, .str "OperandError" 242) :: ("__firstlineno__", 245, .int 16 244) :: ms52 (("__static_attributes__", 246, .ref 57) :: []))) <|
  O (tO []) <|
  O (lO []) <|
  O (ccO "OperandError" 236 16 53 239) <|
  O (rO 55 52 m1) <|
  O (tO []) <|
  O (dO P 2 (("__module__", 241, .str "octetmint.basics" 194) :: ("__firstlineno__", 245, .int 16 244) :: ms52 (("__static_attributes__", 246, .ref 57) :: ("__doc__", 247, .none) :: []))) <|
  O (kO "OperandError" [.ref 46] [.ref 59, .ref 46, .type "Exception", .type "BaseException", .type "object"] [] 58 (some (.ref 50)) 234 242 (.builtin "Exception.__new__")) <|
  O (sO 59) <|
  O (pO (.builtin "object.__init_subclass__") (.ref 59)) <|
  O (tO [.ref 46]) <|
  O (pO (.builtin "type.__prepare__") (.type "type")) <|
  O (dO P 4 (("__module__", 257, .str "octetmint.basics" 194) :: ("__qualname__", 259, .str "MachineError" 258) :: ("__firstlineno__", 261, .int 18 260) :: ms64 (("__static_attributes__", 262, .ref 69) :: []))) <|
  O (tO []) <|
  O (lO []) <|
  O (ccO "MachineError" 252 18 65 255) <|
  O (rO 67 64 m1) <|
  O (tO []) <|
  O (dO P 2 (("__module__", 257, .str "octetmint.basics" 194) :: ("__firstlineno__", 261, .int 18 260) :: ms64 (("__static_attributes__", 262, .ref 69) :: ("__doc__", 263, .none) :: []))) <|
  O (kO "MachineError" [.ref 46] [.ref 71, .ref 46, .type "Exception", .type "BaseException", .type "object"] [] 70 (some (.ref 62)) 250 258 (.builtin "Exception.__new__")) <|
  O (sO 71) <|
  O (pO (.builtin "object.__init_subclass__") (.ref 71)) <|
  D (T 5) "mask" m1 (.none) 74 266 20 1 270 true <|
  D (T 6) "wrap" m1 (.none) 81 273 22 2 278 true <|
  D (T 7) "bit" m1 (.none) 88 281 24 2 286 true <|
  O (tO []) <|
  O (pO (.builtin "type.__prepare__") (.type "type")) <|
  O (dO P 13 (("__module__", 314, .str "octetmint.flags" 289) :: ("__qualname__", 316, .str "Flags" 315) :: ("__firstlineno__", 318, .int 35 317) :: ms97 (("__static_attributes__", 400, .ref 165) :: []))) <|
  O (tO []) <|
  O (lO [(37, 4, 107), (46, 4, 114), (49, 4, 121), (53, 4, 128), (62, 4, 135), (65, 4, 142), (70, 4, 149), (76, 4, 156), (84, 4, 163)]) <|
  O (ccO "Flags" 309 35 98 312) <|
  O (rO 100 97 m2) <|
  D (M 17 0) "Flags.__init__" m2 (.none) 102 319 37 1 323 true <|
  D (M 17 1) "Flags.told" m2 (.none) 109 326 46 1 330 true <|
  D (M 17 2) "Flags.pack" m2 (.none) 116 333 49 1 338 true <|
  D (M 17 3) "Flags.unpack" m2 (.none) 123 341 53 2 346 true <|
  D (M 17 4) "Flags.unpack_low" m2 (.none) 130 349 62 2 354 true <|
  D (M 17 5) "Flags.copy" m2 (.none) 137 357 65 1 362 true <|
  D (M 17 6) "Flags.get" m2 (.none) 144 365 70 2 371 true <|
  D (M 17 7) "Flags.put" m2 (.none) 151 374 76 3 383 true <|
  D (M 17 8) "Flags.show" m2 (.none) 158 386 84 1 390 true <|
  O (tO [.str "af" 393, .str "cf" 394, .str "df" 395, .str "of" 396, .str "pf" 397, .str "sf" 398, .str "zf" 399]) <|
  O (dO P 4 (("__module__", 314, .str "octetmint.flags" 289) :: ("__firstlineno__", 318, .int 35 317) :: ms97 (("__static_attributes__", 400, .ref 165) :: ("__dict__", 402, .ref 168) :: ("__weakref__", 404, .ref 169) :: ("__doc__", 405, .none) :: []))) <|
  O (kO "Flags" [.type "object"] [.ref 167, .type "object"] [] 166 none 307 315 (.builtin "object.__new__")) <|
  O (gO [.str "__dict__" 401, .ref 167, .builtin "function.__dict__", .builtin "function.__dict__#set"]) <|
  O (gO [.str "__weakref__" 403, .ref 167, .builtin "ExceptionGroup.__weakref__", .none]) <|
  O (sO 167) <|
  O (pO (.builtin "object.__init_subclass__") (.ref 167)) <|
  O (tO []) <|
  O (pO (.builtin "type.__prepare__") (.type "type")) <|
  O (dO P 10 (("__module__", 427, .str "octetmint.registers" 408) :: ("__qualname__", 429, .str "Register" 428) :: ("__firstlineno__", 431, .int 92 430) :: ms174 (("__static_attributes__", 482, .ref 221) :: []))) <|
  O (tO []) <|
  O (lO [(94, 4, 184), (100, 4, 191), (103, 4, 198), (106, 4, 205), (109, 4, 212), (112, 4, 219)]) <|
  O (ccO "Register" 422 92 175 425) <|
  O (rO 177 174 m3) <|
  D (M 24 0) "Register.__init__" m3 (.none) 179 432 94 5 440 true <|
  D (M 24 1) "Register.code" m3 (.none) 186 443 100 1 447 true <|
  D (M 24 2) "Register.is_extended" m3 (.none) 193 450 103 1 454 true <|
  D (M 24 3) "Register.is_high" m3 (.none) 200 457 106 1 461 true <|
  D (M 24 4) "Register.needs_rex" m3 (.none) 207 464 109 1 468 true <|
  D (M 24 5) "Register.told" m3 (.none) 214 471 112 1 475 true <|
  O (tO [.str "kind" 478, .str "name" 479, .str "number" 480, .str "size" 481]) <|
  O (dO P 4 (("__module__", 427, .str "octetmint.registers" 408) :: ("__firstlineno__", 431, .int 92 430) :: ms174 (("__static_attributes__", 482, .ref 221) :: ("__dict__", 484, .ref 224) :: ("__weakref__", 486, .ref 225) :: ("__doc__", 487, .none) :: []))) <|
  O (kO "Register" [.type "object"] [.ref 223, .type "object"] [] 222 none 420 428 (.builtin "object.__new__")) <|
  O (gO [.str "__dict__" 483, .ref 223, .builtin "function.__dict__", .builtin "function.__dict__#set"]) <|
  O (gO [.str "__weakref__" 485, .ref 223, .builtin "ExceptionGroup.__weakref__", .none]) <|
  O (sO 223) <|
  O (pO (.builtin "object.__init_subclass__") (.ref 223)) <|
  D (T 25) "early_names" m3 (.none) 228 490 114 1 494 true <|
  D (T 26) "late_ending" m3 (.none) 235 497 124 1 501 true <|
  D (T 27) "gpr" m3 (.none) 242 504 132 2 510 true <|
  D (T 28) "high" m3 (.none) 249 513 139 1 517 true <|
  D (T 29) "xmm" m3 (.none) 256 520 143 1 524 true <|
  D (T 30) "rip" m3 (.none) 263 527 147 0 530 true <|
  O (tO []) <|
  O (pO (.builtin "type.__prepare__") (.type "type")) <|
  O (dO P 16 (("__module__", 544, .str "octetmint.machine" 533) :: ("__qualname__", 546, .str "Memory" 545) :: ("__firstlineno__", 548, .int 151 547) :: ms272 (("__static_attributes__", 656, .ref 357) :: []))) <|
  O (tO []) <|
  O (lO [(153, 4, 282), (156, 4, 289), (159, 4, 296), (162, 4, 303), (168, 4, 310), (172, 4, 317), (175, 4, 322), (178, 4, 327), (181, 4, 334), (194, 4, 341), (200, 4, 348), (206, 4, 355)]) <|
  O (ccO "Memory" 539 151 273 542) <|
  O (rO 275 272 m4) <|
  D (M 33 0) "Memory.__init__" m4 (.none) 277 549 153 1 553 true <|
  D (M 33 1) "Memory.octet" m4 (.none) 284 556 156 2 561 true <|
  D (M 33 2) "Memory.set_octet" m4 (.none) 291 564 159 3 570 true <|
  D (M 33 3) "Memory.read" m4 (.none) 298 573 162 3 581 true <|
  D (M 33 4) "Memory.write" m4 (.none) 305 584 168 4 592 true <|
  D (M 33 5) "Memory.load" m4 (.none) 312 595 172 3 601 true <|
  D (M 33 6) "Memory.octets" m4 (.none) 319 604 175 3 607 false <|
  D (M 33 7) "Memory.written" m4 (.none) 324 610 178 1 613 false <|
  D (M 33 8) "Memory.spans" m4 (.none) 329 616 181 1 625 true <|
  D (M 33 9) "Memory.find" m4 (.none) 336 628 194 4 636 true <|
  D (M 33 10) "Memory.copy" m4 (.none) 343 639 200 1 645 true <|
  D (M 33 11) "Memory.told" m4 (.none) 350 648 206 1 652 true <|
  O (tO [.str "held" 655]) <|
  O (dO P 4 (("__module__", 544, .str "octetmint.machine" 533) :: ("__firstlineno__", 548, .int 151 547) :: ms272 (("__static_attributes__", 656, .ref 357) :: ("__dict__", 658, .ref 360) :: ("__weakref__", 660, .ref 361) :: ("__doc__", 661, .none) :: []))) <|
  O (kO "Memory" [.type "object"] [.ref 359, .type "object"] [] 358 none 537 545 (.builtin "object.__new__")) <|
  O (gO [.str "__dict__" 657, .ref 359, .builtin "function.__dict__", .builtin "function.__dict__#set"]) <|
  O (gO [.str "__weakref__" 659, .ref 359, .builtin "ExceptionGroup.__weakref__", .none]) <|
  O (sO 359) <|
  O (pO (.builtin "object.__init_subclass__") (.ref 359)) <|
  D (T 34) "joined" m4 (.none) 364 664 208 3 670 true <|
  O (tO []) <|
  O (pO (.builtin "type.__prepare__") (.type "type")) <|
  O (dO P 18 (("__module__", 680, .str "octetmint.machine" 533) :: ("__qualname__", 682, .str "State" 681) :: ("__firstlineno__", 684, .int 212 683) :: ms373 (("__static_attributes__", 817, .ref 474) :: []))) <|
  O (tO []) <|
  O (lO [(214, 4, 383), (225, 4, 390), (236, 4, 397), (248, 4, 404), (255, 4, 409), (258, 4, 416), (266, 4, 423), (270, 4, 430), (273, 4, 437), (280, 4, 444), (288, 4, 451), (292, 4, 458), (297, 4, 465), (301, 4, 472)]) <|
  O (ccO "State" 675 212 374 678) <|
  O (rO 376 373 m4) <|
  D (M 35 0) "State.__init__" m4 (.none) 378 685 214 2 690 true <|
  D (M 35 1) "State.get" m4 (.none) 385 693 225 2 698 true <|
  D (M 35 2) "State.put" m4 (.none) 392 701 236 3 708 true <|
  D (M 35 3) "State.put_low" m4 (.none) 399 711 248 4 719 true <|
  D (M 35 4) "State.registers" m4 (.none) 406 722 255 1 725 false <|
  D (M 35 5) "State.offset" m4 (.none) 411 728 258 2 734 true <|
  D (M 35 6) "State.place" m4 (.none) 418 737 266 2 743 true <|
  D (M 35 7) "State.size_of" m4 (.none) 425 746 270 3 752 true <|
  D (M 35 8) "State.read" m4 (.none) 432 755 273 3 761 true <|
  D (M 35 9) "State.write" m4 (.none) 439 764 280 4 771 true <|
  D (M 35 10) "State.push" m4 (.none) 446 774 288 3 780 true <|
  D (M 35 11) "State.pop" m4 (.none) 453 783 292 2 789 true <|
  D (M 35 12) "State.told" m4 (.none) 460 792 297 1 797 true <|
  D (M 35 13) "State.copy" m4 (.none) 467 800 301 1 805 true <|
  O (tO [.str "begin" 808, .str "flags" 809, .str "is_halted" 810, .str "iset" 811, .str "memory" 812, .str "regs" 813, .str "rip" 814, .str "segments" 815, .str "xmm" 816]) <|
  O (dO P 4 (("__module__", 680, .str "octetmint.machine" 533) :: ("__firstlineno__", 684, .int 212 683) :: ms373 (("__static_attributes__", 817, .ref 474) :: ("__dict__", 819, .ref 477) :: ("__weakref__", 821, .ref 478) :: ("__doc__", 822, .none) :: []))) <|
  O (kO "State" [.type "object"] [.ref 476, .type "object"] [] 475 none 673 681 (.builtin "object.__new__")) <|
  O (gO [.str "__dict__" 818, .ref 476, .builtin "function.__dict__", .builtin "function.__dict__#set"]) <|
  O (gO [.str "__weakref__" 820, .ref 476, .builtin "ExceptionGroup.__weakref__", .none]) <|
  O (sO 476) <|
  O (pO (.builtin "object.__init_subclass__") (.ref 476)) <|
  O (tO []) <|
  O (pO (.builtin "type.__prepare__") (.type "type")) <|
  O (dO P 8 (("__module__", 834, .str "octetmint.operands" 825) :: ("__qualname__", 836, .str "Operand" 835) :: ("__firstlineno__", 838, .int 313 837) :: ms483 (("__static_attributes__", 869, .ref 516) :: []))) <|
  O (tO []) <|
  O (lO [(315, 4, 493), (318, 4, 500), (321, 4, 507), (324, 4, 514)]) <|
  O (ccO "Operand" 829 313 484 832) <|
  O (rO 486 483 m5) <|
  D (M 37 0) "Operand.__init__" m5 (.none) 488 839 315 2 844 true <|
  D (M 37 1) "Operand.told" m5 (.none) 495 847 318 1 851 true <|
  D (M 37 2) "Operand.symbol" m5 (.none) 502 854 321 1 858 true <|
  D (M 37 3) "Operand.registers" m5 (.none) 509 861 324 1 865 true <|
  O (tO [.str "kind" 868]) <|
  O (dO P 4 (("__module__", 834, .str "octetmint.operands" 825) :: ("__firstlineno__", 838, .int 313 837) :: ms483 (("__static_attributes__", 869, .ref 516) :: ("__dict__", 871, .ref 519) :: ("__weakref__", 873, .ref 520) :: ("__doc__", 874, .none) :: []))) <|
  O (kO "Operand" [.type "object"] [.ref 518, .type "object"] [.ref 553, .ref 587, .ref 640] 517 none 827 835 (.builtin "object.__new__")) <|
  O (gO [.str "__dict__" 870, .ref 518, .builtin "function.__dict__", .builtin "function.__dict__#set"]) <|
  O (gO [.str "__weakref__" 872, .ref 518, .builtin "ExceptionGroup.__weakref__", .none]) <|
  O (sO 518) <|
  O (pO (.builtin "object.__init_subclass__") (.ref 518)) <|
  O (tO [.ref 518]) <|
  O (pO (.builtin "type.__prepare__") (.type "type")) <|
  O (dO P 7 (("__module__", 884, .str "octetmint.operands" 825) :: ("__qualname__", 886, .str "Reg" 885) :: ("__firstlineno__", 888, .int 326 887) :: ms525 (("__static_attributes__", 912, .ref 551) :: []))) <|
  O (tO []) <|
  O (lO [(328, 4, 535), (332, 4, 542), (335, 4, 549)]) <|
  O (ccO "Reg" 879 326 526 882) <|
  O (rO 528 525 m5) <|
  D (M 38 0) "Reg.__init__" m5 (.none) 530 889 328 2 894 true <|
  D (M 38 1) "Reg.told" m5 (.none) 537 897 332 1 901 true <|
  D (M 38 2) "Reg.registers" m5 (.none) 544 904 335 1 908 true <|
  O (tO [.str "register" 911]) <|
  O (dO P 2 (("__module__", 884, .str "octetmint.operands" 825) :: ("__firstlineno__", 888, .int 326 887) :: ms525 (("__static_attributes__", 912, .ref 551) :: ("__doc__", 913, .none) :: []))) <|
  O (kO "Reg" [.ref 518] [.ref 553, .ref 518, .type "object"] [] 552 (some (.ref 523)) 877 885 (.builtin "object.__new__")) <|
  O (sO 553) <|
  O (pO (.builtin "object.__init_subclass__") (.ref 553)) <|
  O (tO [.ref 518]) <|
  O (pO (.builtin "type.__prepare__") (.type "type")) <|
  O (dO P 7 (("__module__", 923, .str "octetmint.operands" 825) :: ("__qualname__", 925, .str "Imm" 924) :: ("__firstlineno__", 927, .int 337 926) :: ms558 (("__static_attributes__", 954, .ref 585) :: []))) <|
  O (tO []) <|
  O (lO [(339, 4, 569), (344, 4, 576), (347, 4, 583)]) <|
  O (ccO "Imm" 918 337 559 921) <|
  O (rO 561 558 m5) <|
  O (tO [.str "" 928]) <|
  D (M 39 0) "Imm.__init__" m5 (.ref 563) 564 929 339 3 935 true <|
  D (M 39 1) "Imm.told" m5 (.none) 571 938 344 1 942 true <|
  D (M 39 2) "Imm.symbol" m5 (.none) 578 945 347 1 949 true <|
  O (tO [.str "name" 952, .str "worth" 953]) <|
  O (dO P 2 (("__module__", 923, .str "octetmint.operands" 825) :: ("__firstlineno__", 927, .int 337 926) :: ms558 (("__static_attributes__", 954, .ref 585) :: ("__doc__", 955, .none) :: []))) <|
  O (kO "Imm" [.ref 518] [.ref 587, .ref 518, .type "object"] [] 586 (some (.ref 556)) 916 924 (.builtin "object.__new__")) <|
  O (sO 587) <|
  O (pO (.builtin "object.__init_subclass__") (.ref 587)) <|
  O (tO [.ref 518]) <|
  O (pO (.builtin "type.__prepare__") (.type "type")) <|
  O (dO P 10 (("__module__", 965, .str "octetmint.operands" 825) :: ("__qualname__", 967, .str "Mem" 966) :: ("__firstlineno__", 969, .int 349 968) :: ms592 (("__static_attributes__", 1030, .ref 638) :: []))) <|
  O (tO []) <|
  O (lO [(351, 4, 603), (361, 4, 610), (366, 4, 617), (369, 4, 622), (372, 4, 629), (375, 4, 636)]) <|
  O (ccO "Mem" 960 349 593 963) <|
  O (rO 595 592 m5) <|
  O (tO [.int 0 970, .str "" 971, .str "" 972]) <|
  D (M 40 0) "Mem.__init__" m5 (.ref 597) 598 973 351 8 984 true <|
  D (M 40 1) "Mem.told" m5 (.none) 605 987 361 1 993 true <|
  D (M 40 2) "Mem.symbol" m5 (.none) 612 996 366 1 1000 true <|
  D (M 40 3) "Mem.registers" m5 (.none) 619 1003 369 1 1006 false <|
  D (M 40 4) "Mem.is_rip" m5 (.none) 624 1009 372 1 1013 true <|
  D (M 40 5) "Mem.is_absolute" m5 (.none) 631 1016 375 1 1020 true <|
  O (tO [.str "base" 1023, .str "index" 1024, .str "name" 1025, .str "scale" 1026, .str "segment" 1027, .str "size" 1028, .str "worth" 1029]) <|
  O (dO P 2 (("__module__", 965, .str "octetmint.operands" 825) :: ("__firstlineno__", 969, .int 349 968) :: ms592 (("__static_attributes__", 1030, .ref 638) :: ("__doc__", 1031, .none) :: []))) <|
  O (kO "Mem" [.ref 518] [.ref 640, .ref 518, .type "object"] [] 639 (some (.ref 590)) 958 966 (.builtin "object.__new__")) <|
  O (sO 640) <|
  O (pO (.builtin "object.__init_subclass__") (.ref 640)) <|
  D (T 42) "_law_all" m6 (.none) 643 1036 378 0 1039 true <|
  D (T 43) "_law_raw" m6 (.none) 650 1042 380 1 1047 true <|
  D (T 44) "_law_draw" m6 (.none) 657 1050 386 2 1055 true <|
  D (T 45) "_law_worth" m6 (.none) 664 1058 388 1 1064 true <|
  D (T 46) "_law_register" m6 (.none) 671 1067 391 1 1073 true <|
  D (T 47) "_law_begin" m6 (.none) 678 1076 396 1 1080 true <|
  D (T 48) "_law_number" m6 (.none) 685 1083 400 1 1089 true <|
  D (T 49) "_law_get" m6 (.none) 692 1092 405 3 1099 true <|
  D (T 50) "_law_put" m6 (.none) 699 1102 408 4 1112 true <|
  D (T 51) "_law_load" m6 (.none) 706 1115 415 3 1118 false <|
  D (T 52) "_law_store" m6 (.none) 711 1121 417 4 1130 true <|
  D (T 53) "_law_spot" m6 (.none) 718 1133 421 2 1143 true <|
  D (T 54) "_law_mem" m6 (.none) 725 1146 432 2 1152 true <|
  D (T 55) "_law_offset" m6 (.none) 732 1155 435 2 1161 true <|
  D (T 56) "_law_place" m6 (.none) 739 1164 444 2 1169 true <|
  D (T 57) "_law_stack" m6 (.none) 746 1172 446 4 1182 true <|
  D (T 58) "_law_looked" m6 (.none) 753 1185 456 4 1188 false <|
  D (T 59) "_law_deed" m6 (.none) 758 1191 470 4 1205 true <|
  D (T 60) "_law_due" m6 (.none) 765 1208 491 1 1211 false <|
  D (T 61) "_law_spans_right" m6 (.none) 770 1214 497 2 1217 false <|
  D (T 62) "law" m6 (.none) 775 1220 505 1 1233 true <| []
noncomputable def ob (P : Params) : List Obj := O (boot_o_0 P) <| O (boot_o_1 P) <| O (sD P) <| O (mD P) <| O (boot_o_4 P) <| O (boot_o_5 P) <| O (boot_o_6 P) <| O (boot_o_7 P) <| O (boot_o_8 P) <| O (boot_o_9 P) <| O (boot_o_10 P) <| O o11 <| O o12z <| O o13 <| O o14 <| segs P
noncomputable def KF (P : Params) : Frag :=
  (nat_lit 2, sD P) ::
  (nat_lit 3, mD P) ::
  (nat_lit 79, cO "mask" "mask" 266 20 1 74 true 270) ::
  (nat_lit 80, fO (T 5) "mask" m1 (.none) 79) ::
  (nat_lit 86, cO "wrap" "wrap" 273 22 2 81 true 278) ::
  (nat_lit 87, fO (T 6) "wrap" m1 (.none) 86) ::
  (nat_lit 93, cO "bit" "bit" 281 24 2 88 true 286) ::
  (nat_lit 94, fO (T 7) "bit" m1 (.none) 93) ::
  (nat_lit 107, cO "__init__" "Flags.__init__" 319 37 1 102 true 323) ::
  (nat_lit 108, fO (M 17 0) "Flags.__init__" m2 (.none) 107) ::
  (nat_lit 114, cO "told" "Flags.told" 326 46 1 109 true 330) ::
  (nat_lit 115, fO (M 17 1) "Flags.told" m2 (.none) 114) ::
  (nat_lit 121, cO "pack" "Flags.pack" 333 49 1 116 true 338) ::
  (nat_lit 122, fO (M 17 2) "Flags.pack" m2 (.none) 121) ::
  (nat_lit 128, cO "unpack" "Flags.unpack" 341 53 2 123 true 346) ::
  (nat_lit 129, fO (M 17 3) "Flags.unpack" m2 (.none) 128) ::
  (nat_lit 142, cO "copy" "Flags.copy" 357 65 1 137 true 362) ::
  (nat_lit 143, fO (M 17 5) "Flags.copy" m2 (.none) 142) ::
  (nat_lit 166, dO P 4 (("__module__", 314, .str "octetmint.flags" 289) :: ("__firstlineno__", 318, .int 35 317) :: ms97 (("__static_attributes__", 400, .ref 165) :: ("__dict__", 402, .ref 168) :: ("__weakref__", 404, .ref 169) :: ("__doc__", 405, .none) :: []))) ::
  (nat_lit 167, kO "Flags" [.type "object"] [.ref 167, .type "object"] [] 166 none 307 315 (.builtin "object.__new__")) ::
  (nat_lit 184, cO "__init__" "Register.__init__" 432 94 5 179 true 440) ::
  (nat_lit 185, fO (M 24 0) "Register.__init__" m3 (.none) 184) ::
  (nat_lit 222, dO P 4 (("__module__", 427, .str "octetmint.registers" 408) :: ("__firstlineno__", 431, .int 92 430) :: ms174 (("__static_attributes__", 482, .ref 221) :: ("__dict__", 484, .ref 224) :: ("__weakref__", 486, .ref 225) :: ("__doc__", 487, .none) :: []))) ::
  (nat_lit 223, kO "Register" [.type "object"] [.ref 223, .type "object"] [] 222 none 420 428 (.builtin "object.__new__")) ::
  (nat_lit 233, cO "early_names" "early_names" 490 114 1 228 true 494) ::
  (nat_lit 234, fO (T 25) "early_names" m3 (.none) 233) ::
  (nat_lit 240, cO "late_ending" "late_ending" 497 124 1 235 true 501) ::
  (nat_lit 241, fO (T 26) "late_ending" m3 (.none) 240) ::
  (nat_lit 247, cO "gpr" "gpr" 504 132 2 242 true 510) ::
  (nat_lit 248, fO (T 27) "gpr" m3 (.none) 247) ::
  (nat_lit 254, cO "high" "high" 513 139 1 249 true 517) ::
  (nat_lit 255, fO (T 28) "high" m3 (.none) 254) ::
  (nat_lit 261, cO "xmm" "xmm" 520 143 1 256 true 524) ::
  (nat_lit 262, fO (T 29) "xmm" m3 (.none) 261) ::
  (nat_lit 268, cO "rip" "rip" 527 147 0 263 true 530) ::
  (nat_lit 269, fO (T 30) "rip" m3 (.none) 268) ::
  (nat_lit 282, cO "__init__" "Memory.__init__" 549 153 1 277 true 553) ::
  (nat_lit 283, fO (M 33 0) "Memory.__init__" m4 (.none) 282) ::
  (nat_lit 289, cO "octet" "Memory.octet" 556 156 2 284 true 561) ::
  (nat_lit 290, fO (M 33 1) "Memory.octet" m4 (.none) 289) ::
  (nat_lit 296, cO "set_octet" "Memory.set_octet" 564 159 3 291 true 570) ::
  (nat_lit 297, fO (M 33 2) "Memory.set_octet" m4 (.none) 296) ::
  (nat_lit 303, cO "read" "Memory.read" 573 162 3 298 true 581) ::
  (nat_lit 304, fO (M 33 3) "Memory.read" m4 (.none) 303) ::
  (nat_lit 310, cO "write" "Memory.write" 584 168 4 305 true 592) ::
  (nat_lit 311, fO (M 33 4) "Memory.write" m4 (.none) 310) ::
  (nat_lit 322, cO "octets" "Memory.octets" 604 175 3 319 false 607) ::
  (nat_lit 323, fO (M 33 6) "Memory.octets" m4 (.none) 322) ::
  (nat_lit 327, cO "written" "Memory.written" 610 178 1 324 false 613) ::
  (nat_lit 328, fO (M 33 7) "Memory.written" m4 (.none) 327) ::
  (nat_lit 334, cO "spans" "Memory.spans" 616 181 1 329 true 625) ::
  (nat_lit 335, fO (M 33 8) "Memory.spans" m4 (.none) 334) ::
  (nat_lit 341, cO "find" "Memory.find" 628 194 4 336 true 636) ::
  (nat_lit 342, fO (M 33 9) "Memory.find" m4 (.none) 341) ::
  (nat_lit 348, cO "copy" "Memory.copy" 639 200 1 343 true 645) ::
  (nat_lit 349, fO (M 33 10) "Memory.copy" m4 (.none) 348) ::
  (nat_lit 355, cO "told" "Memory.told" 648 206 1 350 true 652) ::
  (nat_lit 356, fO (M 33 11) "Memory.told" m4 (.none) 355) ::
  (nat_lit 358, dO P 4 (("__module__", 544, .str "octetmint.machine" 533) :: ("__firstlineno__", 548, .int 151 547) :: ms272 (("__static_attributes__", 656, .ref 357) :: ("__dict__", 658, .ref 360) :: ("__weakref__", 660, .ref 361) :: ("__doc__", 661, .none) :: []))) ::
  (nat_lit 359, kO "Memory" [.type "object"] [.ref 359, .type "object"] [] 358 none 537 545 (.builtin "object.__new__")) ::
  (nat_lit 369, cO "joined" "joined" 664 208 3 364 true 670) ::
  (nat_lit 370, fO (T 34) "joined" m4 (.none) 369) ::
  (nat_lit 383, cO "__init__" "State.__init__" 685 214 2 378 true 690) ::
  (nat_lit 384, fO (M 35 0) "State.__init__" m4 (.none) 383) ::
  (nat_lit 390, cO "get" "State.get" 693 225 2 385 true 698) ::
  (nat_lit 391, fO (M 35 1) "State.get" m4 (.none) 390) ::
  (nat_lit 397, cO "put" "State.put" 701 236 3 392 true 708) ::
  (nat_lit 398, fO (M 35 2) "State.put" m4 (.none) 397) ::
  (nat_lit 404, cO "put_low" "State.put_low" 711 248 4 399 true 719) ::
  (nat_lit 405, fO (M 35 3) "State.put_low" m4 (.none) 404) ::
  (nat_lit 416, cO "offset" "State.offset" 728 258 2 411 true 734) ::
  (nat_lit 417, fO (M 35 5) "State.offset" m4 (.none) 416) ::
  (nat_lit 423, cO "place" "State.place" 737 266 2 418 true 743) ::
  (nat_lit 424, fO (M 35 6) "State.place" m4 (.none) 423) ::
  (nat_lit 437, cO "read" "State.read" 755 273 3 432 true 761) ::
  (nat_lit 438, fO (M 35 8) "State.read" m4 (.none) 437) ::
  (nat_lit 444, cO "write" "State.write" 764 280 4 439 true 771) ::
  (nat_lit 445, fO (M 35 9) "State.write" m4 (.none) 444) ::
  (nat_lit 451, cO "push" "State.push" 774 288 3 446 true 780) ::
  (nat_lit 452, fO (M 35 10) "State.push" m4 (.none) 451) ::
  (nat_lit 458, cO "pop" "State.pop" 783 292 2 453 true 789) ::
  (nat_lit 459, fO (M 35 11) "State.pop" m4 (.none) 458) ::
  (nat_lit 465, cO "told" "State.told" 792 297 1 460 true 797) ::
  (nat_lit 466, fO (M 35 12) "State.told" m4 (.none) 465) ::
  (nat_lit 472, cO "copy" "State.copy" 800 301 1 467 true 805) ::
  (nat_lit 473, fO (M 35 13) "State.copy" m4 (.none) 472) ::
  (nat_lit 475, dO P 4 (("__module__", 680, .str "octetmint.machine" 533) :: ("__firstlineno__", 684, .int 212 683) :: ms373 (("__static_attributes__", 817, .ref 474) :: ("__dict__", 819, .ref 477) :: ("__weakref__", 821, .ref 478) :: ("__doc__", 822, .none) :: []))) ::
  (nat_lit 476, kO "State" [.type "object"] [.ref 476, .type "object"] [] 475 none 673 681 (.builtin "object.__new__")) ::
  (nat_lit 493, cO "__init__" "Operand.__init__" 839 315 2 488 true 844) ::
  (nat_lit 494, fO (M 37 0) "Operand.__init__" m5 (.none) 493) ::
  (nat_lit 517, dO P 4 (("__module__", 834, .str "octetmint.operands" 825) :: ("__firstlineno__", 838, .int 313 837) :: ms483 (("__static_attributes__", 869, .ref 516) :: ("__dict__", 871, .ref 519) :: ("__weakref__", 873, .ref 520) :: ("__doc__", 874, .none) :: []))) ::
  (nat_lit 518, kO "Operand" [.type "object"] [.ref 518, .type "object"] [.ref 553, .ref 587, .ref 640] 517 none 827 835 (.builtin "object.__new__")) ::
  (nat_lit 535, cO "__init__" "Reg.__init__" 889 328 2 530 true 894) ::
  (nat_lit 536, fO (M 38 0) "Reg.__init__" m5 (.none) 535) ::
  (nat_lit 552, dO P 2 (("__module__", 884, .str "octetmint.operands" 825) :: ("__firstlineno__", 888, .int 326 887) :: ms525 (("__static_attributes__", 912, .ref 551) :: ("__doc__", 913, .none) :: []))) ::
  (nat_lit 553, kO "Reg" [.ref 518] [.ref 553, .ref 518, .type "object"] [] 552 (some (.ref 523)) 877 885 (.builtin "object.__new__")) ::
  (nat_lit 563, tO [.str "" 928]) ::
  (nat_lit 569, cO "__init__" "Imm.__init__" 929 339 3 564 true 935) ::
  (nat_lit 570, fO (M 39 0) "Imm.__init__" m5 (.ref 563) 569) ::
  (nat_lit 586, dO P 2 (("__module__", 923, .str "octetmint.operands" 825) :: ("__firstlineno__", 927, .int 337 926) :: ms558 (("__static_attributes__", 954, .ref 585) :: ("__doc__", 955, .none) :: []))) ::
  (nat_lit 587, kO "Imm" [.ref 518] [.ref 587, .ref 518, .type "object"] [] 586 (some (.ref 556)) 916 924 (.builtin "object.__new__")) ::
  (nat_lit 597, tO [.int 0 970, .str "" 971, .str "" 972]) ::
  (nat_lit 603, cO "__init__" "Mem.__init__" 973 351 8 598 true 984) ::
  (nat_lit 604, fO (M 40 0) "Mem.__init__" m5 (.ref 597) 603) ::
  (nat_lit 639, dO P 2 (("__module__", 965, .str "octetmint.operands" 825) :: ("__firstlineno__", 969, .int 349 968) :: ms592 (("__static_attributes__", 1030, .ref 638) :: ("__doc__", 1031, .none) :: []))) ::
  (nat_lit 640, kO "Mem" [.ref 518] [.ref 640, .ref 518, .type "object"] [] 639 (some (.ref 590)) 958 966 (.builtin "object.__new__")) ::
  (nat_lit 648, cO "_law_all" "_law_all" 1036 378 0 643 true 1039) ::
  (nat_lit 649, fO (T 42) "_law_all" m6 (.none) 648) ::
  (nat_lit 655, cO "_law_raw" "_law_raw" 1042 380 1 650 true 1047) ::
  (nat_lit 656, fO (T 43) "_law_raw" m6 (.none) 655) ::
  (nat_lit 662, cO "_law_draw" "_law_draw" 1050 386 2 657 true 1055) ::
  (nat_lit 663, fO (T 44) "_law_draw" m6 (.none) 662) ::
  (nat_lit 669, cO "_law_worth" "_law_worth" 1058 388 1 664 true 1064) ::
  (nat_lit 670, fO (T 45) "_law_worth" m6 (.none) 669) ::
  (nat_lit 676, cO "_law_register" "_law_register" 1067 391 1 671 true 1073) ::
  (nat_lit 677, fO (T 46) "_law_register" m6 (.none) 676) ::
  (nat_lit 683, cO "_law_begin" "_law_begin" 1076 396 1 678 true 1080) ::
  (nat_lit 684, fO (T 47) "_law_begin" m6 (.none) 683) ::
  (nat_lit 690, cO "_law_number" "_law_number" 1083 400 1 685 true 1089) ::
  (nat_lit 691, fO (T 48) "_law_number" m6 (.none) 690) ::
  (nat_lit 697, cO "_law_get" "_law_get" 1092 405 3 692 true 1099) ::
  (nat_lit 698, fO (T 49) "_law_get" m6 (.none) 697) ::
  (nat_lit 704, cO "_law_put" "_law_put" 1102 408 4 699 true 1112) ::
  (nat_lit 705, fO (T 50) "_law_put" m6 (.none) 704) ::
  (nat_lit 709, cO "_law_load" "_law_load" 1115 415 3 706 false 1118) ::
  (nat_lit 710, fO (T 51) "_law_load" m6 (.none) 709) ::
  (nat_lit 716, cO "_law_store" "_law_store" 1121 417 4 711 true 1130) ::
  (nat_lit 717, fO (T 52) "_law_store" m6 (.none) 716) ::
  (nat_lit 723, cO "_law_spot" "_law_spot" 1133 421 2 718 true 1143) ::
  (nat_lit 724, fO (T 53) "_law_spot" m6 (.none) 723) ::
  (nat_lit 730, cO "_law_mem" "_law_mem" 1146 432 2 725 true 1152) ::
  (nat_lit 731, fO (T 54) "_law_mem" m6 (.none) 730) ::
  (nat_lit 737, cO "_law_offset" "_law_offset" 1155 435 2 732 true 1161) ::
  (nat_lit 738, fO (T 55) "_law_offset" m6 (.none) 737) ::
  (nat_lit 744, cO "_law_place" "_law_place" 1164 444 2 739 true 1169) ::
  (nat_lit 745, fO (T 56) "_law_place" m6 (.none) 744) ::
  (nat_lit 751, cO "_law_stack" "_law_stack" 1172 446 4 746 true 1182) ::
  (nat_lit 752, fO (T 57) "_law_stack" m6 (.none) 751) ::
  (nat_lit 756, cO "_law_looked" "_law_looked" 1185 456 4 753 false 1188) ::
  (nat_lit 757, fO (T 58) "_law_looked" m6 (.none) 756) ::
  (nat_lit 763, cO "_law_deed" "_law_deed" 1191 470 4 758 true 1205) ::
  (nat_lit 764, fO (T 59) "_law_deed" m6 (.none) 763) ::
  (nat_lit 768, cO "_law_due" "_law_due" 1208 491 1 765 false 1211) ::
  (nat_lit 769, fO (T 60) "_law_due" m6 (.none) 768) ::
  (nat_lit 773, cO "_law_spans_right" "_law_spans_right" 1214 497 2 770 false 1217) ::
  (nat_lit 774, fO (T 61) "_law_spans_right" m6 (.none) 773) ::
  (nat_lit 780, cO "law" "law" 1220 505 1 775 true 1233) ::
  (nat_lit 781, fO (T 62) "law" m6 (.none) 780) :: []
noncomputable def Kas : List Addr := 2 :: 3 :: 79 :: 80 :: 86 :: 87 :: 93 :: 94 :: 107 :: 108 :: 114 :: 115 :: 121 :: 122 :: 128 :: 129 :: 142 :: 143 :: 166 :: 167 :: 184 :: 185 :: 222 :: 223 :: 233 :: 234 :: 240 :: 241 :: 247 :: 248 :: 254 :: 255 :: 261 :: 262 :: 268 :: 269 :: 282 :: 283 :: 289 :: 290 :: 296 :: 297 :: 303 :: 304 :: 310 :: 311 :: 322 :: 323 :: 327 :: 328 :: 334 :: 335 :: 341 :: 342 :: 348 :: 349 :: 355 :: 356 :: 358 :: 359 :: 369 :: 370 :: 383 :: 384 :: 390 :: 391 :: 397 :: 398 :: 404 :: 405 :: 416 :: 417 :: 423 :: 424 :: 437 :: 438 :: 444 :: 445 :: 451 :: 452 :: 458 :: 459 :: 465 :: 466 :: 472 :: 473 :: 475 :: 476 :: 493 :: 494 :: 517 :: 518 :: 535 :: 536 :: 552 :: 553 :: 563 :: 569 :: 570 :: 586 :: 587 :: 597 :: 603 :: 604 :: 639 :: 640 :: 648 :: 649 :: 655 :: 656 :: 662 :: 663 :: 669 :: 670 :: 676 :: 677 :: 683 :: 684 :: 690 :: 691 :: 697 :: 698 :: 704 :: 705 :: 709 :: 710 :: 716 :: 717 :: 723 :: 724 :: 730 :: 731 :: 737 :: 738 :: 744 :: 745 :: 751 :: 752 :: 756 :: 757 :: 763 :: 764 :: 768 :: 769 :: 773 :: 774 :: 780 :: 781 :: []
theorem kas : ∀ P : Params, Kas = (KF P).map (·.1) := fun P => by kernel_rfl
noncomputable abbrev hk : Hook := kHook KF Kas kas
noncomputable def vw : Program := { pg with main := { pg.main with body := (List.range 63).filterMap fun i => if [1, 8, 18, 31, 36, 41].contains i then none else some (T i) } }
noncomputable abbrev lo : List Str := ["MintError", "Imm", "Mem"]
noncomputable def h₁ (P : Params) : Heap := { objs := ⟨[boot_o_0 P, boot_o_1 P, boot_o_2 P, boot_o_3 P, boot_o_4 P, boot_o_5 P, boot_o_6 P, boot_o_7 P, boot_o_8 P, boot_o_9 P, boot_o_10 P, o11, o12, o13, o14]⟩ }
noncomputable def h₂ (P : Params) : Heap := { objs := ⟨ob P⟩ }
noncomputable def ev : List Obj → List Obj
  | [] => []
  | [x] => [x]
  | x :: _ :: r => x :: ev r
noncomputable def bt : Nat → List Obj → BT
  | 0, _ => .nil
  | _, [] => .nil
  | n + 1, x :: r => .node x (bt n (ev r)) (bt n (ev r.tail))
noncomputable def t₁ (P : Params) : BT := bt 4 (h₁ P).objs.toList
noncomputable def t₂ (P : Params) : BT := bt 10 (ob P)
noncomputable abbrev en : Env := { scope := pg.main.scope, locals := mainNs, globals := mainNs, cells := [], code := .ref 13, frame := some 14 }
noncomputable abbrev bd : List Stmt := behindTheImports pg
noncomputable abbrev cd : Code := Code.body bd en
noncomputable abbrev p₀ : Pos := ⟨0, 0, 0, 0⟩
noncomputable abbrev p₂ : Pos := ⟨505, 0, 522, 91⟩
noncomputable abbrev sT (w : World) (os : OsState) : SharedT := { tree := t₁ w.params, n := 15, life := {}, gens := ⟨[]⟩, drawn := {}, toks := 187, os := os }
noncomputable abbrev sH (w : World) (os : OsState) : Shared := { heap := h₁ w.params, gens := ⟨[]⟩, drawn := {}, toks := 187, os := os }
noncomputable abbrev eT (w : World) (os : OsState) : SharedT := { tree := t₂ w.params, n := 782, life := {}, gens := ⟨[]⟩, drawn := {}, toks := 1236, os := os }
noncomputable abbrev eH (w : World) (os : OsState) : Shared := { heap := h₂ w.params, gens := ⟨[]⟩, drawn := {}, toks := 1236, os := os }
noncomputable abbrev xt : Shared → Bool := fun s => xlAt vw [] s && recOk PySem.Challenge.rw_nn0057_01.row.toRowW.records s
noncomputable abbrev mo : List Str := importedModules pg.main.body
theorem go0 (w : World) : (fun os => topGo treeTable pg w 11 (some (.ref 6)) 12 { heap := boot_heap w.params, gens := ⟨[]⟩, drawn := boot_drawn, toks := boot_toks, os := os } (topStub pg)) =
    fun os => some (sH w os, { cur := denote treeTable cd, code := cd, pos := p₀, stack := [topFrame p₀] }) := by
  rw [Fast.te15667345088766844465, Fast.te14364793385576792824, Fast.te11892475500146522536]
  kernel_rfl
theorem go1 (w : World) : (fun os => segRun treeTable pg w 11 (some (.ref 6)) 1 1 (sH w os) (blockOf bd en cd p₀ [topFrame p₀])) = fun os => some (.next, (sT w os).abs, cd, p₀) := by
  rw [Fast.te14374325043358763698, Fast.te14364793385576792824]
  kernel_rfl
theorem fin2 (w : World) (s : Shared) (p : Pos) : topRun treeTable pg w 11 (some (.ref 6)) 2 s ⟨doneF .next, cd, p, [topFrame p₀]⟩ = some s := by
  cases s; kernel_rfl
theorem abs2 (w : World) : (fun os => (eT w os).abs) = fun os => eH w os := by kernel_rfl
theorem run (w : World) : (fun os => segRunT treeTable pg w 11 (some (.ref 6)) 1 6000 (sT w os) (piecesOf bd en cd p₀ [topFrame p₀])) = fun os => some (Flow.next, eT w os, cd, p₂) := by
  rw [Fast.te10110043849684766642, Fast.te14364793385576792824]
  kernel_rfl
theorem lk1 (w : World) : (fun os => (staticsOk mo (boot_heap w.params) (h₂ w.params) && namesBound pg (h₂ w.params) && gensDone (eH w os) && laidKept (boot_heap w.params) (h₂ w.params))) = fun os => true := by
  unfold mo
  rw [Fast.te5923862056798008813]
  kernel_rfl
theorem lk3 (w : World) : (fun os => hk.obs (eH w os)) = fun os => hk.val w := by kernel_rfl
theorem lk2 (w : World) : (fun os => openSeen vw lo mo xt true (eH w os)) = fun os => openGood vw lo := by
  unfold mo
  rw [Fast.te4187177175401517315, Fast.te5923862056798008813]
  kernel_rfl
theorem lk4 : (chainsOk vw && opensWell pg && (frees PySem.Challenge.rw_nn0057_01.row.toRowW && PySem.Challenge.rw_nn0057_01.row.within.isEmpty)) = true := by decide +kernel
theorem said : PySem.Challenge.rw_nn0057_01.wellSaid = true := by
  rw [Fast.te9446332074065402090]
  kernel_rfl
theorem left : LeftO pg vw lo xt hk.obs hk.val 10722 := by
  refine LeftO.of_pieces (H₀ := boot_heap) (H₁ := h₂) (m₀ := 11) (ann := some (.ref 6)) (gs₀ := ⟨[]⟩) (gs₁ := ⟨[]⟩) (d₀ := boot_drawn) (d₁ := {}) (k₀ := boot_toks) (k₁ := 1236) (M := 12 + (1 + (6000 + 2)))
    (boot_open (by kernel_rfl) (by rfl) fun s => by kernel_rfl) (fun w => by rw [Fast.te8920871248978507458]; kernel_rfl) (fun w os => ?_) (by rfl) fun w => ?_
  · have e : (eT w os).abs = eH w os := congrFun (abs2 w) os
    have h := piece_app (rest := []) (segRun_of (congrFun (run w) os)) (piece_nil (fin2 w (eT w os).abs p₂))
    rw [List.append_nil, e] at h
    exact go_top (congrFun (go0 w) os) (piece_block (congrFun (go1 w) os) h)
  · funext os
    exact Prod.ext (congrFun (lk1 w) os) (Prod.ext (congrFun (lk2 w) os) (congrFun (lk3 w) os))
noncomputable def lawD : DefRec := match T 62 with
  | .FunctionDef n a b _ _ _ sc _ _ p => ⟨n, a, b, sc, p⟩
  | _ => ⟨"", ⟨[], [], none, [], [], none, []⟩, [], ⟨.module, [], false, false, []⟩, p₀⟩
theorem hd (call : WalkO vw lo (XL vw []) hk.says PySem.Challenge.rw_nn0057_01.row.toRowW lawD [] fun f vs => PySem.call f vs) : PySem.Challenge.rw_nn0057_01.Holds := by
  refine holds_law said fun said => holds_open (q := vw) (loose := lo) (Xt := xt) (XP := XL vw []) (Yf := hk.obs) (Ya := hk.val) (YP := hk.says) (N := 10722) left hk.of hk.keeps (fun s e => xl_of s (Bool.and_eq_true_iff.mp e).1) XL.keeps
    (by kernel_rfl) (by kernel_rfl) (by kernel_rfl) (fun s e => recFacts_of (Bool.and_eq_true_iff.mp e).2) (by rfl) said lk4 ⟨rfl, rfl, rfl, rfl, rfl, by decide +kernel⟩ ?hw call
  case hw => w_witness2
-- Eng

noncomputable abbrev Led := List (Addr × Obj)
noncomputable abbrev Loc := List (Str × Value)

noncomputable def Keep (l : List Addr) (h h' : Heap) : Prop := ∀ a o, a ∉ l → h.get? a = some o → h'.get? a = some o
noncomputable def LedIn (hb h : Heap) (l : Led) : Prop := ∀ p ∈ l, h.get? p.1 = some p.2 ∧ hb.get? p.1 = none
noncomputable def Same (s₀ s : Shared) : Prop := s.gens = s₀.gens ∧ s.drawn = s₀.drawn ∧ s.os = s₀.os

noncomputable def Ret (s : Shared) (led : Led) (R : Value → Led → Prop) (r : Result) (s' : Shared) : Prop :=
  ∃ v led', r = .ok (.ret v) ∧ Same s s' ∧ Keep (led.map (·.1)) s.heap s'.heap ∧
    (∀ p ∈ led', s'.heap.get? p.1 = some p.2 ∧ (p.1 ∈ led.map (·.1) ∨ s.heap.get? p.1 = none)) ∧ (led'.map (·.1)).Nodup ∧ R v led'

structure St (g : Heap) (L : Addr) (W : List Addr) (l : Loc) (news : Led) (s₀ s : Shared) : Prop where
  ns : ∃ m, Fr g L s.heap m ∧ ∀ x v, l.lookup x = some v → m x = some v
  N : News g L s.heap news
  same : Same s₀ s
  nd : (news.map (·.1)).Nodup

inductive At (a : Addr) (o : Obj) : Led → (Obj → Led) → Prop
  | here {r} : At a o ((a, o) :: r) (fun o' => (a, o') :: r)
  | skip {q r f} : At a o r f → At a o (q :: r) (fun o' => q :: f o')
  | left {n m f} : At a o n f → At a o (n ++ m) (fun o' => f o' ++ m)
  | right {n m f} : At a o m f → At a o (n ++ m) (fun o' => n ++ f o')
theorem At.split {a : Addr} {o : Obj} {l : Led} {f : Obj → Led} (h : At a o l f) : ∃ pre post, l = pre ++ (a, o) :: post ∧ ∀ o', f o' = pre ++ (a, o') :: post := by
  induction h with
  | here => exact ⟨[], _, rfl, fun _ => rfl⟩
  | @skip q' _ _ _ ih => obtain ⟨p, q, e1, e2⟩ := ih; exact ⟨q' :: p, q, by rw [e1]; rfl, fun o' => by dsimp only; rw [e2]; rfl⟩
  | @left _ m _ _ ih => obtain ⟨p, q, e1, e2⟩ := ih; exact ⟨p, q ++ m, by rw [e1]; simp, fun o' => by dsimp only; rw [e2]; simp⟩
  | @right n _ _ _ ih => obtain ⟨p, q, e1, e2⟩ := ih; exact ⟨n ++ p, q, by rw [e1]; simp, fun o' => by dsimp only; rw [e2]; simp⟩
@[reducible] noncomputable def setIx : Led → Nat → Obj → Led
  | [], _, _ => []
  | q :: r, 0, o => (q.1, o) :: r
  | q :: r, n + 1, o => q :: setIx r n o
theorem At.mem {a : Addr} {o : Obj} {l : Led} {f : Obj → Led} (h : At a o l f) : (a, o) ∈ l := by
  obtain ⟨p, q, e, _⟩ := h.split
  rw [e]; simp

inductive Split : Led → Led → Led → Prop
  | all {n} : Split n n []
  | none {n} : Split n [] n
  | take {q n l r} : Split n l r → Split (q :: n) (q :: l) r
  | keep {q n l r} : Split n l r → Split (q :: n) l (q :: r)
  | app {n l r n' l' r'} : Split n l r → Split n' l' r' → Split (n ++ n') (l ++ l') (r ++ r')
theorem Split.perm {n l r : Led} (h : Split n l r) : n.Perm (l ++ r) := by
  induction h with
  | all => simp
  | none => simp
  | take _ ih => exact ih.cons _
  | keep _ ih => exact (ih.cons _).trans List.perm_middle.symm
  | app _ _ i1 i2 =>
    refine (i1.append i2).trans ?_
    simp only [List.append_assoc]
    refine List.Perm.append_left _ ?_
    rw [← List.append_assoc, ← List.append_assoc]
    exact List.Perm.append_right _ List.perm_append_comm

theorem Same.refl (s : Shared) : Same s s := ⟨rfl, rfl, rfl⟩
theorem Same.trans {a b c : Shared} (x : Same a b) (y : Same b c) : Same a c := ⟨y.1.trans x.1, y.2.1.trans x.2.1, y.2.2.trans x.2.2⟩

section
variable {g : Heap} {L : Addr} {W : List Addr} {l l' : Loc} {news news' : Led} {s₀ s s' : Shared}
theorem St.keep (S : St g L W l news s₀ s) : g.StaysIn s.heap := let ⟨_, F, _⟩ := S.ns; F.keep
theorem St.fr (S : St g L W l news s₀ s) : ∃ m, Fr g L s.heap m := let ⟨m, F, _⟩ := S.ns; ⟨m, F⟩
theorem St.at (S : St g L W l news s₀ s) {a : Addr} {o : Obj} (h : (a, o) ∈ news) : s.heap.get? a = some o := (S.N _ h).1
theorem St.ltL (S : St g L W l news s₀ s) : L < s.heap.objs.size := let ⟨_, F, _⟩ := S.ns; F.ns.lt
theorem St.loc (S : St g L W l news s₀ s) (h : ∀ x v, l'.lookup x = some v → l.lookup x = some v) : St g L W l' news s₀ s :=
  ⟨let ⟨m, F, e⟩ := S.ns; ⟨m, F, fun x v q => e x v (h x v q)⟩, S.N, S.same, S.nd⟩
theorem St.led (S : St g L W l news s₀ s) (h : ∀ q ∈ news', q ∈ news) (hn : (news'.map (·.1)).Nodup) : St g L W l news' s₀ s :=
  ⟨S.ns, fun q hq => S.N q (h q hq), S.same, hn⟩
theorem St.perm (S : St g L W l news s₀ s) (h : news.Perm news') : St g L W l news' s₀ s :=
  S.led (fun q hq => h.mem_iff.mpr hq) ((h.map _).nodup_iff.mp S.nd)
theorem St.tok (S : St g L W l news s₀ s) (t : Nat) : St g L W l news s₀ { s with toks := t } := ⟨S.ns, S.N, S.same, S.nd⟩
theorem St.push (S : St g L W l news s₀ s) (o : Obj) (hfree : o.isFreed = false := by rfl) : St g L W l ((s.heap.objs.size, o) :: news) s₀ { s with heap := s.heap.push o } := by
  obtain ⟨m, F, e⟩ := S.ns
  refine ⟨⟨m, F.push o, e⟩, S.N.push F o hfree, S.same, ?_⟩
  · rw [List.map_cons, List.nodup_cons]
    refine ⟨fun h => ?_, S.nd⟩
    obtain ⟨q, hq, e⟩ := List.mem_map.mp h
    exact Nat.lt_irrefl _ (e ▸ Heap.lt_size (S.N q hq).1)
theorem St.put (S : St g L W l news s₀ s) {a : Addr} {o o' : Obj} {f : Obj → Led} {h' : Heap} (U : At a o news f) (hs : Heap.SameBut a s.heap h') (ho : h'.get? a = some o') (t : Nat) :
    St g L W l (f o') s₀ { s with heap := h', toks := t } := by
  obtain ⟨pre, post, e0, e1⟩ := U.split
  rw [e1]
  obtain ⟨m, F, e⟩ := S.ns
  have nd := S.nd
  have N := S.N
  rw [e0] at nd N
  have D := N (a, o) (by simp)
  have h1 : ∀ p ∈ pre, p.1 ≠ a := fun p hp e => by
    rw [List.map_append, List.nodup_append] at nd
    exact nd.2.2 p.1 (List.mem_map_of_mem hp) a (by simp) e
  have h2 : ∀ p ∈ post, p.1 ≠ a := fun p hp e => by
    rw [List.map_append, List.map_cons, List.nodup_append, List.nodup_cons] at nd
    exact nd.2.1.1 (e ▸ (List.mem_map_of_mem hp : p.1 ∈ post.map (·.1)))
  refine ⟨⟨m, kas_fr F hs D.2.1 D.2.2, e⟩, news_set N h1 h2 hs ho, S.same, ?_⟩
  · rw [List.map_append, List.map_cons] at nd ⊢
    exact nd
theorem St.mod (S : St g L W l news s₀ s) {a : Addr} {o o' : Obj} {f : Obj → Led} {h' : Heap} (U : At a o news f) (hk : ∀ b x, b ≠ a → s.heap.get? b = some x → h'.get? b = some x) (ho : h'.get? a = some o') (t : Nat) :
    St g L W l (f o') s₀ { s with heap := h', toks := t } := by
  obtain ⟨pre, post, e0, e1⟩ := U.split
  rw [e1]
  obtain ⟨m, F, e⟩ := S.ns
  have nd := S.nd
  have N := S.N
  rw [e0] at nd N
  have D := N (a, o) (by simp)
  have h1 : ∀ p ∈ pre, p.1 ≠ a := fun p hp e => by
    rw [List.map_append, List.nodup_append] at nd
    exact nd.2.2 p.1 (List.mem_map_of_mem hp) a (by simp) e
  have h2 : ∀ p ∈ post, p.1 ≠ a := fun p hp e => by
    rw [List.map_append, List.map_cons, List.nodup_append, List.nodup_cons] at nd
    exact nd.2.1.1 (e ▸ (List.mem_map_of_mem hp : p.1 ∈ post.map (·.1)))
  obtain ⟨oL, es, ep, hL, r⟩ := F.ns
  refine ⟨⟨m, ⟨⟨oL, es, ep, hk L oL (Ne.symm D.2.1) hL, r⟩, fun b x q => hk b x (fun z => by rw [z, D.2.2] at q; cases q) (F.keep b x q), F.above⟩, e⟩, fun q hq => ?_, S.same, ?_⟩
  · rcases List.mem_append.mp hq with q1 | q1
    · have P := N q (List.mem_append_left _ q1)
      exact ⟨hk _ _ (h1 q q1) P.1, P.2⟩
    · rcases List.mem_cons.mp q1 with rfl | q1
      · exact ⟨ho, D.2⟩
      · have P := N q (List.mem_append_right _ (.tail _ q1))
        exact ⟨hk _ _ (h2 q q1) P.1, P.2⟩
  · rw [List.map_append, List.map_cons] at nd ⊢
    exact nd
theorem St.drop {q : Addr × Obj} (S : St g L W l (q :: news) s₀ s) : St g L W l news s₀ s :=
  S.led (fun r hr => .tail _ hr) (by have := S.nd; rw [List.map_cons, List.nodup_cons] at this; exact this.2)
theorem St.dropMod {a : Addr} {o : Obj} (S : St g L W l ((a, o) :: news) s₀ s) {h' : Heap} (hk : ∀ b x, b ≠ a → s.heap.get? b = some x → h'.get? b = some x) (t : Nat) :
    St g L W l news s₀ { s with heap := h', toks := t } := by
  obtain ⟨m, F, e⟩ := S.ns
  have D := S.N (a, o) (.head _)
  have nd := S.nd
  rw [List.map_cons, List.nodup_cons] at nd
  obtain ⟨oL, es, ep, hL, r⟩ := F.ns
  refine ⟨⟨m, ⟨⟨oL, es, ep, hk L oL (Ne.symm D.2.1) hL, r⟩, fun b x q => hk b x (fun z => by rw [z, D.2.2] at q; cases q) (F.keep b x q), F.above⟩, e⟩, fun q hq => ?_, S.same, nd.2⟩
  have P := S.N q (.tail _ hq)
  exact ⟨hk _ _ (fun z => nd.1 (z ▸ (List.mem_map_of_mem hq : q.1 ∈ news.map (·.1)))) P.1, P.2⟩
theorem upd_mid {a : Addr} {o o' : Obj} : ∀ {pre post : Led}, (∀ p ∈ pre, p.1 ≠ a) → (∀ p ∈ post, p.1 ≠ a) → Upd a o o' (pre ++ (a, o) :: post) (pre ++ (a, o') :: post)
  | [], _, _, h2 => .head h2
  | p :: r, _, h1, h2 => .tail (h1 p (.head _)) (upd_mid (fun q hq => h1 q (.tail _ hq)) h2)
theorem St.upd (S : St g L W l news s₀ s) {a : Addr} {o : Obj} {f : Obj → Led} (U : At a o news f) (o' : Obj) : Upd a o o' news (f o') := by
  obtain ⟨pre, post, e0, e1⟩ := U.split
  rw [e1]
  have nd := S.nd
  rw [e0] at nd ⊢
  refine upd_mid (fun p hp e => ?_) fun p hp e => ?_
  · rw [List.map_append, List.nodup_append] at nd
    exact nd.2.2 p.1 (List.mem_map_of_mem hp) a (by simp) e
  · rw [List.map_append, List.map_cons, List.nodup_append, List.nodup_cons] at nd
    exact nd.2.1.1 (e ▸ (List.mem_map_of_mem hp : p.1 ∈ post.map (·.1)))
theorem St.bind (S : St g L W l news s₀ s) {x : Str} {v : Value} {h' : Heap} (hn : ∀ m, s.heap.Ns L m → h'.Ns L (fun y => if y = x then some v else m y)) (hs : Heap.SameBut L s.heap h') (t : Nat) :
    St g L W ((x, v) :: l) news s₀ { s with heap := h', toks := t } := by
  obtain ⟨m, F, e⟩ := S.ns
  refine ⟨⟨_, F.set (hn m F.ns) hs, fun y u q => ?_⟩, S.N.set hs, S.same, S.nd⟩
  rw [List.lookup_cons] at q
  by_cases h : y = x
  · subst h
    simp only [beq_self_eq_true, Option.some.injEq] at q
    simp [q]
  · have : (y == x) = false := beq_eq_false_iff_ne.mpr h
    rw [this] at q
    simp only [h, if_false]
    exact e y u q
theorem St.ofK {m : Str → Option Value} {h' : Heap} {tk : Nat} (S : St g L W l news s₀ s) (F : Fr g L h' m) (e : ∀ x v, l.lookup x = some v → m x = some v) (N : News g L h' news') (nd : (news'.map (·.1)).Nodup) :
    St g L W l news' s₀ { s with heap := h', toks := tk } := ⟨⟨m, F, e⟩, N, S.same, nd⟩
theorem St.ofK1 {m : Str → Option Value} {h' : Heap} {tk : Nat} {q : Addr × Obj} (S : St g L W l news s₀ s) (F : Fr g L h' m) (e : ∀ x v, l.lookup x = some v → m x = some v) (N : News g L h' (q :: news)) (hq : ∀ p ∈ news, p.1 < q.1) :
    St g L W l (q :: news) s₀ { s with heap := h', toks := tk } := S.ofK F e N (by
  rw [List.map_cons, List.nodup_cons]
  refine ⟨fun h => ?_, S.nd⟩
  obtain ⟨p, hp, e⟩ := List.mem_map.mp h
  exact Nat.lt_irrefl _ (e ▸ hq p hp))
theorem St.grow (S : St g L W l news s₀ s) {h' : Heap} (hk : ∀ b o, s.heap.get? b = some o → h'.get? b = some o) (t : Nat) : St g L W l news s₀ { s with heap := h', toks := t } := by
  obtain ⟨m, F, e⟩ := S.ns
  obtain ⟨oL, es, ep, hL, r⟩ := F.ns
  exact ⟨⟨m, ⟨⟨oL, es, ep, hk L oL hL, r⟩, fun b x q => hk b x (F.keep b x q), F.above⟩, e⟩, fun q hq => ⟨hk _ _ (S.N q hq).1, (S.N q hq).2⟩, S.same, S.nd⟩
theorem St.fresh (S : St g L W l news s₀ s) : ∀ q ∈ news, q.1 < s.heap.objs.size := fun q hq => Heap.lt_size (S.N q hq).1
end

noncomputable def ix : Led → Nat → Option (Addr × Obj)
  | [], _ => none
  | q :: _, 0 => some q
  | _ :: r, n + 1 => ix r n
theorem ixn (nZ : Nat) {lZ : Led} : ix lZ nZ = ix lZ nZ := rfl
theorem mem_ix {qZ : Addr × Obj} : ∀ {nZ : Led} {iZ : Nat}, ix nZ iZ = some qZ → qZ ∈ nZ
  | [], _, h => by cases h
  | x :: r, 0, h => by cases h; exact List.mem_cons_self
  | x :: r, n + 1, h => List.mem_cons_of_mem _ (mem_ix (iZ := n) h)
theorem at_ix {aZ : Addr} {oZ : Obj} : ∀ {nZ : Led} {iZ : Nat}, ix nZ iZ = some (aZ, oZ) → At aZ oZ nZ (setIx nZ iZ)
  | [], _, h => by cases h
  | x :: r, 0, h => by cases h; exact At.here
  | x :: r, n + 1, h => At.skip (at_ix (iZ := n) h)

structure Gr (w : World) (p : Program) (loose : List Str) (mean : ExcName → Option Value) (mg mb : Str → Option Value) (hb g : Heap) : Prop where
  S : hb.StaysIn g
  X : (KF w.params).In g
  T : Top p loose mean mg mb g

noncomputable def Does (w : World) (hb : Heap) (n u : Nat) (f : Addr) (args : List Value) (kw : List (Str × Value)) (led : Led) (R : Value → Led → Prop) : Prop :=
  ∀ (A : Around) (s : Shared), A.handled = none → hb.StaysIn s.heap → LedIn hb s.heap led → (led.map (·.1)).Nodup → A.depth + n < recursionLimit → A.units + u < cLine →
    codeAny (model pgm w) A (.call (.ref f) ⟨args, kw⟩) (Ret s led R) s

structure G0 (w : World) (p : Program) (loose : List Str) (mean : ExcName → Option Value) (mg mb : Str → Option Value) (hb : Heap) : Prop where
  X : (KF w.params).In hb
  T : Top p loose mean mg mb hb

section
variable {w : World} {p : Program} {loose : List Str} {mean : ExcName → Option Value} {mg mb : Str → Option Value} {hb : Heap}

theorem stays_hide {hb h : Heap} {l : Led} (hs : hb.StaysIn h) (N : LedIn hb h l) : hb.StaysIn (hideAll h (l.map (·.1))) := fun b o e =>
  hideAll_get _ (hs b o e) fun q => by
    obtain ⟨p, hp, rfl⟩ := List.mem_map.mp q
    rw [(N p hp).2] at e; cases e

noncomputable def Fini (g : Heap) (L : Addr) (W : List Addr) (s₀ : Shared) (R : Value → Led → Prop) (v : Value) (s' : Shared) : Prop :=
  ∃ l' led', St g L W l' led' s₀ s' ∧ R v led'
theorem fini {g : Heap} {L : Addr} {W : List Addr} {s₀ s : Shared} {R : Value → Led → Prop} {v : Value} {l' : Loc} {led' : Led} (S : St g L W l' led' s₀ s) (r : R v led') :
    Fini g L W s₀ R v s := ⟨l', led', S, r⟩

theorem ret_of {s s' : Shared} {led : Led} {R : Value → Led → Prop} {v : Value} (h : Fini (hideAll s.heap (led.map (·.1))) s.heap.objs.size (led.map (·.1)) s R v s') :
    Ret s led R (.ok (.ret v)) s' := by
  obtain ⟨l', led', S, r⟩ := h
  refine ⟨v, led', rfl, S.same, fun a o ha e => S.keep a o (hideAll_get _ e ha), fun q hq => ⟨(S.N q hq).1, ?_⟩, S.nd, r⟩
  by_cases hm : q.1 ∈ led.map (·.1)
  · exact .inl hm
  · refine .inr ?_
    cases e : s.heap.get? q.1 with
    | none => rfl
    | some o => have := (S.N q hq).2.2; rw [hideAll_get _ e hm] at this; cases this

theorem enter {name qual : Str} {params : Arguments} {body : List Stmt} {scope : Scope} {dV kV doc pm cdv ct oc : Value} {an od : Option Addr} {osl : Array (Option Value)} {f : Addr} {args : Args} {binds : List (Str × Value)} {A : Around} {s : Shared} {led : Led} {R : Value → Led → Prop}
    (G : G0 w p loose mean mg mb hb) (hs : hb.StaysIn s.heap) (N : LedIn hb s.heap led) (nd : (led.map (·.1)).Nodup) (hroom : A.depth < recursionLimit)
    (ho : (KF w.params).lookup f = some ⟨oc, od, .func (fnOf name qual params body scope dV kV doc pm an cdv ct), osl⟩) (hcd : codeIn (KF w.params) cdv qual = true)
    (hbind : BindsTo s (fnOf name qual params body scope dV kV doc pm an cdv ct) args binds) (hloc : ∀ y ∈ binds, scope.names.lookup y.1 = some .local)
    (h : ∀ g L s', Gr w p loose mean mg mb hb g → St g L (led.map (·.1)) binds.reverse led s s' → (∀ q ∈ led, q.1 < L) →
      wpAny (model pgm w) (A.deeper (envOf qual scope L f cdv)) (execs body (envOf qual scope L f cdv))
        (fun fl s' => Fini g L (led.map (·.1)) s R (match fl with | .ret v => v | _ => .none) s')
        (fun _ _ => False) s')
    (hco : scope.isCoroutine = false := by rfl) (hgen : scope.isGenerator = false := by rfl) (hk : scope.kind = .function := by rfl)
    (hcell : ∀ x ∈ scope.names, x.2 ≠ .cell := by decide) : codeAny (model pgm w) A (.call (.ref f) args) (Ret s led R) s := by
  have st := stays_hide hs N
  have hi := (Frag.In.keeps G.X hs)
  refine codeAny_call_def (fd := fnOf name qual params body scope dV kV doc pm an cdv ct) (body := body) (binds := binds) hroom (hi _ _ ho) rfl (G.T.nolimit.keeps hs) (codeRec_of hi hcd) rfl hbind hcell hloc (fun h₁ hns hk₁ => ?_) hco hgen hk
  have hF : Fr (hideAll s.heap (led.map (·.1))) s.heap.objs.size h₁ (fun y => binds.reverse.lookup y) :=
    ⟨hns, fun b o e => hk₁ b o (of_hideAll _ e), Nat.le_of_eq (hideAll_size _ _)⟩
  have hN : News (hideAll s.heap (led.map (·.1))) s.heap.objs.size h₁ led := fun q hq =>
    ⟨hk₁ _ _ (N q hq).1, Nat.ne_of_lt (Heap.lt_size (N q hq).1), hideAll_none _ (List.mem_map_of_mem hq)⟩
  refine wpAny_mono (h _ _ _ ⟨st, Frag.In.keeps G.X st, G.T.keeps st⟩ ⟨⟨_, hF, fun x v e => e⟩, hN, ⟨rfl, rfl, rfl⟩, nd⟩ fun q hq => Heap.lt_size (N q hq).1) (fun fl s' hl => ?_) fun _ _ y => y.elim
  exact ret_of hl

theorem enterQ {name qual : Str} {params : Arguments} {body : List Stmt} {scope : Scope} {dV kV doc pm cdv ct oc : Value} {an od : Option Addr} {osl : Array (Option Value)} {f : Addr} {args : Args} {binds : List (Str × Value)} {A : Around} {s : Shared} {led : Led} {R : Value → Led → Prop}
    (G : G0 w p loose mean mg mb hb) (hs : hb.StaysIn s.heap) (N : LedIn hb s.heap led) (nd : (led.map (·.1)).Nodup) (hroom : A.depth < recursionLimit)
    (ho : (KF w.params).lookup f = some ⟨oc, od, .func (fnOf name qual params body scope dV kV doc pm an cdv ct), osl⟩) (hcd : codeIn (KF w.params) cdv qual = true)
    (hbind : BindsTo s (fnOf name qual params body scope dV kV doc pm an cdv ct) args binds) (hloc : ∀ y ∈ binds, scope.names.lookup y.1 = some .local)
    (l : Loc) (hl : binds.reverse = l) (hh : A.handled = none)
    (h : ∀ g L (W : List Addr) s' (B : Around) (Q : Flow → Shared → Prop), Gr w p loose mean mg mb hb g → St g L W l led s s' → (∀ q ∈ led, q.1 < L) → B.handled = none → B.depth = A.depth + 1 → B.units = A.units + 3 →
      (∀ {v : Value} {l' led' s''}, St g L W l' led' s s'' → R v led' → Q (.ret v) s'') → (∀ {l' led' s''}, St g L W l' led' s s'' → R .none led' → Q .next s'') → let env := envOf qual scope L f cdv; wpAny (model pgm w) B (execs body env) Q (fun _ _ => False) s')
    (hco : scope.isCoroutine = false := by rfl) (hgen : scope.isGenerator = false := by rfl) (hk : scope.kind = .function := by rfl)
    (hcell : ∀ x ∈ scope.names, x.2 ≠ .cell := by decide) : codeAny (model pgm w) A (.call (.ref f) args) (Ret s led R) s :=
  by subst hl; exact enter G hs N nd hroom ho hcd hbind hloc (fun g L s' G S lt => h g L _ s' _ _ G S lt hh rfl rfl (fun S r => ⟨_, _, S, r⟩) fun S r => ⟨_, _, S, r⟩) hco hgen hk hcell

theorem use_code {n u : Nat} {f : Addr} {args : List Value} {kw : List (Str × Value)} {led rest news : Led} {R : Value → Led → Prop} {g : Heap} {L : Addr} {W : List Addr} {l : Loc} {A : Around} {s₀ s : Shared} {R₀ : Result → Shared → Prop}
    (D : Does w hb n u f args kw led R) (G : Gr w p loose mean mg mb hb g) (S : St g L W l news s₀ s) (hsp : Split news led rest)
    (hh : A.handled = none) (hdep : A.depth + n < recursionLimit) (hu : A.units + u < cLine)
    (k : ∀ v led' s', R v led' → St g L W l (led' ++ rest) s₀ s' → R₀ (.ok (.ret v)) s') :
    codeAny (model pgm w) A (.call (.ref f) ⟨args, kw⟩) R₀ s := by
  have S1 := S.perm hsp.perm
  clear S
  have S := S1
  clear S1
  have hs : hb.StaysIn s.heap := fun b o e => S.keep b o (G.S b o e)
  have hsub : ∀ q ∈ led, q ∈ led ++ rest := fun q hq => List.mem_append_left _ hq
  have hl : LedIn hb s.heap led := fun q hq => ⟨(S.N q (hsub q hq)).1, by
    cases e : hb.get? q.1 with
    | none => rfl
    | some o => have := (S.N q (hsub q hq)).2.2; rw [G.S _ _ e] at this; cases this⟩
  have nd := S.nd
  rw [List.map_append, List.nodup_append] at nd
  refine codeAny_mono (D A s hh hs hl nd.1 hdep hu) fun r s' hr => ?_
  obtain ⟨v, led', rfl, hsm, hk, hn, nd', r⟩ := hr
  have hW : ∀ a, a ∈ led.map (·.1) → a ≠ L ∧ g.get? a = none := fun a ha => by
    obtain ⟨q, hq, rfl⟩ := List.mem_map.mp ha
    exact (S.N q (hsub q hq)).2
  have hR : ∀ q ∈ rest, q.1 ∉ led.map (·.1) := fun q hq hm => nd.2.2 q.1 hm q.1 (List.mem_map_of_mem hq) rfl
  obtain ⟨m, F, em⟩ := S.ns
  obtain ⟨oL, es, ep, hL, r1, r2, r3⟩ := F.ns
  have F' : Fr g L s'.heap m := ⟨⟨oL, es, ep, hk L oL (fun q => (hW L q).1 rfl) hL, r1, r2, r3⟩, fun b o e => hk b o (fun q => by rw [(hW b q).2] at e; cases e) (F.keep b o e), F.above⟩
  refine k v led' s' r ⟨⟨m, F', em⟩, fun q hq => ?_, S.same.trans hsm, ?_⟩
  · rcases List.mem_append.mp hq with h1 | h1
    · refine ⟨(hn q h1).1, ?_⟩
      rcases (hn q h1).2 with h3 | h3
      · exact hW _ h3
      · refine ⟨fun e => (by rw [e, hL] at h3; cases h3), ?_⟩
        cases e : g.get? q.1 with
        | none => rfl
        | some o => rw [F.keep _ _ e] at h3; cases h3
    · have := S.N q (List.mem_append_right _ h1)
      exact ⟨hk _ _ (hR q h1) this.1, this.2⟩
  · rw [List.map_append, List.nodup_append]
    refine ⟨nd', nd.2.1, fun a ha b hb' e => ?_⟩
    obtain ⟨q, hq, rfl⟩ := List.mem_map.mp ha
    obtain ⟨q', hq', rfl⟩ := List.mem_map.mp hb'
    rcases (hn q hq).2 with h3 | h3
    · exact hR q' hq' (e ▸ h3)
    · have := (S.N q' (List.mem_append_right _ hq')).1
      rw [← e, h3] at this; cases this

theorem use {n u : Nat} {f : Addr} {args : List Value} {kw : List (Str × Value)} {led rest news : Led} {R : Value → Led → Prop} {g : Heap} {L : Addr} {W : List Addr} {l : Loc} {A : Around} {s₀ s : Shared} {E Q : Value → Shared → Prop}
    (D : Does w hb n u f args kw led R) (G : Gr w p loose mean mg mb hb g) (S : St g L W l news s₀ s) (hsp : Split news led rest)
    (hh : A.handled = none) (hdep : A.depth + n < recursionLimit) (hu : A.units + u < cLine)
    (k : ∀ v led' s', R v led' → St g L W l (led' ++ rest) s₀ s' → Q v s') :
    wpAny (model pgm w) A (call (.ref f) args kw) Q E s := wpAny_call (use_code D G S hsp hh hdep hu k)

theorem use0 {n u : Nat} {f : Addr} {args : List Value} {kw : List (Str × Value)} {news : Led} {R : Value → Prop} {g : Heap} {L : Addr} {W : List Addr} {l : Loc} {A : Around} {s₀ s : Shared} {E Q : Value → Shared → Prop}
    (D : Does w hb n u f args kw [] fun v led' => R v ∧ led' = []) (G : Gr w p loose mean mg mb hb g) (S : St g L W l news s₀ s)
    (hh : A.handled = none) (hdep : A.depth + n < recursionLimit) (hu : A.units + u < cLine)
    (k : ∀ v s', R v → St g L W l news s₀ s' → Q v s') :
    wpAny (model pgm w) A (call (.ref f) args kw) Q E s :=
  use D G S .none hh hdep hu fun v led' s' r S' => k v s' r.1 (by have := r.2; subst this; exact S')
end
-- Rules1

theorem bitAnd_mask (x : Int) (n : Nat) : Builtin.bitAnd x (2 ^ n - 1) = x % 2 ^ n := by
  have hp : (0 : Int) ≤ 2 ^ n - 1 := by have := Int.pow_pos (n := 2) (m := n) (by decide); lia
  have e1 : ((2 : Int) ^ n - 1).toNat = 2 ^ n - 1 := by
    have : ((2 : Int) ^ n) = ((2 ^ n : Nat) : Int) := by push_cast; rfl
    rw [this]; have := Nat.two_pow_pos n; lia
  have e2 : ((2 : Int) ^ n) = ((2 ^ n : Nat) : Int) := by push_cast; rfl
  have hpos := Nat.two_pow_pos n
  by_cases hx : 0 ≤ x
  · rw [bitAnd_pp hx hp, e1, Nat.and_two_pow_sub_one_eq_mod]
    obtain ⟨k, rfl⟩ := Int.eq_ofNat_of_zero_le hx
    rw [e2]; simp
  · rw [bitAnd_np hx hp, e1, Nat.and_comm, Nat.and_two_pow_sub_one_eq_mod]
    have hb : Builtin.bitNot x = -x - 1 := by unfold Builtin.bitNot; lia
    rw [hb]
    obtain ⟨k, hk⟩ : ∃ k : Nat, x = -(k : Int) - 1 := ⟨(-x - 1).toNat, by lia⟩
    subst hk
    have e3 : (-(-(k : Int) - 1) - 1).toNat = k := by lia
    rw [e3, e2]
    have h1 : (k % 2 ^ n : Nat) < 2 ^ n := Nat.mod_lt _ hpos
    have h2 := Nat.div_add_mod k (2 ^ n)
    generalize hq : k / 2 ^ n = q at *
    generalize hr : k % 2 ^ n = r at *
    generalize hN : 2 ^ n = N at *
    have : (-(k : Int) - 1) = ((N : Int) - 1 - r) + (N : Int) * (-(q : Int) - 1) := by
      rw [← h2]; push_cast
      rw [Int.mul_sub, Int.mul_neg]; lia
    rw [this, Int.add_mul_emod_self_left, Int.emod_eq_of_lt (by (clear this h2 hr hq hpos e2 e1 hN e3 hb hx hp; lia)) (by lia)]

section
variable {prog : Program} {w : World} {p : Program} {loose : List Str} {mean : ExcName → Option Value} {mg mb : Str → Option Value} {hb g : Heap} {L : Addr} {W : List Addr} {l : Loc} {news news' : Led} {s₀ s : Shared}
  {A : Around} {E : Value → Shared → Prop} {Q : Value → Shared → Prop} {env : Env} {x : Str} {pos : Pos} {v : Value} {a b : Int} {t u : Tok}

theorem r_local (S : St g L W l news s₀ s) (hv : l.lookup x = some v) (h : Q v s) (hk : env.scope.kind = .function := by rfl) (hL : env.locals = L := by rfl) (hl : env.kindOf x = some .local := by rfl)
    (hd : (x == ("__debug__" : Str)) = false := by decide) : wpAny (model prog w) A (eval (.Name x pos) env) Q E s := by
  obtain ⟨m, F, e⟩ := S.ns
  subst hL
  exact wpAny_Name (wpAny_loadName_local hk hl F.ns (e x v hv) h) hd
theorem r_cell {c : Addr} {o : Obj} (S : St g L W l news s₀ s) (hc : env.cells.lookup x = some c) (hm : (c, o) ∈ news) (hd : o.data = .cell (some v)) (h : Q v s)
    (hk : env.scope.kind = .function := by rfl) (hx : env.kindOf x = some .cell := by rfl) (hb : (x == ("__debug__" : Str)) = false := by decide) :
    wpAny (model prog w) A (eval (.Name x pos) env) Q E s := wpAny_Name (wpAny_loadName_cell hk hx hc ⟨o, S.at hm, hd⟩ h) hb
theorem r_global (G : Gr w p loose mean mg mb hb g) (S : St g L W l news s₀ s) (e : nsIn (KF w.params) mainGlobals x = some (some v)) (h : Q v s)
    (hk : env.scope.kind = .function := by rfl) (hx : env.kindOf x = some .globalImplicit := by rfl) (hgl : env.globals = mainGlobals := by rfl) (hd : (x == ("__debug__" : Str)) = false := by decide) :
    wpAny (model prog w) A (eval (.Name x pos) env) Q E s :=
  Name_function_global hk hx (loadGlobal_global (hgl ▸ G.T.g.keeps S.keep) (mg_of G.X G.T.g e) h) hd
theorem r_builtin (G : Gr w p loose mean mg mb hb g) (S : St g L W l news s₀ s) (e : nsIn (KF w.params) mainGlobals x = some none) (hv : bootBuiltins x = some v) (hn : x ≠ "__name__") (h : Q v s)
    (hk : env.scope.kind = .function := by rfl) (hx : env.kindOf x = some .globalImplicit := by rfl) (hgl : env.globals = mainGlobals := by rfl) (hbl : env.builtins = builtinsNs := by rfl) (hd : (x == ("__debug__" : Str)) = false := by decide) :
    wpAny (model prog w) A (eval (.Name x pos) env) Q E s :=
  Name_function_global hk hx (loadGlobal_builtin (hgl ▸ G.T.g.keeps S.keep) (mg_none_of G.X G.T.g e) (hbl ▸ G.T.b.keeps S.keep) ((G.T.builtins x hn).trans hv) h) hd

theorem r_int {k : Nat} (S : St g L W l news s₀ s) (h : ∀ t s', St g L W l news s₀ s' → Q (.int a t) s') : wpAny (model prog w) A (eval (.Constant (.int a) k pos) env) Q E s :=
  wpAny_Constant_int (h _ _ (S.tok _))
theorem r_str {k : Nat} (S : St g L W l news s₀ s) (h : ∀ t s', St g L W l news s₀ s' → Q (.str x t) s') : wpAny (model prog w) A (eval (.Constant (.str x) k pos) env) Q E s :=
  Calls.Constant_str (h _ _ (S.tok _))
theorem r_none {k : Nat} (h : Q .none s) : wpAny (model prog w) A (eval (.Constant .none k pos) env) Q E s := wpAny_pure h
theorem r_bool {k : Nat} {c : Bool} (h : Q (.bool c) s) : wpAny (model prog w) A (eval (.Constant (.bool c) k pos) env) Q E s := wpAny_pure h

theorem r_add (S : St g L W l news s₀ s) (h : ∀ t s', St g L W l news s₀ s' → Q (.int (a + b) t) s') : wpAny (model prog w) A (binaryOp .Add (.int a t) (.int b u)) Q E s := PySem.P.add_int (h _ _ (S.tok _))
theorem r_sub (S : St g L W l news s₀ s) (h : ∀ t s', St g L W l news s₀ s' → Q (.int (a - b) t) s') : wpAny (model prog w) A (binaryOp .Sub (.int a t) (.int b u)) Q E s := PySem.P.sub_int (h _ _ (S.tok _))
theorem r_mul (S : St g L W l news s₀ s) (hm : IntMulOk a b) (h : ∀ t s', St g L W l news s₀ s' → Q (.int (a * b) t) s') : wpAny (model prog w) A (binaryOp .Mult (.int a t) (.int b u)) Q E s := PySem.P.mul_int (h _ _ (S.tok _)) hm
theorem r_mod (S : St g L W l news s₀ s) (hb : 0 < b) (h : ∀ t s', St g L W l news s₀ s' → Q (.int (a % b) t) s') : wpAny (model prog w) A (binaryOp .Mod (.int a t) (.int b u)) Q E s :=
  PyProof.Rows.mod_int' (by lia) (by rw [Int.fmod_eq_emod_of_nonneg _ (by lia)]; exact h _ _ (S.tok _))
theorem r_div (G : Gr w p loose mean mg mb hb g) (S : St g L W l news s₀ s) (hp : 0 < b) (hq : Builtin.divisionGoesByPylong a b = false) (h : ∀ t s', St g L W l news s₀ s' → Q (.int (a / b) t) s') : wpAny (model prog w) A (binaryOp .FloorDiv (.int a t) (.int b u)) Q E s :=
  PyProof.Rows.floordiv_int (by lia) (by rw [Int.fdiv_eq_ediv_of_nonneg _ (by lia)]; exact h _ _ (S.tok _)) (.inl hq)
theorem r_shl (S : St g L W l news s₀ s) (h0 : 0 ≤ b) (h1 : b ≤ 1000000) (h2 : a.natAbs < 2 ^ 64) (h : ∀ t s', St g L W l news s₀ s' → Q (.int (a * 2 ^ b.toNat) t) s') : wpAny (model prog w) A (binaryOp .LShift (.int a t) (.int b u)) Q E s :=
  PyProof.Rows.lshift_int_small h0 h1 h2 (h _ _ (S.tok _))
theorem r_shr (S : St g L W l news s₀ s) (h0 : 0 ≤ b) (h : ∀ t s', St g L W l news s₀ s' → Q (.int (a / 2 ^ b.toNat) t) s') : wpAny (model prog w) A (binaryOp .RShift (.int a t) (.int b u)) Q E s :=
  PyProof.Rows.rshift_int h0 (by rw [Int.fdiv_eq_ediv_of_nonneg _ (Int.le_of_lt (Int.pow_pos (by decide)))]; exact h _ _ (S.tok _))
theorem r_and (S : St g L W l news s₀ s) {n : Nat} (hm : b = 2 ^ n - 1) (h : ∀ t s', St g L W l news s₀ s' → Q (.int (a % 2 ^ n) t) s') : wpAny (model prog w) A (binaryOp .BitAnd (.int a t) (.int b u)) Q E s :=
  PyProof.Rows.and_int (by rw [hm, bitAnd_mask]; exact h _ _ (S.tok _))
theorem r_or (S : St g L W l news s₀ s) (h : ∀ t s', St g L W l news s₀ s' → Q (.int (Builtin.bitOr a b) t) s') : wpAny (model prog w) A (binaryOp .BitOr (.int a t) (.int b u)) Q E s := PyProof.Rows.or_int (h _ _ (S.tok _))
theorem r_neg (S : St g L W l news s₀ s) (h : ∀ t s', St g L W l news s₀ s' → Q (.int (-a) t) s') : wpAny (model prog w) A (unaryOp .USub (.int a t)) Q E s := PySem.P.neg_int (h _ _ (S.tok _))

theorem r_store {Q : Unit → Shared → Prop} (S : St g L W l news s₀ s) (h : ∀ s', St g L W ((x, v) :: l) news s₀ s' → Q () s')
    (hk : env.scope.kind = .function := by rfl) (hL : env.locals = L := by rfl) (hl : env.kindOf x = some .local := by rfl) : wpAny (model prog w) A (storeName env x v) Q E s := by
  subst hL
  obtain ⟨m, F, e⟩ := S.ns
  refine wpAny_storeName_local hl F.ns (fun h' hn hs => h _ ?_) (by rw [hk]; rfl)
  refine ⟨⟨_, F.set hn hs, fun y u q => ?_⟩, S.N.set hs, S.same, S.nd⟩
  rw [List.lookup_cons] at q
  by_cases h : y = x
  · subst h
    simp only [beq_self_eq_true, Option.some.injEq] at q
    simp [q]
  · have : (y == x) = false := beq_eq_false_iff_ne.mpr h
    rw [this] at q
    simp only [h, if_false]
    exact e y u q

theorem r_iteD {P : Prop} [Decidable P] {X Y : Prop} (h1 : P → X) (h2 : ¬ P → Y) : if decide P = true then X else Y := by
  by_cases h : P
  · simp [h]; exact h1 h
  · simp [h]; exact h2 h
theorem r_iteE {α : Type} [BEq α] [LawfulBEq α] {a b : α} {X Y : Prop} (h1 : a = b → X) (h2 : a ≠ b → Y) : if (a == b) = true then X else Y := by
  by_cases h : a = b
  · simp [h]; exact h1 h
  · simp [h]; exact h2 h
theorem r_iteN {α : Type} [BEq α] [LawfulBEq α] {a b : α} {X Y : Prop} (h1 : a ≠ b → X) (h2 : a = b → Y) : if (a != b) = true then X else Y := by
  by_cases h : a = b
  · simp [h]; exact h2 h
  · simp [h]; exact h1 h
theorem r_eq {α : Type} {t u : Tok} (h : Q (.bool (a == b)) s) : wpAny (model prog w) A (compareOp .Eq (.int a t) (.int b u)) Q E s := PySem.P.eq_int h
theorem r_ne (h : Q (.bool (a != b)) s) : wpAny (model prog w) A (compareOp .NotEq (.int a t) (.int b u)) Q E s := PySem.P.ne_int h
theorem r_lt (h : Q (.bool (decide (a < b))) s) : wpAny (model prog w) A (compareOp .Lt (.int a t) (.int b u)) Q E s := PySem.P.lt_int h
theorem r_le (h : Q (.bool (decide (a ≤ b))) s) : wpAny (model prog w) A (compareOp .LtE (.int a t) (.int b u)) Q E s := PySem.P.le_int h
theorem r_gt (h : Q (.bool (decide (a > b))) s) : wpAny (model prog w) A (compareOp .Gt (.int a t) (.int b u)) Q E s := PySem.P.gt_int h
theorem r_ge (h : Q (.bool (decide (a ≥ b))) s) : wpAny (model prog w) A (compareOp .GtE (.int a t) (.int b u)) Q E s := PySem.P.ge_int h

theorem St.inK (G : Gr w p loose mean mg mb hb g) (S : St g L W l news s₀ s) : (KF w.params).In s.heap := Frag.In.keeps G.X S.keep
end
-- Rules2

structure Own (w : World) (C : Addr) (name : Str) : Prop where
  get : plainGet (KF w.params) C name = true
  has : hasDictIn (KF w.params) C = true
  cls : ∃ attr, findIn (KF w.params) (.ref C) name = some attr ∧ noGet (KF w.params) attr = true
structure Meth (w : World) (C : Addr) (name : Str) (f : Addr) : Prop where
  get : plainGet (KF w.params) C name = true
  cls : findIn (KF w.params) (.ref C) name = some (some (.ref f))
  fn : isFn (KF w.params) (.ref f) = true
  keep : keepIn (KF w.params) (.ref f) = true
structure SetOk (w : World) (C : Addr) (name : Str) : Prop where
  set : findIn (KF w.params) (.ref C) "__setattr__" = some (some (.builtin "object.__setattr__"))
  plain : plainOver (KF w.params) C = true
  take : takerIn (KF w.params) C name = some none
  has : hasDictIn (KF w.params) C = true

section
variable {prog : Program} {w : World} {p : Program} {loose : List Str} {mean : ExcName → Option Value} {mg mb : Str → Option Value} {hb g : Heap} {L : Addr} {W : List Addr} {l : Loc} {news news' : Led} {s₀ s : Shared}
  {A : Around} {E : Value → Shared → Prop} {Q : Value → Shared → Prop} {env : Env} {x : Str} {pos : Pos} {v : Value} {a b : Int} {t u : Tok} {o dx C D f : Addr} {es es' : List DictEntry} {n n' : Nat} {name : Str} {vs : List Value}

theorem r_attr {expr : Bool} (G : Gr w p loose mean mg mb hb g) (S : St g L W l news s₀ s) (K : Own w C name) (h1 : (o, instObj C dx) ∈ news) (h2 : (dx, dictOf es n) ∈ news)
    (hl : getL name es = some (some v)) (hv : handedIn v = true) (h : ∀ s', St g L W l news s₀ s' → Q v s') : wpAny (model pgm w) A (getAttr (.ref o) name expr) Q E s := by
  obtain ⟨m, F, _⟩ := S.ns
  obtain ⟨attr, k1, k2⟩ := K.cls
  exact get_own F G.X (InstAt.of_news S.N h1 h2) K.get K.has k1 k2 hl hv (h _ (S.tok _))

theorem r_setAttr {Q : Unit → Shared → Prop} {es' : Tok → List DictEntry} {fl : Obj → Led} (G : Gr w p loose mean mg mb hb g) (S : St g L W l news s₀ s) (K : SetOk w C name) (h1 : (o, instObj C dx) ∈ news) (U : At dx (dictOf es n) news fl)
    (hl : (getL name es).isSome = true) (e : ∀ tk, (putL name (PyData.keyHash w.params name) (.str name tk) v es, putN name es n) = (es' tk, n')) (hz : ∀ tk, (es' tk).length ≤ 1000)
    (h : ∀ tk s', St g L W l (fl (dictOf (es' tk) n')) s₀ s' → Q () s') : wpAny (model pgm w) A (setAttr (.ref o) name v) Q E s := by
  obtain ⟨m, F, em⟩ := S.ns
  refine set_dict F G.X S.N (InstAt.of_news S.N h1 U.mem) rfl K.set K.plain K.take K.has hl (e _) (S.upd U _) (hz _) fun h' F' N' => h (s.toks + 1) _ ⟨⟨m, F', em⟩, N', S.same, ?_⟩
  · obtain ⟨pre, post, e1, e2⟩ := U.split
    have nd := S.nd
    rw [e2]
    rw [e1] at nd
    rw [List.map_append, List.map_cons] at nd ⊢
    exact nd

theorem r_method {pl : Sem Bool} {Q : Value × List Value → Shared → Prop} (G : Gr w p loose mean mg mb hb g) (S : St g L W l news s₀ s) (K : Meth w C name f) (h1 : (o, instObj C dx) ∈ news) (h2 : (dx, dictOf es n) ∈ news)
    (hl : getL name es = some none) (h : Q (.ref f, [.ref o]) s) : wpAny (model pgm w) A (getMethod (.ref o) name pl) Q E s := by
  obtain ⟨m, F, _⟩ := S.ns
  exact method_inst F G.X (InstAt.of_news S.N h1 h2) K.get K.cls K.fn hl h

noncomputable def esOf : Option (Addr × Obj) → List DictEntry
  | some (_, ⟨_, _, .dict es _, _⟩) => es.toList
  | _ => []
noncomputable def nOf : Option (Addr × Obj) → Nat
  | some (_, ⟨_, _, .dict _ n, _⟩) => n
  | _ => 0
theorem r_call {e : Expr} {rest : List Expr} {first : List Value} (G : Gr w p loose mean mg mb hb g) (hk : keepIn (KF w.params) (.ref f) = true)
    (h : wpAny (model pgm w) A (spliced (backTo pos (starEach (e :: rest) env))) (fun vs s₁ => (KF w.params).In s₁.heap ∧ wpAny (model pgm w) A (call (.ref f) (first ++ vs)) Q E s₁) E s)
    (he : starEach (e :: rest) env = (false, eval e env) :: starEach rest env := by rfl) (hplain : (backTo pos (starEach rest env)).any (·.1) = false := by rfl) :
    wpAny (model pgm w) A (callWith pos (.ref f) first (backTo pos (starEach (e :: rest) env)) []) Q E s :=
  callWith_K G.X hk h he hplain
theorem r_call0 {first : List Value} (G : Gr w p loose mean mg mb hb g) (S : St g L W l news s₀ s) (hk : keepIn (KF w.params) (.ref f) = true) (h : wpAny (model pgm w) A (call (.ref f) first) Q E s) :
    wpAny (model pgm w) A (callWith pos (.ref f) first (backTo pos (starEach [] env)) []) Q E s :=
  callWith_K0 (Frag.In.keeps G.X S.keep) hk (by rw [List.append_nil]; exact h)

theorem r_item {value slice : Expr} (S : St g L W l news s₀ s) (hm : (D, listOf vs.toArray n) ∈ news) (h0 : 0 ≤ a) (h1 : a < 2 ^ 63) (hx : vs[a.toNat]? = some v) (h : Q v s)
    (hs : subscripted slice false (.ref D) (.int a u) = operate [.ref D, .int a u] (getItem (.ref D) (.int a u)) := by with_unfolding_all rfl) :
    wpAny (model prog w) A (subscriptTail value slice (.ref D) (.int a u)) Q E s :=
  tail_any (PySem.IsL.isList (n := n) (S.N _ hm).1).typeIs slot_list_getitem.lookup (wpAny_getItem_list (PySem.IsL.isList (n := n) (S.N _ hm).1) h0 h1 (by simpa using hx) h) hs
noncomputable abbrev tupOf (its : Array Value) (n : Nat) : Obj := { cls := .type "tuple", data := .seq its n }
theorem St.tup (S : St g L W l news s₀ s) (hm : (D, tupOf vs.toArray n) ∈ news) : IsTup s.heap D vs.toArray := ⟨_, (S.N _ hm).1, rfl, n, rfl⟩
theorem St.lst (S : St g L W l news s₀ s) (hm : (D, listOf vs.toArray n) ∈ news) : s.heap.IsList D vs.toArray := ⟨_, (S.N _ hm).1, rfl, n, rfl⟩
theorem r_titem {value slice : Expr} (S : St g L W l news s₀ s) (hm : (D, tupOf vs.toArray n) ∈ news) (h0 : 0 ≤ a) (h1 : a < 2 ^ 63) (hx : vs[a.toNat]? = some v) (h : Q v s)
    (hs : subscripted slice false (.ref D) (.int a u) = operate [.ref D, .int a u] (getItem (.ref D) (.int a u)) := by with_unfolding_all rfl) :
    wpAny (model prog w) A (subscriptTail value slice (.ref D) (.int a u)) Q E s := by
  have hlt : a.toNat < vs.length := (List.getElem?_eq_some_iff.mp hx).1
  refine item_tupleT (S.tup hm) (by lia) h1 (j := a.toNat) ?_ hx h hs
  have hl' : a < (vs.length : Int) := by lia
  simp only [seqIndex?, if_neg (show ¬ a < 0 by lia)]
  simp [h0, hl']
theorem r_setItem {Q : Unit → Shared → Prop} {fl : Obj → Led} (S : St g L W l news s₀ s) (U : At D (listOf vs.toArray n) news fl) (h0 : 0 ≤ a) (h1 : a < vs.length) (hfit : a < 2 ^ 63)
    (h : ∀ s', St g L W l (fl (listOf (vs.set a.toNat v).toArray n)) s₀ s' → Q () s') : wpAny (model prog w) A (setItem (.ref D) (.int a t) v) Q E s := by
  have z := S.N _ U.mem
  refine ki_setAt z.1 h0 hfit (by simpa using h1) (h _ (S.put U (Heap.SameBut.update ..) ?_ s.toks))
  have q := PySem.IsL.update z.1 fun x => x.setIfInBounds a.toNat v
  have e : vs.toArray.setIfInBounds a.toNat v = (vs.set a.toNat v).toArray := by apply Array.toList_inj.mp; simp
  rw [e] at q
  rw [q]
  simp
theorem r_append {fl : Obj → Led} (S : St g L W l news s₀ s) (U : At D (listOf vs.toArray n) news fl) (hsz : vs.length ≤ sizeLine)
    (h : ∀ s', St g L W l (fl (listOf (vs ++ [v]).toArray (n + 1))) s₀ s' → Q .none s') : wpAny (model prog w) A (call (.builtin "list.append") [.ref D, v]) Q E s := by
  have z := S.N _ U.mem
  refine append_at (hsz := by simpa using hsz) z.1 fun h' hs ho' => h _ (S.put U hs (ho'.trans ?_) s.toks)
  simp
theorem r_m_append {pl : Sem Bool} {Q : Value × List Value → Shared → Prop} (S : St g L W l news s₀ s) (hm : (D, listOf vs.toArray n) ∈ news) (h : Q (.builtin "list.append", [.ref D]) s) :
    wpAny (model prog w) A (getMethod (.ref D) "append" pl) Q E s :=
  getMethod_builtin ⟨_, (S.N _ hm).1, rfl⟩ PySem.F.plainAttrs_list PySem.F.slot_list_append PySem.F.type_list_append (fun a e => by cases e; exact ⟨_, (S.N _ hm).1, rfl⟩) h
theorem r_newList (S : St g L W l news s₀ s) (h : ∀ D s', (∀ q ∈ news, q.1 < D) → St g L W l ((D, listOf vs.toArray 0) :: news) s₀ s' → Q (.ref D) s') (hsz : vs.length ≤ sizeLine := by size_fits) :
    wpAny (model prog w) A (newList vs) Q E s := wpAny_newObj_type (h _ _ S.fresh (S.push _)) (by show vs.toArray.size ≤ sizeLine; rw [List.size_toArray]; exact hsz)
theorem r_newTuple (S : St g L W l news s₀ s) (h : ∀ D s', (∀ q ∈ news, q.1 < D) → St g L W l ((D, tupOf vs.toArray 0) :: news) s₀ s' → Q (.ref D) s') (hsz : vs.length ≤ sizeLine := by size_fits) :
    wpAny (model prog w) A (newTuple vs) Q E s := wpAny_newObj_type (h _ _ S.fresh (S.push _)) (by show vs.toArray.size ≤ sizeLine; rw [List.size_toArray]; exact hsz)

-- dicts
section
variable {K : Type} [DecidableEq K] {knd : KeyKind prog w K} {ob : Obj} {kvs : List (K × Value)} {k : K} {key dflt : Value} {gl : Obj → Led}
theorem St.dict (S : St g L W l news s₀ s) (hm : (D, ob) ∈ news) (hd : ob.IsDictOf knd kvs) : s.heap.DictOf knd D kvs := Heap.dictOf_iff.mpr ⟨ob, (S.N _ hm).1, hd⟩
theorem r_dget (S : St g L W l news s₀ s) (hm : (D, ob) ∈ news) (hd : ob.IsDictOf knd kvs) (lo : (D == sysModules) = false) (hkey : knd.is k key = true)
    (h : ∀ s', St g L W l news s₀ s' → Q ((valueAt kvs k).getD dflt) s') : wpAny (model prog w) A (call (.builtin "dict.get") [.ref D, key, dflt]) Q E s :=
  call_meetsIn PySem.F.slot_dict_get (S.dict hm hd).typeIs PySem.F.entry_dict_get (PySem.F.args_dict_get_3 _ _ _) (meets_dict_get_default knd D hkey lo dflt) ⟨_, (S.dict hm hd).mapOf, h _ (S.tok _)⟩
theorem r_m_get {pl : Sem Bool} {Q : Value × List Value → Shared → Prop} (S : St g L W l news s₀ s) (hm : (D, ob) ∈ news) (hd : ob.IsDictOf knd kvs) (h : Q (.builtin "dict.get", [.ref D]) s) :
    wpAny (model prog w) A (getMethod (.ref D) "get" pl) Q E s :=
  getMethod_builtin (S.dict hm hd).typeIs PySem.F.plainAttrs_dict PySem.F.slot_dict_get PySem.F.type_dict_get (S.dict hm hd).mapOf.noDict h
theorem r_ditem {value slice : Expr} (S : St g L W l news s₀ s) (hm : (D, ob) ∈ news) (hd : ob.IsDictOf knd kvs) (hkey : knd.is k key = true) (hv : valueAt kvs k = some v)
    (h : ∀ s', St g L W l news s₀ s' → Q v s') (hs : subscripted slice false (.ref D) key = operate [.ref D, key] (getItem (.ref D) key) := by with_unfolding_all rfl) :
    wpAny (model prog w) A (subscriptTail value slice (.ref D) key) Q E s :=
  tail_any (S.dict hm hd).typeIs slot_dict_getitem.lookup (wpAny_getItem_of hkey (S.dict hm hd).mapOf hv (h _ (S.tok _))) hs
theorem r_dset {Q : Unit → Shared → Prop} (S : St g L W l news s₀ s) (U : At D ob news gl) (hd : ob.IsDictOf knd kvs) (hkey : knd.is k key = true) (hsz : kvs.length ≤ sizeLine)
    (h : ∀ o' s', o'.IsDictOf knd (stored kvs k v) → St g L W l (gl o') s₀ s' → Q () s') : wpAny (model prog w) A (setItem (.ref D) key v) Q E s := by
  refine wpAny_setItem_pairs (hsz := hsz) hkey (S.dict U.mem hd) fun h' hm' hs => ?_
  obtain ⟨o', ho', hd'⟩ := Heap.dictOf_iff.mp hm'
  exact h o' _ hd' (S.put U hs ho' _)
end
end
-- Rules3

section
variable {w : World} {p : Program} {loose : List Str} {mean : ExcName → Option Value} {mg mb : Str → Option Value} {hb g : Heap} {L : Addr} {W : List Addr} {l : Loc} {news news' led rest : Led} {s₀ s : Shared}
  {A : Around} {E : Value → Shared → Prop} {Q : Value → Shared → Prop} {env : Env} {x : Str} {pos : Pos} {v : Value} {a b : Int} {t u : Tok} {o dx C D f : Addr} {vs : List Value}

theorem under_make_units (A : Around) (C : Addr) (vals : List Value) (kw : List (Str × Value)) : (A.under (.builtin "type.__call__" ⟨.ref C :: vals, kw⟩)).units ≤ A.units + 4 := by
  have : (Code.builtin "type.__call__" ⟨.ref C :: vals, kw⟩).cUnits = 1 := by with_unfolding_all rfl
  show A.units + (Code.builtin "type.__call__" ⟨.ref C :: vals, kw⟩).cUnits ≤ A.units + 4
  rw [this]; lia

theorem r_make {n u : Nat} {fI : Addr} {args : List Value} {kw : List (Str × Value)} {R : Addr → Addr → Led → Prop} (G : Gr w p loose mean mg mb hb g) (S : St g L W l news s₀ s)
    (hm : makesIn (KF w.params) C = true) (hi : findIn (KF w.params) (.ref C) "__init__" = some (some (.ref fI))) (hf : isFn (KF w.params) (.ref fI) = true)
    (D : ∀ x dx, Does w hb n u fI (.ref x :: args) kw ((x, instObj C dx) :: (dx, dictOf [] 0) :: led) (fun v led' => v = .none ∧ R x dx led')) (hsp : Split news led rest)
    (hh : A.handled = none) (hdep : A.depth + 1 + n < recursionLimit) (hu : A.units + 4 + u < cLine)
    (k : ∀ x dx led' s', R x dx led' → St g L W l (led' ++ rest) s₀ s' → Q (.ref x) s') :
    wpAny (model pgm w) A (call (.ref C) args kw) Q E s := by
  have X := Frag.In.keeps G.X S.keep
  have S2 := (S.push emptyDict).push (instObj C s.heap.objs.size)
  dsimp only at S2
  rw [Heap.size_push] at S2
  obtain ⟨hh', gg, d, tt, os⟩ := s
  refine wpAny_call (make_core (makes_of X hm) (looks_findIn X hi) (fun self => bind_fn X self (beq_iff_eq.mp hf)) (.inl rfl) ?_)
  refine use_code (D _ _) G S2 (.take (.take hsp)) hh (by rw [depth_under_kw]; exact hdep) ?_ ?_
  · have := under_make_units A C args kw; lia
  · intro v led' s' hr S'
    obtain ⟨rfl, hr⟩ := hr
    exact ⟨rfl, k _ _ led' s' hr S'⟩

inductive FInv (g : Heap) (L : Addr) (W : List Addr) (I : Addr) (fx : Led) (s₀ : Shared) (N : Nat) (J : Nat → Loc → Led → Prop) (It : Nat → Heap → Prop) (k : Nat) (s : Shared) : Prop
  | mk (i : Nat) (oI : Obj) (l : Loc) (led : Led) (hk : k = N + 1 - i) (hi : i ≤ N) (hJ : J i l led) (hst : It i s.heap) (S : St g L W l ((I, oI) :: (fx ++ led)) s₀ s)
theorem r_forW {target : Expr} {body : List Stmt} {I : Addr} {o₀ : Obj} {fx : Led} {fp wr : List Addr} {N : Nat} {P : Nat → Value → Prop} {It : Nat → Heap → Prop} {Q : Flow → Shared → Prop} {Er : Value → Shared → Prop}
    (Wk : Walks pgm w A I fp wr N P It) (hfp : ∀ b ∈ fp, b = I ∨ b ∈ fx.map (·.1)) (hwr : ∀ b ∈ wr, b = I) (hI : ∀ i h, It i h → ∃ o, h.get? I = some o)
    (J : Nat → Loc → Led → Prop) (S : St g L W l ((I, o₀) :: (fx ++ led)) s₀ s) (hst : It 0 s.heap) (hJ : J 0 l led)
    (turn : ∀ i v oI l led s E', i < N → P i v → J i l led → St g L W l ((I, oI) :: (fx ++ led)) s₀ s →
      wpAny (model pgm w) A (assign target env v) (fun _ s₂ => wpAny (model pgm w) A (execs body env) (fun f s₃ => match f with
        | .next | .cont => ∃ l' led', J (i + 1) l' led' ∧ St g L W l' ((I, oI) :: (fx ++ led')) s₀ s₃
        | .brk => Q .next s₃
        | .ret v => Q (.ret v) s₃) E' s₂) E' s)
    (fin : ∀ l led s, J N l led → St g L W l (fx ++ led) s₀ s → Q .next s)
    (ht : ∀ v, letOwnedTupleGo target (.ref I) v = pure () := by intro _; rfl) :
    codeAny (model pgm w) A (.forLoop target (.ref I) body [] env) (fun r s' => match r with | .ok f => Q f s' | .error e => Er e s') s := by
  refine codeAny_forLoop (FInv g L W I fx s₀ N J It) ?_ (N + 1) ⟨0, o₀, l, led, rfl, Nat.zero_le _, hJ, hst, S⟩ ht
  rintro k s ⟨i, oI, l, led, rfl, hi, hJ, hst, S⟩
  by_cases hlt : i < N
  · refine Wk.item i s _ _ hlt hst fun v h' tk hP hst' hk => ?_
    obtain ⟨oI', ho'⟩ := hI _ _ hst'
    have S' := S.mod .here (fun b x hb e => hk b x (fun hm => hb (hwr b hm)) e) ho' tk
    refine wpAny_mono (turn i v oI' l led _ _ hlt hP hJ S') (fun _ s₂ h₂ => wpAny_mono h₂ (fun fl s₃ h₃ => ?_) fun _ _ e => e) fun _ _ e => e
    have back : (∃ l' led', J (i + 1) l' led' ∧ St g L W l' ((I, oI') :: (fx ++ led')) s₀ s₃) → ∃ m, m < N + 1 - i ∧ FInv g L W I fx s₀ N J It m s₃ := by
      rintro ⟨l', led', hJ', S₃⟩
      refine ⟨N + 1 - (i + 1), by omega, i + 1, oI', l', led', rfl, hlt, hJ', Wk.frame _ _ _ hst' fun b hb o e => ?_, S₃⟩
      rcases hfp b hb with rfl | hm
      · have : o = oI' := Option.some.inj (e.symm.trans ho')
        rw [this]; exact S₃.at (.head _)
      · obtain ⟨q, hq, rfl⟩ := List.mem_map.mp hm
        have h1 := S'.at (a := q.1) (o := q.2) (.tail _ (List.mem_append_left _ hq))
        have : o = q.2 := Option.some.inj (e.symm.trans h1)
        rw [this]; exact S₃.at (.tail _ (List.mem_append_left _ hq))
    cases fl with
    | next => exact back h₃
    | cont => exact back h₃
    | brk => exact h₃
    | ret v => exact h₃
  · have hin : i = N := by lia
    subst hin
    refine Wk.done s _ _ hst fun h' tk hk => wpAny_execs_nil ?_
    exact fin l led _ hJ (S.dropMod (fun b x hb e => hk b x (fun hm => hb (hwr b hm)) e) tk)

theorem isListIter_some {I a : Addr} {i : Nat} {h : Heap} (x : h.IsListIter I a i) : ∃ o, h.get? I = some o := let ⟨o, ho, _⟩ := x; ⟨o, ho⟩

structure IntsIt (w : World) (A : Around) (I : Addr) (a c : Int) (N : Nat) (It : Nat → Heap → Prop) : Prop where
  walks : Walks pgm w A I [I] [I] N (fun i v => ∃ t, v = .int (a + i * c) t) It
  some : ∀ i h, It i h → ∃ o, h.get? I = some o

theorem r_rangeIt {r : Addr} {c : Int} {tv : Tok} (S : St g L W l ((r, { cls := .type "range", data := .fields #[.int a t, .int b u, .int c tv] }) :: news) s₀ s) (hh : A.handled = none) (hc : 0 < c)
    (h : ∀ I o It s', IntsIt w A I a c (Builtin.Range.rangeSize a b c).toNat It → It 0 s'.heap → St g L W l ((I, o) :: news) s₀ s' → Q (.ref I) s') :
    wpAny (model pgm w) A (pyIter (.ref r)) Q E s := by
  have hr : IsRange s.heap r a b c t u tv := S.at (.head _)
  have hnn : 0 ≤ Builtin.Range.rangeSize a b c := by
    unfold Builtin.Range.rangeSize
    rw [if_pos (show c > 0 from hc)]
    split
    · have := Int.ediv_nonneg (a := b - a - 1) (b := c) (by lia) (by lia); omega
    · exact Int.le_refl _
  have e0 : ((Builtin.Range.rangeSize a b c).toNat : Int) - ((0 : Nat) : Int) = Builtin.Range.rangeSize a b c := by lia
  have e1 : a + ((0 : Nat) : Int) * c = a := by simp
  cases hs : Builtin.Range.small a b c with
  | true =>
    refine wpAny_pyIter_range hr hs ?_
    refine h _ { cls := .type "range_iterator", data := .fields #[rawInt a, rawInt (Builtin.Range.rangeSize a b c), rawInt c] } _ _ ⟨Walks.range hh _ a c _, fun _ _ x => ⟨_, x⟩⟩ ?_ ?_
    · rw [e0, e1]; exact Heap.get?_push_size _ rfl
    · have := S.push { cls := .type "range_iterator", data := .fields #[rawInt a, rawInt (Builtin.Range.rangeSize a b c), rawInt c] }
      exact (this.perm (List.Perm.swap _ _ _)).drop
  | false =>
    refine wpAny_pyIter_longrange hr hs ?_
    refine h _ { cls := .type "longrange_iterator", data := .fields #[rawInt a, rawInt (Builtin.Range.rangeSize a b c), rawInt c] } _ _ ⟨Walks.longrange hh _ a c _, fun _ _ x => ⟨_, x⟩⟩ ?_ ?_
    · rw [e0, e1]; exact Heap.get?_push_size _ rfl
    · have := S.push { cls := .type "longrange_iterator", data := .fields #[rawInt a, rawInt (Builtin.Range.rangeSize a b c), rawInt c] }
      exact (this.perm (List.Perm.swap _ _ _)).drop

theorem rangeSize_toNat (a b : Int) : (Builtin.Range.rangeSize a b 1).toNat = (b - a).toNat := by rw [rangeSize_one]; split <;> lia

theorem r_range1 (S : St g L W l news s₀ s) (h : ∀ r t u v s', St g L W l ((r, { cls := .type "range", data := .fields #[.int 0 t, .int a u, .int 1 v] }) :: news) s₀ s' → Q (.ref r) s') :
    wpAny (model pgm w) A (call (.type "range") [.int a t]) Q E s := call_range_1 (h _ _ _ _ _ ((S.push _).tok _))
theorem r_range2 (S : St g L W l news s₀ s) (h : ∀ r t u v s', St g L W l ((r, { cls := .type "range", data := .fields #[.int a t, .int b u, .int 1 v] }) :: news) s₀ s' → Q (.ref r) s') :
    wpAny (model pgm w) A (call (.type "range") [.int a t, .int b u]) Q E s := call_range_2 (h _ _ _ _ _ ((S.push _).tok _))
end
end Mine
namespace Mine
section
variable {prog : Program} {w : World} {A : Around} {E : Value → Shared → Prop} {s : Shared} {Q : Value → Shared → Prop} {env : Env} {pos : Pos} {e : Expr} {rest : List Expr}
theorem r_callT {T : String} (h : wpAny (model prog w) A (spliced (backTo pos (starEach (e :: rest) env))) (fun vs s₁ => wpAny (model prog w) A (call (.type T) vs) Q E s₁) E s)
    (he : starEach (e :: rest) env = (false, eval e env) :: starEach rest env := by rfl) (hplain : (backTo pos (starEach rest env)).any (·.1) = false := by rfl) :
    wpAny (model prog w) A (callWith pos (.type T) [] (backTo pos (starEach (e :: rest) env)) []) Q E s := PySem.Pv.callWith_type1 h he hplain
theorem r_callB {id : String} {first : List Value} (h : wpAny (model prog w) A (spliced (backTo pos (starEach (e :: rest) env))) (fun vs s₁ => wpAny (model prog w) A (call (.builtin id) (first ++ vs)) Q E s₁) E s)
    (he : starEach (e :: rest) env = (false, eval e env) :: starEach rest env := by rfl) (hplain : (backTo pos (starEach rest env)).any (·.1) = false := by rfl) :
    wpAny (model prog w) A (callWith pos (.builtin id) first (backTo pos (starEach (e :: rest) env)) []) Q E s := by
  rw [he] at h ⊢
  exact Calls.callWith_builtin (by show (false || (backTo pos (starEach rest env)).any (·.1)) = false; rw [hplain]; rfl) (evalArgs_plain h)
theorem r_callB0 {id : String} {first : List Value} (h : wpAny (model prog w) A (call (.builtin id) first) Q E s) :
    wpAny (model prog w) A (callWith pos (.builtin id) first (backTo pos (starEach [] env)) []) Q E s :=
  Calls.callWith_builtin rfl (evalArgs_nil3 (by rw [List.append_nil]; exact h))
theorem r_isNone_ref {a : Addr} (h : Q (.bool false) s) : wpAny (model prog w) A (compareOp .Is (.ref a) .none) Q E s := wpAny_is_other rfl (fun x => nomatch x) h
theorem r_isNone_none (h : Q (.bool true) s) : wpAny (model prog w) A (compareOp .Is .none .none) Q E s := wpAny_is_self rfl h
theorem r_isNotNone_ref {a : Addr} (h : Q (.bool true) s) : wpAny (model prog w) A (compareOp .IsNot (.ref a) .none) Q E s := wpAny_isNot_other rfl (fun x => nomatch x) h
theorem r_isNotNone_none (h : Q (.bool false) s) : wpAny (model prog w) A (compareOp .IsNot .none .none) Q E s := wpAny_isNot_self rfl h
theorem r_eqS {x y : Str} {t u : Tok} (h : Q (.bool (x == y)) s) : wpAny (model prog w) A (compareOp .Eq (.str x t) (.str y u)) Q E s := PyProof.Rows.eq_str h
theorem r_iteT {X Y : Prop} (h : X) : if true = true then X else Y := by rw [if_pos rfl]; exact h
theorem r_iteF {X Y : Prop} (h : Y) : if false = true then X else Y := by rw [if_neg (by decide)]; exact h
theorem r_iteS1 {x y : Str} {X Y : Prop} (e : (x == y) = true) (h : X) : if (x == y) = true then X else Y := by rw [if_pos e]; exact h
theorem r_iteS0 {x y : Str} {X Y : Prop} (e : (x == y) = false) (h : Y) : if (x == y) = true then X else Y := by rw [if_neg (by rw [e]; decide)]; exact h
theorem r_mcall {o : Expr} {name : Str} {apos : Pos} {args : List Expr} {pl : Sem Bool}
    (h : wpAny (model prog w) A (eval o env) (fun ov s₁ => wpAny (model prog w) A (getMethod ov name pl) (fun fx s₂ => wpAny (model prog w) A (callWith pos fx.1 fx.2 (backTo pos (starEach args env)) []) Q E s₂) E s₁) E s)
    (he : eval (.Call (.Attribute o name apos) args [] pos) env = (do
      let ov ← eval o env
      standAt apos.atName
      let (f, first) ← holding [ov] (getMethod ov name pl)
      callWith pos f first (backTo pos (starEach args env)) (backToKw pos (keywordEach [] env))) := by rfl) :
    wpAny (model prog w) A (eval (.Call (.Attribute o name apos) args [] pos) env) Q E s := methodCall_KW h he
theorem r_iteND {P : Prop} [Decidable P] {X Y : Prop} (h1 : ¬ P → X) (h2 : P → Y) : if (!decide P) = true then X else Y := by
  by_cases h : P
  · simp [h]; exact h2 h
  · simp [h]; exact h1 h
end
-- Objs
noncomputable abbrev dE (w : World) (name : Str) (tk : Tok) (v : Value) : DictEntry := ⟨PyData.keyHash w.params name, .str name tk, v⟩

structure RegO where
  x : Addr
  dx : Addr
  nm : Str
  kd : Str
  num : Int
  sz : Int
  τ : Nat → Tok
noncomputable abbrev RegO.led (w : World) (r : RegO) : Led := [(r.x, instObj 223 r.dx),
  (r.dx, dictOf [dE w "name" (r.τ 0) (.str r.nm (r.τ 1)), dE w "kind" (r.τ 2) (.str r.kd (r.τ 3)), dE w "number" (r.τ 4) (.int r.num (r.τ 5)), dE w "size" (r.τ 6) (.int r.sz (r.τ 7))] 4)]

structure MemO where
  x : Addr
  dx : Addr
  he : Addr
  heo : Obj
  τ : Tok
noncomputable abbrev MemO.led (w : World) (m : MemO) : Led := [(m.x, instObj 359 m.dx), (m.dx, dictOf [dE w "held" m.τ (.ref m.he)] 1), (m.he, m.heo)]
structure FlgO where
  x : Addr
  dx : Addr
  τ : Nat → Tok
noncomputable abbrev flagsD (w : World) (τ : Nat → Tok) : Obj := dictOf [dE w "cf" (τ 11) (.int 0 (τ 12)), dE w "pf" (τ 13) (.int 0 (τ 14)), dE w "af" (τ 15) (.int 0 (τ 16)), dE w "zf" (τ 17) (.int 0 (τ 18)), dE w "sf" (τ 19) (.int 0 (τ 20)),
    dE w "of" (τ 21) (.int 0 (τ 22)), dE w "df" (τ 23) (.int 0 (τ 24))] 7
noncomputable abbrev FlgO.led (w : World) (f : FlgO) : Led := [(f.x, instObj 167 f.dx), (f.dx, flagsD w f.τ)]
structure Mac where
  st : Addr
  sd : Addr
  rg : Addr
  xm : Addr
  sg : Addr
  nr : Nat
  nx : Nat
  rvs : List Value
  xvs : List Value
  sgo : Obj
  rip : Int
  τ : Nat → Tok
  fl : FlgO
  me : MemO
noncomputable abbrev Mac.led (w : World) (σ : Mac) : Led := (σ.st, instObj 476 σ.sd) ::
  (σ.sd, dictOf [dE w "iset" (σ.τ 0) .none, dE w "regs" (σ.τ 1) (.ref σ.rg), dE w "xmm" (σ.τ 2) (.ref σ.xm), dE w "flags" (σ.τ 3) (.ref σ.fl.x), dE w "memory" (σ.τ 4) (.ref σ.me.x), dE w "rip" (σ.τ 5) (.int σ.rip (σ.τ 6)),
    dE w "begin" (σ.τ 7) (.int 0 (σ.τ 8)), dE w "segments" (σ.τ 9) (.ref σ.sg), dE w "is_halted" (σ.τ 10) (.bool false)] 9) ::
  (σ.rg, listOf σ.rvs.toArray σ.nr) :: (σ.xm, listOf σ.xvs.toArray σ.nx) :: (σ.sg, σ.sgo) :: (σ.fl.led w ++ σ.me.led w)
-- Facts
section
variable {w : World} {p : Program} {loose : List Str} {mean : ExcName → Option Value} {mg mb : Str → Option Value} {hb : Heap}
example : PySem.Challenge.rw_nn0057_01.prog = pgm ∨ (KF = KF) := by
  k_fill
  exact .inr rfl
theorem own_Flags_cf {w : World} : Own w 167 "cf" := ⟨by k_is, by k_is, ⟨_, by k_is, by k_is⟩⟩
theorem set_Flags_cf {w : World} : SetOk w 167 "cf" := ⟨by k_is, by k_is, by k_is, by k_is⟩
theorem own_Flags_pf {w : World} : Own w 167 "pf" := ⟨by k_is, by k_is, ⟨_, by k_is, by k_is⟩⟩
theorem set_Flags_pf {w : World} : SetOk w 167 "pf" := ⟨by k_is, by k_is, by k_is, by k_is⟩
theorem own_Flags_af {w : World} : Own w 167 "af" := ⟨by k_is, by k_is, ⟨_, by k_is, by k_is⟩⟩
theorem set_Flags_af {w : World} : SetOk w 167 "af" := ⟨by k_is, by k_is, by k_is, by k_is⟩
theorem own_Flags_zf {w : World} : Own w 167 "zf" := ⟨by k_is, by k_is, ⟨_, by k_is, by k_is⟩⟩
theorem set_Flags_zf {w : World} : SetOk w 167 "zf" := ⟨by k_is, by k_is, by k_is, by k_is⟩
theorem own_Flags_sf {w : World} : Own w 167 "sf" := ⟨by k_is, by k_is, ⟨_, by k_is, by k_is⟩⟩
theorem set_Flags_sf {w : World} : SetOk w 167 "sf" := ⟨by k_is, by k_is, by k_is, by k_is⟩
theorem own_Flags_of {w : World} : Own w 167 "of" := ⟨by k_is, by k_is, ⟨_, by k_is, by k_is⟩⟩
theorem set_Flags_of {w : World} : SetOk w 167 "of" := ⟨by k_is, by k_is, by k_is, by k_is⟩
theorem own_Flags_df {w : World} : Own w 167 "df" := ⟨by k_is, by k_is, ⟨_, by k_is, by k_is⟩⟩
theorem set_Flags_df {w : World} : SetOk w 167 "df" := ⟨by k_is, by k_is, by k_is, by k_is⟩
theorem own_Register_name {w : World} : Own w 223 "name" := ⟨by k_is, by k_is, ⟨_, by k_is, by k_is⟩⟩
theorem set_Register_name {w : World} : SetOk w 223 "name" := ⟨by k_is, by k_is, by k_is, by k_is⟩
theorem own_Register_kind {w : World} : Own w 223 "kind" := ⟨by k_is, by k_is, ⟨_, by k_is, by k_is⟩⟩
theorem set_Register_kind {w : World} : SetOk w 223 "kind" := ⟨by k_is, by k_is, by k_is, by k_is⟩
theorem own_Register_number {w : World} : Own w 223 "number" := ⟨by k_is, by k_is, ⟨_, by k_is, by k_is⟩⟩
theorem set_Register_number {w : World} : SetOk w 223 "number" := ⟨by k_is, by k_is, by k_is, by k_is⟩
theorem own_Register_size {w : World} : Own w 223 "size" := ⟨by k_is, by k_is, ⟨_, by k_is, by k_is⟩⟩
theorem set_Register_size {w : World} : SetOk w 223 "size" := ⟨by k_is, by k_is, by k_is, by k_is⟩
theorem own_Memory_held {w : World} : Own w 359 "held" := ⟨by k_is, by k_is, ⟨_, by k_is, by k_is⟩⟩
theorem set_Memory_held {w : World} : SetOk w 359 "held" := ⟨by k_is, by k_is, by k_is, by k_is⟩
theorem own_State_iset {w : World} : Own w 476 "iset" := ⟨by k_is, by k_is, ⟨_, by k_is, by k_is⟩⟩
theorem set_State_iset {w : World} : SetOk w 476 "iset" := ⟨by k_is, by k_is, by k_is, by k_is⟩
theorem own_State_regs {w : World} : Own w 476 "regs" := ⟨by k_is, by k_is, ⟨_, by k_is, by k_is⟩⟩
theorem set_State_regs {w : World} : SetOk w 476 "regs" := ⟨by k_is, by k_is, by k_is, by k_is⟩
theorem own_State_xmm {w : World} : Own w 476 "xmm" := ⟨by k_is, by k_is, ⟨_, by k_is, by k_is⟩⟩
theorem set_State_xmm {w : World} : SetOk w 476 "xmm" := ⟨by k_is, by k_is, by k_is, by k_is⟩
theorem own_State_flags {w : World} : Own w 476 "flags" := ⟨by k_is, by k_is, ⟨_, by k_is, by k_is⟩⟩
theorem set_State_flags {w : World} : SetOk w 476 "flags" := ⟨by k_is, by k_is, by k_is, by k_is⟩
theorem own_State_memory {w : World} : Own w 476 "memory" := ⟨by k_is, by k_is, ⟨_, by k_is, by k_is⟩⟩
theorem set_State_memory {w : World} : SetOk w 476 "memory" := ⟨by k_is, by k_is, by k_is, by k_is⟩
theorem own_State_rip {w : World} : Own w 476 "rip" := ⟨by k_is, by k_is, ⟨_, by k_is, by k_is⟩⟩
theorem set_State_rip {w : World} : SetOk w 476 "rip" := ⟨by k_is, by k_is, by k_is, by k_is⟩
theorem own_State_begin {w : World} : Own w 476 "begin" := ⟨by k_is, by k_is, ⟨_, by k_is, by k_is⟩⟩
theorem set_State_begin {w : World} : SetOk w 476 "begin" := ⟨by k_is, by k_is, by k_is, by k_is⟩
theorem own_State_segments {w : World} : Own w 476 "segments" := ⟨by k_is, by k_is, ⟨_, by k_is, by k_is⟩⟩
theorem set_State_segments {w : World} : SetOk w 476 "segments" := ⟨by k_is, by k_is, by k_is, by k_is⟩
theorem own_State_is_halted {w : World} : Own w 476 "is_halted" := ⟨by k_is, by k_is, ⟨_, by k_is, by k_is⟩⟩
theorem set_State_is_halted {w : World} : SetOk w 476 "is_halted" := ⟨by k_is, by k_is, by k_is, by k_is⟩
theorem own_Reg_kind {w : World} : Own w 553 "kind" := ⟨by k_is, by k_is, ⟨_, by k_is, by k_is⟩⟩
theorem set_Reg_kind {w : World} : SetOk w 553 "kind" := ⟨by k_is, by k_is, by k_is, by k_is⟩
theorem own_Reg_register {w : World} : Own w 553 "register" := ⟨by k_is, by k_is, ⟨_, by k_is, by k_is⟩⟩
theorem set_Reg_register {w : World} : SetOk w 553 "register" := ⟨by k_is, by k_is, by k_is, by k_is⟩
theorem own_Imm_kind {w : World} : Own w 587 "kind" := ⟨by k_is, by k_is, ⟨_, by k_is, by k_is⟩⟩
theorem set_Imm_kind {w : World} : SetOk w 587 "kind" := ⟨by k_is, by k_is, by k_is, by k_is⟩
theorem own_Imm_worth {w : World} : Own w 587 "worth" := ⟨by k_is, by k_is, ⟨_, by k_is, by k_is⟩⟩
theorem set_Imm_worth {w : World} : SetOk w 587 "worth" := ⟨by k_is, by k_is, by k_is, by k_is⟩
theorem own_Imm_name {w : World} : Own w 587 "name" := ⟨by k_is, by k_is, ⟨_, by k_is, by k_is⟩⟩
theorem set_Imm_name {w : World} : SetOk w 587 "name" := ⟨by k_is, by k_is, by k_is, by k_is⟩
theorem own_Mem_kind {w : World} : Own w 640 "kind" := ⟨by k_is, by k_is, ⟨_, by k_is, by k_is⟩⟩
theorem set_Mem_kind {w : World} : SetOk w 640 "kind" := ⟨by k_is, by k_is, by k_is, by k_is⟩
theorem own_Mem_base {w : World} : Own w 640 "base" := ⟨by k_is, by k_is, ⟨_, by k_is, by k_is⟩⟩
theorem set_Mem_base {w : World} : SetOk w 640 "base" := ⟨by k_is, by k_is, by k_is, by k_is⟩
theorem own_Mem_index {w : World} : Own w 640 "index" := ⟨by k_is, by k_is, ⟨_, by k_is, by k_is⟩⟩
theorem set_Mem_index {w : World} : SetOk w 640 "index" := ⟨by k_is, by k_is, by k_is, by k_is⟩
theorem own_Mem_scale {w : World} : Own w 640 "scale" := ⟨by k_is, by k_is, ⟨_, by k_is, by k_is⟩⟩
theorem set_Mem_scale {w : World} : SetOk w 640 "scale" := ⟨by k_is, by k_is, by k_is, by k_is⟩
theorem own_Mem_worth {w : World} : Own w 640 "worth" := ⟨by k_is, by k_is, ⟨_, by k_is, by k_is⟩⟩
theorem set_Mem_worth {w : World} : SetOk w 640 "worth" := ⟨by k_is, by k_is, by k_is, by k_is⟩
theorem own_Mem_size {w : World} : Own w 640 "size" := ⟨by k_is, by k_is, ⟨_, by k_is, by k_is⟩⟩
theorem set_Mem_size {w : World} : SetOk w 640 "size" := ⟨by k_is, by k_is, by k_is, by k_is⟩
theorem own_Mem_segment {w : World} : Own w 640 "segment" := ⟨by k_is, by k_is, ⟨_, by k_is, by k_is⟩⟩
theorem set_Mem_segment {w : World} : SetOk w 640 "segment" := ⟨by k_is, by k_is, by k_is, by k_is⟩
theorem own_Mem_name {w : World} : Own w 640 "name" := ⟨by k_is, by k_is, ⟨_, by k_is, by k_is⟩⟩
theorem set_Mem_name {w : World} : SetOk w 640 "name" := ⟨by k_is, by k_is, by k_is, by k_is⟩
theorem meth_Flags_told {w : World} : Meth w 167 "told" 115 := ⟨by k_is, by k_is, by k_is, by k_is⟩
theorem meth_Flags_pack {w : World} : Meth w 167 "pack" 122 := ⟨by k_is, by k_is, by k_is, by k_is⟩
theorem meth_Flags_unpack {w : World} : Meth w 167 "unpack" 129 := ⟨by k_is, by k_is, by k_is, by k_is⟩
theorem meth_Flags_copy {w : World} : Meth w 167 "copy" 143 := ⟨by k_is, by k_is, by k_is, by k_is⟩
theorem meth_Memory_octet {w : World} : Meth w 359 "octet" 290 := ⟨by k_is, by k_is, by k_is, by k_is⟩
theorem meth_Memory_set_octet {w : World} : Meth w 359 "set_octet" 297 := ⟨by k_is, by k_is, by k_is, by k_is⟩
theorem meth_Memory_read {w : World} : Meth w 359 "read" 304 := ⟨by k_is, by k_is, by k_is, by k_is⟩
theorem meth_Memory_write {w : World} : Meth w 359 "write" 311 := ⟨by k_is, by k_is, by k_is, by k_is⟩
theorem meth_Memory_octets {w : World} : Meth w 359 "octets" 323 := ⟨by k_is, by k_is, by k_is, by k_is⟩
theorem meth_Memory_written {w : World} : Meth w 359 "written" 328 := ⟨by k_is, by k_is, by k_is, by k_is⟩
theorem meth_Memory_spans {w : World} : Meth w 359 "spans" 335 := ⟨by k_is, by k_is, by k_is, by k_is⟩
theorem meth_Memory_find {w : World} : Meth w 359 "find" 342 := ⟨by k_is, by k_is, by k_is, by k_is⟩
theorem meth_Memory_copy {w : World} : Meth w 359 "copy" 349 := ⟨by k_is, by k_is, by k_is, by k_is⟩
theorem meth_Memory_told {w : World} : Meth w 359 "told" 356 := ⟨by k_is, by k_is, by k_is, by k_is⟩
theorem meth_State_get {w : World} : Meth w 476 "get" 391 := ⟨by k_is, by k_is, by k_is, by k_is⟩
theorem meth_State_put {w : World} : Meth w 476 "put" 398 := ⟨by k_is, by k_is, by k_is, by k_is⟩
theorem meth_State_put_low {w : World} : Meth w 476 "put_low" 405 := ⟨by k_is, by k_is, by k_is, by k_is⟩
theorem meth_State_offset {w : World} : Meth w 476 "offset" 417 := ⟨by k_is, by k_is, by k_is, by k_is⟩
theorem meth_State_place {w : World} : Meth w 476 "place" 424 := ⟨by k_is, by k_is, by k_is, by k_is⟩
theorem meth_State_read {w : World} : Meth w 476 "read" 438 := ⟨by k_is, by k_is, by k_is, by k_is⟩
theorem meth_State_write {w : World} : Meth w 476 "write" 445 := ⟨by k_is, by k_is, by k_is, by k_is⟩
theorem meth_State_push {w : World} : Meth w 476 "push" 452 := ⟨by k_is, by k_is, by k_is, by k_is⟩
theorem meth_State_pop {w : World} : Meth w 476 "pop" 459 := ⟨by k_is, by k_is, by k_is, by k_is⟩
theorem meth_State_told {w : World} : Meth w 476 "told" 466 := ⟨by k_is, by k_is, by k_is, by k_is⟩
theorem meth_State_copy {w : World} : Meth w 476 "copy" 473 := ⟨by k_is, by k_is, by k_is, by k_is⟩
end
-- Rules4
section
variable {prog : Program} {w : World} {p : Program} {loose : List Str} {mean : ExcName → Option Value} {mg mb : Str → Option Value} {hb g : Heap} {L : Addr} {W : List Addr} {l : Loc} {news news' led rest : Led} {s₀ s : Shared}
  {A : Around} {E : Value → Shared → Prop} {Q : Value → Shared → Prop} {env : Env} {x : Str} {pos : Pos} {v : Value} {a b : Int} {t u : Tok} {o dx C D f : Addr} {vs : List Value}

theorem strValues_item {n : Nat} : ∀ {l : List (Str × Tok)} {i : Nat}, i < l.length → ∃ x t, (strValues l)[i]? = some (.str x t)
  | (x, t) :: _, 0, _ => ⟨x, t, rfl⟩
  | _ :: r, i + 1, h => by
    obtain ⟨y, u, e⟩ := strValues_item (n := n) (l := r) (i := i) (by simpa using h)
    exact ⟨y, u, by simpa [strValues] using e⟩

theorem r_split {n : Nat} (hn : (Txt.words x).length = n) (hz : x.length + 2 ≤ sizeLine) (S : St g L W l news s₀ s)
    (h : ∀ (D : Addr) (vs : List Value) s', vs.length = n → (∀ i, i < n → ∃ y t, vs[i]? = some (.str y t)) → St g L W l ((D, listOf vs.toArray 0) :: news) s₀ s' → Q (.ref D) s') :
    wpAny (model prog w) A (call (.builtin "str.split") [.str x t]) Q E s := by
  have hw : (PySem.Builtin.Str.spaceWords x (x.length + 1)).length ≤ sizeLine := by
    have e1 := (StrLaws.sw_weight x).1
    have e2 := StrLaws.len_le_wsum (PySem.Builtin.Str.spaceWords x (x.length + 1))
    lia
  have fin : ∀ (lst : List (Str × Tok)) (tk : Nat), lst.map (·.1) = Txt.words x → Q (.ref s.heap.objs.size) { s with heap := s.heap.push { cls := .type "list", data := .seq (strValues lst).toArray }, toks := tk } := by
    intro lst tk e
    have hl : lst.length = n := by rw [← hn, ← e, List.length_map]
    refine h _ (strValues lst) _ ?_ (fun i hi => strValues_item (n := 0) (hl ▸ hi)) ((S.push _).tok tk)
    rw [← hl]; simp [strValues]
  refine call_meets PySem.F.slot_str_split (typeIs_str _ _ _) PySem.F.entry_str_split (PySem.F.args_str_split_1 _) (meets_str_split_space x t (by lia) hw) ?_
  cases hw' : PySem.Builtin.Str.spaceWords x (x.length + 1) == [(0, x.length)]
  · simp only [Bool.false_eq_true, if_false]
    rw [strsFrom_eq]
    exact fin (numbered s.toks (PySem.wordsOf x)) _ ((numbered_texts _ _).trans (if_neg (ne_true_of_eq_false hw')).symm)
  · simp only [if_true]
    exact fin [(x, t)] s.toks (if_pos hw').symm

theorem r_strInt (S : St g L W l news s₀ s) (ha : a.natAbs.log2 < 1920) (h : ∀ (y : Str) t s', y = Str.ofString (toString a) → St g L W l news s₀ s' → Q (.str y t) s') : wpAny (model prog w) A (call (.type "str") [.int a t]) Q E s :=
  PySem.P.str_of_int ha (h _ _ _ rfl (S.tok _))

theorem r_addS {x y : Str} (S : St g L W l news s₀ s) (hz : x.length + y.length ≤ sizeLine) (h : ∀ t s', St g L W l news s₀ s' → Q (.str (x ++ y) t) s') : wpAny (model prog w) A (binaryOp .Add (.str x t) (.str y u)) Q E s :=
  SB.add (fun t' k => h t' _ (S.tok k)) hz
theorem r_m_split {pl : Sem Bool} {Q : Value × List Value → Shared → Prop} (h : Q (.builtin "str.split", [.str x t]) s) : wpAny (model prog w) A (getMethod (.str x t) "split" pl) Q E s :=
  getMethod_builtin (typeIs_str _ _ _) PySem.F.plainAttrs_str PySem.F.slot_str_split PySem.F.type_str_split (fun _ e => nomatch e) h
section
variable {us : List Value} {n k : Nat} {B : Addr}
theorem r_eqLen (S : St g L W l news s₀ s) (h1 : (D, listOf vs.toArray n) ∈ news) (h2 : (B, listOf us.toArray k) ∈ news) (hne : vs.length ≠ us.length) (hu : A.units < cLine) (h : Q (.bool false) s) :
    wpAny (model prog w) A (compareOp .Eq (.ref D) (.ref B)) Q E s :=
  SeqAt.eq_list_lengthsAt (S.lst h1) (S.lst h2) (by simpa using hne) hu h
theorem r_neLen (S : St g L W l news s₀ s) (h1 : (D, listOf vs.toArray n) ∈ news) (h2 : (B, listOf us.toArray k) ∈ news) (hne : vs.length ≠ us.length) (hu : A.units < cLine) (h : Q (.bool true) s) :
    wpAny (model prog w) A (compareOp .NotEq (.ref D) (.ref B)) Q E s := by
  exact SeqAt.RcNeAt.lists_lengths (S.lst h1) (S.lst h2) (by simpa using hne) hu prog w E Q h
theorem r_eqInts {ns ms : List Int} (S : St g L W l news s₀ s) (h1 : (D, listOf vs.toArray n) ∈ news) (i1 : IntsAre vs ns) (h2 : (B, listOf us.toArray k) ∈ news) (i2 : IntsAre us ms) (hu : A.units + 64 < cLine) (h : Q (.bool (decide (ns = ms))) s) :
    wpAny (model prog w) A (compareOp .Eq (.ref D) (.ref B)) Q E s := eq_intsK (S.lst h1) i1 (S.lst h2) i2 hu h
theorem r_neInts {ns ms : List Int} (S : St g L W l news s₀ s) (h1 : (D, listOf vs.toArray n) ∈ news) (i1 : IntsAre vs ns) (h2 : (B, listOf us.toArray k) ∈ news) (i2 : IntsAre us ms) (hu : A.units + 64 < cLine) (h : Q (.bool (!decide (ns = ms))) s) :
    wpAny (model prog w) A (compareOp .NotEq (.ref D) (.ref B)) Q E s := ne_intsK (S.lst h1) i1 (S.lst h2) i2 hu h
theorem r_inTup2 {c d e : Int} {t1 t2 t3 : Tok} (S : St g L W l news s₀ s) (h1 : (D, tupOf [Value.int c t1, Value.int d t2].toArray n) ∈ news) (h : Q (.bool (c == e || d == e)) s) :
    wpAny (model prog w) A (compareOp .In (.int e t3) (.ref D)) Q E s := by
  refine SeqAt.in_tupleAt (l := D) (fun v => match v with | .int i _ => i == e | _ => false) (S.tup h1) (fun y hy => ?_) ?_
  · have : y = .int c t1 ∨ y = .int d t2 := by simpa using hy
    rcases this with rfl | rfl
    · exact SeqAt.EqAt.int_int c t1 e t3
    · exact SeqAt.EqAt.int_int d t2 e t3
  · simpa using h
end
end
-- Rules5

inductive Slot (l : Led) : Led → (Led → Led) → Prop
  | all : Slot l l (fun x => x)
  | here {r} : Slot l (l ++ r) (fun x => x ++ r)
  | skip {q r f} : Slot l r f → Slot l (q :: r) (fun x => q :: f x)
  | left {n m f} : Slot l n f → Slot l (n ++ m) (fun x => f x ++ m)
  | right {n m f} : Slot l m f → Slot l (n ++ m) (fun x => n ++ f x)
theorem Slot.c0 {r : Led} : Slot [] r (fun x => x ++ r) := .here (l := [])
theorem Slot.c1 {a : Addr × Obj} {r : Led} : Slot [a] (a :: r) (fun x => x ++ r) := .here (l := [a])
theorem Slot.c2 {a b : Addr × Obj} {r : Led} : Slot [a, b] (a :: b :: r) (fun x => x ++ r) := .here (l := [a, b])
theorem Slot.c3 {a b c : Addr × Obj} {r : Led} : Slot [a, b, c] (a :: b :: c :: r) (fun x => x ++ r) := .here (l := [a, b, c])
theorem Slot.split {l n : Led} {f : Led → Led} (h : Slot l n f) : ∃ pre post, n = pre ++ (l ++ post) ∧ ∀ x, f x = pre ++ (x ++ post) := by
  induction h with
  | all => exact ⟨[], [], by simp, fun x => by simp⟩
  | @here r => exact ⟨[], r, by simp, fun x => by simp⟩
  | @skip q' _ _ _ ih => obtain ⟨p, q, e1, e2⟩ := ih; exact ⟨q' :: p, q, by rw [e1]; rfl, fun x => by dsimp only; rw [e2]; rfl⟩
  | @left _ m _ _ ih => obtain ⟨p, q, e1, e2⟩ := ih; exact ⟨p, q ++ m, by rw [e1]; simp, fun x => by dsimp only; rw [e2]; simp⟩
  | @right n _ _ _ ih => obtain ⟨p, q, e1, e2⟩ := ih; exact ⟨n ++ p, q, by rw [e1]; simp, fun x => by dsimp only; rw [e2]; simp⟩
theorem Slot.perm {l n : Led} {f : Led → Led} (h : Slot l n f) : ∃ rest, n.Perm (l ++ rest) ∧ ∀ x, (x ++ rest).Perm (f x) := by
  obtain ⟨p, q, e1, e2⟩ := h.split
  refine ⟨p ++ q, ?_, fun x => ?_⟩
  · rw [e1, ← List.append_assoc, ← List.append_assoc]; exact List.Perm.append_right _ List.perm_append_comm
  · rw [e2, ← List.append_assoc, ← List.append_assoc]; exact List.Perm.append_right _ List.perm_append_comm
inductive Slot2 (l k : Led) : Led → (Led → Led → Led) → Prop
  | lr {n m f g} : Slot l n f → Slot k m g → Slot2 l k (n ++ m) (fun a b => f a ++ g b)
  | rl {n m f g} : Slot k n f → Slot l m g → Slot2 l k (n ++ m) (fun a b => f b ++ g a)
  | skip {q r f} : Slot2 l k r f → Slot2 l k (q :: r) (fun a b => q :: f a b)
  | left {n m f} : Slot2 l k n f → Slot2 l k (n ++ m) (fun a b => f a b ++ m)
  | right {n m f} : Slot2 l k m f → Slot2 l k (n ++ m) (fun a b => n ++ f a b)
theorem perm_mid {n l r : Led} : (n ++ (l ++ r)).Perm (l ++ (n ++ r)) := by
  rw [← List.append_assoc, ← List.append_assoc]
  exact List.Perm.append_right _ List.perm_append_comm
theorem Split.here {led rest : Led} : Split (led ++ rest) led rest := by simpa using Split.app (n := led) (n' := rest) .all .none
theorem perm4 {a b c d : Led} : ((a ++ b) ++ (c ++ d)).Perm ((a ++ c) ++ (b ++ d)) := by
  simp only [List.append_assoc]
  refine List.Perm.append_left _ ?_
  rw [← List.append_assoc, ← List.append_assoc]
  exact List.Perm.append_right _ List.perm_append_comm
theorem Slot2.perm {l k n : Led} {f : Led → Led → Led} (h : Slot2 l k n f) : ∃ rest, n.Perm ((l ++ k) ++ rest) ∧ ∀ a b, ((a ++ b) ++ rest).Perm (f a b) := by
  induction h with
  | lr s1 s2 =>
    obtain ⟨r1, p1, q1⟩ := s1.perm
    obtain ⟨r2, p2, q2⟩ := s2.perm
    exact ⟨r1 ++ r2, (p1.append p2).trans perm4, fun a b => perm4.trans ((q1 a).append (q2 b))⟩
  | rl s1 s2 =>
    obtain ⟨r1, p1, q1⟩ := s1.perm
    obtain ⟨r2, p2, q2⟩ := s2.perm
    exact ⟨r1 ++ r2, (p1.append p2).trans (perm4.trans (List.Perm.append_right _ List.perm_append_comm)), fun a b => ((List.Perm.append_right _ List.perm_append_comm).trans perm4).trans ((q1 b).append (q2 a))⟩
  | @skip q _ _ _ ih =>
    obtain ⟨r, p, q'⟩ := ih
    exact ⟨q :: r, (p.cons _).trans List.perm_middle.symm, fun a b => List.perm_middle.trans ((q' a b).cons _)⟩
  | @left _ m _ _ ih =>
    obtain ⟨r, p, q'⟩ := ih
    exact ⟨r ++ m, (p.append_right m).trans (by rw [List.append_assoc]), fun a b => by rw [← List.append_assoc]; exact (q' a b).append_right m⟩
  | @right n _ _ _ ih =>
    obtain ⟨r, p, q'⟩ := ih
    refine ⟨n ++ r, (p.append_left n).trans ?_, fun a b => List.Perm.trans ?_ ((q' a b).append_left n)⟩
    · exact perm_mid
    · exact perm_mid.symm

section
variable {w : World} {p : Program} {loose : List Str} {mean : ExcName → Option Value} {mg mb : Str → Option Value} {hb : Heap}
theorem useS {n u : Nat} {f : Addr} {args : List Value} {kw : List (Str × Value)} {led news : Led} {fl : Led → Led} {R : Value → Led → Prop} {g : Heap} {L : Addr} {W : List Addr} {l : Loc} {A : Around} {s₀ s : Shared} {E Q : Value → Shared → Prop}
    (D : Does w hb n u f args kw led R) (G : Gr w p loose mean mg mb hb g) (S : St g L W l news s₀ s) (hsp : Slot led news fl)
    (hh : A.handled = none) (hdep : A.depth + n < recursionLimit) (hu : A.units + u < cLine)
    (k : ∀ v led' s', R v led' → St g L W l (fl led') s₀ s' → Q v s') :
    wpAny (model pgm w) A (call (.ref f) args kw) Q E s := by
  obtain ⟨rest, p1, p2⟩ := hsp.perm
  exact use D G (S.perm p1) .here hh hdep hu fun v led' s' r S' => k v led' s' r (S'.perm (p2 led'))
theorem use2 {n u : Nat} {f : Addr} {args : List Value} {kw : List (Str × Value)} {led led2 news : Led} {fl : Led → Led → Led} {R : Value → Led → Prop} {g : Heap} {L : Addr} {W : List Addr} {l : Loc} {A : Around} {s₀ s : Shared} {E Q : Value → Shared → Prop}
    (D : Does w hb n u f args kw (led ++ led2) fun v led' => ∃ a b, led' = a ++ b ∧ R v b ∧ a = led) (G : Gr w p loose mean mg mb hb g) (S : St g L W l news s₀ s) (hsp : Slot2 led led2 news fl)
    (hh : A.handled = none) (hdep : A.depth + n < recursionLimit) (hu : A.units + u < cLine)
    (k : ∀ v b s', R v b → St g L W l (fl led b) s₀ s' → Q v s') :
    wpAny (model pgm w) A (call (.ref f) args kw) Q E s := by
  obtain ⟨rest, p1, p2⟩ := hsp.perm
  exact use D G (S.perm p1) .here hh hdep hu fun v led' s' r S' => by
    obtain ⟨a, b, rfl, r, rfl⟩ := r
    exact k v b s' r (S'.perm (p2 a b))

theorem bindL_lookup (K : Str → Option NameKind) : ∀ (binds : List (Str × Value)) (m : Str → Option Value) (x : Str) (v : Value),
    ((binds.filter fun y => K y.1 == some NameKind.local).reverse.lookup x = some v ∨ ((binds.filter fun y => K y.1 == some NameKind.local).reverse.lookup x = none ∧ m x = some v)) → bindL K binds m x = some v
  | [], m, x, v, h => by simpa [bindL] using h
  | (n, u) :: r, m, x, v, h => by
    unfold bindL
    refine bindL_lookup K r _ x v ?_
    by_cases hn : K n = some .local
    · rw [if_pos hn]
      have e : (List.filter (fun y => K y.1 == some NameKind.local) ((n, u) :: r)) = (n, u) :: List.filter (fun y => K y.1 == some NameKind.local) r := by
        rw [List.filter_cons]; simp [hn]
      rw [e, List.reverse_cons] at h
      generalize (List.filter (fun y => K y.1 == some NameKind.local) r).reverse = t at h ⊢
      rw [List.lookup_append] at h
      cases ht : t.lookup x with
      | some v' => rw [ht] at h; simp at h; exact .inl (by rw [h])
      | none =>
        rw [ht] at h
        refine .inr ⟨rfl, ?_⟩
        by_cases hx : x = n
        · subst hx; simp at h ⊢; exact h
        · have hb : (x == n) = false := beq_eq_false_iff_ne.mpr hx
          simp only [Option.none_or, List.lookup_cons, List.lookup_nil, hb, hx, if_false] at h ⊢
          simpa using h
    · rw [if_neg hn]
      have e : (List.filter (fun y => K y.1 == some NameKind.local) ((n, u) :: r)) = List.filter (fun y => K y.1 == some NameKind.local) r := by
        rw [List.filter_cons]; simp [hn]
      rw [e] at h
      exact h

theorem CellsAre.sub {cm : Str → Option Value} : ∀ {cs : List (Str × Addr)} {cells : Led}, CellsAre cm cs cells → cells.map (·.1) = cs.map (·.2)
  | _, _, .nil => rfl
  | _, _, .cons _ r => by simp [CellsAre.sub r]

theorem enterC {name qual : Str} {params : Arguments} {body : List Stmt} {scope : Scope} {dV kV doc pm cdv ct oc : Value} {an od : Option Addr} {osl : Array (Option Value)} {f : Addr} {args : Args} {binds : List (Str × Value)} {A : Around} {s : Shared} {led : Led} {R : Value → Led → Prop}
    (l : Loc)
    (G : G0 w p loose mean mg mb hb) (hs : hb.StaysIn s.heap) (N : LedIn hb s.heap led) (nd : (led.map (·.1)).Nodup) (hroom : A.depth < recursionLimit)
    (ho : (KF w.params).lookup f = some ⟨oc, od, .func (fnOf name qual params body scope dV kV doc pm an cdv ct), osl⟩) (hcd : codeIn (KF w.params) cdv qual = true)
    (hbind : BindsTo s (fnOf name qual params body scope dV kV doc pm an cdv ct) args binds)
    (hkind : ∀ n, ∀ x ∈ binds, scope.names.lookup x.1 = some .local ∨ (scope.names.lookup x.1 = some .cell ∧ ((cellsFrom n scope.names []).lookup x.1).isSome = true))
    (hnd : ((cellsFrom 0 scope.names []).map (·.1)).Nodup)
    (hl : ∀ L, (binds.filter fun y => (envOfC qual scope L f cdv).kindOf y.1 == some NameKind.local).reverse = l)
    (h : ∀ g L s' cells, Gr w p loose mean mg mb hb g → CellsAre (bindC (envOfC qual scope L f cdv).kindOf binds fun _ => none) (cellsFrom (L + 1) scope.names []) cells → St g L (led.map (·.1)) l (cells ++ led) s s' → (∀ q ∈ led, q.1 < L) →
      wpAny (model pgm w) (A.deeper (envOfC qual scope L f cdv)) (execs body (envOfC qual scope L f cdv))
        (fun fl s' => Fini g L (led.map (·.1)) s R (match fl with | .ret v => v | _ => .none) s')
        (fun _ _ => False) s')
    (hco : scope.isCoroutine = false := by rfl) (hgen : scope.isGenerator = false := by rfl) (hk : scope.kind = .function := by rfl) : codeAny (model pgm w) A (.call (.ref f) args) (Ret s led R) s := by
  have st := stays_hide hs N
  have hi := (Frag.In.keeps G.X hs)
  refine codeAny_call_function (fd := fnOf name qual params body scope dV kV doc pm an cdv ct) hroom (hi _ _ ho) rfl hco hgen rfl (codeRec_of hi hcd) (hbind _ _ _ _ ?_)
  refine wpAny_newFunctionEnv_cells hk (hkind _) fun env' he s' x => ?_
  subst he
  refine ⟨(G.T.nolimit.keeps hs).keeps x.toInCall.keep, codeAny_func ?_⟩
  obtain ⟨h₁, tk, rfl, _⟩ := x.done
  have hk₁ := x.toInCall.keep
  obtain ⟨cells, NC, Y⟩ := Cl.news (h₀ := s.heap) (Nat.le_refl _) fun n c hm => ⟨x.cell n c (lookup_of_mem_nodup (cellsFrom_names scope.names 0 (s.heap.objs.size + 1) [] [] rfl ▸ hnd) hm), x.above n c hm⟩
  have hF : Fr (hideAll s.heap (led.map (·.1))) s.heap.objs.size h₁ (bindL (envOfC qual scope s.heap.objs.size f cdv).kindOf binds fun _ => none) :=
    ⟨x.toInCall.ns, fun b o e => hk₁ b o (of_hideAll _ e), Nat.le_of_eq (hideAll_size _ _)⟩
  have hab : ∀ q ∈ cells, s.heap.objs.size < q.1 := fun q hq => by
    have hm : q.1 ∈ cells.map (·.1) := List.mem_map_of_mem hq
    rw [CellsAre.sub Y] at hm
    obtain ⟨z, hz, e⟩ := List.mem_map.mp hm
    rw [← e]; exact x.above z.1 z.2 hz
  have hN : News (hideAll s.heap (led.map (·.1))) s.heap.objs.size h₁ (cells ++ led) := fun q hq => by
    rcases List.mem_append.mp hq with hp | hp
    · refine ⟨(NC q hp).1, (NC q hp).2.1, ?_⟩
      cases qq : (hideAll s.heap (led.map (·.1))).get? q.1 with
      | none => rfl
      | some o => have := of_hideAll _ qq; rw [(NC q hp).2.2] at this; cases this
    · exact ⟨hk₁ _ _ (N q hp).1, Nat.ne_of_lt (Heap.lt_size (N q hp).1), hideAll_none _ (List.mem_map_of_mem hp)⟩
  have hnd2 : ((cells ++ led).map (·.1)).Nodup := by
    rw [List.map_append, List.nodup_append]
    refine ⟨?_, nd, fun a ha b hb' e => ?_⟩
    · rw [CellsAre.sub Y]
      exact List.pairwise_map.mpr x.apart
    · obtain ⟨q, hq, rfl⟩ := List.mem_map.mp ha
      obtain ⟨q', hq', rfl⟩ := List.mem_map.mp hb'
      have h1 := hab q hq
      have h2 := Heap.lt_size (N q' hq').1
      rw [e] at h1
      exact Nat.lt_asymm h1 h2
  refine wpAny_mono (h _ _ _ cells ⟨st, Frag.In.keeps G.X st, G.T.keeps st⟩ Y ⟨⟨_, hF, fun y v e => ?_⟩, hN, ⟨rfl, rfl, rfl⟩, hnd2⟩ fun q hq => Heap.lt_size (N q hq).1) (fun fl s' hl => ?_) fun _ _ y => y.elim
  · refine bindL_lookup _ _ _ _ _ (.inl ?_)
    rw [hl]; exact e
  · exact ret_of hl
theorem enterCQ {name qual : Str} {params : Arguments} {body : List Stmt} {scope : Scope} {dV kV doc pm cdv ct oc : Value} {an od : Option Addr} {osl : Array (Option Value)} {f : Addr} {args : Args} {binds : List (Str × Value)} {A : Around} {s : Shared} {led : Led} {R : Value → Led → Prop}
    (l : Loc)
    (G : G0 w p loose mean mg mb hb) (hs : hb.StaysIn s.heap) (N : LedIn hb s.heap led) (nd : (led.map (·.1)).Nodup) (hroom : A.depth < recursionLimit)
    (ho : (KF w.params).lookup f = some ⟨oc, od, .func (fnOf name qual params body scope dV kV doc pm an cdv ct), osl⟩) (hcd : codeIn (KF w.params) cdv qual = true)
    (hbind : BindsTo s (fnOf name qual params body scope dV kV doc pm an cdv ct) args binds)
    (hkind : ∀ n, ∀ x ∈ binds, scope.names.lookup x.1 = some .local ∨ (scope.names.lookup x.1 = some .cell ∧ ((cellsFrom n scope.names []).lookup x.1).isSome = true))
    (hnd : ((cellsFrom 0 scope.names []).map (·.1)).Nodup)
    (hl : ∀ L, (binds.filter fun y => (envOfC qual scope L f cdv).kindOf y.1 == some NameKind.local).reverse = l)
    (hh : A.handled = none)
    (h : ∀ g L (W : List Addr) s' cells (B : Around) (Q : Flow → Shared → Prop), Gr w p loose mean mg mb hb g → CellsAre (bindC (envOfC qual scope L f cdv).kindOf binds fun _ => none) (cellsFrom (L + 1) scope.names []) cells → St g L W l (cells ++ led) s s' → (∀ q ∈ led, q.1 < L) →
      B.handled = none → B.depth = A.depth + 1 → B.units = A.units + 3 → (∀ {v : Value} {l' led' s''}, St g L W l' led' s s'' → R v led' → Q (.ret v) s'') → (∀ {l' led' s''}, St g L W l' led' s s'' → R .none led' → Q .next s'') →
      let env := envOfC qual scope L f cdv; wpAny (model pgm w) B (execs body env) Q (fun _ _ => False) s')
    (hco : scope.isCoroutine = false := by rfl) (hgen : scope.isGenerator = false := by rfl) (hk : scope.kind = .function := by rfl) : codeAny (model pgm w) A (.call (.ref f) args) (Ret s led R) s :=
  enterC l G hs N nd hroom ho hcd hbind hkind hnd hl (fun g L s' cells G C S lt => h g L _ s' cells _ _ G C S lt hh rfl rfl (fun S r => ⟨_, _, S, r⟩) fun S r => ⟨_, _, S, r⟩) hco hgen hk
end

section
variable {g : Heap} {L : Addr} {W : List Addr} {l : Loc} {news news' : Led} {s₀ s : Shared}
theorem St.inner (S : St g L W l news s₀ s) {o : Obj} {h₁ : Heap} {tk : Nat} {m' : Str → Option Value} (hn : h₁.Ns s.heap.objs.size m') (hs : Heap.SameBut s.heap.objs.size (s.heap.push o) h₁) :
    ∃ oL m, (∀ h : Heap, h.get? L = some oL → h.Ns L m) ∧ (∀ x v, l.lookup x = some v → m x = some v) ∧
      St g s.heap.objs.size (L :: news.map (·.1)) [] ((L, oL) :: news) s₀ { s with heap := h₁, toks := tk } := by
  obtain ⟨m, F, e⟩ := S.ns
  obtain ⟨oL, es, ep, hL, r⟩ := F.ns
  have hle : ∀ b x, s.heap.get? b = some x → h₁.get? b = some x := fun b x q => hs.extBut b x (Nat.ne_of_lt (Heap.lt_size q)) (Heap.get?_push_of_some _ q)
  refine ⟨oL, m, fun h hh => ⟨oL, es, ep, hh, r⟩, e, ⟨m', ⟨hn, fun b x q => hle b x (F.keep b x q), Nat.le_of_lt (Nat.lt_of_le_of_lt F.above (Heap.lt_size hL))⟩, fun x v q => by simp at q⟩, fun q hq => ?_, S.same, ?_⟩
  · rcases List.mem_cons.mp hq with rfl | hq
    · exact ⟨hle _ _ hL, Nat.ne_of_lt (Heap.lt_size hL), Heap.get?_none_of_le F.above⟩
    · have P := S.N q hq
      exact ⟨hle _ _ P.1, Nat.ne_of_lt (Heap.lt_size P.1), P.2.2⟩
  · rw [List.map_cons, List.nodup_cons]
    refine ⟨fun hm => ?_, S.nd⟩
    obtain ⟨q, hq, e⟩ := List.mem_map.mp hm
    exact (S.N q hq).2.1 e
theorem St.outer {C : Addr} {l' : Loc} {oL : Obj} {m : Str → Option Value} (hm : ∀ h : Heap, h.get? L = some oL → h.Ns L m) (e : ∀ x v, l.lookup x = some v → m x = some v) (hab : g.objs.size ≤ L) (hLC : L < C)
    (S : St g C (L :: news.map (·.1)) l' ((L, oL) :: news') s₀ s) {h' : Heap} {tk : Nat} (hs : Heap.SameBut C s.heap h') : St g L W l news' s₀ { s with heap := h', toks := tk } := by
  obtain ⟨_, F, _⟩ := S.ns
  have nd := S.nd
  rw [List.map_cons, List.nodup_cons] at nd
  have hk : ∀ b x, b ≠ C → s.heap.get? b = some x → h'.get? b = some x := fun b x hb q => hs.extBut b x hb q
  refine ⟨⟨m, ⟨hm _ (hk _ _ (Nat.ne_of_lt hLC) (S.N _ (.head _)).1), fun b x q => hk b x (fun z => ?_) (F.keep b x q), hab⟩, e⟩, fun q hq => ?_, S.same, nd.2⟩
  · have := Heap.lt_size q
    rw [z] at this
    exact Nat.lt_irrefl _ (Nat.lt_of_lt_of_le this F.above)
  · have P := S.N q (.tail _ hq)
    exact ⟨hk _ _ P.2.1 P.1, fun z => nd.1 (List.mem_map.mpr ⟨q, hq, z⟩), P.2.2⟩
end

section
variable {w : World} {A : Around} {E : Value → Shared → Prop} {env : Env} {elt target iter : Expr} {ifs : List Expr} {scope : Scope} {cl : List (Str × Addr)} {pos : Pos} {Q : Value → Shared → Prop} {g : Heap} {L : Addr} {W : List Addr} {l : Loc} {news led fx : Led} {s₀ s : Shared}
noncomputable def CompGo (w : World) (A : Around) (E : Value → Shared → Prop) (env : Env) (elt target iter : Expr) (ifs : List Expr) (scope : Scope) (cl : List (Str × Addr)) (pos : Pos) (Q : Value → Shared → Prop) (it : Value) (s : Shared) : Prop :=
  wpAny (model pgm w) A (newList []) (fun acc s₃ => wpAny (model pgm w) A (newFunctionEnv scope env.globals cl [] env.qual none .none (some env)) (fun cenv s₄ =>
      codeAny (model pgm w) A (.compStart (.ListComp elt [⟨target, iter, ifs, 0⟩] scope pos) 0 it acc { cenv with scope := relabel scope env }) (compPost (model pgm w) A E none Q acc cenv.locals) s₄) E s₃) E s
theorem r_comp (h : wpAny (model pgm w) A (eval iter env) (fun xv s₁ => wpAny (model pgm w) A (pyIter xv) (fun it s₂ => CompGo w A E env elt target iter ifs scope cl pos Q it s₂) E s₁) E s)
    (hclos : closureFor scope env = pure cl) (hkind : scope.kind = .function) (hnames : ∀ x ∈ scope.names, x.2 = .local → scope.names.lookup x.1 = some .local)
    (hs : ∀ x, foldedSetIterable iter env x = pure x := by intro _; rfl) : wpAny (model pgm w) A (eval (.ListComp elt [⟨target, iter, ifs, 0⟩] scope pos) env) Q E s := by
  rw [eval_ListComp]
  exact wpAny_comprehension_free (use := none) rfl hs hclos hkind hnames h
inductive CInv (g : Heap) (C L D I : Addr) (WW : List Addr) (oL : Obj) (fx : Led) (s₀ : Shared) (N : Nat) (J : Nat → List Value → Led → Prop) (It : Nat → Heap → Prop) (k : Nat) (s' : Shared) : Prop
  | mk (i : Nat) (oI : Obj) (ys : List Value) (n : Nat) (l' : Loc) (led' : Led) (hk : k = N + 1 - i) (hi : i ≤ N) (hJ : J i ys led') (hst : It i s'.heap) (S : St g C WW l' ((L, oL) :: (D, listOf ys.toArray n) :: (I, oI) :: (fx ++ led')) s₀ s')
theorem r_compW {I : Addr} {o₀ : Obj} {fp wr : List Addr} {N : Nat} {P : Nat → Value → Prop} {It : Nat → Heap → Prop}
    (Wk : Walks pgm w A I fp wr N P It) (hfp : ∀ b ∈ fp, b = I ∨ b ∈ fx.map (·.1)) (hwr : ∀ b ∈ wr, b = I) (hI : ∀ i h, It i h → ∃ o, h.get? I = some o)
    (J : Nat → List Value → Led → Prop) (S : St g L W l ((I, o₀) :: (fx ++ led)) s₀ s) (hst : It 0 s.heap) (hJ : J 0 [] led) (hlen : ∀ i ys led, J i ys led → ys.length ≤ sizeLine)
    (hcell : ∀ y ∈ scope.names, y.2 ≠ .cell) (hkind : scope.kind = .function)
    (turn : ∀ C D oL i v oI ys n led s E' W', i < N → P i v → J i ys led → St g C W' [] ((L, oL) :: (D, listOf ys.toArray n) :: (I, oI) :: (fx ++ led)) s₀ s →
      wpAny (model pgm w) A (assign target (compEnvC scope cl C env) v) (fun _ s₂ =>
        wpAny (model pgm w) A (forIn ifs true fun c r => if r = true then do let ok ← isTrue c (compEnvC scope cl C env) (eval c (compEnvC scope cl C env)); pure (ForInStep.yield ok) else pure (ForInStep.yield r)) (fun ok s₃ =>
          if ok = true then wpAny (model pgm w) A (eval elt (compEnvC scope cl C env)) (fun y s₄ => ∃ l' led', J (i + 1) (ys ++ [y]) led' ∧ St g C W' l' ((L, oL) :: (D, listOf ys.toArray n) :: (I, oI) :: (fx ++ led')) s₀ s₄) E' s₃
          else ∃ l' led', J (i + 1) ys led' ∧ St g C W' l' ((L, oL) :: (D, listOf ys.toArray n) :: (I, oI) :: (fx ++ led')) s₀ s₃) E' s₂) E' s)
    (fin : ∀ D ys n led s, J N ys led → St g L W l ((D, listOf ys.toArray n) :: (fx ++ led)) s₀ s → Q (.ref D) s)
    (ht : ∀ v, letOwnedTupleGo target (.ref I) v = pure () := by intro _; rfl) :
    CompGo w A E env elt target iter ifs scope cl pos Q (.ref I) s := by
  unfold CompGo
  refine wpAny_newObj_type (wpAny_newFunctionEnv hcell (by intro y hy; simp at hy) (fun h₁ hns₁ hsb₁ => ?_) hkind)
  have S1 := S.push { cls := .type "list", dict := none, data := .seq ([] : List Value).toArray }
  dsimp only at hns₁ hsb₁ ⊢
  obtain ⟨oL, m, hm, e, S2⟩ := S1.inner (tk := s.toks + ([] : List (Str × Value)).length) hns₁ hsb₁
  have hab : g.objs.size ≤ L := let ⟨_, F, _⟩ := S.ns; F.above
  have hLC : L < (s.heap.push { cls := .type "list", dict := none, data := .seq ([] : List Value).toArray }).objs.size := S1.ltL
  dsimp only at S2 hLC
  generalize (s.heap.push { cls := .type "list", dict := none, data := .seq ([] : List Value).toArray }).objs.size = C at *
  generalize s.heap.objs.size = D at *
  have hst₁ : It 0 h₁ := Wk.frame _ _ _ hst fun b hb o eb => by
    rcases hfp b hb with rfl | hb'
    · have h1 : o = o₀ := Option.some.inj (eb.symm.trans (S.at (.head _)))
      rw [h1]; exact S2.at (.tail _ (.tail _ (.head _)))
    · obtain ⟨q, hq, rfl⟩ := List.mem_map.mp hb'
      have h1 : o = q.2 := Option.some.inj (eb.symm.trans (S.at (a := q.1) (o := q.2) (.tail _ (List.mem_append_left _ hq))))
      rw [h1]; exact S2.at (.tail _ (.tail _ (.tail _ (List.mem_append_left _ hq))))
  have loop : ∀ s₃ : Shared, s₃ = { s with heap := h₁, toks := s.toks + ([] : List (Str × Value)).length } →
      codeAny (model pgm w) A (.compLoop (.ListComp elt [⟨target, iter, ifs, 0⟩] scope pos) 0 (.ref I) (.ref D) (compEnvC scope cl C env)) (compPost (model pgm w) A E none Q (.ref D) C) s₃ := by
    rintro s₃ rfl
    refine codeAny_compLoop_tests (CInv g C L D I (L :: ((D, { cls := .type "list", dict := none, data := .seq ([] : List Value).toArray }) :: (I, o₀) :: (fx ++ led)).map (·.1)) oL fx s₀ N J It) ?_ (N + 1)
      ⟨0, o₀, [], 0, [], led, rfl, Nat.zero_le _, hJ, hst₁, S2⟩ ht
    rintro k s' ⟨i, oI, ys, n, l', led', rfl, hi, hJ', hst', S'⟩
    by_cases hlt : i < N
    · refine Wk.item i s' _ _ hlt hst' fun v h' tk hP hst'' hk => ?_
      obtain ⟨oI', ho'⟩ := hI _ _ hst''
      have S3 := (S'.mod (.skip (.skip .here)) (fun b x hb e => hk b x (fun hm => hb (hwr b hm)) e) ho' tk).loc (l' := []) (fun x v q => by simp at q)
      refine wpAny_mono (turn C D oL i v oI' ys n led' _ _ _ hlt hP hJ' S3) (fun _ s₂ h₂ => wpAny_mono h₂ (fun ok s₃ h₃ => ?_) fun _ _ e => e) fun _ _ e => e
      have fr : ∀ {l₁ led₁ ys₁ n₁} {s₄ : Shared}, St g C (L :: ((D, { cls := .type "list", dict := none, data := .seq ([] : List Value).toArray }) :: (I, o₀) :: (fx ++ led)).map (·.1)) l₁ ((L, oL) :: (D, listOf ys₁ n₁) :: (I, oI') :: (fx ++ led₁)) s₀ s₄ → It (i + 1) s₄.heap := by
        intro l₁ led₁ ys₁ n₁ s₄ S₄
        refine Wk.frame _ _ _ hst'' fun b hb o eb => ?_
        rcases hfp b hb with rfl | hm
        · have : o = oI' := Option.some.inj (eb.symm.trans ho')
          rw [this]; exact S₄.at (.tail _ (.tail _ (.head _)))
        · obtain ⟨q, hq, rfl⟩ := List.mem_map.mp hm
          have h1 := S3.at (a := q.1) (o := q.2) (.tail _ (.tail _ (.tail _ (List.mem_append_left _ hq))))
          have : o = q.2 := Option.some.inj (eb.symm.trans h1)
          rw [this]; exact S₄.at (.tail _ (.tail _ (.tail _ (List.mem_append_left _ hq))))
      cases ok with
      | false =>
        obtain ⟨l₁, led₁, hJ₁, S₄⟩ := h₃
        exact ⟨N + 1 - (i + 1), by omega, i + 1, oI', ys, n, l₁, led₁, rfl, hlt, hJ₁, fr S₄, S₄⟩
      | true =>
        refine wpAny_mono h₃ (fun y s₄ h₄ => ?_) fun _ _ e => e
        obtain ⟨l₁, led₁, hJ₁, S₄⟩ := h₄
        refine r_append (vs := ys) S₄ (.skip .here) (hlen _ _ _ hJ') fun s₅ S₅ => ?_
        exact ⟨N + 1 - (i + 1), by omega, i + 1, oI', ys ++ [y], n + 1, l₁, led₁, rfl, hlt, hJ₁, fr S₅, S₅⟩
    · have hin : i = N := by lia
      subst hin
      refine Wk.done s' _ _ hst' fun h' tk hk => ?_
      have S3 := ((S'.perm (news' := (I, oI) :: (L, oL) :: (D, listOf ys.toArray n) :: (fx ++ led')) (by
        refine List.Perm.trans ?_ (List.Perm.swap _ _ _)
        exact (List.Perm.swap _ _ _).cons _)).dropMod (fun b x hb e => hk b x (fun hm => hb (hwr b hm)) e) tk)
      obtain ⟨mC, FC, _⟩ := S3.ns
      refine ⟨mC, FC.ns, fun h'' hs'' => ?_⟩
      exact fin D ys n led' _ hJ' (St.outer hm e hab hLC S3 hs'' (tk := tk))
  exact codeAny_compStart_list (loop _ rfl) (Wk.self 0 _ _ _ hst₁ (loop _ rfl))
end
-- Rules6
section
variable {w : World} {p : Program} {loose : List Str} {mean : ExcName → Option Value} {mg mb : Str → Option Value} {hb g : Heap} {L : Addr} {W : List Addr} {l : Loc} {news news' led rest : Led} {s₀ s : Shared}
  {A : Around} {E : Value → Shared → Prop} {Q : Value → Shared → Prop} {env : Env} {x : Str} {pos : Pos} {v : Value} {a b : Int} {t u : Tok} {o dx C D f : Addr} {vs : List Value} {n : Nat} {ns : List Int} {value slice : Expr}

theorem r_dict0 (G : Gr w p loose mean mg mb hb g) (S : St g L W l news s₀ s)
    (h : ∀ D o s', (∀ q ∈ news, q.1 < D) → (D == sysModules) = false → o.IsDictOf (intKind pgm w) [] → o.IsDictOf (PySem.strKind pgm w) [] → St g L W l ((D, o) :: news) s₀ s' → Q (.ref D) s') :
    wpAny (model pgm w) A (eval (.Dict [] [] pos) env) Q E s := by
  obtain ⟨m, F, e⟩ := S.ns
  refine wpAny_Dict_empty (h _ _ _ S.fresh (F.notModules (modules_low G.T.nolimit)) ?_ ?_ (S.push _))
  · obtain ⟨o, ho, hdk⟩ := Heap.dictOf_iff.mp (Heap.DictOf.new (knd := intKind pgm w) s.heap)
    rw [Heap.get?_push_size _ rfl] at ho
    exact (Option.some.inj ho) ▸ hdk
  · obtain ⟨o, ho, hdk⟩ := Heap.dictOf_iff.mp (Heap.DictOf.new (knd := PySem.strKind pgm w) s.heap)
    rw [Heap.get?_push_size _ rfl] at ho
    exact (Option.some.inj ho) ▸ hdk
theorem r_dictS {keys : List (Option Expr)} {values : List Expr} (G : Gr w p loose mean mg mb hb g) (S : St g L W l news s₀ s)
    (h : ∀ D o s', (∀ q ∈ news, q.1 < D) → (D == sysModules) = false → o.IsDictOf (PySem.strKind pgm w) [] → St g L W l ((D, o) :: news) s₀ s' →
      wpAny (model pgm w) A (evalPairs (pairTrees keys values env pos)) (fun vs s₁ => KdnMade pgm w (PySem.strKind pgm w) D Q vs s₁) E s')
    (hall : keys.all (·.isSome) = true := by rfl) (hl : keys.length = values.length := by rfl) (h0 : keys ≠ [] := by exact List.cons_ne_nil _ _) (hlen : keys.length ≤ 15 := by exact Nat.le_of_ble_eq_true rfl) :
    wpAny (model pgm w) A (eval (.Dict keys values pos) env) Q E s := by
  obtain ⟨m, F, e⟩ := S.ns
  obtain ⟨o, ho, hdk⟩ := Heap.dictOf_iff.mp (Heap.DictOf.new (knd := PySem.strKind pgm w) s.heap)
  have ho' := ho
  rw [Heap.get?_push_size _ rfl] at ho'
  have eo := Option.some.inj ho'
  refine Dict_made (knd := PySem.strKind pgm w) F hall hl h0 hlen fun F' => wpAny_mono (h _ o _ S.fresh (F.notModules (modules_low G.T.nolimit)) hdk ?_) (fun _ _ x => x) fun _ _ x => x
  rw [← eo]; exact S.push _
theorem r_made {o : Obj} {fl : Obj → Led} {vs : List (Value × Value)} (S : St g L W l news s₀ s) (U : At D o news fl) (hdk : o.IsDictOf (PySem.strKind pgm w) []) (hk : allStrKeys vs = true) (hn : ((strPairs vs).map (·.1)).Nodup)
    (h : ∀ o' s', o'.IsDictOf (PySem.strKind pgm w) (strPairs vs) → St g L W l (fl o') s₀ s' → Q (.ref D) s') : KdnMade pgm w (PySem.strKind pgm w) D Q vs s := by
  refine display_done_str hk hn (Heap.dictOf_iff.mpr ⟨o, (S.N _ U.mem).1, hdk⟩) fun h' hm hs => ?_
  obtain ⟨o', ho', hd'⟩ := Heap.dictOf_iff.mp hm
  exact h o' _ hd' (S.put U hs ho' _)

theorem r_len (S : St g L W l news s₀ s) (hm : (D, listOf vs.toArray n) ∈ news) (hf : vs.length ≤ 16777216) (h : ∀ t s', St g L W l news s₀ s' → Q (.int vs.length t) s') : wpAny (model pgm w) A (call (.builtin "len") [.ref D]) Q E s := by
  refine call_len_list (S.lst hm) ?_ ?_
  · simp; lia
  · have := h (s.toks + 1) _ (S.tok (s.toks + 1 + 1))
    simpa using this
theorem r_intInt (h : Q (.int a t) s) : wpAny (model pgm w) A (call (.type "int") [.int a t]) Q E s := call_int_int h

theorem r_iget (S : St g L W l news s₀ s) (hm : (D, listOf vs.toArray n) ∈ news) (hi : IntsAre vs ns) (h0 : 0 ≤ a) (h1 : a < ns.length) (hf : a < 2 ^ 63) (h : ∀ t, Q (.int (ns.getD a.toNat 0) t) s)
    (hs : subscripted slice false (.ref D) (.int a u) = operate [.ref D, .int a u] (getItem (.ref D) (.int a u)) := by with_unfolding_all rfl) : wpAny (model pgm w) A (subscriptTail value slice (.ref D) (.int a u)) Q E s :=
  ksa_sub S.N hm hi h0 h1 hf h hs
theorem r_iset {Q : Unit → Shared → Prop} {fl : Obj → Led} (S : St g L W l news s₀ s) (U : At D (listOf vs.toArray n) news fl) (hi : IntsAre vs ns) (h0 : 0 ≤ a) (h1 : a < ns.length) (hf : a < 2 ^ 63)
    (h : ∀ s', IntsAre (vs.set a.toNat (.int b u)) (ns.set a.toNat b) → St g L W l (fl (listOf (vs.set a.toNat (.int b u)).toArray n)) s₀ s' → Q () s') : wpAny (model pgm w) A (setItem (.ref D) (.int a t) (.int b u)) Q E s :=
  r_setItem S U h0 (by rw [hi.length]; exact h1) hf fun s' => h s' (ints_set hi _)

theorem r_slice {t u : Tok} (S : St g L W l news s₀ s) (hl : s.heap.IsList D vs.toArray) (hi : IntsAre vs ns) (h0 : 0 ≤ a) (h1 : 0 ≤ b) (hz : vs.length ≤ sizeLine)
    (h : ∀ (B : Addr) (ws : List Value) s', (∀ q ∈ news, q.1 < B) → IntsAre ws ((ns.drop a.toNat).take (min b.toNat ns.length - a.toNat)) → St g L W l ((B, listOf ws.toArray 0) :: news) s₀ s' → Q (.ref B) s')
    (hs : subscripted slice false (.ref D) (.ref s.heap.objs.size) = operate [.ref s.heap.objs.size, .ref D] (getItem (.ref D) (.ref s.heap.objs.size)) := by with_unfolding_all rfl) (ht : ∀ r, letTemporaryGo value (.ref D) r = pure () := by intro _; with_unfolding_all rfl) :
    wpAny (model pgm w) A (subscriptTail value slice (.ref D) (.ref s.heap.objs.size)) Q E { s with heap := s.heap.push { cls := .type "slice", data := .fields #[.int a t, .int b u, .none] } } := by
  obtain ⟨m, F, e⟩ := S.ns
  exact kmk_slice_ints F S.N hl (.int _ _) (.int _ _) hi (kmk_run hi h0 h1) rfl (fun B ws h' F' N' l1 hI _ _ => h B ws _ l1 hI (S.ofK1 F' e N' l1)) hs ht (by simpa using hz)
theorem r_sliceTo {u : Tok} (S : St g L W l news s₀ s) (hl : s.heap.IsList D vs.toArray) (hi : IntsAre vs ns) (h1 : 0 ≤ b) (hz : vs.length ≤ sizeLine)
    (h : ∀ (B : Addr) (ws : List Value) s', (∀ q ∈ news, q.1 < B) → IntsAre ws (ns.take b.toNat) → St g L W l ((B, listOf ws.toArray 0) :: news) s₀ s' → Q (.ref B) s')
    (hs : subscripted slice false (.ref D) (.ref s.heap.objs.size) = operate [.ref s.heap.objs.size, .ref D] (getItem (.ref D) (.ref s.heap.objs.size)) := by with_unfolding_all rfl) (ht : ∀ r, letTemporaryGo value (.ref D) r = pure () := by intro _; with_unfolding_all rfl) :
    wpAny (model pgm w) A (subscriptTail value slice (.ref D) (.ref s.heap.objs.size)) Q E { s with heap := s.heap.push { cls := .type "slice", data := .fields #[.none, .int b u, .none] } } := by
  obtain ⟨m, F, e⟩ := S.ns
  exact kmk_slice_ints F S.N hl .none (.int _ _) hi (kmk_upto hi h1) rfl (fun B ws h' F' N' l1 hI _ _ => h B ws _ l1 hI (S.ofK1 F' e N' l1)) hs ht (by simpa using hz)
theorem r_rev {u : Tok} {ops : List Value} (S : St g L W l news s₀ s) (hl : s.heap.IsList D vs.toArray) (hz : vs.length ≤ sizeLine)
    (h : ∀ (B : Addr) s', (∀ q ∈ news, q.1 < B) → St g L W l ((B, listOf vs.reverse.toArray 0) :: news) s₀ s' → Q (.ref B) s')
    (hs : subscripted slice false (.ref D) (.ref s.heap.objs.size) = operate ops (getItem (.ref D) (.ref s.heap.objs.size)) := by with_unfolding_all rfl) (ht : ∀ r, letTemporaryGo value (.ref D) r = pure () := by intro _; with_unfolding_all rfl) :
    wpAny (model pgm w) A (subscriptTail value slice (.ref D) (.ref s.heap.objs.size)) Q E { s with heap := s.heap.push { cls := .type "slice", data := .fields #[.none, .none, .int (-1) u] } } := by
  obtain ⟨m, F, e⟩ := S.ns
  exact krv_lit (its := vs.toArray) (zs := vs.reverse) F S.N hl (.int _ _) rfl (fun B h' F' N' l1 => h B _ l1 (S.ofK1 F' e N' l1)) hs ht (by simpa using hz)
theorem flat_rep (c : Int) : ∀ k, (List.replicate k [c]).flatten = List.replicate k c
  | 0 => rfl
  | k + 1 => by rw [List.replicate_succ, List.flatten_cons, flat_rep c k, List.replicate_succ]; rfl
theorem r_times {c : Int} {k : Nat} (S : St g L W l news s₀ s) (hm : (D, listOf [Value.int c t].toArray n) ∈ news) (hk : a = (k : Int)) (hz : k ≤ 2 ^ 20)
    (h : ∀ (B : Addr) (ws : List Value) s', (∀ q ∈ news, q.1 < B) → IntsAre ws (List.replicate k c) → St g L W l ((B, listOf ws.toArray 0) :: news) s₀ s' → Q (.ref B) s') : wpAny (model pgm w) A (binaryOp .Mult (.ref D) (.int a u)) Q E s := by
  obtain ⟨m, F, e⟩ := S.ns
  have hk' : a.toNat = k := by lia
  refine KM.mul F S.N (S.lst hm) (.cons c t .nil) (by lia) (by lia) ?_ fun B h' F' N' l1 hI _ _ _ _ _ => ?_
  · rw [hk']; simp; lia
  · rw [hk'] at hI N'
    rw [flat_rep] at hI
    exact h B _ _ l1 hI (S.ofK1 F' e N' l1)
theorem r_listCopy (S : St g L W l news s₀ s) (hm : (D, listOf vs.toArray n) ∈ news) (hz : vs.length ≤ sizeLine)
    (h : ∀ (B : Addr) k s', (∀ q ∈ news, q.1 < B) → St g L W l ((B, listOf vs.toArray k) :: news) s₀ s' → Q (.ref B) s') : wpAny (model pgm w) A (call (.type "list") [.ref D]) Q E s := by
  refine call_list_seq D (T := "list") (.inl rfl) (S.at hm) rfl rfl (fun h' c' hk hg => h _ c' _ S.fresh ?_) (by simpa using hz)
  obtain ⟨m, F, e⟩ := S.ns
  obtain ⟨oL, es, ep, hL, r⟩ := F.ns
  refine S.ofK1 (m := m) ⟨⟨oL, es, ep, hk L oL hL, r⟩, fun b x q => hk b x (F.keep b x q), F.above⟩ e (fun q hq => ?_) S.fresh
  rcases List.mem_cons.mp hq with rfl | hq
  · refine ⟨hg, fun e => Nat.lt_irrefl _ (e ▸ Heap.lt_size hL), Heap.get?_none_of_le (Nat.le_of_lt (Nat.lt_of_le_of_lt F.above (Heap.lt_size hL)))⟩
  · exact ⟨hk _ _ (S.N q hq).1, (S.N q hq).2⟩
theorem r_tupleList (S : St g L W l news s₀ s) (hm : (D, listOf vs.toArray n) ∈ news) (hz : vs.length ≤ sizeLine)
    (h : ∀ (B : Addr) s', (∀ q ∈ news, q.1 < B) → St g L W l ((B, tupOf vs.toArray 0) :: news) s₀ s' → Q (.ref B) s') : wpAny (model pgm w) A (call (.type "tuple") [.ref D]) Q E s := by
  refine call_tuple_list (S.lst hm) (fun h' hk => ?_) (by simpa using hz)
  have S' := S.grow hk s.toks
  exact h _ _ S'.fresh (S'.push _)
theorem r_bytes (S : St g L W l news s₀ s) (hm : (D, listOf vs.toArray n) ∈ news) (hi : IntsAre vs ns) (hr : ∀ n ∈ ns, 0 ≤ n ∧ n < 256) (hz : vs.length ≤ sizeLine) (hh : A.handled = none)
    (h : ∀ t s', St g L W l news s₀ s' → Q (.bytes (byteArr ns) t) s') : wpAny (model pgm w) A (call (.type "bytes") [.ref D]) Q E s :=
  call_bytes_ints (S.lst hm) hi hr hz hh fun h' t k hk => h t _ (S.grow hk k)
theorem byteArr_inj : ∀ {xs ys : List Int}, (∀ n ∈ xs, 0 ≤ n ∧ n < 256) → (∀ n ∈ ys, 0 ≤ n ∧ n < 256) → (byteArr xs).toList = (byteArr ys).toList → xs = ys := by
  intro xs
  induction xs with
  | nil => intro ys _ _ h; cases ys with
    | nil => rfl
    | cons y ys => simp [byteArr] at h
  | cons x xs ih => intro ys hx hy h; cases ys with
    | nil => simp [byteArr] at h
    | cons y ys =>
      simp only [byteArr, List.map_cons, List.cons.injEq] at h ih
      have h1 := hx x (by simp)
      have h2 := hy y (by simp)
      have e1 : x.toNat = y.toNat := by
        have := congrArg UInt8.toNat h.1
        simp only [Nat.toUInt8_eq, UInt8.toNat_ofNat'] at this
        omega
      rw [show x = y by lia, ih (fun n hn => hx n (by simp [hn])) (fun n hn => hy n (by simp [hn])) h.2]
theorem byteArr_beq {xs ys : List Int} (hx : ∀ n ∈ xs, 0 ≤ n ∧ n < 256) (hy : ∀ n ∈ ys, 0 ≤ n ∧ n < 256) : ((byteArr xs).toList == (byteArr ys).toList) = decide (xs = ys) := by
  rw [Bool.eq_iff_iff, beq_iff_eq, decide_eq_true_iff]
  exact ⟨byteArr_inj hx hy, fun e => by rw [e]⟩
theorem r_eqB {xs ys : List Int} (hx : ∀ n ∈ xs, 0 ≤ n ∧ n < 256) (hy : ∀ n ∈ ys, 0 ≤ n ∧ n < 256) (h : Q (.bool (decide (xs = ys))) s) : wpAny (model pgm w) A (compareOp .Eq (.bytes (byteArr xs) t) (.bytes (byteArr ys) u)) Q E s :=
  eq_bytes (by rw [byteArr_beq hx hy]; exact h)
theorem r_neB {xs ys : List Int} (hx : ∀ n ∈ xs, 0 ≤ n ∧ n < 256) (hy : ∀ n ∈ ys, 0 ≤ n ∧ n < 256) (h : Q (.bool (!decide (xs = ys))) s) : wpAny (model pgm w) A (compareOp .NotEq (.bytes (byteArr xs) t) (.bytes (byteArr ys) u)) Q E s :=
  ne_bytes (by rw [bne, byteArr_beq hx hy]; exact h)
theorem r_lenB (S : St g L W l news s₀ s) (hf : ns.length ≤ 16777216) (h : ∀ t s', St g L W l news s₀ s' → Q (.int ns.length t) s') : wpAny (model pgm w) A (call (.builtin "len") [.bytes (byteArr ns) t]) Q E s := by
  refine len_bytes (by rw [byteArr_size]; lia) ?_
  rw [byteArr_size]
  exact h _ _ (S.tok _)
theorem r_mulS (S : St g L W l news s₀ s) (h1 : b.natAbs < 2 ^ 64) (h : ∀ t s', St g L W l news s₀ s' → Q (.int (a * b) t) s') : wpAny (model pgm w) A (binaryOp .Mult (.int a t) (.int b u)) Q E s :=
  r_mul S (.of_right (intBits_le_64 (by omega) (by omega))) h
theorem r_mulL (S : St g L W l news s₀ s) (h1 : a.natAbs < 2 ^ 64) (h : ∀ t s', St g L W l news s₀ s' → Q (.int (a * b) t) s') : wpAny (model pgm w) A (binaryOp .Mult (.int a t) (.int b u)) Q E s :=
  r_mul S (.of_left (intBits_le_64 (by omega) (by omega))) h

structure KeysIt (w : World) (A : Around) (I D : Addr) (kvs : List (Int × Value)) (It : Nat → Heap → Prop) : Prop where
  walks : Walks pgm w A I [I, D] [I] kvs.length (fun i v => ∃ k x t, kvs[i]? = some (k, x) ∧ v = .int k t) It
  some : ∀ i h, It i h → ∃ o, h.get? I = some o
theorem r_dictIt {o : Obj} {kvs : List (Int × Value)} (S : St g L W l news s₀ s) (hm : (D, o) ∈ news) (hdk : o.IsDictOf (intKind pgm w) kvs) (lo : (D == sysModules) = false) (hh : A.handled = none)
    (h : ∀ I oI It s', KeysIt w A I D kvs It → It 0 s'.heap → St g L W l ((I, oI) :: news) s₀ s' → Q (.ref I) s') : wpAny (model pgm w) A (pyIter (.ref D)) Q E s := by
  obtain ⟨ep, hat⟩ := (S.dict hm hdk).dictAt
  refine wpAny_pyIter_dict lo hat ?_
  have hne : D ≠ s.heap.objs.size := Nat.ne_of_lt (S.fresh _ hm)
  have Wk := Walks.dictKeys (prog := pgm) (w := w) (A := A) (knd := intKind pgm w) hh s.heap.objs.size D hne kvs ep
  refine h _ _ _ _ ⟨⟨Wk.sub, Wk.frame, fun i s Q E hi st hQ => Wk.item i s Q E hi st fun v h' tk hP => hQ v h' tk ?_, Wk.done, Wk.self⟩, fun i h' hI => ?_⟩ ?_ (S.push { cls := .type "dict_keyiterator", data := .fields #[.ref D, .int 0 0, .int kvs.length 0, .int ep 0] })
  · obtain ⟨k, x, e1, e2⟩ := hP
    obtain ⟨t, rfl⟩ := Value.isInt_shape e2
    exact ⟨k, x, t, e1, rfl⟩
  · obtain ⟨⟨o, ho, _⟩, _⟩ := hI
    exact ⟨o, ho⟩
  · exact ⟨⟨_, Heap.get?_push_size _ rfl, rfl, rfl⟩, hat.push _⟩
structure ItemsIt (w : World) (A : Around) (I D : Addr) (vs : List Value) (It : Nat → Heap → Prop) : Prop where
  walks : Walks pgm w A I [I, D] [I] vs.length (fun i v => vs[i]? = some v) It
  some : ∀ i h, It i h → ∃ o, h.get? I = some o
theorem r_listIt (S : St g L W l news s₀ s) (hm : (D, listOf vs.toArray n) ∈ news) (hh : A.handled = none)
    (h : ∀ I oI It s', ItemsIt w A I D vs It → It 0 s'.heap → St g L W l ((I, oI) :: news) s₀ s' → Q (.ref I) s') : wpAny (model pgm w) A (pyIter (.ref D)) Q E s := by
  refine wpAny_pyIter_list (S.lst hm) ?_
  have hne : D ≠ s.heap.objs.size := Nat.ne_of_lt (S.fresh _ hm)
  have Wk := Walks.list (prog := pgm) (w := w) (A := A) hh s.heap.objs.size D hne vs.toArray
  refine h _ _ _ _ ⟨⟨Wk.sub, Wk.frame, fun i s Q E hi st hQ => Wk.item i s Q E (by simpa using hi) st fun v h' tk hP => hQ v h' tk ?_, fun s Q E st hQ => Wk.done s Q E (by simpa using st) hQ, Wk.self⟩, fun i h' hI => ?_⟩ ?_ (S.push { cls := .type "list_iterator", data := .fields #[.ref D, .int 0 0] })
  · simpa using hP
  · exact isListIter_some hI.1
  · exact ⟨⟨_, Heap.get?_push_size _ rfl, rfl, rfl⟩, (S.lst hm).push _⟩
end
-- Plain1
noncomputable def look (ms : List (Int × Int)) (k : Int) : Int := ((ms.find? fun p => p.1 = k).map (·.2)).getD 0
noncomputable def putM (ms : List (Int × Int)) (k v : Int) : List (Int × Int) := if ms.any (fun p => p.1 = k) then ms.map (fun p => if p.1 = k then (p.1, v) else p) else ms ++ [(k, v)]
noncomputable def num : List Int → Int
  | [] => 0
  | x :: r => x + 256 * num r
noncomputable def bytesAt (ms : List (Int × Int)) (a : Int) (n : Nat) : List Int := (List.range n).map fun (i : Nat) => look ms ((a + (i : Int)) % 2 ^ 64)
noncomputable def storeN (ms : List (Int × Int)) (a x : Int) : Nat → List (Int × Int)
  | 0 => ms
  | n + 1 => putM (storeN ms a x n) ((a + (n : Int)) % 2 ^ 64) (x / 2 ^ (8 * n) % 256)
noncomputable def Oct (l : List Int) : Prop := ∀ n ∈ l, 0 ≤ n ∧ n < 256
noncomputable def OctM (ms : List (Int × Int)) : Prop := ∀ p ∈ ms, 0 ≤ p.2 ∧ p.2 < 256
inductive Held : List (Int × Value) → List (Int × Int) → Prop
  | nil : Held [] []
  | cons (k n : Int) (t : Tok) {kvs ms} : Held kvs ms → Held ((k, .int n t) :: kvs) ((k, n) :: ms)
theorem Held.length {kvs ms} (h : Held kvs ms) : kvs.length = ms.length := by induction h <;> simp_all
theorem Held.look {kvs ms} (h : Held kvs ms) (k : Int) (u : Tok) : ∃ t, (valueAt kvs k).getD (.int 0 u) = .int (look ms k) t := by
  induction h with
  | nil => exact ⟨u, rfl⟩
  | cons k' n t _ ih =>
    by_cases e : k' = k
    · exact ⟨t, by simp [valueAt, Mine.look, e]⟩
    · obtain ⟨t', ht⟩ := ih
      exact ⟨t', by simpa [valueAt, Mine.look, e] using ht⟩
theorem Held.any {kvs ms} (h : Held kvs ms) (k : Int) : (kvs.any fun kv => kv.1 = k) = (ms.any fun p => p.1 = k) := by
  induction h with
  | nil => rfl
  | cons k' n t _ ih => simp only [List.any_cons, ih]
theorem Held.snoc {kvs ms} (h : Held kvs ms) (k n : Int) (t : Tok) : Held (kvs ++ [(k, .int n t)]) (ms ++ [(k, n)]) := by
  induction h with
  | nil => exact .cons _ _ _ .nil
  | cons _ _ _ _ ih => exact .cons _ _ _ ih
theorem Held.upd {kvs ms} (h : Held kvs ms) (k n : Int) (t : Tok) : Held (kvs.map fun kv => if kv.1 = k then (kv.1, .int n t) else kv) (ms.map fun p => if p.1 = k then (p.1, n) else p) := by
  induction h with
  | nil => exact .nil
  | cons k' n' t' _ ih =>
    simp only [List.map_cons]
    by_cases e : k' = k
    · simp only [e, if_true]; exact .cons _ _ _ ih
    · simp only [e, if_false]; exact .cons _ _ _ ih
theorem Held.put {kvs ms} (h : Held kvs ms) (k n : Int) (t : Tok) : Held (stored kvs k (.int n t)) (putM ms k n) := by
  unfold stored putM
  rw [h.any k]
  split
  · exact h.upd k n t
  · exact h.snoc k n t
theorem Held.get {kvs ms} (h : Held kvs ms) : ∀ {i : Nat} {k : Int} {v : Value}, kvs[i]? = some (k, v) → ∃ n t, v = .int n t ∧ ms[i]? = some (k, n) := by
  induction h with
  | nil => intro i k v e; simp at e
  | cons k' n t _ ih =>
    intro i k v e
    cases i with
    | zero => simp at e; exact ⟨n, t, e.2.symm, by simp [e.1]⟩
    | succ i => simp at e; obtain ⟨n', t', e1, e2⟩ := ih e; exact ⟨n', t', e1, by simpa using e2⟩
theorem putM_length (ms : List (Int × Int)) (k v : Int) : (putM ms k v).length ≤ ms.length + 1 := by
  unfold putM; split <;> simp
theorem putM_oct {ms : List (Int × Int)} {k v : Int} (h : OctM ms) (h0 : 0 ≤ v) (h1 : v < 256) : OctM (putM ms k v) := by
  unfold putM
  split
  · intro p hp
    obtain ⟨q, hq, e⟩ := List.mem_map.mp hp
    by_cases e' : q.1 = k
    · rw [if_pos e'] at e; rw [← e]; exact ⟨h0, h1⟩
    · rw [if_neg e'] at e; rw [← e]; exact h q hq
  · intro p hp
    rcases List.mem_append.mp hp with hp | hp
    · exact h p hp
    · simp at hp; rw [hp]; exact ⟨h0, h1⟩
theorem look_oct {ms : List (Int × Int)} (h : OctM ms) (k : Int) : 0 ≤ look ms k ∧ look ms k < 256 := by
  unfold look
  cases e : ms.find? fun p => p.1 = k with
  | none => exact ⟨by decide, by decide⟩
  | some p => exact h p (List.mem_of_find?_eq_some e)
theorem storeN_length (ms : List (Int × Int)) (a x : Int) : ∀ n, (storeN ms a x n).length ≤ ms.length + n
  | 0 => Nat.le_refl _
  | n + 1 => by
    have h1 := storeN_length ms a x n
    have h2 := putM_length (storeN ms a x n) ((a + (n : Int)) % 2 ^ 64) (x / 2 ^ (8 * n) % 256)
    unfold storeN; lia
theorem storeN_oct {ms : List (Int × Int)} {a x : Int} (h : OctM ms) : ∀ n, OctM (storeN ms a x n)
  | 0 => h
  | n + 1 => by unfold storeN; exact putM_oct (storeN_oct h n) (Int.emod_nonneg _ (by decide)) (Int.emod_lt_of_pos _ (by decide))
theorem num_append : ∀ (xs ys : List Int), num (xs ++ ys) = num xs + 256 ^ xs.length * num ys
  | [], ys => by simp [num]
  | x :: r, ys => by
    have ih := num_append r ys
    simp only [List.cons_append, num, ih, List.length_cons, Int.pow_succ]
    rw [Int.mul_add, ← Int.mul_assoc, Int.mul_comm (256 ^ r.length) 256]; lia
theorem num_nonneg : ∀ {xs : List Int}, Oct xs → 0 ≤ num xs ∧ num xs < 256 ^ xs.length
  | [], _ => ⟨by decide, by decide⟩
  | x :: r, h => by
    have ih := num_nonneg (xs := r) fun n hn => h n (by simp [hn])
    have hx := h x (by simp)
    simp only [num, List.length_cons, Int.pow_succ]
    omega
theorem pow256 (n : Nat) : (256 : Int) ^ n = 2 ^ (8 * n) := by
  rw [show (256 : Int) = 2 ^ 8 by decide, ← Int.pow_mul]
theorem bytesAt_succ (ms : List (Int × Int)) (a : Int) (n : Nat) : bytesAt ms a (n + 1) = bytesAt ms a n ++ [look ms ((a + (n : Int)) % 2 ^ 64)] := by
  simp [bytesAt, List.range_succ]
theorem bytesAt_length (ms : List (Int × Int)) (a : Int) (n : Nat) : (bytesAt ms a n).length = n := by simp [bytesAt]
theorem bytesAt_oct {ms : List (Int × Int)} (h : OctM ms) (a : Int) (n : Nat) : Oct (bytesAt ms a n) := by
  intro x hx
  obtain ⟨i, _, rfl⟩ := List.mem_map.mp hx
  exact look_oct h _
theorem num_bytes_succ (ms : List (Int × Int)) (a : Int) (n : Nat) : num (bytesAt ms a (n + 1)) = num (bytesAt ms a n) + look ms ((a + (n : Int)) % 2 ^ 64) * 2 ^ (8 * n) := by
  rw [bytesAt_succ, num_append, bytesAt_length, pow256]
  simp [num, Int.mul_comm]
structure MemO.Is (w : World) (m : MemO) (ms : List (Int × Int)) : Prop where
  dict : ∃ kvs, m.heo.IsDictOf (intKind pgm w) kvs ∧ Held kvs ms
  lo : (m.he == sysModules) = false
-- Rules7
section
variable {w : World} {p : Program} {loose : List Str} {mean : ExcName → Option Value} {mg mb : Str → Option Value} {hb g : Heap} {L : Addr} {W : List Addr} {l : Loc} {news news' led rest : Led} {s₀ s : Shared}
  {A : Around} {E : Value → Shared → Prop} {Q : Value → Shared → Prop} {env : Env} {x : Str} {pos : Pos} {v : Value} {a b k : Int} {t u : Tok} {D : Addr} {ob : Obj} {kvs : List (Int × Value)} {ms : List (Int × Int)} {gl : Obj → Led} {value slice : Expr} {svs : List (Str × Value)}
theorem r_mgetI {pl : Sem Bool} {Q : Value × List Value → Shared → Prop} (S : St g L W l news s₀ s) (hm : (D, ob) ∈ news) (hdk : ob.IsDictOf (intKind pgm w) kvs) (h : Q (.builtin "dict.get", [.ref D]) s) :
    wpAny (model pgm w) A (getMethod (.ref D) "get" pl) Q E s := r_m_get S hm hdk h
theorem r_hget (S : St g L W l news s₀ s) (hm : (D, ob) ∈ news) (hdk : ob.IsDictOf (intKind pgm w) kvs) (hH : Held kvs ms) (lo : (D == sysModules) = false)
    (h : ∀ t s', St g L W l news s₀ s' → Q (.int (look ms k) t) s') : wpAny (model pgm w) A (call (.builtin "dict.get") [.ref D, .int k t, .int 0 u]) Q E s := by
  obtain ⟨t', e⟩ := hH.look k u
  exact r_dget S hm hdk lo (intKind_is _ _ _ _) fun s' S' => by rw [e]; exact h t' s' S'
theorem r_hset {Q : Unit → Shared → Prop} (S : St g L W l news s₀ s) (U : At D ob news gl) (hdk : ob.IsDictOf (intKind pgm w) kvs) (hH : Held kvs ms) (hz : ms.length ≤ 16777216)
    (h : ∀ o' kvs' s', o'.IsDictOf (intKind pgm w) kvs' → Held kvs' (putM ms k b) → St g L W l (gl o') s₀ s' → Q () s') : wpAny (model pgm w) A (setItem (.ref D) (.int k t) (.int b u)) Q E s :=
  r_dset S U hdk (intKind_is _ _ _ _) (by rw [hH.length, sizeLine_eq]; exact hz) fun o' s' hd' S' => h o' _ s' hd' (hH.put k b u) S'
theorem valueAt_get {kvs : List (Int × Value)} (nd : (kvs.map (·.1)).Nodup) {i : Nat} {k : Int} {v : Value} (h : kvs[i]? = some (k, v)) : valueAt kvs k = some v := by
  induction kvs generalizing i with
  | nil => simp at h
  | cons q r ih =>
    rw [List.map_cons, List.nodup_cons] at nd
    cases i with
    | zero => simp at h; simp [valueAt, h]
    | succ i =>
      simp at h
      have hne : q.1 ≠ k := fun e => nd.1 (e ▸ List.mem_map.mpr ⟨(k, v), List.mem_of_getElem? h, rfl⟩)
      have := ih nd.2 h
      simpa [valueAt, hne] using this
theorem r_hitem {i : Nat} (S : St g L W l news s₀ s) (hm : (D, ob) ∈ news) (hdk : ob.IsDictOf (intKind pgm w) kvs) (hi : kvs[i]? = some (k, v))
    (h : ∀ s', St g L W l news s₀ s' → Q v s') (hs : subscripted slice false (.ref D) (.int k t) = operate [.ref D, .int k t] (getItem (.ref D) (.int k t)) := by with_unfolding_all rfl) :
    wpAny (model pgm w) A (subscriptTail value slice (.ref D) (.int k t)) Q E s :=
  r_ditem S hm hdk (intKind_is _ _ _ _) (valueAt_get (let ⟨_, _, _, _, _, _, h⟩ := hdk; h) hi) h hs
noncomputable def lookS : List (Str × Value) → Str → Option Value
  | [], _ => none
  | (k, v) :: r, x => if k = x then some v else lookS r x
theorem valueAt_lookS : ∀ (svs : List (Str × Value)) (x : Str), valueAt svs x = lookS svs x
  | [], _ => rfl
  | (k, v) :: r, x => by
    have ih := valueAt_lookS r x
    unfold lookS
    by_cases h : k = x
    · simp [valueAt, h]
    · simp only [h, if_false, ← ih]; simp [valueAt, h]
theorem r_sitem (S : St g L W l news s₀ s) (hm : (D, ob) ∈ news) (hdk : ob.IsDictOf (PySem.strKind pgm w) svs) (hv : lookS svs x = some v)
    (h : ∀ s', St g L W l news s₀ s' → Q v s') (hs : subscripted slice false (.ref D) (.str x t) = operate [.ref D, .str x t] (getItem (.ref D) (.str x t)) := by with_unfolding_all rfl) :
    wpAny (model pgm w) A (subscriptTail value slice (.ref D) (.str x t)) Q E s := r_ditem S hm hdk (strKind_is _ _ _ _) ((valueAt_lookS svs x).trans hv) h hs
theorem r_sset {Q : Unit → Shared → Prop} {svs' : List (Str × Value)} (S : St g L W l news s₀ s) (U : At D ob news gl) (hdk : ob.IsDictOf (PySem.strKind pgm w) svs) (hz : svs.length ≤ 100) (e : stored svs x v = svs')
    (h : ∀ o' s', o'.IsDictOf (PySem.strKind pgm w) svs' → St g L W l (gl o') s₀ s' → Q () s') : wpAny (model pgm w) A (setItem (.ref D) (.str x t) v) Q E s :=
  r_dset S U hdk (strKind_is _ _ _ _) (by rw [sizeLine_eq]; lia) fun o' s' hd' S' => h o' s' (e ▸ hd') S'
noncomputable def LocIn : Loc → Loc → Prop
  | [], _ => True
  | (x, v) :: r, l => l.lookup x = some v ∧ LocIn r l
theorem LocIn.of : ∀ {l' l : Loc}, LocIn l' l → ∀ x v, l'.lookup x = some v → l.lookup x = some v
  | [], _, _, x, v, h => by simp at h
  | (y, u) :: r, l, H, x, v, h => by
    rw [List.lookup_cons] at h
    cases e : x == y with
    | true => rw [e] at h; cases h; rw [eq_of_beq e]; exact H.1
    | false => rw [e] at h; exact LocIn.of H.2 x v h
theorem St.pick {l' : Loc} (S : St g L W l news s₀ s) (h : LocIn l' l) : St g L W l' news s₀ s := S.loc h.of
theorem r_forN {target : Expr} {body : List Stmt} {N : Nat} {r : Addr} {t1 t2 t3 : Tok} {Q : Flow → Shared → Prop} {Er : Value → Shared → Prop} (hb : b - a = (N : Int)) (hh : A.handled = none)
    (S : St g L W l ((r, { cls := .type "range", data := .fields #[.int a t1, .int b t2, .int 1 t3] }) :: news) s₀ s)
    (J : Nat → Loc → Led → Prop) (hJ : J 0 l news)
    (turn : ∀ (i : Nat) (t : Tok) (I : Addr) (oI : Obj) (l : Loc) (led : Led) (s : Shared) E', i < N → J i l led → St g L W l ((I, oI) :: led) s₀ s →
      wpAny (model pgm w) A (assign target env (.int (a + i) t)) (fun _ s₂ => wpAny (model pgm w) A (execs body env) (fun f s₃ => match f with
        | .next | .cont => ∃ l' led', J (i + 1) l' led' ∧ St g L W l' ((I, oI) :: led') s₀ s₃
        | .brk => Q .next s₃
        | .ret v => Q (.ret v) s₃) E' s₂) E' s)
    (fin : ∀ l led s, J N l led → St g L W l led s₀ s → Q .next s)
    (ht : ∀ x v, letOwnedTupleGo target x v = pure () := by intro _ _; rfl) :
    wpAny (model pgm w) A (pyIter (.ref r)) (fun it s' => codeAny (model pgm w) A (.forLoop target it body [] env) (fun r s' => match r with | .ok f => Q f s' | .error e => Er e s') s') E s := by
  refine r_rangeIt S hh (by decide) fun I o It s' K h0 S' => ?_
  have hN : (Builtin.Range.rangeSize a b 1).toNat = N := by rw [rangeSize_toNat]; lia
  obtain ⟨Wk, hI⟩ := K
  rw [hN] at Wk
  refine r_forW (fx := []) Wk (by simp) (by simp) hI J (o₀ := o) (led := news) S' h0 hJ (fun i v oI l led s E' hi hP hJ S => ?_) (fun l led s hJ S => fin l led s hJ S) (fun v => ht _ _)
  obtain ⟨t, rfl⟩ := hP
  have e : a + (i : Int) * 1 = a + (i : Int) := by lia
  rw [e]
  exact turn i t I oI l led s E' hi hJ S
theorem r_forN0 {target : Expr} {body : List Stmt} {N : Nat} {r : Addr} {t1 t2 t3 : Tok} {Q : Flow → Shared → Prop} {Er : Value → Shared → Prop} (hb : b = (N : Int)) (hh : A.handled = none)
    (S : St g L W l ((r, { cls := .type "range", data := .fields #[.int 0 t1, .int b t2, .int 1 t3] }) :: news) s₀ s)
    (J : Nat → Loc → Led → Prop) (hJ : J 0 l news)
    (turn : ∀ (i : Nat) (t : Tok) (I : Addr) (oI : Obj) (l : Loc) (led : Led) (s : Shared) E', i < N → J i l led → St g L W l ((I, oI) :: led) s₀ s →
      wpAny (model pgm w) A (assign target env (.int i t)) (fun _ s₂ => wpAny (model pgm w) A (execs body env) (fun f s₃ => match f with
        | .next | .cont => ∃ l' led', J (i + 1) l' led' ∧ St g L W l' ((I, oI) :: led') s₀ s₃
        | .brk => Q .next s₃
        | .ret v => Q (.ret v) s₃) E' s₂) E' s)
    (fin : ∀ l led s, J N l led → St g L W l led s₀ s → Q .next s)
    (ht : ∀ x v, letOwnedTupleGo target x v = pure () := by intro _ _; rfl) :
    wpAny (model pgm w) A (pyIter (.ref r)) (fun it s' => codeAny (model pgm w) A (.forLoop target it body [] env) (fun r s' => match r with | .ok f => Q f s' | .error e => Er e s') s') E s := by
  refine r_forN (by lia) hh S J hJ (fun i t I oI l led s E' hi hJ S => ?_) fin ht
  have e : (0 : Int) + (i : Int) = (i : Int) := by lia
  rw [e]
  exact turn i t I oI l led s E' hi hJ S
end
-- B0

structure Cx (w : World) where
  hb : Heap
  p : Program
  loose : List Str
  mean : ExcName → Option Value
  mg : Str → Option Value
  mb : Str → Option Value
  g : Heap
  L : Addr
  W : List Addr
  s₀ : Shared
  A : Around
  G₀ : G0 w p loose mean mg mb hb
  G : Gr w p loose mean mg mb hb g
  hh : A.handled = none
noncomputable abbrev Cx.S {w : World} (C : Cx w) (l : Loc) (led : Led) (s : Shared) : Prop := St C.g C.L C.W l led C.s₀ s
noncomputable def Wp {w : World} {α : Type} (C : Cx w) (m : Sem α) (Q : α → Loc → Led → Prop) (l : Loc) (led : Led) : Prop :=
  ∀ s, C.S l led s → wpAny (model pgm w) C.A m (fun v s' => ∃ l' led', C.S l' led' s' ∧ Q v l' led') (fun _ _ => False) s
structure EnvOk {w : World} (C : Cx w) (env : Env) : Prop where
  k : env.scope.kind = .function
  L : env.locals = C.L
  g : env.globals = mainGlobals
  b : env.builtins = builtinsNs
structure Room {w : World} (C : Cx w) (n u : Nat) : Prop where
  d : C.A.depth + n < recursionLimit
  u : C.A.units + u < cLine
structure SubL (t led : Led) : Prop where
  mem : ∀ q ∈ t, q ∈ led
  nd : (led.map (·.1)).Nodup → (t.map (·.1)).Nodup
theorem SubL.refl (t : Led) : SubL t t := ⟨fun _ h => h, fun h => h⟩
theorem SubL.trans {a b c : Led} (h : SubL a b) (k : SubL b c) : SubL a c := ⟨fun q hq => k.mem q (h.mem q hq), fun n => h.nd (k.nd n)⟩
theorem SubL.of {t led r : Led} (h : led.Perm (t ++ r)) : SubL t led := ⟨fun q hq => h.mem_iff.mpr (List.mem_append_left _ hq), fun n => by
  have := (h.map (·.1)).nodup_iff.mp n
  rw [List.map_append] at this
  exact (List.nodup_append.mp this).1⟩
theorem SubL.left {t r : Led} : SubL t (t ++ r) := .of (.refl _)
theorem SubL.right {t r : Led} : SubL r (t ++ r) := .of List.perm_append_comm
theorem SubL.tail1 {a : Addr × Obj} {r : Led} : SubL r (a :: r) := .right (t := [a])
theorem SubL.tail2 {a b : Addr × Obj} {r : Led} : SubL r (a :: b :: r) := .right (t := [a, b])
theorem SubL.st {g : Heap} {L : Addr} {W : List Addr} {l : Loc} {t led : Led} {s₀ s : Shared} (h : SubL t led) (S : St g L W l led s₀ s) : St g L W l t s₀ s := S.led h.mem (h.nd S.nd)

section
variable {w : World} {C : Cx w} {l l' : Loc} {led news : Led} {env : Env} {Q : Value → Loc → Led → Prop} {x : Str} {pos p1 p2 : Pos} {v : Value} {a b : Int} {t u : Tok} {e : Expr} {es : List Expr} {N U : Nat}

theorem Wp.use {α : Type} {m : Sem α} {Q : α → Loc → Led → Prop} {Q' : α → Shared → Prop} {E : Value → Shared → Prop} {s : Shared} (h : Wp C m Q l led) (S : C.S l led s)
    (k : ∀ v l' led' s', C.S l' led' s' → Q v l' led' → Q' v s') : wpAny (model pgm w) C.A m Q' E s :=
  wpAny_mono (h s S) (fun v s' ⟨l', led', S', q⟩ => k v l' led' s' S' q) fun _ _ y => y.elim
theorem Wp.mono {α : Type} {m : Sem α} {Q Q' : α → Loc → Led → Prop} (h : Wp C m Q l led) (k : ∀ v l' led', Q v l' led' → Q' v l' led') : Wp C m Q' l led :=
  fun s S => h.use S fun v l' led' s' S' q => ⟨l', led', S', k v l' led' q⟩
theorem Wp.cut {α : Type} {m : Sem α} {Q : α → Loc → Led → Prop} (R : α → Loc → Led → Prop) (h : Wp C m R l led) (k : ∀ v l' led', R v l' led' → Q v l' led') : Wp C m Q l led := h.mono k
theorem Wp.sub {α : Type} {m : Sem α} {Q : α → Loc → Led → Prop} {t : Led} (hs : SubL t led) (h : Wp C m Q l t) : Wp C m Q l led :=
  fun s S => h s (hs.st S)
theorem Wp.perm {α : Type} {m : Sem α} {Q : α → Loc → Led → Prop} {t : Led} (hs : led.Perm t) (h : Wp C m Q l t) : Wp C m Q l led := fun s S => h s (S.perm hs)
theorem Wp.loc {α : Type} {m : Sem α} {Q : α → Loc → Led → Prop} (hl : ∀ x v, l'.lookup x = some v → l.lookup x = some v) (h : Wp C m Q l' led) : Wp C m Q l led := fun s S => h s (S.loc hl)
theorem Wp.bind {α β : Type} {m : Sem α} {f : α → Sem β} {Q : β → Loc → Led → Prop} (h : Wp C m (fun v l led => Wp C (f v) Q l led) l led) : Wp C (m >>= f) Q l led :=
  fun s S => wpAny_bind (h.use S fun v l' led' s' S' q => q s' S')
theorem Wp.pure {α : Type} {v : α} {Q : α → Loc → Led → Prop} (h : Q v l led) : Wp C (pure v) Q l led := fun s S => wpAny_pure ⟨_, _, S, h⟩
inductive Pk (led : Led) : Led → List Nat → Prop
  | nil : Pk led [] []
  | cons {q t i is} : ix led i = some q → Pk led t is → Pk led (q :: t) (i :: is)
theorem ix_at {q : Addr × Obj} : ∀ {led : Led} {i : Nat}, ix led i = some q → led[i]? = some q
  | [], _, h => by cases h
  | x :: r, 0, h => by cases h; rfl
  | x :: r, n + 1, h => by simpa using ix_at (i := n) h
theorem Pk.mem {led : Led} : ∀ {t : Led} {is : List Nat}, Pk led t is → ∀ q ∈ t, ∃ i ∈ is, led[i]? = some q
  | _, _, .nil, _, h => by cases h
  | _, _, .cons (i := i) h1 h2, q, h => by
    rcases List.mem_cons.mp h with rfl | h
    · exact ⟨i, .head _, ix_at h1⟩
    · obtain ⟨j, hj, e⟩ := h2.mem q h
      exact ⟨j, .tail _ hj, e⟩
theorem Pk.nd {led : Led} (hn : (led.map (·.1)).Nodup) : ∀ {t : Led} {is : List Nat}, Pk led t is → is.Nodup → (t.map (·.1)).Nodup
  | _, _, .nil, _ => .nil
  | _, _, .cons (q := q) (i := i) h1 h2, h => by
    rw [List.nodup_cons] at h
    rw [List.map_cons, List.nodup_cons]
    refine ⟨fun hm => ?_, h2.nd hn h.2⟩
    obtain ⟨q', hq', e⟩ := List.mem_map.mp hm
    obtain ⟨j, hj, e2⟩ := h2.mem q' hq'
    have e1 := ix_at h1
    have h3 : (led.map (·.1))[i]? = some q.1 := by rw [List.getElem?_map, e1]; rfl
    have h4 : (led.map (·.1))[j]? = some q.1 := by rw [List.getElem?_map, e2, ← e]; rfl
    have hlt := (List.getElem?_eq_some_iff.mp h3).1
    have := (List.getElem?_inj hlt hn).mp (h3.trans h4.symm)
    exact h.1 (this ▸ hj)
theorem Pk.sub {t led : Led} {is : List Nat} (h : Pk led t is) (e : decide is.Nodup = true) : SubL t led := ⟨fun q hq => by
  obtain ⟨i, _, e⟩ := h.mem q hq
  exact List.mem_of_getElem? e, fun n => h.nd n (of_decide_eq_true e)⟩
theorem Room.le {n u : Nat} (h : Room C N U) (e : (Nat.ble n N && Nat.ble u U) = true) : Room C n u := by
  rw [Bool.and_eq_true] at e
  have h1 := Nat.le_of_ble_eq_true e.1
  have h2 := Nat.le_of_ble_eq_true e.2
  exact ⟨Nat.lt_of_le_of_lt (Nat.add_le_add_left h1 _) h.d, Nat.lt_of_le_of_lt (Nat.add_le_add_left h2 _) h.u⟩

-- entering
theorem enterB {name qual : Str} {params : Arguments} {body : List Stmt} {scope : Scope} {dV kV doc pm cdv ct oc : Value} {an od : Option Addr} {osl : Array (Option Value)} {f : Addr} {args : List Value} {kw : List (Str × Value)} {binds : List (Str × Value)} {led : Led} {R : Value → Led → Prop}
    {p : Program} {loose : List Str} {mean : ExcName → Option Value} {mg mb : Str → Option Value} {hb : Heap}
    (G : G0 w p loose mean mg mb hb) (ho : (KF w.params).lookup f = some ⟨oc, od, .func (fnOf name qual params body scope dV kV doc pm an cdv ct), osl⟩) (hcd : codeIn (KF w.params) cdv qual = true)
    (hbind : ∀ s : Shared, hb.StaysIn s.heap → BindsTo s (fnOf name qual params body scope dV kV doc pm an cdv ct) ⟨args, kw⟩ binds) (hloc : ∀ y ∈ binds, scope.names.lookup y.1 = some .local)
    (l : Loc) (hl : binds.reverse = l)
    (h : ∀ (C : Cx w) (Q : Flow → Loc → Led → Prop), Room C N U → (∀ {v : Value} {l' led'}, R v led' → Q (.ret v) l' led') → (∀ {l' led'}, R .none led' → Q .next l' led') →
      (∀ {f : Flow} {l' led' t}, SubL t led' → Q f l' t → Q f l' led') → let env := envOf qual scope C.L f cdv; let l' : Loc := l; let led' : Led := led; EnvOk C env → Wp C (execs body env) Q l' led')
    (hco : scope.isCoroutine = false := by with_unfolding_all rfl) (hgen : scope.isGenerator = false := by with_unfolding_all rfl) (hk : scope.kind = .function := by with_unfolding_all rfl)
    (hcell : ∀ x ∈ scope.names, x.2 ≠ .cell := by decide) : Does w hb (N + 1) (U + 3) f args kw led R := by
  intro A s hh hs hled nd hdep hu
  have hroom : A.depth < recursionLimit := Nat.lt_of_le_of_lt (Nat.le_add_right _ _) hdep
  refine enterQ (binds := binds) (led := led) (R := R) G hs hled nd hroom ho hcd (hbind s hs) hloc l hl hh (fun g L W s' B Q Gr S hlt hhB hdB huB fi fn => ?_) hco hgen hk hcell
  refine Wp.use (C := ⟨hb, p, loose, mean, mg, mb, g, L, W, s, B, G, Gr, hhB⟩)
    (Q := fun fl l' led' => ∃ t, SubL t led' ∧ ((∃ v, fl = .ret v ∧ R v t) ∨ (fl = .next ∧ R .none t)))
    (h ⟨hb, p, loose, mean, mg, mb, g, L, W, s, B, G, Gr, hhB⟩ _ ⟨?_, ?_⟩ ?_ ?_ ?_ ⟨hk, rfl, rfl, rfl⟩) S ?_
  · show B.depth + N < recursionLimit; rw [hdB]; lia
  · show B.units + U < cLine; rw [huB]; lia
  · exact fun {v l' led'} r => ⟨led', .refl _, .inl ⟨v, rfl, r⟩⟩
  · exact fun {l' led'} r => ⟨led', .refl _, .inr ⟨rfl, r⟩⟩
  · intro f l' led' t hr ⟨t', hr', q⟩
    exact ⟨t', hr'.trans hr, q⟩
  · rintro fl l' led' s' S' ⟨t, hr, q⟩
    have S1 := hr.st S'
    rcases q with ⟨v, rfl, q⟩ | ⟨rfl, q⟩
    · exact fi S1 q
    · exact fn S1 q

-- calls by contract
theorem c_does {n u : Nat} {f : Addr} {args : List Value} {kw : List (Str × Value)} {led news : Led} {fl : Led → Led} {R : Value → Led → Prop} (D : Does w C.hb n u f args kw led R) (hsp : Slot led news fl) (hR : Room C N U) (hle : (Nat.ble n N && Nat.ble u U) = true)
    (k : ∀ v led', R v led' → Q v l (fl led')) : Wp C (call (.ref f) args kw) Q l news := fun s S =>
  have r := hR.le hle
  useS D C.G S hsp C.hh r.d r.u fun v led' s' r S' => ⟨_, _, S', k v led' r⟩
theorem c_does2 {n u : Nat} {f : Addr} {args : List Value} {kw : List (Str × Value)} {led led2 news : Led} {fl : Led → Led → Led} {R : Value → Led → Prop} (D : Does w C.hb n u f args kw (led ++ led2) fun v led' => ∃ a b, led' = a ++ b ∧ R v b ∧ a = led) (hsp : Slot2 led led2 news fl)
    (hR : Room C N U) (hle : (Nat.ble n N && Nat.ble u U) = true) (k : ∀ v b, R v b → Q v l (fl led b)) : Wp C (call (.ref f) args kw) Q l news := fun s S =>
  have r := hR.le hle
  use2 D C.G S hsp C.hh r.d r.u fun v led' s' r S' => ⟨_, _, S', k v led' r⟩
theorem c_does0 {n u : Nat} {f : Addr} {args : List Value} {kw : List (Str × Value)} {news : Led} {R : Value → Prop} (D : Does w C.hb n u f args kw [] fun v led' => R v ∧ led' = []) (hR : Room C N U) (hle : (Nat.ble n N && Nat.ble u U) = true)
    (k : ∀ v, R v → Q v l news) : Wp C (call (.ref f) args kw) Q l news := fun s S =>
  have r := hR.le hle
  use0 D C.G S C.hh r.d r.u fun v s' r S' => ⟨_, _, S', k v r⟩

-- frames
@[reducible] noncomputable def kSeq (C : Cx w) (env : Env) (rest : List Stmt) (Q : Flow → Loc → Led → Prop) : Flow → Loc → Led → Prop := fun f l led => match f with | .next => Wp C (execs rest env) Q l led | f => Q f l led
@[reducible] noncomputable def kRet (Q : Flow → Loc → Led → Prop) : Value → Loc → Led → Prop := fun v l led => Q (.ret v) l led
@[reducible] noncomputable def kNext {α : Type} (Q : Flow → Loc → Led → Prop) : α → Loc → Led → Prop := fun _ l led => Q .next l led
@[reducible] noncomputable def kStore (C : Cx w) (env : Env) (x : Str) (Q : Flow → Loc → Led → Prop) : Value → Loc → Led → Prop := fun v l led => Wp C (storeName env x v) (kNext Q) l led
@[reducible] noncomputable def kIf (C : Cx w) (env : Env) (body orelse : List Stmt) (Q : Flow → Loc → Led → Prop) : Bool → Loc → Led → Prop := fun b l led => if b = true then Wp C (execs body env) Q l led else Wp C (execs orelse env) Q l led
@[reducible] noncomputable def kIfE (C : Cx w) (env : Env) (body orelse : Expr) (Q : Value → Loc → Led → Prop) : Bool → Loc → Led → Prop := fun b l led => if b = true then Wp C (eval body env) Q l led else Wp C (eval orelse env) Q l led
@[reducible] noncomputable def kBin2 (C : Cx w) (op : Operator) (v : Value) (Q : Value → Loc → Led → Prop) : Value → Loc → Led → Prop := fun u l led => Wp C (binaryOp op v u) Q l led
@[reducible] noncomputable def kBin (C : Cx w) (env : Env) (op : Operator) (e : Expr) (Q : Value → Loc → Led → Prop) : Value → Loc → Led → Prop := fun v l led => Wp C (eval e env) (kBin2 C op v Q) l led
@[reducible] noncomputable def kUn (C : Cx w) (op : UnaryOp) (Q : Value → Loc → Led → Prop) : Value → Loc → Led → Prop := fun v l led => Wp C (unaryOp op v) Q l led
@[reducible] noncomputable def kCmp2 (C : Cx w) (op : CmpOp) (v : Value) (Q : Value → Loc → Led → Prop) : Value → Loc → Led → Prop := fun u l led => Wp C (compareOp op v u) Q l led
@[reducible] noncomputable def kCmp (C : Cx w) (env : Env) (op : CmpOp) (e : Expr) (Q : Value → Loc → Led → Prop) : Value → Loc → Led → Prop := fun v l led => Wp C (eval e env) (kCmp2 C op v Q) l led
@[reducible] noncomputable def kTruthy (C : Cx w) (Q : Bool → Loc → Led → Prop) : Value → Loc → Led → Prop := fun v l led => Wp C (truthy v) Q l led
@[reducible] noncomputable def kNot (Q : Bool → Loc → Led → Prop) : Bool → Loc → Led → Prop := fun b l led => Q (!b) l led
@[reducible] noncomputable def kAnd (C : Cx w) (env : Env) (rest : List Expr) (Q : Bool → Loc → Led → Prop) : Bool → Loc → Led → Prop := fun b l led => if b = true then Wp C (allTrue .And rest env) Q l led else Q false l led
@[reducible] noncomputable def kOr (C : Cx w) (env : Env) (rest : List Expr) (Q : Bool → Loc → Led → Prop) : Bool → Loc → Led → Prop := fun b l led => if b = true then Q true l led else Wp C (allTrue .Or rest env) Q l led
@[reducible] noncomputable def kChain (C : Cx w) (pos : Pos) (ops : List CmpOp) (rs : List (Sem Value)) (Q : Bool → Loc → Led → Prop) : Value → Loc → Led → Prop := fun v l led => Wp C (testChain pos v ops rs) Q l led
@[reducible] noncomputable def kLinkT (C : Cx w) (pos : Pos) (b : Value) (ops : List CmpOp) (rs : List (Sem Value)) (Q : Bool → Loc → Led → Prop) : Bool → Loc → Led → Prop := fun t l led => if t = true then Wp C (testChain pos b ops rs) Q l led else Q false l led
@[reducible] noncomputable def kLink (C : Cx w) (pos : Pos) (a : Value) (op : CmpOp) (ops : List CmpOp) (rs : List (Sem Value)) (Q : Bool → Loc → Led → Prop) : Value → Loc → Led → Prop := fun b l led => Wp C (compareOp op a b) (kTruthy C (kLinkT C pos b ops rs Q)) l led
@[reducible] noncomputable def kLast (C : Cx w) (a : Value) (op : CmpOp) (Q : Bool → Loc → Led → Prop) : Value → Loc → Led → Prop := fun b l led => Wp C (compareOp op a b) (kTruthy C Q) l led
@[reducible] noncomputable def kAttr (C : Cx w) (attr : Str) (Q : Value → Loc → Led → Prop) : Value → Loc → Led → Prop := fun o l led => Wp C (getAttr o attr true) Q l led
@[reducible] noncomputable def kSub2 (C : Cx w) (value slice : Expr) (o : Value) (Q : Value → Loc → Led → Prop) : Value → Loc → Led → Prop := fun i l led => Wp C (subscriptTail value slice o i) Q l led
@[reducible] noncomputable def kSub (C : Cx w) (env : Env) (value slice : Expr) (Q : Value → Loc → Led → Prop) : Value → Loc → Led → Prop := fun o l led => Wp C (eval slice env) (kSub2 C value slice o Q) l led
@[reducible] noncomputable def kSetA2 (C : Cx w) (attr : Str) (v : Value) (Q : Flow → Loc → Led → Prop) : Value → Loc → Led → Prop := fun o l led => Wp C (setAttr o attr v) (kNext Q) l led
@[reducible] noncomputable def kSetA (C : Cx w) (env : Env) (o : Expr) (attr : Str) (Q : Flow → Loc → Led → Prop) : Value → Loc → Led → Prop := fun v l led => Wp C (eval o env) (kSetA2 C attr v Q) l led
@[reducible] noncomputable def kSetI3 (C : Cx w) (v o : Value) (Q : Flow → Loc → Led → Prop) : Value → Loc → Led → Prop := fun i l led => Wp C (setItem o i v) (kNext Q) l led
@[reducible] noncomputable def kSetI2 (C : Cx w) (env : Env) (i : Expr) (v : Value) (Q : Flow → Loc → Led → Prop) : Value → Loc → Led → Prop := fun o l led => Wp C (eval i env) (kSetI3 C v o Q) l led
@[reducible] noncomputable def kSetI (C : Cx w) (env : Env) (o i : Expr) (Q : Flow → Loc → Led → Prop) : Value → Loc → Led → Prop := fun v l led => Wp C (eval o env) (kSetI2 C env i v Q) l led
noncomputable def Args (C : Cx w) (env : Env) : List Expr → (List Value → Loc → Led → Prop) → Loc → Led → Prop
  | [], Q, l, led => Q [] l led
  | e :: r, Q, l, led => Wp C (eval e env) (fun v l led => Args C env r (fun vs l led => Q (v :: vs) l led) l led) l led
@[reducible] noncomputable def kCons (v : Value) (Q : List Value → Loc → Led → Prop) : List Value → Loc → Led → Prop := fun vs l led => Q (v :: vs) l led
@[reducible] noncomputable def kArg (C : Cx w) (env : Env) (r : List Expr) (Q : List Value → Loc → Led → Prop) : Value → Loc → Led → Prop := fun v l led => Args C env r (kCons v Q) l led
@[reducible] noncomputable def kCall (C : Cx w) (f : Addr) (Q : Value → Loc → Led → Prop) : List Value → Loc → Led → Prop := fun vs l led => Wp C (call (.ref f) vs) Q l led
@[reducible] noncomputable def kCall1 (C : Cx w) (f : Addr) (o : Value) (Q : Value → Loc → Led → Prop) : List Value → Loc → Led → Prop := fun vs l led => Wp C (call (.ref f) (o :: vs)) Q l led
@[reducible] noncomputable def kCallT (C : Cx w) (T : String) (Q : Value → Loc → Led → Prop) : List Value → Loc → Led → Prop := fun vs l led => Wp C (call (.type T) vs) Q l led
@[reducible] noncomputable def kCallB (C : Cx w) (T : String) (Q : Value → Loc → Led → Prop) : List Value → Loc → Led → Prop := fun vs l led => Wp C (call (.builtin T) vs) Q l led
@[reducible] noncomputable def kCallB1 (C : Cx w) (T : String) (o : Value) (Q : Value → Loc → Led → Prop) : List Value → Loc → Led → Prop := fun vs l led => Wp C (call (.builtin T) (o :: vs)) Q l led
@[reducible] noncomputable def kTup (C : Cx w) (Q : Value → Loc → Led → Prop) : List Value → Loc → Led → Prop := fun vs l led => Wp C (newTuple vs) Q l led
@[reducible] noncomputable def kLst (C : Cx w) (Q : Value → Loc → Led → Prop) : List Value → Loc → Led → Prop := fun vs l led => Wp C (newList vs) Q l led
@[reducible] noncomputable def kCallee (C : Cx w) (env : Env) (pos : Pos) (args : List Expr) (Q : Value → Loc → Led → Prop) : Value → Loc → Led → Prop := fun f l led => Wp C (callWith pos f [] (backTo pos (starEach args env)) []) Q l led
@[reducible] noncomputable def kMeth2 (C : Cx w) (env : Env) (pos : Pos) (args : List Expr) (Q : Value → Loc → Led → Prop) : Value × List Value → Loc → Led → Prop := fun fx l led => Wp C (callWith pos fx.1 fx.2 (backTo pos (starEach args env)) []) Q l led
noncomputable def plOf (o : Expr) (env : Env) : Sem Bool := do return (← importBound o env).getD true
@[reducible] noncomputable def kMeth (C : Cx w) (env : Env) (x : Expr) (name : Str) (pos : Pos) (args : List Expr) (Q : Value → Loc → Led → Prop) : Value → Loc → Led → Prop := fun o l led => Wp C (getMethod o name (plOf x env)) (kMeth2 C env pos args Q) l led

theorem iteT {X Y : Prop} (h : if true = true then X else Y) : X := by rwa [if_pos rfl] at h
theorem iteF {X Y : Prop} (h : if false = true then X else Y) : Y := by rwa [if_neg (by decide)] at h
-- statements
theorem c_seq1 {st : Stmt} {Q : Flow → Loc → Led → Prop} (h : Wp C (exec st env) Q l led) : Wp C (execs [st] env) Q l led := fun s S =>
  wpAny_execs_cons (h.use S fun f l' led' s' S' q => by cases f <;> first | exact wpAny_execs_nil ⟨_, _, S', q⟩ | exact ⟨_, _, S', q⟩)
theorem c_seq {st : Stmt} {rest : List Stmt} {Q : Flow → Loc → Led → Prop} (h : let Q' : Flow → Loc → Led → Prop := kSeq C env rest Q; Wp C (exec st env) Q' l led) : Wp C (execs (st :: rest) env) Q l led := fun s S =>
  wpAny_execs_cons (Wp.use h S fun f l' led' s' S' q => by cases f <;> first | exact q s' S' | exact ⟨_, _, S', q⟩)
theorem c_end {Q : Flow → Loc → Led → Prop} (h : Q .next l led) : Wp C (execs [] env) Q l led := fun s S => wpAny_execs_nil ⟨_, _, S, h⟩
theorem c_ret {Q : Flow → Loc → Led → Prop} (h : let Q' : Value → Loc → Led → Prop := kRet Q; Wp C (eval e env) Q' l led) : Wp C (exec (.Return (some e) pos) env) Q l led := fun s S =>
  wpAny_Return_some (Wp.use h S fun f l' led' s' S' q => ⟨_, _, S', q⟩)
theorem c_assignN {Q : Flow → Loc → Led → Prop} (h : let Q' : Value → Loc → Led → Prop := kStore C env x Q; Wp C (eval e env) Q' l led) (hs : swapsWith e (some (.Name x p1)) pos.line env = Pure.pure false := by with_unfolding_all rfl) :
    Wp C (exec (.Assign [.Name x p1] e pos) env) Q l led := fun s S =>
  wpAny_Assign_Name (Wp.use h S fun v l' led' s' S' q => Wp.use q S' fun _ _ _ _ S2 q2 => ⟨_, _, S2, q2⟩) hs
theorem c_store {Q : Unit → Loc → Led → Prop} (he : EnvOk C env) (h : let v' : Value := v; let l' : Loc := (x, v') :: l; Q () l' led) (hl : env.kindOf x = some .local := by with_unfolding_all rfl) : Wp C (storeName env x v) Q l led := fun s S =>
  r_store S (fun s' S' => ⟨_, _, S', h⟩) he.k he.L hl
theorem c_if {test : Expr} {body orelse : List Stmt} {Q : Flow → Loc → Led → Prop} (h : let Q' : Bool → Loc → Led → Prop := kIf C env body orelse Q; Wp C (isTrue test env (eval test env)) Q' l led) : Wp C (exec (.If test body orelse pos) env) Q l led := fun s S =>
  wpAny_If (Wp.use h S fun b l' led' s' S' q => by
    cases b with
    | true => exact (iteT q : Wp C (execs body env) Q l' led') s' S'
    | false => exact (iteF q : Wp C (execs orelse env) Q l' led') s' S')
theorem c_setA {o : Expr} {attr : Str} {Q : Flow → Loc → Led → Prop} (h : let Q' : Value → Loc → Led → Prop := kSetA C env o attr Q; Wp C (eval e env) Q' l led) (hs : swapsWith e (some (.Attribute o attr p1)) pos.line env = Pure.pure false := by with_unfolding_all rfl) :
    Wp C (exec (.Assign [.Attribute o attr p1] e pos) env) Q l led := fun s S =>
  plainObj_wpAny_Assign_Attribute (Wp.use h S fun v l' led' s' S' q => Wp.use q S' fun _ _ _ s2 S2 q2 => Wp.use q2 S2 fun _ _ _ _ S3 q3 => ⟨_, _, S3, q3⟩) hs
theorem c_setI {o i : Expr} {Q : Flow → Loc → Led → Prop} (h : let Q' : Value → Loc → Led → Prop := kSetI C env o i Q; Wp C (eval e env) Q' l led) (hs : swapsWith e (some (.Subscript o i p1)) pos.line env = Pure.pure false := by with_unfolding_all rfl) :
    Wp C (exec (.Assign [.Subscript o i p1] e pos) env) Q l led := fun s S =>
  wpAny_Assign_Subscript (Wp.use h S fun v l' led' s' S' q => Wp.use q S' fun _ _ _ s2 S2 q2 => Wp.use q2 S2 fun _ _ _ s3 S3 q3 => Wp.use q3 S3 fun _ _ _ _ S4 q4 => ⟨_, _, S4, q4⟩) hs
theorem c_expr {Q : Flow → Loc → Led → Prop} (h : let Q' : Value → Loc → Led → Prop := kNext Q; Wp C (eval e env) Q' l led) (hi : interactive env = false := by with_unfolding_all rfl) (hs : swapsWith e none pos.line env = Pure.pure false := by with_unfolding_all rfl) :
    Wp C (exec (.Expr e pos) env) Q l led := fun s S => wpAny_Expr_any (Wp.use h S fun v l' led' s' S' q => ⟨_, _, S', q⟩) hi hs

-- expressions
noncomputable def locOk (env : Env) (x : Str) : Bool := match env.kindOf x with
  | some .local => !(x == ("__debug__" : Str))
  | _ => false
theorem locOk.kind (h : locOk env x = true) : env.kindOf x = some .local ∧ (x == ("__debug__" : Str)) = false := by
  unfold locOk at h
  split at h
  · exact ⟨by assumption, by simpa using h⟩
  · cases h
theorem c_local (he : EnvOk C env) (hv : l.lookup x = some v) (h : Q v l led) (hl : locOk env x = true := by with_unfolding_all rfl) : Wp C (eval (.Name x pos) env) Q l led := fun s S =>
  r_local S hv ⟨_, _, S, h⟩ he.k he.L (locOk.kind hl).1 (locOk.kind hl).2
theorem c_global (he : EnvOk C env) (e : nsIn (KF w.params) mainGlobals x = some (some v)) (h : Q v l led) (hx : env.kindOf x = some .globalImplicit := by with_unfolding_all rfl) (hd : (x == ("__debug__" : Str)) = false := by decide) : Wp C (eval (.Name x pos) env) Q l led := fun s S =>
  r_global C.G S e ⟨_, _, S, h⟩ he.k hx he.g hd
theorem c_builtin (he : EnvOk C env) (e : nsIn (KF w.params) mainGlobals x = some none) (hv : bootBuiltins x = some v) (hn : x ≠ "__name__") (h : Q v l led) (hx : env.kindOf x = some .globalImplicit := by with_unfolding_all rfl) (hd : (x == ("__debug__" : Str)) = false := by decide) :
    Wp C (eval (.Name x pos) env) Q l led := fun s S => r_builtin C.G S e hv hn ⟨_, _, S, h⟩ he.k hx he.g he.b hd
theorem c_int {k : Nat} (h : ∀ t, Q (.int a t) l led) : Wp C (eval (.Constant (.int a) k pos) env) Q l led := fun s S => r_int S fun t s' S' => ⟨_, _, S', h t⟩
theorem c_str {k : Nat} (h : ∀ t, Q (.str x t) l led) : Wp C (eval (.Constant (.str x) k pos) env) Q l led := fun s S => r_str S fun t s' S' => ⟨_, _, S', h t⟩
theorem c_none {k : Nat} (h : Q .none l led) : Wp C (eval (.Constant .none k pos) env) Q l led := fun s S => r_none ⟨_, _, S, h⟩
theorem c_bool {k : Nat} {c : Bool} (h : Q (.bool c) l led) : Wp C (eval (.Constant (.bool c) k pos) env) Q l led := fun s S => r_bool ⟨_, _, S, h⟩
theorem c_bin {op : Operator} {e2 : Expr} (h : let Q' : Value → Loc → Led → Prop := kBin C env op e2 Q; Wp C (eval e env) Q' l led) : Wp C (eval (.BinOp e op e2 pos) env) Q l led := fun s S =>
  wpAny_BinOp (Wp.use h S fun v l' led' s' S' q => Wp.use q S' fun _ _ _ s2 S2 q2 => q2 s2 S2)
theorem c_un {op : UnaryOp} (h : let Q' : Value → Loc → Led → Prop := kUn C op Q; Wp C (eval e env) Q' l led) : Wp C (eval (.UnaryOp op e pos) env) Q l led := fun s S =>
  wpAny_UnaryOp (Wp.use h S fun v l' led' s' S' q => q s' S')
theorem c_cmp {op : CmpOp} {e2 : Expr} (h : let Q' : Value → Loc → Led → Prop := kCmp C env op e2 Q; Wp C (eval e env) Q' l led) (hm : behindInMarks op e2 = false := by with_unfolding_all rfl) : Wp C (eval (.Compare e [op] [e2] pos) env) Q l led := fun s S =>
  wpAny_Compare1 (Wp.use h S fun v l' led' s' S' q => Wp.use q S' fun _ _ _ s2 S2 q2 => q2 s2 S2) hm
theorem c_cmpT {op : CmpOp} {e2 : Expr} {whole : Sem Value} {Q : Bool → Loc → Led → Prop} (h : let Q' : Value → Loc → Led → Prop := kCmp C env op e2 (kTruthy C Q); Wp C (eval e env) Q' l led) (hm : behindInMarks op e2 = false := by with_unfolding_all rfl) :
    Wp C (isTrue (.Compare e [op] [e2] pos) env whole) Q l led := fun s S =>
  wpAny_isTrue_Compare1 (Wp.use h S fun v l' led' s' S' q => Wp.use q S' fun _ _ _ s2 S2 q2 => Wp.use q2 S2 fun _ _ _ s3 S3 q3 => q3 s3 S3) hm
theorem c_notT {whole : Sem Value} {Q : Bool → Loc → Led → Prop} (h : let Q' : Bool → Loc → Led → Prop := kNot Q; Wp C (isTrue e env (eval e env)) Q' l led) : Wp C (isTrue (.UnaryOp .Not e pos) env whole) Q l led := fun s S =>
  wpAny_isTrue_Not (Wp.use h S fun v l' led' s' S' q => ⟨_, _, S', q⟩)
theorem c_boolT {op : BoolOp} {whole : Sem Value} {Q : Bool → Loc → Led → Prop} (h : Wp C (allTrue op es env) Q l led) : Wp C (isTrue (.BoolOp op es pos) env whole) Q l led := fun s S => wpAny_isTrue_BoolOp (h s S)
theorem c_and0 {Q : Bool → Loc → Led → Prop} (h : Q true l led) : Wp C (allTrue .And [] env) Q l led := fun s S => wpAny_allTrue_And_nil ⟨_, _, S, h⟩
theorem c_or0 {Q : Bool → Loc → Led → Prop} (h : Q false l led) : Wp C (allTrue .Or [] env) Q l led := fun s S => wpAny_allTrue_Or_nil ⟨_, _, S, h⟩
theorem c_and {Q : Bool → Loc → Led → Prop} (h : let Q' : Bool → Loc → Led → Prop := kAnd C env es Q; Wp C (isTrue e env (eval e env)) Q' l led) : Wp C (allTrue .And (e :: es) env) Q l led := fun s S =>
  wpAny_allTrue_And_cons (Wp.use h S fun b l' led' s' S' q => by
    cases b with
    | true => exact (iteT q : Wp C (allTrue .And es env) Q l' led') s' S'
    | false => exact ⟨_, _, S', (iteF q : Q false l' led')⟩)
theorem c_or {Q : Bool → Loc → Led → Prop} (h : let Q' : Bool → Loc → Led → Prop := kOr C env es Q; Wp C (isTrue e env (eval e env)) Q' l led) : Wp C (allTrue .Or (e :: es) env) Q l led := fun s S =>
  wpAny_allTrue_Or_cons (Wp.use h S fun b l' led' s' S' q => by
    cases b with
    | true => exact ⟨_, _, S', (iteT q : Q true l' led')⟩
    | false => exact (iteF q : Wp C (allTrue .Or es env) Q l' led') s' S')
theorem c_ife {test body orelse : Expr} (h : let Q' : Bool → Loc → Led → Prop := kIfE C env body orelse Q; Wp C (isTrue test env (eval test env)) Q' l led) : Wp C (eval (.IfExp test body orelse pos) env) Q l led := fun s S =>
  wpAny_IfExp (Wp.use h S fun b l' led' s' S' q => by
    cases b with
    | true => exact (iteT q : Wp C (eval body env) Q l' led') s' S'
    | false => exact (iteF q : Wp C (eval orelse env) Q l' led') s' S')
theorem c_truthy {c : Bool} {Q : Bool → Loc → Led → Prop} (h : Q c l led) : Wp C (truthy (.bool c)) Q l led := fun s S => wpAny_truthy_bool ⟨_, _, S, h⟩
theorem c_chainT {op₁ op₂ : CmpOp} {ops : List CmpOp} {r₁ r₂ : Expr} {rs : List Expr} {whole : Sem Value} {Q : Bool → Loc → Led → Prop} (h : let Q' : Value → Loc → Led → Prop := kChain C pos (op₁ :: op₂ :: ops) (eval r₁ env :: eval r₂ env :: evalEach rs env) Q; Wp C (eval e env) Q' l led)
    (hm : lastMarks (op₁ :: op₂ :: ops) (r₁ :: r₂ :: rs) = false := by with_unfolding_all rfl) : Wp C (isTrue (.Compare e (op₁ :: op₂ :: ops) (r₁ :: r₂ :: rs) pos) env whole) Q l led := fun s S =>
  isTrue_chain (Wp.use h S fun v l' led' s' S' q => q s' S') hm
theorem c_link {op op' : CmpOp} {ops : List CmpOp} {r r' : Sem Value} {rs : List (Sem Value)} {Q : Bool → Loc → Led → Prop} (h : let Q' : Value → Loc → Led → Prop := kLink C pos v op (op' :: ops) (r' :: rs) Q; Wp C r Q' l led) : Wp C (testChain pos v (op :: op' :: ops) (r :: r' :: rs)) Q l led := fun s S =>
  test_link (Wp.use h S fun b l' led' s' S' q => Wp.use q S' fun c l2 led2 s2 S2 q2 => Wp.use q2 S2 fun t l3 led3 s3 S3 q3 => by
    cases t with
    | true => exact (iteT q3 : Wp C (testChain pos b (op' :: ops) (r' :: rs)) Q l3 led3) s3 S3
    | false => exact ⟨_, _, S3, (iteF q3 : Q false l3 led3)⟩)
theorem c_last {op : CmpOp} {r : Sem Value} {Q : Bool → Loc → Led → Prop} (h : let Q' : Value → Loc → Led → Prop := kLast C v op Q; Wp C r Q' l led) : Wp C (testChain pos v [op] [r]) Q l led := fun s S =>
  test_last (Wp.use h S fun b l' led' s' S' q => Wp.use q S' fun c l2 led2 s2 S2 q2 => q2 s2 S2)
theorem c_attr {attr : Str} (h : let Q' : Value → Loc → Led → Prop := kAttr C attr Q; Wp C (eval e env) Q' l led)
    (he : eval (.Attribute e attr pos) env = (do let o ← eval e env; standAt pos.atName; let r ← holding [o] (getAttr o attr true); letTemporaryGo e o r; Pure.pure r) := by with_unfolding_all rfl) : Wp C (eval (.Attribute e attr pos) env) Q l led := fun s S =>
  Attribute_any_ (Wp.use h S fun v l' led' s' S' q => q s' S') he
theorem c_sub {value slice : Expr} (h : let Q' : Value → Loc → Led → Prop := kSub C env value slice Q; Wp C (eval value env) Q' l led) : Wp C (eval (.Subscript value slice pos) env) Q l led := fun s S =>
  Subscript_ (Wp.use h S fun v l' led' s' S' q => Wp.use q S' fun _ _ _ s2 S2 q2 => q2 s2 S2)

-- arithmetic
theorem c_add (h : ∀ t, Q (.int (a + b) t) l led) : Wp C (binaryOp .Add (.int a t) (.int b u)) Q l led := fun s S => r_add S fun t s' S' => ⟨_, _, S', h t⟩
theorem c_sub' (h : ∀ t, Q (.int (a - b) t) l led) : Wp C (binaryOp .Sub (.int a t) (.int b u)) Q l led := fun s S => r_sub S fun t s' S' => ⟨_, _, S', h t⟩
theorem c_mod (hb : 0 < b) (h : ∀ t, Q (.int (a % b) t) l led) : Wp C (binaryOp .Mod (.int a t) (.int b u)) Q l led := fun s S => r_mod S hb fun t s' S' => ⟨_, _, S', h t⟩
theorem c_div (hp : 0 < b) (hq : Builtin.divisionGoesByPylong a b = false) (h : ∀ t, Q (.int (a / b) t) l led) : Wp C (binaryOp .FloorDiv (.int a t) (.int b u)) Q l led := fun s S => r_div C.G S hp hq fun t s' S' => ⟨_, _, S', h t⟩
theorem c_shl (h0 : 0 ≤ b) (h1 : b ≤ 1000000) (h2 : a.natAbs < 2 ^ 64) (h : ∀ t, Q (.int (a * 2 ^ b.toNat) t) l led) : Wp C (binaryOp .LShift (.int a t) (.int b u)) Q l led := fun s S => r_shl S h0 h1 h2 fun t s' S' => ⟨_, _, S', h t⟩
theorem c_shr (h0 : 0 ≤ b) (h : ∀ t, Q (.int (a / 2 ^ b.toNat) t) l led) : Wp C (binaryOp .RShift (.int a t) (.int b u)) Q l led := fun s S => r_shr S h0 fun t s' S' => ⟨_, _, S', h t⟩
theorem c_bitand {n : Nat} (hm : b = 2 ^ n - 1) (h : ∀ t, Q (.int (a % 2 ^ n) t) l led) : Wp C (binaryOp .BitAnd (.int a t) (.int b u)) Q l led := fun s S => r_and S hm fun t s' S' => ⟨_, _, S', h t⟩
theorem c_bitor (h : ∀ t, Q (.int (Builtin.bitOr a b) t) l led) : Wp C (binaryOp .BitOr (.int a t) (.int b u)) Q l led := fun s S => r_or S fun t s' S' => ⟨_, _, S', h t⟩
theorem c_neg (h : ∀ t, Q (.int (-a) t) l led) : Wp C (unaryOp .USub (.int a t)) Q l led := fun s S => r_neg S fun t s' S' => ⟨_, _, S', h t⟩
theorem c_mulS (h1 : b.natAbs < 2 ^ 64) (h : ∀ t, Q (.int (a * b) t) l led) : Wp C (binaryOp .Mult (.int a t) (.int b u)) Q l led := fun s S => r_mulS S h1 fun t s' S' => ⟨_, _, S', h t⟩
theorem c_mulL (h1 : a.natAbs < 2 ^ 64) (h : ∀ t, Q (.int (a * b) t) l led) : Wp C (binaryOp .Mult (.int a t) (.int b u)) Q l led := fun s S => r_mulL S h1 fun t s' S' => ⟨_, _, S', h t⟩
theorem c_eq (h : Q (.bool (a == b)) l led) : Wp C (compareOp .Eq (.int a t) (.int b u)) Q l led := fun s S => r_eq (α := Int) ⟨_, _, S, h⟩
theorem c_ne (h : Q (.bool (a != b)) l led) : Wp C (compareOp .NotEq (.int a t) (.int b u)) Q l led := fun s S => r_ne ⟨_, _, S, h⟩
theorem c_lt (h : Q (.bool (decide (a < b))) l led) : Wp C (compareOp .Lt (.int a t) (.int b u)) Q l led := fun s S => r_lt ⟨_, _, S, h⟩
theorem c_le (h : Q (.bool (decide (a ≤ b))) l led) : Wp C (compareOp .LtE (.int a t) (.int b u)) Q l led := fun s S => r_le ⟨_, _, S, h⟩
theorem c_gt (h : Q (.bool (decide (a > b))) l led) : Wp C (compareOp .Gt (.int a t) (.int b u)) Q l led := fun s S => r_gt ⟨_, _, S, h⟩
theorem c_ge (h : Q (.bool (decide (a ≥ b))) l led) : Wp C (compareOp .GtE (.int a t) (.int b u)) Q l led := fun s S => r_ge ⟨_, _, S, h⟩
theorem c_eqS {x y : Str} (h : Q (.bool (x == y)) l led) : Wp C (compareOp .Eq (.str x t) (.str y u)) Q l led := fun s S => r_eqS ⟨_, _, S, h⟩
theorem c_isN0 {a : Addr} (h : Q (.bool false) l led) : Wp C (compareOp .Is (.ref a) .none) Q l led := fun s S => r_isNone_ref ⟨_, _, S, h⟩
theorem c_isN1 (h : Q (.bool true) l led) : Wp C (compareOp .Is .none .none) Q l led := fun s S => r_isNone_none ⟨_, _, S, h⟩
theorem c_isnN1 {a : Addr} (h : Q (.bool true) l led) : Wp C (compareOp .IsNot (.ref a) .none) Q l led := fun s S => r_isNotNone_ref ⟨_, _, S, h⟩
theorem c_isnN0 (h : Q (.bool false) l led) : Wp C (compareOp .IsNot .none .none) Q l led := fun s S => r_isNotNone_none ⟨_, _, S, h⟩

-- attributes
section
variable {o C₀ D dx f : Addr} {name : Str} {i n : Nat} {vs : List Value} {ns : List Int} {value slice : Expr}
noncomputable def handOk : Option (Option Value) → Bool
  | some (some v) => handedIn v
  | _ => true
noncomputable def inQ (led : Led) (i : Nat) (name : Str) : Option (Addr × Obj) × Option (Addr × Obj) × Option (Option Value) × Bool := (ix led i, ix led (i + 1), getL name (esOf (ix led (i + 1))), handOk (getL name (esOf (ix led (i + 1)))))
@[reducible] noncomputable def inA (led : Led) (i : Nat) (o C₀ dx : Addr) (v : Option Value) : Option (Addr × Obj) × Option (Addr × Obj) × Option (Option Value) × Bool := (some (o, instObj C₀ dx), some (dx, dictOf (esOf (ix led (i + 1))) (nOf (ix led (i + 1)))), some v, true)
theorem inqn (n : Nat) : inQ led n name = inQ led n name := rfl
theorem in1 {v : Option Value} (e : inQ led i name = inA led i o C₀ dx v) : ix led i = some (o, instObj C₀ dx) := congrArg (·.1) e
theorem in2 {v : Option Value} (e : inQ led i name = inA led i o C₀ dx v) : ix led (i + 1) = some (dx, dictOf (esOf (ix led (i + 1))) (nOf (ix led (i + 1)))) := congrArg (·.2.1) e
theorem in3 {v : Option Value} (e : inQ led i name = inA led i o C₀ dx v) : getL name (esOf (ix led (i + 1))) = some v := congrArg (·.2.2.1) e
theorem in4 (e : inQ led i name = inA led i o C₀ dx (some v)) : handedIn v = true := by
  have h : handOk (getL name (esOf (ix led (i + 1)))) = true := congrArg (·.2.2.2) e
  rw [in3 e] at h; exact h
theorem inRef {in1 : Addr} (e : inQ led i name = inA led i o C₀ dx (some (.ref in1))) : inQ led i name = inA led i o C₀ dx (some (.ref in1)) := e
theorem inInt {in1 : Int} {in2 : Tok} (e : inQ led i name = inA led i o C₀ dx (some (.int in1 in2))) : inQ led i name = inA led i o C₀ dx (some (.int in1 in2)) := e
theorem inStr {in1 : Str} {in2 : Tok} (e : inQ led i name = inA led i o C₀ dx (some (.str in1 in2))) : inQ led i name = inA led i o C₀ dx (some (.str in1 in2)) := e
theorem inNone (e : inQ led i name = inA led i o C₀ dx (some .none)) : inQ led i name = inA led i o C₀ dx (some .none) := e
theorem c_getA {expr : Bool} (e : inQ led i name = inA led i o C₀ dx (some v)) (K : Own w C₀ name) (h : Q v l led) : Wp C (getAttr (.ref o) name expr) Q l led := fun s S =>
  r_attr C.G S K (mem_ix (in1 e)) (mem_ix (in2 e)) (in3 e) (in4 e) fun s' S' => ⟨_, _, S', h⟩
theorem c_getM {pl : Sem Bool} {Q : Value × List Value → Loc → Led → Prop} (e : inQ led i name = inA led i o C₀ dx none) (K : Meth w C₀ name f) (h : Q (.ref f, [.ref o]) l led) : Wp C (getMethod (.ref o) name pl) Q l led := fun s S =>
  r_method C.G S K (mem_ix (in1 e)) (mem_ix (in2 e)) (in3 e) ⟨_, _, S, h⟩
theorem c_getA2 {expr : Bool} {es : List DictEntry} (h1 : (o, instObj C₀ dx) ∈ led) (h2 : (dx, dictOf es n) ∈ led) (hl : getL name es = some (some v)) (hv : handedIn v = true) (K : Own w C₀ name) (h : Q v l led) : Wp C (getAttr (.ref o) name expr) Q l led := fun s S =>
  r_attr C.G S K h1 h2 hl hv fun s' S' => ⟨_, _, S', h⟩
theorem c_getM2 {pl : Sem Bool} {es : List DictEntry} {Q : Value × List Value → Loc → Led → Prop} (h1 : (o, instObj C₀ dx) ∈ led) (h2 : (dx, dictOf es n) ∈ led) (hl : getL name es = some none) (K : Meth w C₀ name f) (h : Q (.ref f, [.ref o]) l led) : Wp C (getMethod (.ref o) name pl) Q l led := fun s S =>
  r_method C.G S K h1 h2 hl ⟨_, _, S, h⟩
theorem c_setAt {Q : Unit → Loc → Led → Prop} {es' : Tok → List DictEntry} {n' : Nat} {es : List DictEntry} {fl : Obj → Led} (K : SetOk w C₀ name) (h1 : (o, instObj C₀ dx) ∈ led) (U : At dx (dictOf es n) led fl)
    (hl : (getL name es).isSome = true) (e : ∀ tk, (putL name (PyData.keyHash w.params name) (.str name tk) v es, putN name es n) = (es' tk, n')) (hz : ∀ tk, (es' tk).length ≤ 1000)
    (h : ∀ tk, let led' : Led := fl (dictOf (es' tk) n'); Q () l led') : Wp C (setAttr (.ref o) name v) Q l led := fun s S =>
  r_setAttr C.G S K h1 U hl e hz fun tk s' S' => ⟨_, _, S', h tk⟩
-- args and calls
noncomputable def starless : List Expr → Bool
  | [] => true
  | .Starred .. :: _ => false
  | _ :: r => starless r
theorem starless_cons {e : Expr} {r : List Expr} (h : starless (e :: r) = true) : starEach (e :: r) env = (false, eval e env) :: starEach r env ∧ starless r = true := by
  cases e <;> first | exact ⟨rfl, h⟩ | cases h
theorem starless_any {pos : Pos} : ∀ {es : List Expr}, starless es = true → (backTo pos (starEach es env)).any (·.1) = false
  | [], _ => rfl
  | e :: r, h => by
    obtain ⟨e1, h'⟩ := starless_cons (env := env) h
    rw [e1]
    show (false || (backTo pos (starEach r env)).any (·.1)) = false
    rw [starless_any h']; rfl
theorem Args.go (pos : Pos) {E : Value → Shared → Prop} : ∀ (es : List Expr) {T : List Value → Shared → Prop} {Q : List Value → Loc → Led → Prop} {l : Loc} {led : Led} {s : Shared}, starless es = true → Args C env es Q l led → C.S l led s →
    (∀ vs l' led' s', C.S l' led' s' → Q vs l' led' → T vs s') → wpAny (model pgm w) C.A (spliced (backTo pos (starEach es env))) T E s
  | [], T, Q, l, led, s, _, h, S, k => Calls.spliced_nil (k [] l led s S h)
  | e :: r, T, Q, l, led, s, hp, h, S, k => by
    obtain ⟨e1, h'⟩ := starless_cons (env := env) hp
    rw [e1]
    exact Calls.spliced_cons (Wp.use h S fun v l1 led1 s1 S1 q => Args.go pos r h' q S1 fun vs l2 led2 s2 S2 q2 => k _ _ _ _ S2 q2)
theorem c_arg {r : List Expr} {Q : List Value → Loc → Led → Prop} (h : let Q' : Value → Loc → Led → Prop := kArg C env r Q; Wp C (eval e env) Q' l led) : Args C env (e :: r) Q l led := h
theorem c_arg0 {Q : List Value → Loc → Led → Prop} (h : Q [] l led) : Args C env [] Q l led := h
theorem c_callW {first : List Value} (hk : keepIn (KF w.params) (.ref f) = true) (hp : starless es = true) (h : Args C env es (fun vs l led => Wp C (call (.ref f) (first ++ vs)) Q l led) l led) :
    Wp C (callWith pos (.ref f) first (backTo pos (starEach es env)) []) Q l led := fun s S => by
  cases es with
  | nil => exact r_call0 C.G S hk (by have := h s S; rwa [List.append_nil] at this)
  | cons e r =>
    obtain ⟨e1, h'⟩ := starless_cons (env := env) hp
    exact r_call C.G hk (Args.go pos (e :: r) hp h S fun vs l' led' s' S' q => ⟨S'.inK C.G, q s' S'⟩) e1 (starless_any h')
theorem c_callF {es : List Expr} (hk : keepIn (KF w.params) (.ref f) = true) (h : let Q' : List Value → Loc → Led → Prop := kCall C f Q; Args C env es Q' l led) (hp : starless es = true := by with_unfolding_all rfl) :
    Wp C (callWith pos (.ref f) [] (backTo pos (starEach es env)) []) Q l led := c_callW hk hp h
theorem c_callF1 {es : List Expr} (hk : keepIn (KF w.params) (.ref f) = true) (h : let Q' : List Value → Loc → Led → Prop := kCall1 C f v Q; Args C env es Q' l led) (hp : starless es = true := by with_unfolding_all rfl) :
    Wp C (callWith pos (.ref f) [v] (backTo pos (starEach es env)) []) Q l led := c_callW hk hp h
theorem c_callB {id : String} {es : List Expr} (h : let Q' : List Value → Loc → Led → Prop := kCallB C id Q; Args C env es Q' l led) (hp : starless es = true := by with_unfolding_all rfl) :
    Wp C (callWith pos (.builtin id) [] (backTo pos (starEach es env)) []) Q l led := fun s S => by
  cases es with
  | nil => exact r_callB0 (h s S)
  | cons e r =>
    obtain ⟨e1, h'⟩ := starless_cons (env := env) hp
    exact r_callB (Args.go pos (e :: r) hp h S fun vs l' led' s' S' q => q s' S') e1 (starless_any h')
theorem c_callB1 {id : String} {es : List Expr} (h : let Q' : List Value → Loc → Led → Prop := kCallB1 C id v Q; Args C env es Q' l led) (hp : starless es = true := by with_unfolding_all rfl) :
    Wp C (callWith pos (.builtin id) [v] (backTo pos (starEach es env)) []) Q l led := fun s S => by
  cases es with
  | nil => exact r_callB0 (h s S)
  | cons e r =>
    obtain ⟨e1, h'⟩ := starless_cons (env := env) hp
    exact r_callB (Args.go pos (e :: r) hp h S fun vs l' led' s' S' q => q s' S') e1 (starless_any h')
theorem c_callT {T : String} {es : List Expr} (h : let Q' : List Value → Loc → Led → Prop := kCallT C T Q; Args C env (e :: es) Q' l led) (hp : starless (e :: es) = true := by with_unfolding_all rfl) :
    Wp C (callWith pos (.type T) [] (backTo pos (starEach (e :: es) env)) []) Q l led := fun s S => by
  obtain ⟨e1, h'⟩ := starless_cons (env := env) hp
  exact r_callT (Args.go pos (e :: es) hp h S fun vs l' led' s' S' q => q s' S') e1 (starless_any h')
theorem c_callN {args : List Expr} (h : let Q' : Value → Loc → Led → Prop := kCallee C env pos args Q; Wp C (eval (.Name x p1) env) Q' l led) : Wp C (eval (.Call (.Name x p1) args [] pos) env) Q l led := fun s S =>
  wpAny_Call_NameR (Wp.use h S fun v l' led' s' S' q => q s' S')
theorem c_mcall {args : List Expr} (h : let Q' : Value → Loc → Led → Prop := kMeth C env e name pos args Q; Wp C (eval e env) Q' l led)
    (he : eval (.Call (.Attribute e name p1) args [] pos) env = (do
      let ov ← eval e env
      standAt p1.atName
      let (f, first) ← holding [ov] (getMethod ov name (plOf e env))
      callWith pos f first (backTo pos (starEach args env)) (backToKw pos (keywordEach [] env))) := by with_unfolding_all rfl) : Wp C (eval (.Call (.Attribute e name p1) args [] pos) env) Q l led := fun s S =>
  r_mcall (pl := plOf e env) (Wp.use h S fun v l' led' s' S' q => Wp.use q S' fun _ _ _ s2 S2 q2 => q2 s2 S2) he
structure GFn (w : World) (x : Str) (f : Addr) : Prop where
  e : nsIn (KF w.params) mainGlobals x = some (some (.ref f))
  k : keepIn (KF w.params) (.ref f) = true
  d : (x == ("__debug__" : Str)) = false
structure GBi (w : World) (x : Str) (v : Value) : Prop where
  e : nsIn (KF w.params) mainGlobals x = some none
  v : bootBuiltins x = some v
  n : x ≠ "__name__"
  d : (x == ("__debug__" : Str)) = false
theorem c_callG {args : List Expr} (he : EnvOk C env) (K : GFn w x f) (h : let Q' : List Value → Loc → Led → Prop := kCall C f Q; Args C env args Q' l led) (hx : env.kindOf x = some .globalImplicit := by with_unfolding_all rfl) (hp : starless args = true := by with_unfolding_all rfl) :
    Wp C (eval (.Call (.Name x p1) args [] pos) env) Q l led := c_callN (c_global he K.e (c_callF K.k h hp) hx K.d)
theorem c_callGB {args : List Expr} {id : String} (he : EnvOk C env) (K : GBi w x (.builtin id)) (h : let Q' : List Value → Loc → Led → Prop := kCallB C id Q; Args C env args Q' l led) (hx : env.kindOf x = some .globalImplicit := by with_unfolding_all rfl) (hp : starless args = true := by with_unfolding_all rfl) :
    Wp C (eval (.Call (.Name x p1) args [] pos) env) Q l led := c_callN (c_builtin he K.e K.v K.n (c_callB h hp) hx K.d)
theorem c_callGT {args : List Expr} {T : String} (he : EnvOk C env) (K : GBi w x (.type T)) (h : let Q' : List Value → Loc → Led → Prop := kCallT C T Q; Args C env (e :: args) Q' l led) (hx : env.kindOf x = some .globalImplicit := by with_unfolding_all rfl) (hp : starless (e :: args) = true := by with_unfolding_all rfl) :
    Wp C (eval (.Call (.Name x p1) (e :: args) [] pos) env) Q l led := c_callN (c_builtin he K.e K.v K.n (c_callT h hp) hx K.d)
theorem c_attrN (he : EnvOk C env) (hv : l.lookup x = some (.ref o)) (e : inQ led i name = inA led i o C₀ dx (some v)) (K : Own w C₀ name) (h : Q v l led) (hl : locOk env x = true := by with_unfolding_all rfl) :
    Wp C (eval (.Attribute (.Name x p1) name pos) env) Q l led := c_attr (c_local he hv (c_getA e K h) hl) (by with_unfolding_all rfl)
theorem c_mcallN {args : List Expr} (he : EnvOk C env) (hv : l.lookup x = some (.ref o)) (e : inQ led i name = inA led i o C₀ dx none) (K : Meth w C₀ name f) (h : let Q' : List Value → Loc → Led → Prop := kCall1 C f (.ref o) Q; Args C env args Q' l led)
    (hl : locOk env x = true := by with_unfolding_all rfl) (hp : starless args = true := by with_unfolding_all rfl)
    (he' : eval (.Call (.Attribute (.Name x p2) name p1) args [] pos) env = (do
      let ov ← eval (.Name x p2) env
      standAt p1.atName
      let (f, first) ← holding [ov] (getMethod ov name (plOf (.Name x p2) env))
      callWith pos f first (backTo pos (starEach args env)) (backToKw pos (keywordEach [] env))) := by with_unfolding_all rfl) :
    Wp C (eval (.Call (.Attribute (.Name x p2) name p1) args [] pos) env) Q l led := c_mcall (c_local he hv (c_getM e K (c_callF1 K.keep h hp)) hl) he'
theorem c_tuple {k : Nat} (h : let Q' : List Value → Loc → Led → Prop := kTup C Q; Args C env es Q' l led) (hp : starless es = true := by with_unfolding_all rfl) : Wp C (eval (.Tuple es k pos) env) Q l led := fun s S =>
  Tuple_ (Args.go pos es hp h S fun vs l' led' s' S' q => q s' S')
theorem c_list (h : let Q' : List Value → Loc → Led → Prop := kLst C Q; Args C env es Q' l led) (hp : starless es = true := by with_unfolding_all rfl) : Wp C (eval (.List es pos) env) Q l led := fun s S =>
  List_ (Args.go pos es hp h S fun vs l' led' s' S' q => q s' S')
end
end
-- B1
theorem notSlice_sub : ∀ {slice : Expr} {o i : Value}, (match slice with | .Slice .. => false | _ => true) = true → subscripted slice false o i = operate [o, i] (getItem o i) := by
  intro slice o i h
  cases slice <;> first | rfl | cases h
section
variable {w : World} {C : Cx w} {l l' : Loc} {led news : Led} {env : Env} {Q : Value → Loc → Led → Prop} {x : Str} {pos p1 p2 : Pos} {v : Value} {a b c : Int} {t u : Tok} {e : Expr} {es : List Expr} {N U n k : Nat} {o D B f : Addr} {vs us : List Value} {ns ms : List Int} {value slice : Expr} {pl : Sem Bool} {fl : Obj → Led}
@[reducible] noncomputable def noSlice (slice : Expr) : Bool := match slice with | .Slice .. => false | _ => true

theorem c_item (hm : (D, listOf vs.toArray n) ∈ led) (h0 : 0 ≤ a) (h1 : a < 2 ^ 63) (hx : vs[a.toNat]? = some v) (h : Q v l led) (hs : noSlice slice = true := by with_unfolding_all rfl) : Wp C (subscriptTail value slice (.ref D) (.int a u)) Q l led := fun s S =>
  r_item S hm h0 h1 hx ⟨_, _, S, h⟩ (notSlice_sub hs)
theorem c_titem (hm : (D, tupOf vs.toArray n) ∈ led) (h0 : 0 ≤ a) (h1 : a < 2 ^ 63) (hx : vs[a.toNat]? = some v) (h : Q v l led) (hs : noSlice slice = true := by with_unfolding_all rfl) : Wp C (subscriptTail value slice (.ref D) (.int a u)) Q l led := fun s S =>
  r_titem S hm h0 h1 hx ⟨_, _, S, h⟩ (notSlice_sub hs)
theorem c_setItem {Q : Unit → Loc → Led → Prop} (U : At D (listOf vs.toArray n) led fl) (h0 : 0 ≤ a) (h1 : a < vs.length) (hf : a < 2 ^ 63) (h : let led' : Led := fl (listOf (vs.set a.toNat v).toArray n); Q () l led') : Wp C (setItem (.ref D) (.int a t) v) Q l led := fun s S =>
  r_setItem S U h0 h1 hf fun s' S' => ⟨_, _, S', h⟩
theorem c_append (U : At D (listOf vs.toArray n) led fl) (hz : vs.length ≤ sizeLine) (h : let led' : Led := fl (listOf (vs ++ [v]).toArray (n + 1)); Q .none l led') : Wp C (call (.builtin "list.append") [.ref D, v]) Q l led := fun s S =>
  r_append S U hz fun s' S' => ⟨_, _, S', h⟩
theorem c_m_append {Q : Value × List Value → Loc → Led → Prop} (hm : (D, listOf vs.toArray n) ∈ led) (h : Q (.builtin "list.append", [.ref D]) l led) : Wp C (getMethod (.ref D) "append" pl) Q l led := fun s S => r_m_append S hm ⟨_, _, S, h⟩
theorem c_newList (h : ∀ D, let led' : Led := (D, listOf vs.toArray 0) :: led; Q (.ref D) l led') (hz : vs.length ≤ sizeLine) : Wp C (newList vs) Q l led := fun s S => r_newList S (fun D s' _ S' => ⟨_, _, S', h D⟩) hz
theorem c_newTuple (h : ∀ D, let led' : Led := (D, tupOf vs.toArray 0) :: led; Q (.ref D) l led') (hz : vs.length ≤ sizeLine) : Wp C (newTuple vs) Q l led := fun s S => r_newTuple S (fun D s' _ S' => ⟨_, _, S', h D⟩) hz
theorem c_split (hn : (Txt.words x).length = n) (hz : x.length + 2 ≤ sizeLine) (h : ∀ (D : Addr) (vs : List Value), vs.length = n → (∀ i, i < n → ∃ y t, vs[i]? = some (.str y t)) → let led' : Led := (D, listOf vs.toArray 0) :: led; Q (.ref D) l led') :
    Wp C (call (.builtin "str.split") [.str x t]) Q l led := fun s S => r_split hn hz S fun D vs s' h1 h2 S' => ⟨_, _, S', h D vs h1 h2⟩
theorem c_strInt (ha : a.natAbs.log2 < 1920) (h : ∀ (y : Str) t, y = Str.ofString (toString a) → Q (.str y t) l led) : Wp C (call (.type "str") [.int a t]) Q l led := fun s S => r_strInt S ha fun y t s' e S' => ⟨_, _, S', h y t e⟩
theorem c_addS {y : Str} (hz : x.length + y.length ≤ sizeLine) (h : ∀ t, Q (.str (x ++ y) t) l led) : Wp C (binaryOp .Add (.str x t) (.str y u)) Q l led := fun s S => r_addS S hz fun t s' S' => ⟨_, _, S', h t⟩
theorem c_m_split {Q : Value × List Value → Loc → Led → Prop} (h : Q (.builtin "str.split", [.str x t]) l led) : Wp C (getMethod (.str x t) "split" pl) Q l led := fun s S => r_m_split ⟨_, _, S, h⟩
theorem c_eqLen (h1 : (D, listOf vs.toArray n) ∈ led) (h2 : (B, listOf us.toArray k) ∈ led) (hne : vs.length ≠ us.length) (hR : Room C N U) (h : Q (.bool false) l led) : Wp C (compareOp .Eq (.ref D) (.ref B)) Q l led := fun s S =>
  r_eqLen S h1 h2 hne (Nat.lt_of_le_of_lt (Nat.le_add_right _ _) hR.u) ⟨_, _, S, h⟩
theorem c_neLen (h1 : (D, listOf vs.toArray n) ∈ led) (h2 : (B, listOf us.toArray k) ∈ led) (hne : vs.length ≠ us.length) (hR : Room C N U) (h : Q (.bool true) l led) : Wp C (compareOp .NotEq (.ref D) (.ref B)) Q l led := fun s S =>
  r_neLen S h1 h2 hne (Nat.lt_of_le_of_lt (Nat.le_add_right _ _) hR.u) ⟨_, _, S, h⟩
theorem c_eqInts (h1 : (D, listOf vs.toArray n) ∈ led) (i1 : IntsAre vs ns) (h2 : (B, listOf us.toArray k) ∈ led) (i2 : IntsAre us ms) (hR : Room C N U) (hle : (Nat.ble 0 N && Nat.ble 64 U) = true) (h : Q (.bool (decide (ns = ms))) l led) : Wp C (compareOp .Eq (.ref D) (.ref B)) Q l led := fun s S =>
  r_eqInts S h1 i1 h2 i2 (hR.le hle).u ⟨_, _, S, h⟩
theorem c_neInts (h1 : (D, listOf vs.toArray n) ∈ led) (i1 : IntsAre vs ns) (h2 : (B, listOf us.toArray k) ∈ led) (i2 : IntsAre us ms) (hR : Room C N U) (hle : (Nat.ble 0 N && Nat.ble 64 U) = true) (h : Q (.bool (!decide (ns = ms))) l led) : Wp C (compareOp .NotEq (.ref D) (.ref B)) Q l led := fun s S =>
  r_neInts S h1 i1 h2 i2 (hR.le hle).u ⟨_, _, S, h⟩
theorem c_inTup2 {c d e : Int} {t1 t2 t3 : Tok} (h1 : (D, tupOf [Value.int c t1, Value.int d t2].toArray n) ∈ led) (h : Q (.bool (c == e || d == e)) l led) : Wp C (compareOp .In (.int e t3) (.ref D)) Q l led := fun s S => r_inTup2 S h1 ⟨_, _, S, h⟩
theorem c_make {n u : Nat} {fI C₀ : Addr} {args : List Value} {kw : List (Str × Value)} {R : Addr → Addr → Led → Prop} (hm : makesIn (KF w.params) C₀ = true) (hi : findIn (KF w.params) (.ref C₀) "__init__" = some (some (.ref fI))) (hf : isFn (KF w.params) (.ref fI) = true)
    (D : ∀ x dx, Does w C.hb n u fI (.ref x :: args) kw ((x, instObj C₀ dx) :: (dx, dictOf [] 0) :: []) (fun v led' => v = .none ∧ R x dx led')) (hR : Room C N U) (hle : (Nat.ble (1 + n) N && Nat.ble (4 + u) U) = true)
    (k : ∀ x dx led', R x dx led' → Q (.ref x) l (led' ++ led)) : Wp C (call (.ref C₀) args kw) Q l led := fun s S =>
  have r := hR.le hle
  r_make C.G S hm hi hf D .none C.hh (by have := r.d; lia) (by have := r.u; lia) fun x dx led' s' r S' => ⟨_, _, S', k x dx led' r⟩

theorem Wp.pick {α : Type} {m : Sem α} {Q : α → Loc → Led → Prop} (hl : LocIn l' l) (h : let l1 : Loc := l'; Wp C m Q l1 led) : Wp C m Q l led := Wp.loc hl.of h
-- dicts
section
variable {ob : Obj} {ims : List (Int × Int)} {kvs : List (Int × Value)} {svs svs' : List (Str × Value)} {key : Int}
theorem c_dict0 (h : ∀ D o, (D == sysModules) = false → o.IsDictOf (intKind pgm w) [] → o.IsDictOf (PySem.strKind pgm w) [] → let led' : Led := (D, o) :: led; Q (.ref D) l led') : Wp C (eval (.Dict [] [] pos) env) Q l led := fun s S =>
  r_dict0 C.G S fun D o s' _ h1 h2 h3 S' => ⟨_, _, S', h D o h1 h2 h3⟩
theorem c_mgetI {Q : Value × List Value → Loc → Led → Prop} (hm : (D, ob) ∈ led) (hd : ob.IsDictOf (intKind pgm w) kvs) (h : Q (.builtin "dict.get", [.ref D]) l led) : Wp C (getMethod (.ref D) "get" pl) Q l led := fun s S => r_mgetI S hm hd ⟨_, _, S, h⟩
theorem c_hget (hm : (D, ob) ∈ led) (hd : ob.IsDictOf (intKind pgm w) kvs) (hH : Held kvs ims) (lo : (D == sysModules) = false) (h : ∀ t, Q (.int (look ims a) t) l led) : Wp C (call (.builtin "dict.get") [.ref D, .int a t, .int 0 u]) Q l led := fun s S =>
  r_hget S hm hd hH lo fun t s' S' => ⟨_, _, S', h t⟩
theorem c_hset {Q : Unit → Loc → Led → Prop} (U : At D ob led fl) (hd : ob.IsDictOf (intKind pgm w) kvs) (hH : Held kvs ims) (hz : ims.length ≤ 16777216) (h : ∀ o' kvs', o'.IsDictOf (intKind pgm w) kvs' → Held kvs' (putM ims a b) → let led' : Led := fl o'; Q () l led') :
    Wp C (setItem (.ref D) (.int a t) (.int b u)) Q l led := fun s S => r_hset S U hd hH hz fun o' kvs' s' h1 h2 S' => ⟨_, _, S', h o' kvs' h1 h2⟩
theorem c_hitem {i : Nat} (hm : (D, ob) ∈ led) (hd : ob.IsDictOf (intKind pgm w) kvs) (hi : kvs[i]? = some (a, v)) (h : Q v l led) (hs : noSlice slice = true := by with_unfolding_all rfl) : Wp C (subscriptTail value slice (.ref D) (.int a t)) Q l led := fun s S =>
  r_hitem S hm hd hi (fun s' S' => ⟨_, _, S', h⟩) (notSlice_sub hs)
theorem c_sitem (hm : (D, ob) ∈ led) (hd : ob.IsDictOf (PySem.strKind pgm w) svs) (hv : lookS svs x = some v) (h : Q v l led) (hs : noSlice slice = true := by with_unfolding_all rfl) : Wp C (subscriptTail value slice (.ref D) (.str x t)) Q l led := fun s S =>
  r_sitem S hm hd hv (fun s' S' => ⟨_, _, S', h⟩) (notSlice_sub hs)
theorem c_sset {Q : Unit → Loc → Led → Prop} (U : At D ob led fl) (hd : ob.IsDictOf (PySem.strKind pgm w) svs) (hz : svs.length ≤ 100) (e : stored svs x v = svs') (h : ∀ o', o'.IsDictOf (PySem.strKind pgm w) svs' → let led' : Led := fl o'; Q () l led') :
    Wp C (setItem (.ref D) (.str x t) v) Q l led := fun s S => r_sset S U hd hz e fun o' s' h1 S' => ⟨_, _, S', h o' h1⟩
@[reducible] noncomputable def kPair2 (C : Cx w) (env : Env) (pos : Pos) (ks : List (Option Expr)) (vs : List Expr) (k : Value) (Q : List (Value × Value) → Loc → Led → Prop) : Value → Loc → Led → Prop := fun v l led => Wp C (evalPairs (pairTrees ks vs env pos)) (fun r l led => Q ((k, v) :: r) l led) l led
@[reducible] noncomputable def kPair (C : Cx w) (env : Env) (pos : Pos) (ks : List (Option Expr)) (e : Expr) (vs : List Expr) (Q : List (Value × Value) → Loc → Led → Prop) : Value → Loc → Led → Prop := fun k l led => Wp C (eval e env) (kPair2 C env pos ks vs k Q) l led
noncomputable def Made (C : Cx w) (D : Addr) (o : Obj) (Q : Value → Loc → Led → Prop) (vs : List (Value × Value)) (l : Loc) (led : Led) : Prop :=
  ∃ fl, At D o led fl ∧ allStrKeys vs = true ∧ ((strPairs vs).map (·.1)).Nodup ∧ ∀ o', o'.IsDictOf (PySem.strKind pgm w) (strPairs vs) → Q (.ref D) l (fl o')
theorem made {fl : Obj → Led} {ps : List (Value × Value)} (U : At D ob led fl) (hk : allStrKeys ps = true) (hn : ((strPairs ps).map (·.1)).Nodup) (h : ∀ o', o'.IsDictOf (PySem.strKind pgm w) (strPairs ps) → let led' : Led := fl o'; Q (.ref D) l led') : Made C D ob Q ps l led := ⟨fl, U, hk, hn, h⟩
theorem c_pair {e2 : Expr} {ks : List (Option Expr)} {vs : List Expr} {Q : List (Value × Value) → Loc → Led → Prop} (h : let Q' : Value → Loc → Led → Prop := kPair C env pos ks e2 vs Q; Wp C (eval e env) Q' l led) : Wp C (evalPairs (pairTrees (some e :: ks) (e2 :: vs) env pos)) Q l led := fun s S =>
  pairTrees_cons_walk (Wp.use h S fun v l' led' s' S' q => Wp.use q S' fun _ _ _ s2 S2 q2 => q2 s2 S2)
theorem c_pair0 {Q : List (Value × Value) → Loc → Led → Prop} (h : Q [] l led) : Wp C (evalPairs (pairTrees [] [] env pos)) Q l led := fun s S => pairTrees_nil_walk ⟨_, _, S, h⟩
theorem c_dictS {keys : List (Option Expr)} {values : List Expr} (h : ∀ D o, o.IsDictOf (PySem.strKind pgm w) [] → let Q' : List (Value × Value) → Loc → Led → Prop := Made C D o Q; let led' : Led := (D, o) :: led; Wp C (evalPairs (pairTrees keys values env pos)) Q' l led')
    (hall : keys.all (·.isSome) = true := by with_unfolding_all rfl) (hl : keys.length = values.length := by with_unfolding_all rfl) (h0 : keys ≠ [] := by exact List.cons_ne_nil _ _) (hlen : keys.length ≤ 15 := by exact Nat.le_of_ble_eq_true rfl) : Wp C (eval (.Dict keys values pos) env) Q l led := fun s S =>
  r_dictS C.G S (fun D o s' _ _ hd S' => Wp.use (h D o hd) S' fun vs l' led' s2 S2 ⟨fl, U, hk, hn, q⟩ => r_made S2 U hd hk hn fun o' s3 h3 S3 => ⟨_, _, S3, q o' h3⟩) hall hl h0 hlen
end

-- lists of ints
theorem c_len (hm : (D, listOf vs.toArray n) ∈ led) (hf : vs.length ≤ 16777216) (h : ∀ t, Q (.int vs.length t) l led) : Wp C (call (.builtin "len") [.ref D]) Q l led := fun s S => r_len S hm hf fun t s' S' => ⟨_, _, S', h t⟩
theorem c_intInt (h : Q (.int a t) l led) : Wp C (call (.type "int") [.int a t]) Q l led := fun s S => r_intInt ⟨_, _, S, h⟩
theorem c_iget (hm : (D, listOf vs.toArray n) ∈ led) (hi : IntsAre vs ns) (h0 : 0 ≤ a) (h1 : a < ns.length) (hf : a < 2 ^ 63) (h : ∀ t, Q (.int (ns.getD a.toNat 0) t) l led) (hs : noSlice slice = true := by with_unfolding_all rfl) : Wp C (subscriptTail value slice (.ref D) (.int a u)) Q l led := fun s S =>
  r_iget S hm hi h0 h1 hf (fun t => ⟨_, _, S, h t⟩) (notSlice_sub hs)
theorem c_iset {Q : Unit → Loc → Led → Prop} (U : At D (listOf vs.toArray n) led fl) (hi : IntsAre vs ns) (h0 : 0 ≤ a) (h1 : a < ns.length) (hf : a < 2 ^ 63)
    (h : ∀ vs', IntsAre vs' (ns.set a.toNat b) → let led' : Led := fl (listOf vs'.toArray n); Q () l led') : Wp C (setItem (.ref D) (.int a t) (.int b u)) Q l led := fun s S =>
  r_iset S U hi h0 h1 hf fun s' h1 S' => ⟨_, _, S', h _ h1⟩
theorem c_times {m : Nat} (hm : (D, listOf [Value.int c t].toArray n) ∈ led) (hk : a = (m : Int)) (hz : m ≤ 2 ^ 20) (h : ∀ (B : Addr) (ws : List Value), IntsAre ws (List.replicate m c) → let led' : Led := (B, listOf ws.toArray 0) :: led; Q (.ref B) l led') : Wp C (binaryOp .Mult (.ref D) (.int a u)) Q l led := fun s S =>
  r_times S hm hk hz fun B ws s' _ h1 S' => ⟨_, _, S', h B ws h1⟩
theorem c_listCopy (hm : (D, listOf vs.toArray n) ∈ led) (hz : vs.length ≤ sizeLine) (h : ∀ (B : Addr) k, let led' : Led := (B, listOf vs.toArray k) :: led; Q (.ref B) l led') : Wp C (call (.type "list") [.ref D]) Q l led := fun s S =>
  r_listCopy S hm hz fun B k s' _ S' => ⟨_, _, S', h B k⟩
theorem c_tupleList (hm : (D, listOf vs.toArray n) ∈ led) (hz : vs.length ≤ sizeLine) (h : ∀ (B : Addr), let led' : Led := (B, tupOf vs.toArray 0) :: led; Q (.ref B) l led') : Wp C (call (.type "tuple") [.ref D]) Q l led := fun s S =>
  r_tupleList S hm hz fun B s' _ S' => ⟨_, _, S', h B⟩
theorem c_bytes (hm : (D, listOf vs.toArray n) ∈ led) (hi : IntsAre vs ns) (hr : ∀ n ∈ ns, 0 ≤ n ∧ n < 256) (hz : vs.length ≤ sizeLine) (h : ∀ t, Q (.bytes (byteArr ns) t) l led) : Wp C (call (.type "bytes") [.ref D]) Q l led := fun s S =>
  r_bytes S hm hi hr hz C.hh fun t s' S' => ⟨_, _, S', h t⟩
theorem c_eqB {xs ys : List Int} (hx : ∀ n ∈ xs, 0 ≤ n ∧ n < 256) (hy : ∀ n ∈ ys, 0 ≤ n ∧ n < 256) (h : Q (.bool (decide (xs = ys))) l led) : Wp C (compareOp .Eq (.bytes (byteArr xs) t) (.bytes (byteArr ys) u)) Q l led := fun s S => r_eqB hx hy ⟨_, _, S, h⟩
theorem c_neB {xs ys : List Int} (hx : ∀ n ∈ xs, 0 ≤ n ∧ n < 256) (hy : ∀ n ∈ ys, 0 ≤ n ∧ n < 256) (h : Q (.bool (!decide (xs = ys))) l led) : Wp C (compareOp .NotEq (.bytes (byteArr xs) t) (.bytes (byteArr ys) u)) Q l led := fun s S => r_neB hx hy ⟨_, _, S, h⟩
theorem c_lenB (hf : ns.length ≤ 16777216) (h : ∀ t, Q (.int ns.length t) l led) : Wp C (call (.builtin "len") [.bytes (byteArr ns) t]) Q l led := fun s S => r_lenB S hf fun t s' S' => ⟨_, _, S', h t⟩
theorem c_range1 (h : ∀ r t u v, let led' : Led := (r, { cls := .type "range", data := .fields #[.int 0 t, .int a u, .int 1 v] }) :: led; Q (.ref r) l led') : Wp C (call (.type "range") [.int a t]) Q l led := fun s S => r_range1 S fun r t u v s' S' => ⟨_, _, S', h r t u v⟩
theorem c_range2 (h : ∀ r t u v, let led' : Led := (r, { cls := .type "range", data := .fields #[.int a t, .int b u, .int 1 v] }) :: led; Q (.ref r) l led') : Wp C (call (.type "range") [.int a t, .int b u]) Q l led := fun s S => r_range2 S fun r t u v s' S' => ⟨_, _, S', h r t u v⟩

-- loops
section
variable {target iter : Expr} {body : List Stmt} {Q : Flow → Loc → Led → Prop}
noncomputable def ForW (C : Cx w) (env : Env) (target : Expr) (body : List Stmt) (Q : Flow → Loc → Led → Prop) (v : Value) (l : Loc) (led : Led) : Prop :=
  ∀ s, C.S l led s → wpAny (model pgm w) C.A (pyIter v) (fun it s' => codeAny (model pgm w) C.A (.forLoop target it body [] env)
    (fun r s' => match r with | .ok f => ∃ l' led', C.S l' led' s' ∧ Q f l' led' | .error e => cameBackBy (model pgm w) C.A env (fun _ _ => False) e s') s') (fun _ _ => False) s
theorem c_for (h : let Q' : Value → Loc → Led → Prop := ForW C env target body Q; Wp C (eval iter env) Q' l led) (hs : ∀ x, foldedSetIterable iter env x = Pure.pure x := by intro _; with_unfolding_all rfl) : Wp C (exec (.For target iter body [] pos) env) Q l led := fun s S =>
  wpAny_For (Wp.use h S fun v l' led' s' S' q => q s' S') hs
theorem Wp.subF {v : Value} {t : Led} (hs : SubL t led) (h : ForW C env target body Q v l t) : ForW C env target body Q v l led := fun s S => h s (hs.st S)
noncomputable def Turn (q : Addr × Obj) (J : Loc → Led → Prop) (l : Loc) (led : Led) : Prop := ∃ t, SubL (q :: t) led ∧ J l t
theorem Turn.of {q : Addr × Obj} {J : Loc → Led → Prop} {l : Loc} {t : Led} (h : J l t) : Turn q J l (q :: t) := ⟨t, .refl _, h⟩
theorem Turn.sub {q : Addr × Obj} {J : Loc → Led → Prop} {l : Loc} {led t : Led} (hs : SubL (q :: t) led) (h : J l t) : Turn q J l led := ⟨t, hs, h⟩
@[reducible] noncomputable def kTurn (q : Addr × Obj) (J : Loc → Led → Prop) (Q : Flow → Loc → Led → Prop) : Flow → Loc → Led → Prop := fun f l led => match f with | .next | .cont => Turn q J l led | .brk => Q .next l led | .ret v => Q (.ret v) l led
@[reducible] noncomputable def kBody (C : Cx w) (env : Env) (body : List Stmt) (q : Addr × Obj) (J : Loc → Led → Prop) (Q : Flow → Loc → Led → Prop) : Unit → Loc → Led → Prop := fun _ l led => Wp C (execs body env) (kTurn q J Q) l led
theorem turn_use {s₃ : Shared} {q : Addr × Obj} {J : Loc → Led → Prop} {f : Flow} {l : Loc} {led : Led} : C.S l led s₃ → kTurn q J Q f l led →
    match f with
    | .next | .cont => ∃ l' led', J l' led' ∧ C.S l' (q :: led') s₃
    | .brk => ∃ l' led', C.S l' led' s₃ ∧ Q .next l' led'
    | .ret v => ∃ l' led', C.S l' led' s₃ ∧ Q (.ret v) l' led' := by
  intro S h
  cases f with
  | next => obtain ⟨t, hs, j⟩ := h; exact ⟨l, t, j, hs.st S⟩
  | cont => obtain ⟨t, hs, j⟩ := h; exact ⟨l, t, j, hs.st S⟩
  | brk => exact ⟨_, _, S, h⟩
  | ret v => exact ⟨_, _, S, h⟩
theorem c_forN {m : Nat} {r : Addr} {t1 t2 t3 : Tok} (hb : b - a = (m : Int)) (J : Nat → Loc → Led → Prop) (hJ : J 0 l news)
    (turn : ∀ (i : Nat) (t : Tok) (I : Addr) (oI : Obj) (l : Loc) (led : Led), i < m → J i l led → let Q' : Unit → Loc → Led → Prop := kBody C env body (I, oI) (J (i + 1)) Q; let led' : Led := (I, oI) :: led; Wp C (assign target env (.int (a + i) t)) Q' l led')
    (fin : ∀ l led, J m l led → Q .next l led) (ht : ∀ x v, letOwnedTupleGo target x v = Pure.pure () := by intro _ _; with_unfolding_all rfl) :
    ForW C env target body Q (.ref r) l ((r, { cls := .type "range", data := .fields #[.int a t1, .int b t2, .int 1 t3] }) :: news) := fun s S =>
  r_forN (Q := fun f s' => ∃ l' led', C.S l' led' s' ∧ Q f l' led') hb C.hh S J hJ (fun i t I oI l led s E' hi hj S => Wp.use (turn i t I oI l led hi hj) S fun _ l1 led1 s1 S1 q => Wp.use q S1 fun f l2 led2 s2 S2 q2 => turn_use S2 q2) (fun l led s hj S => ⟨_, _, S, fin l led hj⟩) ht
theorem c_forN0 {m : Nat} {r : Addr} {t1 t2 t3 : Tok} (hb : b = (m : Int)) (J : Nat → Loc → Led → Prop) (hJ : J 0 l news)
    (turn : ∀ (i : Nat) (t : Tok) (I : Addr) (oI : Obj) (l : Loc) (led : Led), i < m → J i l led → let Q' : Unit → Loc → Led → Prop := kBody C env body (I, oI) (J (i + 1)) Q; let led' : Led := (I, oI) :: led; Wp C (assign target env (.int i t)) Q' l led')
    (fin : ∀ l led, J m l led → Q .next l led) (ht : ∀ x v, letOwnedTupleGo target x v = Pure.pure () := by intro _ _; with_unfolding_all rfl) :
    ForW C env target body Q (.ref r) l ((r, { cls := .type "range", data := .fields #[.int 0 t1, .int b t2, .int 1 t3] }) :: news) := fun s S =>
  r_forN0 (Q := fun f s' => ∃ l' led', C.S l' led' s' ∧ Q f l' led') hb C.hh S J hJ (fun i t I oI l led s E' hi hj S => Wp.use (turn i t I oI l led hi hj) S fun _ l1 led1 s1 S1 q => Wp.use q S1 fun f l2 led2 s2 S2 q2 => turn_use S2 q2) (fun l led s hj S => ⟨_, _, S, fin l led hj⟩) ht
theorem c_assignNm {Q : Unit → Loc → Led → Prop} (h : Wp C (storeName env x v) Q l led) : Wp C (assign (.Name x pos) env v) Q l led := fun s S => wpAny_assign_Name (h s S)
end
end
-- FactsB

theorem gf_mask {w : World} : GFn w "mask" 80 := ⟨by k_is, by k_is, by decide⟩
theorem gf_wrap {w : World} : GFn w "wrap" 87 := ⟨by k_is, by k_is, by decide⟩
theorem gf_bit {w : World} : GFn w "bit" 94 := ⟨by k_is, by k_is, by decide⟩
theorem gf_Flags {w : World} : GFn w "Flags" 167 := ⟨by k_is, by k_is, by decide⟩
theorem gf_Register {w : World} : GFn w "Register" 223 := ⟨by k_is, by k_is, by decide⟩
theorem gf_early_names {w : World} : GFn w "early_names" 234 := ⟨by k_is, by k_is, by decide⟩
theorem gf_late_ending {w : World} : GFn w "late_ending" 241 := ⟨by k_is, by k_is, by decide⟩
theorem gf_gpr {w : World} : GFn w "gpr" 248 := ⟨by k_is, by k_is, by decide⟩
theorem gf_high {w : World} : GFn w "high" 255 := ⟨by k_is, by k_is, by decide⟩
theorem gf_xmm {w : World} : GFn w "xmm" 262 := ⟨by k_is, by k_is, by decide⟩
theorem gf_rip {w : World} : GFn w "rip" 269 := ⟨by k_is, by k_is, by decide⟩
theorem gf_Memory {w : World} : GFn w "Memory" 359 := ⟨by k_is, by k_is, by decide⟩
theorem gf_joined {w : World} : GFn w "joined" 370 := ⟨by k_is, by k_is, by decide⟩
theorem gf_State {w : World} : GFn w "State" 476 := ⟨by k_is, by k_is, by decide⟩
theorem gf_Reg {w : World} : GFn w "Reg" 553 := ⟨by k_is, by k_is, by decide⟩
theorem gf_Imm {w : World} : GFn w "Imm" 587 := ⟨by k_is, by k_is, by decide⟩
theorem gf_Mem {w : World} : GFn w "Mem" 640 := ⟨by k_is, by k_is, by decide⟩
theorem gf_law_all {w : World} : GFn w "_law_all" 649 := ⟨by k_is, by k_is, by decide⟩
theorem gf_law_raw {w : World} : GFn w "_law_raw" 656 := ⟨by k_is, by k_is, by decide⟩
theorem gf_law_draw {w : World} : GFn w "_law_draw" 663 := ⟨by k_is, by k_is, by decide⟩
theorem gf_law_worth {w : World} : GFn w "_law_worth" 670 := ⟨by k_is, by k_is, by decide⟩
theorem gf_law_register {w : World} : GFn w "_law_register" 677 := ⟨by k_is, by k_is, by decide⟩
theorem gf_law_begin {w : World} : GFn w "_law_begin" 684 := ⟨by k_is, by k_is, by decide⟩
theorem gf_law_number {w : World} : GFn w "_law_number" 691 := ⟨by k_is, by k_is, by decide⟩
theorem gf_law_get {w : World} : GFn w "_law_get" 698 := ⟨by k_is, by k_is, by decide⟩
theorem gf_law_put {w : World} : GFn w "_law_put" 705 := ⟨by k_is, by k_is, by decide⟩
theorem gf_law_load {w : World} : GFn w "_law_load" 710 := ⟨by k_is, by k_is, by decide⟩
theorem gf_law_store {w : World} : GFn w "_law_store" 717 := ⟨by k_is, by k_is, by decide⟩
theorem gf_law_spot {w : World} : GFn w "_law_spot" 724 := ⟨by k_is, by k_is, by decide⟩
theorem gf_law_mem {w : World} : GFn w "_law_mem" 731 := ⟨by k_is, by k_is, by decide⟩
theorem gf_law_offset {w : World} : GFn w "_law_offset" 738 := ⟨by k_is, by k_is, by decide⟩
theorem gf_law_place {w : World} : GFn w "_law_place" 745 := ⟨by k_is, by k_is, by decide⟩
theorem gf_law_stack {w : World} : GFn w "_law_stack" 752 := ⟨by k_is, by k_is, by decide⟩
theorem gf_law_looked {w : World} : GFn w "_law_looked" 757 := ⟨by k_is, by k_is, by decide⟩
theorem gf_law_deed {w : World} : GFn w "_law_deed" 764 := ⟨by k_is, by k_is, by decide⟩
theorem gf_law_due {w : World} : GFn w "_law_due" 769 := ⟨by k_is, by k_is, by decide⟩
theorem gf_law_spans_right {w : World} : GFn w "_law_spans_right" 774 := ⟨by k_is, by k_is, by decide⟩
theorem gb_range {w : World} : GBi w "range" (.type "range") := ⟨by k_is, by boot_by_name, by decide, by decide⟩
theorem gb_int {w : World} : GBi w "int" (.type "int") := ⟨by k_is, by boot_by_name, by decide, by decide⟩
theorem gb_str {w : World} : GBi w "str" (.type "str") := ⟨by k_is, by boot_by_name, by decide, by decide⟩
theorem gb_list {w : World} : GBi w "list" (.type "list") := ⟨by k_is, by boot_by_name, by decide, by decide⟩
theorem gb_tuple {w : World} : GBi w "tuple" (.type "tuple") := ⟨by k_is, by boot_by_name, by decide, by decide⟩
theorem gb_bytes {w : World} : GBi w "bytes" (.type "bytes") := ⟨by k_is, by boot_by_name, by decide, by decide⟩
theorem gb_len {w : World} : GBi w "len" (.builtin "len") := ⟨by k_is, by boot_by_name, by decide, by decide⟩
theorem gb_sorted {w : World} : GBi w "sorted" (.builtin "sorted") := ⟨by k_is, by boot_by_name, by decide, by decide⟩
-- F1
section
local macro_rules | `(tactic| lcg_sub) => `(tactic| first | exact ixn 0 | exact ixn 1 | exact ixn 2 | exact ixn 3 | exact ixn 4 | exact ixn 5 | exact ixn 6 | exact ixn 7 | exact ixn 8 | exact ixn 9 | exact ixn 10 | exact ixn 11 | exact ixn 12 | exact ixn 13 | exact ixn 14 | exact ixn 15)
local macro_rules | `(tactic| lcg_off) => `(tactic| first
  | (apply mem_ix; lcg_sub)
  | with_reducible exact List.mem_cons_self | (with_reducible refine List.mem_cons_of_mem _ ?_; lcg_off)
  | (with_reducible refine List.mem_append_left _ ?_; lcg_off) | (with_reducible refine List.mem_append_right _ ?_; lcg_off))
local macro_rules | `(tactic| lcg_src) => `(tactic| first
  | (apply at_ix; lcg_sub)
  | with_reducible exact At.here | ((with_reducible refine' At.skip ?bZ0); (case bZ0 => lcg_src))
  | ((with_reducible refine' At.left ?bZ0); (case bZ0 => lcg_src)) | ((with_reducible refine' At.right ?bZ0); (case bZ0 => lcg_src)))
local macro_rules | `(tactic| walk_at "m own") => `(tactic| with_reducible first | exact own_Flags_cf | exact own_Flags_pf | exact own_Flags_af | exact own_Flags_zf | exact own_Flags_sf | exact own_Flags_of | exact own_Flags_df | exact own_Register_name | exact own_Register_kind | exact own_Register_number | exact own_Register_size | exact own_Memory_held | exact own_State_iset | exact own_State_regs | exact own_State_xmm | exact own_State_flags | exact own_State_memory | exact own_State_rip | exact own_State_begin | exact own_State_segments | exact own_State_is_halted | exact own_Reg_kind | exact own_Reg_register | exact own_Imm_kind | exact own_Imm_worth | exact own_Imm_name | exact own_Mem_kind | exact own_Mem_base | exact own_Mem_index | exact own_Mem_scale | exact own_Mem_worth | exact own_Mem_size | exact own_Mem_segment | exact own_Mem_name)
local macro_rules | `(tactic| walk_at "m setok") => `(tactic| with_reducible first | exact set_Flags_cf | exact set_Flags_pf | exact set_Flags_af | exact set_Flags_zf | exact set_Flags_sf | exact set_Flags_of | exact set_Flags_df | exact set_Register_name | exact set_Register_kind | exact set_Register_number | exact set_Register_size | exact set_Memory_held | exact set_State_iset | exact set_State_regs | exact set_State_xmm | exact set_State_flags | exact set_State_memory | exact set_State_rip | exact set_State_begin | exact set_State_segments | exact set_State_is_halted | exact set_Reg_kind | exact set_Reg_register | exact set_Imm_kind | exact set_Imm_worth | exact set_Imm_name | exact set_Mem_kind | exact set_Mem_base | exact set_Mem_index | exact set_Mem_scale | exact set_Mem_worth | exact set_Mem_size | exact set_Mem_segment | exact set_Mem_name)
local macro_rules | `(tactic| walk_at "m meth") => `(tactic| with_reducible first | exact meth_Flags_told | exact meth_Flags_pack | exact meth_Flags_unpack | exact meth_Flags_copy | exact meth_Memory_octet | exact meth_Memory_set_octet | exact meth_Memory_read | exact meth_Memory_write | exact meth_Memory_octets | exact meth_Memory_written | exact meth_Memory_spans | exact meth_Memory_find | exact meth_Memory_copy | exact meth_Memory_told | exact meth_State_get | exact meth_State_put | exact meth_State_put_low | exact meth_State_offset | exact meth_State_place | exact meth_State_read | exact meth_State_write | exact meth_State_push | exact meth_State_pop | exact meth_State_told | exact meth_State_copy)
local macro_rules | `(tactic| walk_at "m gf") => `(tactic| with_reducible first | exact gf_mask | exact gf_wrap | exact gf_bit | exact gf_Flags | exact gf_Register | exact gf_early_names | exact gf_late_ending | exact gf_gpr | exact gf_high | exact gf_xmm | exact gf_rip | exact gf_Memory | exact gf_joined | exact gf_State | exact gf_Reg | exact gf_Imm | exact gf_Mem | exact gf_law_all | exact gf_law_raw | exact gf_law_draw | exact gf_law_worth | exact gf_law_register | exact gf_law_begin | exact gf_law_number | exact gf_law_get | exact gf_law_put | exact gf_law_load | exact gf_law_store | exact gf_law_spot | exact gf_law_mem | exact gf_law_offset | exact gf_law_place | exact gf_law_stack | exact gf_law_looked | exact gf_law_deed | exact gf_law_due | exact gf_law_spans_right)
local macro_rules | `(tactic| walk_at "m gb") => `(tactic| with_reducible first | exact gb_len | exact gb_sorted)
local macro_rules | `(tactic| walk_at "m gt") => `(tactic| with_reducible first | exact gb_int | exact gb_str | exact gb_list | exact gb_tuple | exact gb_bytes | exact gb_range)
local macro_rules | `(tactic| kwd_rel) => `(tactic| first | assumption | omega)
local macro_rules | `(tactic| tlg_ne) => `(tactic| first | exact inqn 0 | exact inqn 1 | exact inqn 2 | exact inqn 3 | exact inqn 4 | exact inqn 5 | exact inqn 6 | exact inqn 7 | exact inqn 8 | exact inqn 9 | exact inqn 10 | exact inqn 11 | exact inqn 12 | exact inqn 13 | exact inqn 14)
local macro_rules | `(tactic| kd_adr) => `(tactic| first | (apply inRef; tlg_ne) | (apply inInt; tlg_ne) | (apply inStr; tlg_ne) | (apply inNone; tlg_ne) | tlg_ne)
local macro_rules | `(tactic| walk_at "m eval") => `(tactic| first
  | ((with_reducible refine' c_local ?cZ0 ?cZ1 ?_); (case cZ0 => assumption); (case cZ1 => exact rfl))
  | ((with_reducible refine' c_global ?cZ0 ?cZ1 ?_); (case cZ0 => assumption); (case cZ1 => k_is))
  | ((with_reducible refine' c_builtin ?cZ0 ?cZ1 ?cZ2 ?cZ3 ?_); (case cZ0 => assumption); (case cZ1 => k_is); (case cZ2 => boot_by_name); (case cZ3 => decide))
  | (with_reducible refine c_int ?_; intro _) | (with_reducible refine c_str ?_; intro _) | with_reducible refine c_none ?_ | with_reducible refine c_bool ?_
  | (with_reducible refine c_bin ?_; intro _)
  | ((with_reducible refine' c_attrN ?cZ0 ?cZ1 ?cZ2 ?cZ3 ?_); (case cZ0 => assumption); (case cZ1 => exact rfl); (case cZ2 => kd_adr); (case cZ3 => walk_at "m own"))
  | (with_reducible refine c_attr ?_; intro _)
  | (with_reducible refine c_sub ?_; intro _)
  | ((with_reducible refine' c_callG ?cZ0 ?cZ1 ?_); (case cZ0 => assumption); (case cZ1 => walk_at "m gf"); intro _)
  | ((with_reducible refine' c_callGB ?cZ0 ?cZ1 ?_); (case cZ0 => assumption); (case cZ1 => walk_at "m gb"); intro _)
  | ((with_reducible refine' c_callGT ?cZ0 ?cZ1 ?_); (case cZ0 => assumption); (case cZ1 => walk_at "m gt"); intro _)
  | ((with_reducible refine' c_mcallN ?cZ0 ?cZ1 ?cZ2 ?cZ3 ?_); (case cZ0 => assumption); (case cZ1 => exact rfl); (case cZ2 => tlg_ne); (case cZ3 => walk_at "m meth"); intro _)
  | (with_reducible refine c_mcall ?_; intro _)
  | (with_reducible refine c_cmp ?_; intro _)
  | (with_reducible refine c_un ?_; intro _)
  | (with_reducible refine c_ife ?_; intro _)
  | (with_reducible refine c_tuple ?_; intro _)
  | (with_reducible refine c_list ?_; intro _)
  | with_reducible refine c_dict0 ?_
  | (refine c_dictS ?_; intro _ _ _ _ _))
local macro_rules | `(tactic| walk_at "m exec") => `(tactic| first
  | (with_reducible refine c_ret ?_; intro _)
  | (with_reducible refine c_assignN ?_; intro _)
  | (with_reducible refine c_setA ?_; intro _)
  | (with_reducible refine c_setI ?_; intro _)
  | (with_reducible refine c_if ?_; intro _)
  | (with_reducible refine c_expr ?_; intro _)
  | (with_reducible refine c_for ?_; intro _))
local macro_rules | `(tactic| walk_at "m true") => `(tactic| first
  | (with_reducible refine c_cmpT ?_; intro _)
  | with_reducible refine c_boolT ?_
  | (with_reducible refine c_notT ?_; intro _)
  | (with_reducible refine c_chainT ?_; intro _))
local macro_rules | `(tactic| walk_at "m bin") => `(tactic| first
  | (with_reducible refine c_add ?_; intro _) | (with_reducible refine c_sub' ?_; intro _)
  | ((with_reducible refine' c_mod ?dZ0 ?_); (case dZ0 => kwd_rel); intro _)
  | ((with_reducible refine' c_shl ?dZ0 ?dZ1 ?dZ2 ?_); (case dZ0 => kwd_rel); (case dZ1 => kwd_rel); (case dZ2 => kwd_rel); intro _)
  | ((with_reducible refine' c_shr ?dZ0 ?_); (case dZ0 => kwd_rel); intro _)
  | (with_reducible refine c_bitor ?_; intro _)
  | ((with_reducible refine' c_mulL ?dZ0 ?_); (case dZ0 => kwd_rel); intro _) | ((with_reducible refine' c_mulS ?dZ0 ?_); (case dZ0 => kwd_rel); intro _))
local macro_rules | `(tactic| walk_at "m cmp") => `(tactic| with_reducible first
  | refine c_eq ?_ | refine c_ne ?_ | refine c_lt ?_ | refine c_le ?_ | refine c_gt ?_ | refine c_ge ?_ | refine c_eqS ?_ | refine c_isN0 ?_ | refine c_isN1 ?_ | refine c_isnN1 ?_ | refine c_isnN0 ?_)
local macro_rules | `(tactic| walk_at "m call") => `(tactic| first
  | with_reducible refine c_intInt ?_
  | (with_reducible refine c_range1 ?_; intro _ _ _ _ _) | (with_reducible refine c_range2 ?_; intro _ _ _ _ _))
local macro_rules | `(tactic| walk_at "m meth1") => `(tactic| first
  | ((with_reducible refine' c_getM ?eZ0 ?eZ1 ?_); (case eZ0 => tlg_ne); (case eZ1 => walk_at "m meth"))
  | ((with_reducible refine' c_getM2 ?eZ0 ?eZ1 ?eZ2 ?eZ3 ?_); (case eZ0 => lcg_off); (case eZ1 => lcg_off); (case eZ2 => k_get); (case eZ3 => walk_at "m meth"))
  | with_reducible refine c_m_split ?_
  | ((with_reducible refine' c_m_append ?eZ0 ?_); (case eZ0 => lcg_off))
  | ((with_reducible refine' c_mgetI ?eZ0 ?eZ1 ?_); (case eZ0 => lcg_off); (case eZ1 => assumption)))
local macro_rules | `(tactic| walk_at "m ite") => `(tactic| first
  | with_reducible refine r_iteT ?_ | with_reducible refine r_iteF ?_
  | ((with_reducible refine' r_iteS0 ?fZ0 ?_); (case fZ0 => first | kernel_rfl! | assumption)) | ((with_reducible refine' r_iteS1 ?fZ0 ?_); (case fZ0 => first | kernel_rfl! | assumption))
  | ((with_reducible refine' r_iteE ?fZ0 ?_); (case fZ0 => (intro h; exfalso; omega)); intro _)
  | ((with_reducible refine' r_iteE ?_ ?fZ0); (case fZ0 => (intro h; exfalso; omega)); intro _)
  | ((with_reducible refine' r_iteD ?fZ0 ?_); (case fZ0 => (intro h; exfalso; omega)); intro _)
  | ((with_reducible refine' r_iteD ?_ ?fZ0); (case fZ0 => (intro h; exfalso; omega)); intro _)
  | ((with_reducible refine' r_iteN ?fZ0 ?_); (case fZ0 => (intro h; exfalso; omega)); intro _)
  | ((with_reducible refine' r_iteN ?_ ?fZ0); (case fZ0 => (intro h; exfalso; omega)); intro _)
  | ((with_reducible refine' r_iteND ?fZ0 ?_); (case fZ0 => (intro h; exfalso; omega)); intro _)
  | ((with_reducible refine' r_iteND ?_ ?fZ0); (case fZ0 => (intro h; exfalso; omega)); intro _))
local macro_rules | `(tactic| walk_at "m ev") => `(tactic| first
  | ((fail_if_success (fail_if_success (with_reducible show Wp _ (eval _ _) _ _ _))); walk_at "m eval")
  | ((fail_if_success (fail_if_success (with_reducible show Wp _ (exec _ _) _ _ _))); walk_at "m exec")
  | with_reducible refine c_arg0 ?_ | (with_reducible refine c_arg ?_; intro _)
  | with_reducible refine c_end ?_ | with_reducible refine c_seq1 ?_ | (with_reducible refine c_seq ?_; intro _)
  | ((fail_if_success (fail_if_success (with_reducible show Wp _ (binaryOp _ _ _) _ _ _))); walk_at "m bin")
  | ((fail_if_success (fail_if_success (with_reducible show Wp _ (call _ _ _) _ _ _))); walk_at "m call")
  | ((fail_if_success (fail_if_success (with_reducible show Wp _ (compareOp _ _ _) _ _ _))); walk_at "m cmp")
  | with_reducible refine c_truthy ?_
  | ((fail_if_success (fail_if_success (with_reducible show Wp _ (isTrue _ _ _) _ _ _))); walk_at "m true")
  | ((fail_if_success (fail_if_success (with_reducible show ite _ _ _))); walk_at "m ite")
  | ((with_reducible refine' c_iget ?gZ0 ?gZ1 ?gZ2 ?gZ3 ?gZ4 ?_); (case gZ0 => lcg_off); (case gZ1 => assumption); (case gZ2 => kwd_rel); (case gZ3 => kwd_rel); (case gZ4 => omega); intro _)
  | ((with_reducible refine' c_sitem ?gZ0 ?gZ1 ?gZ2 ?_); (case gZ0 => lcg_off); (case gZ1 => assumption); (case gZ2 => exact rfl))
  | ((with_reducible refine' c_store ?gZ0 ?_); (case gZ0 => assumption); intro _ _)
  | ((with_reducible refine' c_getA ?gZ0 ?gZ1 ?_); (case gZ0 => kd_adr); (case gZ1 => walk_at "m own"))
  | ((with_reducible refine' c_getA2 ?gZ0 ?gZ1 ?gZ2 ?gZ3 ?gZ4 ?_); (case gZ0 => lcg_off); (case gZ1 => lcg_off); (case gZ2 => k_get); (case gZ3 => exact rfl); (case gZ4 => walk_at "m own"))
  | ((with_reducible refine' c_setAt ?gZ0 ?gZ1 ?gZ2 ?gZ3 ?gZ4 ?gZ5 ?_); (case gZ1 => lcg_off); (case gZ2 => lcg_src); (case gZ0 => walk_at "m setok"); (case gZ3 => exact rfl); (case gZ4 => (intro _; k_put)); (case gZ5 => (intro _; exact Nat.le_of_ble_eq_true rfl)); intro _ _)
  | ((with_reducible refine' c_iset ?gZ0 ?gZ1 ?gZ2 ?gZ3 ?gZ4 ?_); (case gZ0 => lcg_src); (case gZ1 => assumption); (case gZ2 => kwd_rel); (case gZ3 => kwd_rel); (case gZ4 => omega); intro _ _ _)
  | ((fail_if_success (fail_if_success (with_reducible show Wp _ (getMethod _ _ _) _ _ _))); walk_at "m meth1")
  | ((fail_if_success (fail_if_success (with_reducible show Wp _ (callWith _ _ _ _ _) _ _ _))); first | ((with_reducible refine' c_callF1 ?gZ0 ?_); (case gZ0 => k_is); intro _) | ((with_reducible refine' c_callF ?gZ0 ?_); (case gZ0 => k_is); intro _) | (with_reducible refine c_callB1 ?_; intro _) | (with_reducible refine c_callB ?_; intro _) | (with_reducible refine c_callT ?_; intro _))
  | (with_reducible refine c_neg ?_; intro _)
  | with_reducible refine c_and0 ?_ | with_reducible refine c_or0 ?_ | (with_reducible refine c_and ?_; intro _) | (with_reducible refine c_or ?_; intro _)
  | ((fail_if_success (fail_if_success (with_reducible show Wp _ (testChain _ _ [_] _) _ _ _))); refine c_last ?_; intro _) | (with_reducible refine c_link ?_; intro _)
  | ((with_reducible refine' c_newList ?_ ?gZ0); (case gZ0 => exact Nat.le_of_ble_eq_true rfl); intro _ _)
  | ((with_reducible refine' c_newTuple ?_ ?gZ0); (case gZ0 => exact Nat.le_of_ble_eq_true rfl); intro _ _)
  | with_reducible refine c_pair0 ?_ | (with_reducible refine c_pair ?_; intro _)
  | ((with_reducible refine' made ?gZ0 ?gZ1 ?gZ2 ?_); (case gZ0 => lcg_src); (case gZ1 => exact rfl); (case gZ2 => exact of_decide_eq_true (by first | rfl | kernel_rfl!)); intro _ _ _)
  | with_reducible refine c_assignNm ?_
  | fail "m ev")
section
variable {w : World} {p : Program} {loose : List Str} {mean : ExcName → Option Value} {mg mb : Str → Option Value} {hb : Heap}
theorem mask_does (G : G0 w p loose mean mg mb hb) {n : Int} {t : Tok} (h0 : 0 ≤ n) (h1 : n ≤ 128) :
    Does w hb 1 10 80 [.int n t] [] [] (fun v led' => (∃ t, v = .int (2 ^ n.toNat - 1) t) ∧ led' = []) := by
  refine' enterB (binds := [(Str.ofString "size", .int n t)]) (by assumption) ?k6 ?k7 ?k9 ?kB [(Str.ofString "size", .int n t)] rfl ?_ ?c2 ?c3 ?c4 ?c5
  case k6 => k_is
  case k7 => k_is
  case k9 => (intro s hs; first | exact BindsTo.of_eq rfl | exact binds_K (Frag.In.keeps (G0.X (by assumption)) hs) rfl (by k_is) rfl rfl rfl)
  case c5 => decide
  case kB => exact locs rfl
  case c2 => exact rfl
  case c3 => exact rfl
  case c4 => exact rfl
  intro C Q hR fini finn perm env l led he
  repeat (walk_at "m ev")
  exact fini ⟨⟨_, by rw [Int.one_mul]⟩, rfl⟩
theorem wrap_does (G : G0 w p loose mean mg mb hb) {n x : Int} {t u : Tok} (h0 : 0 ≤ n) (h1 : n ≤ 128) :
    Does w hb 2 20 87 [.int x u, .int n t] [] [] (fun v led' => (∃ t, v = .int (x % 2 ^ n.toNat) t) ∧ led' = []) := by
  refine' enterB (binds := [(Str.ofString "worth", .int x u), (Str.ofString "size", .int n t)]) (by assumption) ?k6 ?k7 ?k9 ?kB [(Str.ofString "size", .int n t), (Str.ofString "worth", .int x u)] rfl ?_ ?c2 ?c3 ?c4 ?c5
  case k6 => k_is
  case k7 => k_is
  case k9 => (intro s hs; first | exact BindsTo.of_eq rfl | exact binds_K (Frag.In.keeps (G0.X (by assumption)) hs) rfl (by k_is) rfl rfl rfl)
  case c5 => decide
  case kB => exact locs rfl
  case c2 => exact rfl
  case c3 => exact rfl
  case c4 => exact rfl
  intro C Q hR fini finn perm env l led he
  repeat (walk_at "m ev")
  refine c_does0 (mask_does C.G₀ h0 h1) hR rfl ?_
  rintro _ ⟨t', rfl⟩
  refine c_bitand rfl fun _ => ?_
  exact fini ⟨⟨_, rfl⟩, rfl⟩
section
variable {C : Cx w} {l : Loc} {led : Led} {Q : Value → Loc → Led → Prop} {N U : Nat}
theorem c_wrap {n x : Int} {t u : Tok} (hR : Room C N U) (hle : (Nat.ble 2 N && Nat.ble 20 U) = true) (h0 : 0 ≤ n) (h1 : n ≤ 128) (k : ∀ t, Q (.int (x % 2 ^ n.toNat) t) l led) : Wp C (call (.ref 87) [.int x u, .int n t]) Q l led :=
  c_does0 (wrap_does C.G₀ h0 h1) hR hle (by rintro _ ⟨t, rfl⟩; exact k _)
end
theorem bit_does (G : G0 w p loose mean mg mb hb) {n x : Int} {t u : Tok} (h0 : 0 ≤ n) :
    Does w hb 1 10 94 [.int x u, .int n t] [] [] (fun v led' => (∃ t, v = .int (x / 2 ^ n.toNat % 2) t) ∧ led' = []) := by
  refine' enterB (binds := [(Str.ofString "worth", .int x u), (Str.ofString "n", .int n t)]) (by assumption) ?k6 ?k7 ?k9 ?kB [(Str.ofString "n", .int n t), (Str.ofString "worth", .int x u)] rfl ?_ ?c2 ?c3 ?c4 ?c5
  case k6 => k_is
  case k7 => k_is
  case k9 => (intro s hs; first | exact BindsTo.of_eq rfl | exact binds_K (Frag.In.keeps (G0.X (by assumption)) hs) rfl (by k_is) rfl rfl rfl)
  case c5 => decide
  case kB => exact locs rfl
  case c2 => exact rfl
  case c3 => exact rfl
  case c4 => exact rfl
  intro C Q hR fini finn perm env l led he
  repeat (walk_at "m ev")
  refine c_bitand (n := 1) rfl fun _ => ?_
  exact fini ⟨⟨_, by rfl⟩, rfl⟩
section
variable {C : Cx w} {l : Loc} {led : Led} {Q : Value → Loc → Led → Prop} {N U : Nat}
theorem c_bit {n x : Int} {t u : Tok} (hR : Room C N U) (hle : (Nat.ble 1 N && Nat.ble 10 U) = true) (h0 : 0 ≤ n) (k : ∀ t, Q (.int (x / 2 ^ n.toNat % 2) t) l led) : Wp C (call (.ref 94) [.int x u, .int n t]) Q l led :=
  c_does0 (bit_does C.G₀ h0) hR hle (by rintro _ ⟨t, rfl⟩; exact k _)
end
noncomputable def joinedI (old x n : Int) : Int := if n ≥ 32 then x else old - old % 2 ^ n.toNat + x
local macro_rules | `(tactic| walk_at "m call") => `(tactic| ((with_reducible refine' c_wrap ?hZ0 ?hZ1 ?hZ2 ?hZ3 ?_); (case hZ0 => assumption); (case hZ1 => exact rfl); (case hZ2 => kwd_rel); (case hZ3 => kwd_rel); intro _))
theorem joined_does (G : G0 w p loose mean mg mb hb) {old x n : Int} {t u v : Tok} (h0 : 0 ≤ n) (h1 : n ≤ 128) :
    Does w hb 3 30 370 [.int old t, .int x u, .int n v] [] [] (fun v led' => (∃ t, v = .int (joinedI old x n) t) ∧ led' = []) := by
  refine' enterB (binds := [(Str.ofString "old", .int old t), (Str.ofString "worth", .int x u), (Str.ofString "size", .int n v)]) (by assumption) ?k6 ?k7 ?k9 ?kB [(Str.ofString "size", .int n v), (Str.ofString "worth", .int x u), (Str.ofString "old", .int old t)] rfl ?_ ?c2 ?c3 ?c4 ?c5
  case k6 => k_is
  case k7 => k_is
  case k9 => (intro s hs; first | exact BindsTo.of_eq rfl | exact binds_K (Frag.In.keeps (G0.X (by assumption)) hs) rfl (by k_is) rfl rfl rfl)
  case c5 => decide
  case kB => exact locs rfl
  case c2 => exact rfl
  case c3 => exact rfl
  case c4 => exact rfl
  intro C Q hR fini finn perm env l led he
  repeat (walk_at "m ev")
  refine r_iteD (fun h => ?_) fun h => ?_
  ·
    repeat (walk_at "m ev")
    exact fini ⟨⟨_, by rw [joinedI, if_pos h]⟩, rfl⟩
  ·
    repeat (walk_at "m ev")
    exact fini ⟨⟨_, by rw [joinedI, if_neg h]⟩, rfl⟩
section
variable {C : Cx w} {l : Loc} {led : Led} {Q : Value → Loc → Led → Prop} {N U : Nat}
theorem c_joined {old n x : Int} {t u v : Tok} (hR : Room C N U) (hle : (Nat.ble 3 N && Nat.ble 30 U) = true) (h0 : 0 ≤ n) (h1 : n ≤ 128) (k : ∀ t, Q (.int (joinedI old x n) t) l led) : Wp C (call (.ref 370) [.int old t, .int x u, .int n v]) Q l led :=
  c_does0 (joined_does C.G₀ h0 h1) hR hle (by rintro _ ⟨t, rfl⟩; exact k _)
end
end
-- F2
local macro_rules | `(tactic| walk_at "m call") => `(tactic| first
  | ((with_reducible refine' c_wrap ?iZ0 ?iZ1 ?iZ2 ?iZ3 ?_); (case iZ0 => assumption); (case iZ1 => exact rfl); (case iZ2 => kwd_rel); (case iZ3 => kwd_rel); intro _)
  | ((with_reducible refine' c_joined ?iZ0 ?iZ1 ?iZ2 ?iZ3 ?_); (case iZ0 => assumption); (case iZ1 => exact rfl); (case iZ2 => kwd_rel); (case iZ3 => kwd_rel); intro _)
  | ((with_reducible refine' c_bit ?iZ0 ?iZ1 ?iZ2 ?_); (case iZ0 => assumption); (case iZ1 => exact rfl); (case iZ2 => kwd_rel); intro _))
section
variable {w : World} {p : Program} {loose : List Str} {mean : ExcName → Option Value} {mg mb : Str → Option Value} {hb : Heap}
theorem flags_tok {x dx : Addr} {a b c d e f g h i j k l m n : Tok} : ∃ τ, [(x, instObj 167 dx), (dx, dictOf [dE w "cf" a (.int 0 b), dE w "pf" c (.int 0 d), dE w "af" e (.int 0 f), dE w "zf" g (.int 0 h), dE w "sf" i (.int 0 j),
    dE w "of" k (.int 0 l), dE w "df" m (.int 0 n)] 7)] = [(x, instObj 167 dx), (dx, flagsD w τ)] := ⟨fun q => [a, b, c, d, e, f, g, h, i, j, k, l, m, n].getD (q - 11) 0, rfl⟩
theorem Flags_init (G : G0 w p loose mean mg mb hb) {x dx : Addr} :
    Does w hb 1 10 108 [.ref x] [] [(x, instObj 167 dx), (dx, dictOf [] 0)] (fun v led' => v = .none ∧ ∃ τ, led' = [(x, instObj 167 dx), (dx, flagsD w τ)]) := by
  refine' enterB (binds := [(Str.ofString "self", .ref x)]) (by assumption) ?k6 ?k7 ?k9 ?kB [(Str.ofString "self", .ref x)] rfl ?_ ?c2 ?c3 ?c4 ?c5
  case k6 => k_is
  case k7 => k_is
  case k9 => (intro s hs; first | exact BindsTo.of_eq rfl | exact binds_K (Frag.In.keeps (G0.X (by assumption)) hs) rfl (by k_is) rfl rfl rfl)
  case c5 => decide
  case kB => exact locs rfl
  case c2 => exact rfl
  case c3 => exact rfl
  case c4 => exact rfl
  intro C Q hR fini finn perm env l led he
  repeat (walk_at "m ev")
  exact finn ⟨rfl, flags_tok⟩
theorem Flags_told (G : G0 w p loose mean mg mb hb) {x dx : Addr} {τ : Nat → Tok} :
    Does w hb 1 10 115 [.ref x] [] [(x, instObj 167 dx), (dx, flagsD w τ)] (fun v led' => ∃ T vs, v = .ref T ∧ IntsAre vs [0, 0, 0, 0, 0, 0, 0] ∧ led' = [(T, tupOf vs.toArray 0), (x, instObj 167 dx), (dx, flagsD w τ)]) := by
  refine' enterB (binds := [(Str.ofString "self", .ref x)]) (by assumption) ?k6 ?k7 ?k9 ?kB [(Str.ofString "self", .ref x)] rfl ?_ ?c2 ?c3 ?c4 ?c5
  case k6 => k_is
  case k7 => k_is
  case k9 => (intro s hs; first | exact BindsTo.of_eq rfl | exact binds_K (Frag.In.keeps (G0.X (by assumption)) hs) rfl (by k_is) rfl rfl rfl)
  case c5 => decide
  case kB => exact locs rfl
  case c2 => exact rfl
  case c3 => exact rfl
  case c4 => exact rfl
  intro C Q hR fini finn perm env l led he
  repeat (walk_at "m ev")
  exact fini ⟨_, _, rfl, .cons _ _ (.cons _ _ (.cons _ _ (.cons _ _ (.cons _ _ (.cons _ _ (.cons _ _ .nil)))))), rfl⟩
theorem Flags_pack (G : G0 w p loose mean mg mb hb) {x dx : Addr} {τ : Nat → Tok} :
    Does w hb 1 10 122 [.ref x] [] [(x, instObj 167 dx), (dx, flagsD w τ)] (fun v led' => (∃ t, v = .int 2 t) ∧ led' = [(x, instObj 167 dx), (dx, flagsD w τ)]) := by
  refine' enterB (binds := [(Str.ofString "self", .ref x)]) (by assumption) ?k6 ?k7 ?k9 ?kB [(Str.ofString "self", .ref x)] rfl ?_ ?c2 ?c3 ?c4 ?c5
  case k6 => k_is
  case k7 => k_is
  case k9 => (intro s hs; first | exact BindsTo.of_eq rfl | exact binds_K (Frag.In.keeps (G0.X (by assumption)) hs) rfl (by k_is) rfl rfl rfl)
  case c5 => decide
  case kB => exact locs rfl
  case c2 => exact rfl
  case c3 => exact rfl
  case c4 => exact rfl
  intro C Q hR fini finn perm env l led he
  repeat (walk_at "m ev")
  exact fini ⟨⟨_, rfl⟩, rfl⟩
theorem Flags_unpack (G : G0 w p loose mean mg mb hb) {x dx : Addr} {t : Tok} {τ : Nat → Tok} :
    Does w hb 2 20 129 [.ref x, .int 2 t] [] [(x, instObj 167 dx), (dx, flagsD w τ)] (fun v led' => v = .none ∧ ∃ τ, led' = [(x, instObj 167 dx), (dx, flagsD w τ)]) := by
  refine' enterB (binds := [(Str.ofString "self", .ref x), (Str.ofString "number", .int 2 t)]) (by assumption) ?k6 ?k7 ?k9 ?kB [(Str.ofString "number", .int 2 t), (Str.ofString "self", .ref x)] rfl ?_ ?c2 ?c3 ?c4 ?c5
  case k6 => k_is
  case k7 => k_is
  case k9 => (intro s hs; first | exact BindsTo.of_eq rfl | exact binds_K (Frag.In.keeps (G0.X (by assumption)) hs) rfl (by k_is) rfl rfl rfl)
  case c5 => decide
  case kB => exact locs rfl
  case c2 => exact rfl
  case c3 => exact rfl
  case c4 => exact rfl
  intro C Q hR fini finn perm env l led he
  repeat (walk_at "m ev")
  exact finn ⟨rfl, flags_tok⟩
end
-- F3
section
variable {w : World} {p : Program} {loose : List Str} {mean : ExcName → Option Value} {mg mb : Str → Option Value} {hb : Heap}
theorem reg_tok {x dx : Addr} {nm kd : Str} {num sz : Int} {a b c d e f h i : Tok} : ∃ r : RegO, r.x = x ∧ r.kd = kd ∧ r.num = num ∧ r.sz = sz ∧
    [(x, instObj 223 dx), (dx, dictOf [dE w "name" a (.str nm b), dE w "kind" c (.str kd d), dE w "number" e (.int num f), dE w "size" h (.int sz i)] 4)] = r.led w :=
  ⟨⟨x, dx, nm, kd, num, sz, fun q => [a, b, c, d, e, f, h, i].getD q 0⟩, rfl, rfl, rfl, rfl, rfl⟩
theorem Register_init (G : G0 w p loose mean mg mb hb) {x dx : Addr} {nm kd : Str} {num zz : Int} {t1 t2 t3 t4 : Tok} :
    Does w hb 1 10 185 [.ref x, .str nm t1, .str kd t2, .int num t3, .int zz t4] [] [(x, instObj 223 dx), (dx, dictOf [] 0)]
      (fun v led' => v = .none ∧ ∃ r : RegO, r.x = x ∧ r.kd = kd ∧ r.num = num ∧ r.sz = zz ∧ led' = r.led w) := by
  refine' enterB (binds := [(Str.ofString "self", .ref x), (Str.ofString "name", .str nm t1), (Str.ofString "kind", .str kd t2), (Str.ofString "number", .int num t3), (Str.ofString "size", .int zz t4)]) (by assumption) ?k6 ?k7 ?k9 ?kB [(Str.ofString "size", .int zz t4), (Str.ofString "number", .int num t3), (Str.ofString "kind", .str kd t2), (Str.ofString "name", .str nm t1), (Str.ofString "self", .ref x)] rfl ?_ ?c2 ?c3 ?c4 ?c5
  case k6 => k_is
  case k7 => k_is
  case k9 => (intro s hs; first | exact BindsTo.of_eq rfl | exact binds_K (Frag.In.keeps (G0.X (by assumption)) hs) rfl (by k_is) rfl rfl rfl)
  case c5 => decide
  case kB => exact locs rfl
  case c2 => exact rfl
  case c3 => exact rfl
  case c4 => exact rfl
  intro C Q hR fini finn perm env l led he
  repeat (walk_at "m ev")
  exact finn ⟨rfl, reg_tok⟩
section
variable {C : Cx w} {l : Loc} {led : Led} {Q : Value → Loc → Led → Prop} {N U : Nat}
theorem c_Register {nm kd : Str} {num sz : Int} {t1 t2 t3 t4 : Tok} (hR : Room C N U) (hle : (Nat.ble 2 N && Nat.ble 14 U) = true)
    (k : ∀ r : RegO, r.kd = kd → r.num = num → r.sz = sz → let led' : Led := r.led w ++ led; Q (.ref r.x) l led') : Wp C (call (.ref 223) [.str nm t1, .str kd t2, .int num t3, .int sz t4]) Q l led :=
  c_make (by k_is) (by k_is) (by k_is) (fun x dx => Register_init C.G₀ (x := x) (dx := dx)) hR hle (by
    rintro x dx led' ⟨r, rfl, e1, e2, e3, rfl⟩
    exact k r e1 e2 e3)
end
theorem early_does (G : G0 w p loose mean mg mb hb) {n : Int} {t : Tok} (hn : n = 8 ∨ n = 16 ∨ n = 32 ∨ n = 64) :
    Does w hb 1 10 234 [.int n t] [] [] (fun v led' => ∃ (D : Addr) (vs : List Value), v = .ref D ∧ vs.length = 8 ∧ (∀ i, i < 8 → ∃ y t, vs[i]? = some (.str y t)) ∧ led' = [(D, listOf vs.toArray 0)]) := by
  refine' enterB (binds := [(Str.ofString "size", .int n t)]) (by assumption) ?k6 ?k7 ?k9 ?kB [(Str.ofString "size", .int n t)] rfl ?_ ?c2 ?c3 ?c4 ?c5
  case k6 => k_is
  case k7 => k_is
  case k9 => (intro s hs; first | exact BindsTo.of_eq rfl | exact binds_K (Frag.In.keeps (G0.X (by assumption)) hs) rfl (by k_is) rfl rfl rfl)
  case c5 => decide
  case kB => exact locs rfl
  case c2 => exact rfl
  case c3 => exact rfl
  case c4 => exact rfl
  intro C Q hR fini finn perm env l led he
  rcases hn with rfl | rfl | rfl | rfl
  all_goals
    repeat (walk_at "m ev")
    refine c_split (n := 8) ?hn ?hz fun D vs hl hi => ?_
    case hn => decide +kernel
    case hz => decide +kernel
    exact fini ⟨D, vs, rfl, hl, hi, rfl⟩
theorem late_does (G : G0 w p loose mean mg mb hb) {n : Int} {t : Tok} :
    Does w hb 1 10 241 [.int n t] [] [] (fun v led' => (∃ (y : Str) (t : Tok), v = .str y t ∧ y.length ≤ 1) ∧ led' = []) := by
  refine' enterB (binds := [(Str.ofString "size", .int n t)]) (by assumption) ?k6 ?k7 ?k9 ?kB [(Str.ofString "size", .int n t)] rfl ?_ ?c2 ?c3 ?c4 ?c5
  case k6 => k_is
  case k7 => k_is
  case k9 => (intro s hs; first | exact BindsTo.of_eq rfl | exact binds_K (Frag.In.keeps (G0.X (by assumption)) hs) rfl (by k_is) rfl rfl rfl)
  case c5 => decide
  case kB => exact locs rfl
  case c2 => exact rfl
  case c3 => exact rfl
  case c4 => exact rfl
  intro C Q hR fini finn perm env l led he
  repeat (walk_at "m ev")
  refine r_iteE (fun h => ?_) fun h => ?_
  ·
    repeat (walk_at "m ev")
    exact fini ⟨⟨_, _, rfl, by decide +kernel⟩, rfl⟩
  repeat (walk_at "m ev")
  refine r_iteE (fun h => ?_) fun h => ?_
  ·
    repeat (walk_at "m ev")
    exact fini ⟨⟨_, _, rfl, by decide +kernel⟩, rfl⟩
  repeat (walk_at "m ev")
  refine r_iteE (fun h => ?_) fun h => ?_
  ·
    repeat (walk_at "m ev")
    exact fini ⟨⟨_, _, rfl, by decide +kernel⟩, rfl⟩
  ·
    repeat (walk_at "m ev")
    exact fini ⟨⟨_, _, rfl, by decide +kernel⟩, rfl⟩
theorem intStr_len {m : Int} (h0 : 0 ≤ m) (h1 : m ≤ 15) : (Str.ofString (toString m)).length ≤ 10 := by
  have : ∀ k : Nat, k < 16 → (Str.ofString (toString (k : Int))).length ≤ 10 := by decide +kernel
  obtain ⟨k, rfl⟩ := Int.eq_ofNat_of_zero_le h0
  exact this k (by omega)
theorem intStr_log {m : Int} (h0 : 0 ≤ m) (h1 : m ≤ 15) : m.natAbs.log2 < 1920 := by
  have : ∀ k : Nat, k < 16 → k.log2 < 1920 := by decide +kernel
  exact this _ (by lia)
section
variable {C : Cx w} {l : Loc} {led : Led} {Q : Value → Loc → Led → Prop} {N U : Nat}
theorem c_early {n : Int} {t : Tok} (hn : n = 8 ∨ n = 16 ∨ n = 32 ∨ n = 64) (hR : Room C N U) (hle : (Nat.ble 1 N && Nat.ble 10 U) = true)
    (k : ∀ (D : Addr) (vs : List Value), vs.length = 8 → (∀ i, i < 8 → ∃ y t, vs[i]? = some (.str y t)) → let led' : Led := (D, listOf vs.toArray 0) :: led; Q (.ref D) l led') : Wp C (call (.ref 234) [.int n t]) Q l led :=
  c_does (early_does C.G₀ hn) .c0 hR hle (by rintro _ _ ⟨D, vs, rfl, hl, hi, rfl⟩; exact k D vs hl hi)
theorem c_late {n : Int} {t : Tok} (hR : Room C N U) (hle : (Nat.ble 1 N && Nat.ble 10 U) = true) (k : ∀ (y : Str) (t : Tok), y.length ≤ 1 → Q (.str y t) l led) : Wp C (call (.ref 241) [.int n t]) Q l led :=
  c_does0 (late_does C.G₀) hR hle (by rintro _ ⟨y, t, rfl, h⟩; exact k y t h)
theorem str_at {vs : List Value} {n : Nat} {Z : Prop} (hi : ∀ i, i < n → ∃ y t, vs[i]? = some (.str y t)) {i : Nat} (h : i < n) (k : ∀ y t, vs[i]? = some (.str y t) → Z) : Z := let ⟨y, t, e⟩ := hi i h; k y t e
end
theorem gpr_does (G : G0 w p loose mean mg mb hb) {m n : Int} {t u : Tok} (hm : 0 ≤ m) (hm' : m ≤ 15) (hn : n = 8 ∨ n = 16 ∨ n = 32 ∨ n = 64) :
    Does w hb 3 100 248 [.int m u, .int n t] [] [] (fun v led' => ∃ r : RegO, v = .ref r.x ∧ r.kd = Str.ofString "gpr" ∧ r.num = m ∧ r.sz = n ∧ led' = r.led w) := by
  refine' enterB (binds := [(Str.ofString "number", .int m u), (Str.ofString "size", .int n t)]) (by assumption) ?k6 ?k7 ?k9 ?kB [(Str.ofString "size", .int n t), (Str.ofString "number", .int m u)] rfl ?_ ?c2 ?c3 ?c4 ?c5
  case k6 => k_is
  case k7 => k_is
  case k9 => (intro s hs; first | exact BindsTo.of_eq rfl | exact binds_K (Frag.In.keeps (G0.X (by assumption)) hs) rfl (by k_is) rfl rfl rfl)
  case c5 => decide
  case kB => exact locs rfl
  case c2 => exact rfl
  case c3 => exact rfl
  case c4 => exact rfl
  intro C Q hR fini finn perm env l led he
  repeat (walk_at "m ev")
  refine c_early hn hR rfl fun D vs hl hi => ?_
  intro _
  repeat (walk_at "m ev")
  refine c_eqLen (by lcg_off) (by lcg_off) (by rw [hl]; decide) hR ?_
  repeat (walk_at "m ev")
  refine r_iteD (fun hlt8 => ?_) fun hge8 => ?_
  ·
    repeat (walk_at "m ev")
    refine str_at hi (i := m.toNat) (by lia) fun y t' hy => ?_
    refine c_item (by lcg_off) (by lia) (by lia) hy ?_
    repeat (walk_at "m ev")
    exact c_Register hR rfl fun r e1 e2 e3 => perm (t := r.led w) .left (fini ⟨r, rfl, e1, e2, e3, rfl⟩)
  ·
    repeat (walk_at "m ev")
    refine c_strInt (intStr_log hm hm') fun y1 t1 hy1 => ?_
    have hy : y1.length ≤ 10 := hy1 ▸ intStr_len hm hm'
    refine c_addS ?_ fun t2 => ?_
    · have h1 : (Str.ofString "r").length = 1 := by decide +kernel
      have := sizeLine_eq
      lia
    repeat (walk_at "m ev")
    refine c_late hR rfl fun y3 t3 hy3 => ?_
    refine c_addS ?_ fun t4 => ?_
    · have h1 : (Str.ofString "r").length = 1 := by decide +kernel
      have := sizeLine_eq
      rw [Str.length_append]
      lia
    repeat (walk_at "m ev")
    exact c_Register hR rfl fun r e1 e2 e3 => perm (t := r.led w) .left (fini ⟨r, rfl, e1, e2, e3, rfl⟩)
theorem high_does (G : G0 w p loose mean mg mb hb) {m : Int} {u : Tok} (hm : 4 ≤ m) (hm' : m ≤ 7) :
    Does w hb 3 100 255 [.int m u] [] [] (fun v led' => ∃ r : RegO, v = .ref r.x ∧ r.kd = Str.ofString "high" ∧ r.num = m ∧ r.sz = 8 ∧ led' = r.led w) := by
  refine' enterB (binds := [(Str.ofString "number", .int m u)]) (by assumption) ?k6 ?k7 ?k9 ?kB [(Str.ofString "number", .int m u)] rfl ?_ ?c2 ?c3 ?c4 ?c5
  case k6 => k_is
  case k7 => k_is
  case k9 => (intro s hs; first | exact BindsTo.of_eq rfl | exact binds_K (Frag.In.keeps (G0.X (by assumption)) hs) rfl (by k_is) rfl rfl rfl)
  case c5 => decide
  case kB => exact locs rfl
  case c2 => exact rfl
  case c3 => exact rfl
  case c4 => exact rfl
  intro C Q hR fini finn perm env l led he
  repeat (walk_at "m ev")
  refine c_split (n := 4) ?hn ?hz fun D vs hl hi => ?_
  case hn => decide +kernel
  case hz => decide +kernel
  repeat (walk_at "m ev")
  refine str_at hi (i := (m - 4).toNat) (by omega) fun y t' hy => ?_
  refine c_item (by lcg_off) (by lia) (by omega) hy ?_
  repeat (walk_at "m ev")
  exact c_Register hR rfl fun r e1 e2 e3 => perm (t := r.led w) .left (fini ⟨r, rfl, e1, e2, e3, rfl⟩)
theorem xmm_does (G : G0 w p loose mean mg mb hb) {m : Int} {u : Tok} (hm : 0 ≤ m) (hm' : m ≤ 15) :
    Does w hb 3 100 262 [.int m u] [] [] (fun v led' => ∃ r : RegO, v = .ref r.x ∧ r.kd = Str.ofString "xmm" ∧ r.num = m ∧ r.sz = 128 ∧ led' = r.led w) := by
  refine' enterB (binds := [(Str.ofString "number", .int m u)]) (by assumption) ?k6 ?k7 ?k9 ?kB [(Str.ofString "number", .int m u)] rfl ?_ ?c2 ?c3 ?c4 ?c5
  case k6 => k_is
  case k7 => k_is
  case k9 => (intro s hs; first | exact BindsTo.of_eq rfl | exact binds_K (Frag.In.keeps (G0.X (by assumption)) hs) rfl (by k_is) rfl rfl rfl)
  case c5 => decide
  case kB => exact locs rfl
  case c2 => exact rfl
  case c3 => exact rfl
  case c4 => exact rfl
  intro C Q hR fini finn perm env l led he
  repeat (walk_at "m ev")
  refine c_strInt (intStr_log hm hm') fun y1 t1 hy1 => ?_
  have hy : y1.length ≤ 10 := hy1 ▸ intStr_len hm hm'
  refine c_addS ?_ fun t2 => ?_
  · have h1 : (Str.ofString "xmm").length = 3 := by decide +kernel
    have := sizeLine_eq
    lia
  repeat (walk_at "m ev")
  exact c_Register hR rfl fun r e1 e2 e3 => perm (t := r.led w) .left (fini ⟨r, rfl, e1, e2, e3, rfl⟩)
theorem rip_does (G : G0 w p loose mean mg mb hb) :
    Does w hb 3 100 269 [] [] [] (fun v led' => ∃ r : RegO, v = .ref r.x ∧ r.kd = Str.ofString "rip" ∧ r.num = 0 ∧ r.sz = 64 ∧ led' = r.led w) := by
  refine' enterB (binds := []) (by assumption) ?k6 ?k7 ?k9 ?kB [] rfl ?_ ?c2 ?c3 ?c4 ?c5
  case k6 => k_is
  case k7 => k_is
  case k9 => (intro s hs; first | exact BindsTo.of_eq rfl | exact binds_K (Frag.In.keeps (G0.X (by assumption)) hs) rfl (by k_is) rfl rfl rfl)
  case c5 => decide
  case kB => exact locs rfl
  case c2 => exact rfl
  case c3 => exact rfl
  case c4 => exact rfl
  intro C Q hR fini finn perm env l led he
  repeat (walk_at "m ev")
  exact c_Register hR rfl fun r e1 e2 e3 => perm (t := r.led w) .left (fini ⟨r, rfl, e1, e2, e3, rfl⟩)
end
-- F4
local macro_rules | `(tactic| kpt_turns) => `(tactic| first
  | with_reducible exact Slot.all | with_reducible exact Slot.here | with_reducible exact Slot.c1 | with_reducible exact Slot.c2 | with_reducible exact Slot.c3
  | ((with_reducible refine' Slot.skip ?jZ0); (case jZ0 => kpt_turns))
  | ((with_reducible refine' Slot.left ?jZ0); (case jZ0 => kpt_turns)) | ((with_reducible refine' Slot.right ?jZ0); (case jZ0 => kpt_turns)) | fail "m slot")
local macro_rules | `(tactic| walk_at "m call") => `(tactic| ((with_reducible refine' c_hget ?kZ0 ?kZ1 ?kZ2 ?kZ3 ?_); (case kZ0 => lcg_off); (case kZ1 => assumption); (case kZ2 => assumption); (case kZ3 => assumption); intro _))
local macro_rules | `(tactic| walk_at "m pks") => `(tactic| first | exact Pk.nil | (refine' Pk.cons ?lZ0 ?lZ1; (case lZ0 => lcg_sub); (case lZ1 => walk_at "m pks")))
local macro_rules | `(tactic| walk_at "m pk") => `(tactic| (refine' Pk.sub ?mZ0 ?mZ1; (case mZ0 => walk_at "m pks"); (case mZ1 => exact rfl)))
local macro_rules | `(tactic| walk_at "m slot2") => `(tactic| first
  | ((with_reducible refine' Slot2.lr ?nZ0 ?nZ1); (case nZ0 => kpt_turns); (case nZ1 => kpt_turns))
  | ((with_reducible refine' Slot2.rl ?nZ0 ?nZ1); (case nZ0 => kpt_turns); (case nZ1 => kpt_turns))
  | ((with_reducible refine' Slot2.skip ?nZ0); (case nZ0 => walk_at "m slot2"))
  | ((with_reducible refine' Slot2.left ?nZ0); (case nZ0 => walk_at "m slot2")) | ((with_reducible refine' Slot2.right ?nZ0); (case nZ0 => walk_at "m slot2")) | fail "m slot2")
section
variable {w : World} {p : Program} {loose : List Str} {mean : ExcName → Option Value} {mg mb : Str → Option Value} {hb : Heap}
theorem octet_does (G : G0 w p loose mean mg mb hb) {m : MemO} {ms : List (Int × Int)} {a : Int} {t : Tok} (hm : m.Is w ms) :
    Does w hb 3 40 290 [.ref m.x, .int a t] [] (m.led w) (fun v led' => (∃ t, v = .int (look ms (a % 2 ^ 64)) t) ∧ led' = m.led w) := by
  obtain ⟨⟨kvs, hd1, hd2⟩, lo⟩ := hm
  refine' enterB (binds := [(Str.ofString "self", .ref m.x), (Str.ofString "place", .int a t)]) (by assumption) ?k6 ?k7 ?k9 ?kB [(Str.ofString "place", .int a t), (Str.ofString "self", .ref m.x)] rfl ?_ ?c2 ?c3 ?c4 ?c5
  case k6 => k_is
  case k7 => k_is
  case k9 => (intro s hs; first | exact BindsTo.of_eq rfl | exact binds_K (Frag.In.keeps (G0.X (by assumption)) hs) rfl (by k_is) rfl rfl rfl)
  case c5 => decide
  case kB => exact locs rfl
  case c2 => exact rfl
  case c3 => exact rfl
  case c4 => exact rfl
  intro C Q hR fini finn perm env l led he
  repeat (walk_at "m ev")
  exact fini ⟨⟨_, rfl⟩, rfl⟩
theorem set_octet_does (G : G0 w p loose mean mg mb hb) {m : MemO} {ms : List (Int × Int)} {a b : Int} {t u : Tok} (hm : m.Is w ms) (hz : ms.length ≤ 16777216) :
    Does w hb 3 40 297 [.ref m.x, .int a t, .int b u] [] (m.led w) (fun v led' => v = .none ∧ ∃ m' : MemO, m'.x = m.x ∧ m'.Is w (putM ms (a % 2 ^ 64) b) ∧ led' = m'.led w) := by
  obtain ⟨⟨kvs, hd1, hd2⟩, lo⟩ := hm
  refine' enterB (binds := [(Str.ofString "self", .ref m.x), (Str.ofString "place", .int a t), (Str.ofString "octet", .int b u)]) (by assumption) ?k6 ?k7 ?k9 ?kB [(Str.ofString "octet", .int b u), (Str.ofString "place", .int a t), (Str.ofString "self", .ref m.x)] rfl ?_ ?c2 ?c3 ?c4 ?c5
  case k6 => k_is
  case k7 => k_is
  case k9 => (intro s hs; first | exact BindsTo.of_eq rfl | exact binds_K (Frag.In.keeps (G0.X (by assumption)) hs) rfl (by k_is) rfl rfl rfl)
  case c5 => decide
  case kB => exact locs rfl
  case c2 => exact rfl
  case c3 => exact rfl
  case c4 => exact rfl
  intro C Q hR fini finn perm env l led he
  repeat (walk_at "m ev")
  refine' c_hset ?U hd1 hd2 hz ?_
  case U => lcg_src
  intro o' kvs' h1 h2 _
  repeat (walk_at "m ev")
  exact finn ⟨rfl, ⟨m.x, m.dx, m.he, o', m.τ⟩, rfl, ⟨⟨kvs', h1, h2⟩, lo⟩, rfl⟩
section
variable {C : Cx w} {l : Loc} {led : Led} {Q : Value → Loc → Led → Prop} {N U : Nat} {fl : Led → Led}
theorem c_octet {m : MemO} {ms : List (Int × Int)} {a : Int} {t : Tok} (hR : Room C N U) (hle : (Nat.ble 3 N && Nat.ble 40 U) = true) (hm : m.Is w ms) (sl : Slot (m.led w) led fl) (k : ∀ t, let led' : Led := fl (m.led w); Q (.int (look ms (a % 2 ^ 64)) t) l led') :
    Wp C (call (.ref 290) [.ref m.x, .int a t]) Q l led := c_does (octet_does C.G₀ hm) sl hR hle (by rintro _ _ ⟨⟨t, rfl⟩, rfl⟩; exact k _)
theorem c_setOctet {m : MemO} {ms : List (Int × Int)} {a b : Int} {t u : Tok} (hR : Room C N U) (hle : (Nat.ble 3 N && Nat.ble 40 U) = true) (hm : m.Is w ms) (hz : ms.length ≤ 16777216) (sl : Slot (m.led w) led fl)
    (k : ∀ m' : MemO, m'.x = m.x → m'.Is w (putM ms (a % 2 ^ 64) b) → let led' : Led := fl (m'.led w); Q .none l led') : Wp C (call (.ref 297) [.ref m.x, .int a t, .int b u]) Q l led :=
  c_does (set_octet_does C.G₀ hm hz) sl hR hle (by rintro _ _ ⟨rfl, m', h1, h2, rfl⟩; exact k m' h1 h2)
end
local macro_rules | `(tactic| walk_at "m call") => `(tactic| ((with_reducible refine' c_octet ?oZ0 ?oZ1 ?oZ2 ?oZ3 ?_); (case oZ0 => assumption); (case oZ1 => exact rfl); (case oZ2 => assumption); (case oZ3 => kpt_turns); intro _ _))
theorem read_does (G : G0 w p loose mean mg mb hb) {m : MemO} {ms : List (Int × Int)} {a n : Int} {t u : Tok} {N : Nat} (hm : m.Is w ms) (ho : OctM ms) (hn : n = (N : Int)) (hN : N ≤ 16) :
    Does w hb 4 60 304 [.ref m.x, .int a t, .int n u] [] (m.led w) (fun v led' => (∃ t, v = .int (num (bytesAt ms a N)) t) ∧ led' = m.led w) := by
  refine' enterB (binds := [(Str.ofString "self", .ref m.x), (Str.ofString "place", .int a t), (Str.ofString "width", .int n u)]) (by assumption) ?k6 ?k7 ?k9 ?kB [(Str.ofString "width", .int n u), (Str.ofString "place", .int a t), (Str.ofString "self", .ref m.x)] rfl ?_ ?c2 ?c3 ?c4 ?c5
  case k6 => k_is
  case k7 => k_is
  case k9 => (intro s hs; first | exact BindsTo.of_eq rfl | exact binds_K (Frag.In.keeps (G0.X (by assumption)) hs) rfl (by k_is) rfl rfl rfl)
  case c5 => decide
  case kB => exact locs rfl
  case c2 => exact rfl
  case c3 => exact rfl
  case c4 => exact rfl
  intro C Q hR fini finn perm env l led he
  repeat (walk_at "m ev")
  refine' c_forN0 (m := N) ?h1 (fun i l led => (∃ t1 t2, LocIn [(Str.ofString "worth", .int (num (bytesAt ms a i)) t1), (Str.ofString "self", .ref m.x), (Str.ofString "place", .int a t2)] l) ∧ led = m.led w) ?hJ ?turn ?fin
  case h1 => lia
  case hJ => exact ⟨⟨_, _, rfl, rfl, rfl, trivial⟩, rfl⟩
  case turn =>
    rintro i t' I oI l _ hi ⟨⟨t1, t2, hl⟩, rfl⟩ Q' led
    refine Wp.pick hl ?_
    have hlo := look_oct ho ((a + (i : Int)) % 2 ^ 64)
    repeat (walk_at "m ev")
    have e : (8 * (i : Int)).toNat = 8 * i := by lia
    have ee := num_bytes_succ ms a i
    rw [← e] at ee
    exact Turn.of ⟨⟨_, t2, by rw [ee]; rfl, rfl, rfl, trivial⟩, rfl⟩
  case fin =>
    rintro l _ ⟨⟨t1, t2, hl⟩, rfl⟩
    refine Wp.pick hl ?_
    repeat (walk_at "m ev")
    exact fini ⟨⟨_, rfl⟩, rfl⟩
theorem write_does (G : G0 w p loose mean mg mb hb) {m : MemO} {ms : List (Int × Int)} {a n x : Int} {t u v : Tok} {N : Nat} (hm : m.Is w ms) (hz : ms.length ≤ 1000000) (hn : n = (N : Int)) (hN : N ≤ 16) :
    Does w hb 4 60 311 [.ref m.x, .int a t, .int n u, .int x v] [] (m.led w) (fun v led' => v = .none ∧ ∃ m' : MemO, m'.x = m.x ∧ m'.Is w (storeN ms a x N) ∧ led' = m'.led w) := by
  refine' enterB (binds := [(Str.ofString "self", .ref m.x), (Str.ofString "place", .int a t), (Str.ofString "width", .int n u), (Str.ofString "worth", .int x v)]) (by assumption) ?k6 ?k7 ?k9 ?kB [(Str.ofString "worth", .int x v), (Str.ofString "width", .int n u), (Str.ofString "place", .int a t), (Str.ofString "self", .ref m.x)] rfl ?_ ?c2 ?c3 ?c4 ?c5
  case k6 => k_is
  case k7 => k_is
  case k9 => (intro s hs; first | exact BindsTo.of_eq rfl | exact binds_K (Frag.In.keeps (G0.X (by assumption)) hs) rfl (by k_is) rfl rfl rfl)
  case c5 => decide
  case kB => exact locs rfl
  case c2 => exact rfl
  case c3 => exact rfl
  case c4 => exact rfl
  intro C Q hR fini finn perm env l led he
  repeat (walk_at "m ev")
  refine' c_forN0 (m := N) ?h1 (fun i l led => ∃ m' : MemO, m'.x = m.x ∧ m'.Is w (storeN ms a x i) ∧ led = m'.led w ∧ ∃ t1 t2, LocIn [(Str.ofString "worth", .int x t1), (Str.ofString "self", .ref m'.x), (Str.ofString "place", .int a t2)] l) ?hJ ?turn ?fin
  case h1 => lia
  case hJ => exact ⟨m, rfl, hm, rfl, _, _, rfl, rfl, rfl, trivial⟩
  case turn =>
    rintro i t' I oI l _ hi ⟨m', hx, hm', rfl, t1, t2, hl⟩ Q' led
    refine Wp.pick hl ?_
    repeat (walk_at "m ev")
    refine c_bitand (b := 255) (n := 8) (by decide) fun _ => ?_
    repeat (walk_at "m ev")
    have hz' := storeN_length ms a x i
    refine' c_setOctet hR rfl hm' (by lia) ?sl ?_
    case sl => kpt_turns
    intro m'' hx' hm'' _
    repeat (walk_at "m ev")
    refine Turn.of ⟨m'', hx'.trans hx, ?_, rfl, _, _, rfl, by rw [hx']; rfl, rfl, trivial⟩
    have e : (8 * (i : Int)).toNat = 8 * i := by lia
    rw [e] at hm''
    exact hm''
  case fin =>
    rintro l _ ⟨m', hx, hm', rfl, t1, t2, hl⟩
    repeat (walk_at "m ev")
    exact finn ⟨rfl, m', hx, hm', rfl⟩
end
-- F5
section
variable {w : World} {p : Program} {loose : List Str} {mean : ExcName → Option Value} {mg mb : Str → Option Value} {hb : Heap}
theorem Memory_init (G : G0 w p loose mean mg mb hb) {x dx : Addr} :
    Does w hb 1 10 283 [.ref x] [] [(x, instObj 359 dx), (dx, dictOf [] 0)] (fun v led' => v = .none ∧ ∃ m : MemO, m.x = x ∧ m.Is w [] ∧ led' = m.led w) := by
  refine' enterB (binds := [(Str.ofString "self", .ref x)]) (by assumption) ?k6 ?k7 ?k9 ?kB [(Str.ofString "self", .ref x)] rfl ?_ ?c2 ?c3 ?c4 ?c5
  case k6 => k_is
  case k7 => k_is
  case k9 => (intro s hs; first | exact BindsTo.of_eq rfl | exact binds_K (Frag.In.keeps (G0.X (by assumption)) hs) rfl (by k_is) rfl rfl rfl)
  case c5 => decide
  case kB => exact locs rfl
  case c2 => exact rfl
  case c3 => exact rfl
  case c4 => exact rfl
  intro C Q hR fini finn perm env l led he
  repeat (walk_at "m ev")
  intro D o lo h1 h2 _
  repeat (walk_at "m ev")
  rename Tok => tk
  exact perm (t := (⟨x, dx, D, o, tk⟩ : MemO).led w) (by walk_at "m pk") (finn ⟨rfl, ⟨x, dx, D, o, tk⟩, rfl, ⟨⟨[], h1, .nil⟩, lo⟩, rfl⟩)
section
variable {C : Cx w} {l : Loc} {led : Led} {Q : Value → Loc → Led → Prop} {N U : Nat}
theorem c_Flags (hR : Room C N U) (hle : (Nat.ble 2 N && Nat.ble 14 U) = true) (k : ∀ f : FlgO, let led' : Led := f.led w ++ led; Q (.ref f.x) l led') : Wp C (call (.ref 167) []) Q l led :=
  c_make (by k_is) (by k_is) (by k_is) (fun x dx => Flags_init C.G₀ (x := x) (dx := dx)) hR hle (by rintro x dx led' ⟨τ, rfl⟩; exact k ⟨x, dx, τ⟩)
theorem c_Memory (hR : Room C N U) (hle : (Nat.ble 2 N && Nat.ble 14 U) = true) (k : ∀ m : MemO, m.Is w [] → let led' : Led := m.led w ++ led; Q (.ref m.x) l led') : Wp C (call (.ref 359) []) Q l led :=
  c_make (by k_is) (by k_is) (by k_is) (fun x dx => Memory_init C.G₀ (x := x) (dx := dx)) hR hle (by rintro x dx led' ⟨m, rfl, hm, rfl⟩; exact k m hm)
end
structure MState where
  regs : List Int
  xmm : List Int
  mem : List (Int × Int)
  rip : Int
  fs : Int
  gs : Int
structure Mac.Is (w : World) (σ : Mac) (z : MState) : Prop where
  regs : IntsAre σ.rvs z.regs
  xmm : IntsAre σ.xvs z.xmm
  mem : σ.me.Is w z.mem
  rip : σ.rip = z.rip
  seg : ∃ t u, σ.sgo.IsDictOf (PySem.strKind pgm w) [(Str.ofString "fs", .int z.fs t), (Str.ofString "gs", .int z.gs u)]
noncomputable abbrev macRaw (w : World) (st sd rg xm sg : Addr) (nr nx : Nat) (rvs xvs : List Value) (sgo : Obj) (rip : Int) (fl : FlgO) (me : MemO) (a b c d e f g h i j k : Tok) : Led := (st, instObj 476 sd) ::
  (sd, dictOf [dE w "iset" a .none, dE w "regs" b (.ref rg), dE w "xmm" c (.ref xm), dE w "flags" d (.ref fl.x), dE w "memory" e (.ref me.x), dE w "rip" f (.int rip g),
    dE w "begin" h (.int 0 i), dE w "segments" j (.ref sg), dE w "is_halted" k (.bool false)] 9) ::
  (rg, listOf rvs.toArray nr) :: (xm, listOf xvs.toArray nx) :: (sg, sgo) :: (fl.led w ++ me.led w)
theorem macRaw_is {st sd rg xm sg : Addr} {nr nx : Nat} {rvs xvs : List Value} {sgo : Obj} {rip : Int} {fl : FlgO} {me : MemO} {a b c d e f g h i j k : Tok} {z : MState} (h1 : IntsAre rvs z.regs) (h2 : IntsAre xvs z.xmm) (h3 : me.Is w z.mem) (h4 : rip = z.rip)
    (h5 : ∃ t u, sgo.IsDictOf (PySem.strKind pgm w) [(Str.ofString "fs", .int z.fs t), (Str.ofString "gs", .int z.gs u)]) :
    ∃ σ : Mac, σ.st = st ∧ σ.Is w z ∧ σ.sg = sg ∧ macRaw w st sd rg xm sg nr nx rvs xvs sgo rip fl me a b c d e f g h i j k = σ.led w :=
  ⟨⟨st, sd, rg, xm, sg, nr, nx, rvs, xvs, sgo, rip, fun q => [a, b, c, d, e, f, g, h, i, j, k].getD q 0, fl, me⟩, rfl, ⟨h1, h2, h3, h4, h5⟩, rfl, rfl⟩
noncomputable abbrev z0 : MState := ⟨List.replicate 16 0, List.replicate 16 0, [], 0, 0, 0⟩
theorem State_init (G : G0 w p loose mean mg mb hb) {x dx : Addr} :
    Does w hb 3 40 384 [.ref x, .none] [] [(x, instObj 476 dx), (dx, dictOf [] 0)] (fun v led' => v = .none ∧ ∃ σ : Mac, σ.st = x ∧ σ.Is w z0 ∧ led' = σ.led w) := by
  refine' enterB (binds := [(Str.ofString "self", .ref x), (Str.ofString "iset", .none)]) (by assumption) ?k6 ?k7 ?k9 ?kB [(Str.ofString "iset", .none), (Str.ofString "self", .ref x)] rfl ?_ ?c2 ?c3 ?c4 ?c5
  case k6 => k_is
  case k7 => k_is
  case k9 => (intro s hs; first | exact BindsTo.of_eq rfl | exact binds_K (Frag.In.keeps (G0.X (by assumption)) hs) rfl (by k_is) rfl rfl rfl)
  case c5 => decide
  case kB => exact locs rfl
  case c2 => exact rfl
  case c3 => exact rfl
  case c4 => exact rfl
  intro C Q hR fini finn perm env l led he
  repeat (walk_at "m ev")
  refine c_times (m := 16) (by lcg_off) rfl (by decide) ?_
  intro B1 ws1 i1 _
  repeat (walk_at "m ev")
  refine c_times (m := 16) (by lcg_off) rfl (by decide) ?_
  intro B2 ws2 i2 _
  repeat (walk_at "m ev")
  refine c_Flags hR rfl ?_
  intro f _
  repeat (walk_at "m ev")
  refine c_Memory hR rfl ?_
  intro m hm _
  repeat (walk_at "m ev")
  obtain ⟨σ, e1, e2, _, e3⟩ := macRaw_is (w := w) (z := z0) i1 i2 hm rfl ⟨_, _, by assumption⟩
  refine' perm (t := macRaw w x dx B1 B2 _ _ _ ws1 ws2 _ 0 f m _ _ _ _ _ _ _ _ _ _ _) ?ss (finn ⟨rfl, σ, e1, e2, e3⟩)
  case ss => walk_at "m pk"
end
-- F6
section
variable {w : World} {p : Program} {loose : List Str} {mean : ExcName → Option Value} {mg mb : Str → Option Value} {hb : Heap}
inductive RK
  | gpr | high | xmm | rip
  deriving DecidableEq
noncomputable def RK.str : RK → Str
  | .gpr => Str.ofString "gpr"
  | .high => Str.ofString "high"
  | .xmm => Str.ofString "xmm"
  | .rip => Str.ofString "rip"
structure Rg where
  k : RK
  n : Int
  z : Int
structure RegO.Is (r : RegO) (ρ : Rg) : Prop where
  kd : r.kd = ρ.k.str
  num : r.num = ρ.n
  sz : r.sz = ρ.z
inductive Rg.Ok : Rg → Prop
  | gpr {n z : Int} : 0 ≤ n → n ≤ 15 → (z = 8 ∨ z = 16 ∨ z = 32 ∨ z = 64) → Rg.Ok ⟨.gpr, n, z⟩
  | high {n : Int} : 4 ≤ n → n ≤ 7 → Rg.Ok ⟨.high, n, 8⟩
  | xmm {n : Int} : 0 ≤ n → n ≤ 15 → Rg.Ok ⟨.xmm, n, 128⟩
noncomputable def getZ (z : MState) (ρ : Rg) : Int := match ρ.k with
  | .gpr => z.regs.getD ρ.n.toNat 0 % 2 ^ ρ.z.toNat
  | .high => z.regs.getD (ρ.n - 4).toNat 0 / 2 ^ 8 % 2 ^ 8
  | .xmm => z.xmm.getD ρ.n.toNat 0
  | .rip => z.rip
noncomputable def putZ (z : MState) (ρ : Rg) (x : Int) : MState := match ρ.k with
  | .gpr => { z with regs := z.regs.set ρ.n.toNat (joinedI (z.regs.getD ρ.n.toNat 0) (x % 2 ^ ρ.z.toNat) ρ.z) }
  | .high => { z with regs := z.regs.set (ρ.n - 4).toNat (z.regs.getD (ρ.n - 4).toNat 0 + (x % 2 ^ 8 - z.regs.getD (ρ.n - 4).toNat 0 / 2 ^ 8 % 2 ^ 8) * 2 ^ 8) }
  | .xmm => { z with xmm := z.xmm.set ρ.n.toNat (x % 2 ^ 128) }
  | .rip => z
noncomputable def putLowZ (z : MState) (ρ : Rg) (size x : Int) : MState :=
  if ρ.k = .xmm ∧ size < 128 then { z with xmm := z.xmm.set ρ.n.toNat (z.xmm.getD ρ.n.toNat 0 - z.xmm.getD ρ.n.toNat 0 % 2 ^ size.toNat + x % 2 ^ size.toNat) } else putZ z ρ x
structure MState.Ok (z : MState) : Prop where
  regs : z.regs.length = 16
  xmm : z.xmm.length = 16
  mem : OctM z.mem
noncomputable abbrev RW (a : Led) (R : Value → Led → Prop) : Value → Led → Prop := fun v led' => ∃ x b, led' = x ++ b ∧ R v b ∧ x = a
noncomputable abbrev Mac.setR (σ : Mac) (vs : List Value) : Mac := { σ with rvs := vs }
noncomputable abbrev Mac.setX (σ : Mac) (vs : List Value) : Mac := { σ with xvs := vs }
noncomputable abbrev PutR (w : World) (σ : Mac) (r : RegO) (z : MState) : Value → Led → Prop := RW (r.led w) fun v b => v = .none ∧ ∃ σ' : Mac, σ'.st = σ.st ∧ σ'.me = σ.me ∧ σ'.sg = σ.sg ∧ σ'.Is w z ∧ b = σ'.led w
theorem put_R {σ : Mac} {z z' : MState} {r : RegO} {vs : List Value} {ns : List Int} (h : σ.Is w z) (hi : IntsAre vs ns) (e : z' = { z with regs := ns }) : PutR w σ r z' .none (r.led w ++ (σ.setR vs).led w) := by
  subst e; exact ⟨_, _, rfl, ⟨rfl, σ.setR vs, rfl, rfl, rfl, ⟨hi, h.xmm, h.mem, h.rip, h.seg⟩, rfl⟩, rfl⟩
theorem put_X {σ : Mac} {z z' : MState} {r : RegO} {vs : List Value} {ns : List Int} (h : σ.Is w z) (hi : IntsAre vs ns) (e : z' = { z with xmm := ns }) : PutR w σ r z' .none (r.led w ++ (σ.setX vs).led w) := by
  subst e; exact ⟨_, _, rfl, ⟨rfl, σ.setX vs, rfl, rfl, rfl, ⟨h.regs, hi, h.mem, h.rip, h.seg⟩, rfl⟩, rfl⟩
theorem RK.not_xmm : ∀ k : RK, k ≠ .xmm → (k.str == Str.ofString "xmm") = false := by
  intro k h; cases k <;> first | decide +kernel | exact absurd rfl h
theorem RegO.Is.gpr {r : RegO} {ρ : Rg} (h : r.Is ρ) : (r.kd == Str.ofString "gpr") = decide (ρ.k = .gpr) := by rw [h.kd]; cases ρ.k <;> decide +kernel
theorem RegO.Is.high {r : RegO} {ρ : Rg} (h : r.Is ρ) : (r.kd == Str.ofString "high") = decide (ρ.k = .high) := by rw [h.kd]; cases ρ.k <;> decide +kernel
theorem RegO.Is.xmm {r : RegO} {ρ : Rg} (h : r.Is ρ) : (r.kd == Str.ofString "xmm") = decide (ρ.k = .xmm) := by rw [h.kd]; cases ρ.k <;> decide +kernel
theorem RegO.Is.rip {r : RegO} {ρ : Rg} (h : r.Is ρ) : (r.kd == Str.ofString "rip") = decide (ρ.k = .rip) := by rw [h.kd]; cases ρ.k <;> decide +kernel
theorem Rg.Ok.sz {ρ : Rg} (h : ρ.Ok) : 0 ≤ ρ.z ∧ ρ.z ≤ 128 := by cases h <;> dsimp only <;> lia
theorem get_does (G : G0 w p loose mean mg mb hb) {σ : Mac} {z : MState} {r : RegO} {ρ : Rg} (hσ : σ.Is w z) (hz : z.Ok) (hr : r.Is ρ) (ok : ρ.Ok ∨ ρ.k = .rip) :
    Does w hb 4 60 391 [.ref σ.st, .ref r.x] [] (r.led w ++ σ.led w) (RW (r.led w) fun v b => (∃ t, v = .int (getZ z ρ) t) ∧ b = σ.led w) := by
  have hreg := hσ.regs
  have hxmm := hσ.xmm
  have hrip := hσ.rip
  have l1 := hz.regs
  have l2 := hz.xmm
  have e1 := hr.gpr
  have e2 := hr.high
  have e3 := hr.xmm
  have e4 := hr.rip
  have h2 := hr.num
  have h3 := hr.sz
  refine' enterB (binds := [(Str.ofString "self", .ref σ.st), (Str.ofString "register", .ref r.x)]) (by assumption) ?k6 ?k7 ?k9 ?kB [(Str.ofString "register", .ref r.x), (Str.ofString "self", .ref σ.st)] rfl ?_ ?c2 ?c3 ?c4 ?c5
  case k6 => k_is
  case k7 => k_is
  case k9 => (intro s hs; first | exact BindsTo.of_eq rfl | exact binds_K (Frag.In.keeps (G0.X (by assumption)) hs) rfl (by k_is) rfl rfl rfl)
  case c5 => decide
  case kB => exact locs rfl
  case c2 => exact rfl
  case c3 => exact rfl
  case c4 => exact rfl
  intro C Q hR fini finn perm env l led he
  rcases ok with ok | ok
  · cases ok with
    | gpr h0 h1 h5 =>
      dsimp only at h2 h3
      repeat (walk_at "m ev")
      exact fini ⟨_, _, rfl, ⟨⟨_, by rw [h2, h3]; rfl⟩, rfl⟩, rfl⟩
    | high h0 h1 =>
      dsimp only at h2 h3
      repeat (walk_at "m ev")
      exact fini ⟨_, _, rfl, ⟨⟨_, by rw [h2]; rfl⟩, rfl⟩, rfl⟩
    | xmm h0 h1 =>
      dsimp only at h2 h3
      repeat (walk_at "m ev")
      exact fini ⟨_, _, rfl, ⟨⟨_, by rw [h2]; rfl⟩, rfl⟩, rfl⟩
  · rw [ok] at e1 e2 e3 e4
    repeat (walk_at "m ev")
    exact fini ⟨_, _, rfl, ⟨⟨_, by unfold getZ; rw [hrip, ok]⟩, rfl⟩, rfl⟩
theorem put_does (G : G0 w p loose mean mg mb hb) {σ : Mac} {z : MState} {r : RegO} {ρ : Rg} {x : Int} {t : Tok} (hσ : σ.Is w z) (hz : z.Ok) (hr : r.Is ρ) (ok : ρ.Ok) :
    Does w hb 4 60 398 [.ref σ.st, .ref r.x, .int x t] [] (r.led w ++ σ.led w) (PutR w σ r (putZ z ρ x)) := by
  have hreg := hσ.regs
  have hxmm := hσ.xmm
  have l1 := hz.regs
  have l2 := hz.xmm
  have e1 := hr.gpr
  have e2 := hr.high
  have e3 := hr.xmm
  have e4 := hr.rip
  have h2 := hr.num
  have h3 := hr.sz
  have b0 := ok.sz.1
  have b1 := ok.sz.2
  refine' enterB (binds := [(Str.ofString "self", .ref σ.st), (Str.ofString "register", .ref r.x), (Str.ofString "worth", .int x t)]) (by assumption) ?k6 ?k7 ?k9 ?kB [(Str.ofString "worth", .int x t), (Str.ofString "register", .ref r.x), (Str.ofString "self", .ref σ.st)] rfl ?_ ?c2 ?c3 ?c4 ?c5
  case k6 => k_is
  case k7 => k_is
  case k9 => (intro s hs; first | exact BindsTo.of_eq rfl | exact binds_K (Frag.In.keeps (G0.X (by assumption)) hs) rfl (by k_is) rfl rfl rfl)
  case c5 => decide
  case kB => exact locs rfl
  case c2 => exact rfl
  case c3 => exact rfl
  case c4 => exact rfl
  intro C Q hR fini finn perm env l led he
  cases ok with
  | gpr h0 h1 h5 =>
    dsimp only at h2 h3 b0 b1
    repeat (walk_at "m ev")
    rename IntsAre _ (List.set _ _ _) => hi
    exact finn (put_R (r := r) hσ hi (by rw [h2, h3]; rfl))
  | high h0 h1 =>
    dsimp only at h2 h3 b0 b1
    repeat (walk_at "m ev")
    refine' c_shl ?a ?b ?c ?_
    case a => decide
    case b => decide
    case c =>
      have e : Int.toNat 8 = 8 := rfl
      rw [h3, e]; omega
    intro _
    repeat (walk_at "m ev")
    rename IntsAre _ (List.set _ _ _) => hi
    exact finn (put_R (r := r) hσ hi (by rw [h2, h3]; rfl))
  | xmm h0 h1 =>
    dsimp only at h2 h3 b0 b1
    repeat (walk_at "m ev")
    rename IntsAre _ (List.set _ _ _) => hi
    exact finn (put_X (r := r) hσ hi (by rw [h2, h3]; rfl))
section
variable {C : Cx w} {l : Loc} {led : Led} {Q : Value → Loc → Led → Prop} {N U : Nat} {fl : Led → Led → Led} {σ : Mac} {z : MState} {r : RegO} {ρ : Rg}
theorem c_get (hR : Room C N U) (hle : (Nat.ble 4 N && Nat.ble 60 U) = true) {st : Addr} (hσ : σ.Is w z) (hz : z.Ok) (hr : r.Is ρ) (ok : ρ.Ok ∨ ρ.k = .rip) (hst : σ.st = st) (sl : Slot2 (r.led w) (σ.led w) led fl)
    (k : ∀ t, let led' : Led := fl (r.led w) (σ.led w); Q (.int (getZ z ρ) t) l led') : Wp C (call (.ref 391) [.ref st, .ref r.x]) Q l led := by
  subst hst
  exact c_does2 (get_does C.G₀ hσ hz hr ok) sl hR hle (by rintro _ _ ⟨⟨t, rfl⟩, rfl⟩; exact k t)
theorem c_put (hR : Room C N U) (hle : (Nat.ble 4 N && Nat.ble 60 U) = true) {x : Int} {t : Tok} {st : Addr} (hσ : σ.Is w z) (hz : z.Ok) (hr : r.Is ρ) (ok : ρ.Ok) (hst : σ.st = st) (sl : Slot2 (r.led w) (σ.led w) led fl)
    (k : ∀ σ' : Mac, σ'.st = st → σ'.me = σ.me → σ'.sg = σ.sg → σ'.Is w (putZ z ρ x) → let led' : Led := fl (r.led w) (σ'.led w); Q .none l led') : Wp C (call (.ref 398) [.ref st, .ref r.x, .int x t]) Q l led := by
  subst hst
  exact c_does2 (put_does C.G₀ hσ hz hr ok) sl hR hle (by rintro _ _ ⟨rfl, σ', e1, e2, e3, e4, rfl⟩; exact k σ' e1 e2 e3 e4)
end
theorem put_low_does (G : G0 w p loose mean mg mb hb) {σ : Mac} {z : MState} {r : RegO} {ρ : Rg} {x n : Int} {t u : Tok} (hσ : σ.Is w z) (hz : z.Ok) (hr : r.Is ρ) (ok : ρ.Ok) (hn : n = 8 ∨ n = 16 ∨ n = 32 ∨ n = 64 ∨ n = 128) :
    Does w hb 5 80 405 [.ref σ.st, .ref r.x, .int n u, .int x t] [] (r.led w ++ σ.led w) (PutR w σ r (putLowZ z ρ n x)) := by
  have h00 : 0 ≤ n := by lia
  have h01 : n ≤ 128 := by lia
  have hxmm := hσ.xmm
  have l2 := hz.xmm
  have e3 := hr.xmm
  have h2 := hr.num
  refine' enterB (binds := [(Str.ofString "self", .ref σ.st), (Str.ofString "register", .ref r.x), (Str.ofString "size", .int n u), (Str.ofString "worth", .int x t)]) (by assumption) ?k6 ?k7 ?k9 ?kB [(Str.ofString "worth", .int x t), (Str.ofString "size", .int n u), (Str.ofString "register", .ref r.x), (Str.ofString "self", .ref σ.st)] rfl ?_ ?c2 ?c3 ?c4 ?c5
  case k6 => k_is
  case k7 => k_is
  case k9 => (intro s hs; first | exact BindsTo.of_eq rfl | exact binds_K (Frag.In.keeps (G0.X (by assumption)) hs) rfl (by k_is) rfl rfl rfl)
  case c5 => decide
  case kB => exact locs rfl
  case c2 => exact rfl
  case c3 => exact rfl
  case c4 => exact rfl
  intro C Q hR fini finn perm env l led he
  by_cases hk : ρ.k = .xmm
  · rw [decide_eq_true hk] at e3
    have h0 : 0 ≤ ρ.n ∧ ρ.n ≤ 15 := by cases ok <;> first | exact ⟨by assumption, by assumption⟩ | cases hk
    repeat (walk_at "m ev")
    refine r_iteD (fun h5 => ?_) fun h5 => ?_
    ·
      repeat (walk_at "m ev")
      rename IntsAre _ (List.set _ _ _) => hi
      exact finn (put_X (r := r) hσ hi (by rw [putLowZ, if_pos ⟨hk, h5⟩, h2]))
    ·
      repeat (walk_at "m ev")
      refine c_put hR rfl hσ hz hr ok rfl (.lr .all .all) fun σ' e1 e2 e3 e4 => ?_
      intro _
      repeat (walk_at "m ev")
      exact finn ⟨_, _, rfl, ⟨rfl, σ', e1, e2, e3, by rw [putLowZ, if_neg (fun h => h5 h.2)]; exact e4, rfl⟩, rfl⟩
  · rw [decide_eq_false hk] at e3
    repeat (walk_at "m ev")
    refine c_put hR rfl hσ hz hr ok rfl (.lr .all .all) fun σ' e1 e2 e3 e4 => ?_
    intro _
    repeat (walk_at "m ev")
    exact finn ⟨_, _, rfl, ⟨rfl, σ', e1, e2, e3, by rw [putLowZ, if_neg (fun h => hk h.1)]; exact e4, rfl⟩, rfl⟩
section
variable {C : Cx w} {l : Loc} {led : Led} {Q : Value → Loc → Led → Prop} {N U : Nat} {fl : Led → Led → Led} {σ : Mac} {z : MState} {r : RegO} {ρ : Rg}
theorem c_putLow (hR : Room C N U) (hle : (Nat.ble 5 N && Nat.ble 80 U) = true) {x n : Int} {t u : Tok} {st : Addr} (hσ : σ.Is w z) (hz : z.Ok) (hr : r.Is ρ) (ok : ρ.Ok) (hn : n = 8 ∨ n = 16 ∨ n = 32 ∨ n = 64 ∨ n = 128) (hst : σ.st = st) (sl : Slot2 (r.led w) (σ.led w) led fl)
    (k : ∀ σ' : Mac, σ'.st = st → σ'.Is w (putLowZ z ρ n x) → let led' : Led := fl (r.led w) (σ'.led w); Q .none l led') : Wp C (call (.ref 405) [.ref st, .ref r.x, .int n u, .int x t]) Q l led := by
  subst hst
  exact c_does2 (put_low_does C.G₀ hσ hz hr ok hn) sl hR hle (by rintro _ _ ⟨rfl, σ', e1, _, _, e4, rfl⟩; exact k σ' e1 e4)
end
end
-- F7
section
variable {w : World} {p : Program} {loose : List Str} {mean : ExcName → Option Value} {mg mb : Str → Option Value} {hb : Heap}
section
variable {C : Cx w} {l : Loc} {led : Led} {pl : Sem Bool}
theorem c_opInit {Q : Value × List Value → Loc → Led → Prop} (h : Q (.ref 494, []) l led) : Wp C (getMethod (.ref 518) "__init__" pl) Q l led := fun s S => by
  obtain ⟨m, F, e⟩ := S.ns
  refine' method_of_cls F C.G.X ?h1 ?_
  case h1 => k_is
  refine' cls_val F C.G.X ?h1 ?h2 ?h3 ?h4 ?_
  case h1 => k_is
  case h2 => k_is
  case h3 => k_is
  case h4 => exact rfl
  exact ⟨_, _, S.tok _, h⟩
end
local macro_rules | `(tactic| walk_at "m meth1") => `(tactic| with_reducible refine c_opInit ?_)
theorem Operand_init (G : G0 w p loose mean mg mb hb) {K x dx : Addr} {k : Str} {t : Tok} (hC : SetOk w K (Str.ofString "kind")) :
    Does w hb 1 10 494 [.ref x, .str k t] [] [(x, instObj K dx), (dx, dictOf [] 0)] (fun v led' => v = .none ∧ ∃ a b, led' = [(x, instObj K dx), (dx, dictOf [dE w "kind" a (.str k b)] 1)]) := by
  refine' enterB (binds := [(Str.ofString "self", .ref x), (Str.ofString "kind", .str k t)]) (by assumption) ?k6 ?k7 ?k9 ?kB [(Str.ofString "kind", .str k t), (Str.ofString "self", .ref x)] rfl ?_ ?c2 ?c3 ?c4 ?c5
  case k6 => k_is
  case k7 => k_is
  case k9 => (intro s hs; first | exact BindsTo.of_eq rfl | exact binds_K (Frag.In.keeps (G0.X (by assumption)) hs) rfl (by k_is) rfl rfl rfl)
  case c5 => decide
  case kB => exact locs rfl
  case c2 => exact rfl
  case c3 => exact rfl
  case c4 => exact rfl
  intro C Q hR fini finn perm env l led he
  repeat (walk_at "m ev")
  refine' c_setAt hC ?h1 ?U ?hl ?e ?hz ?_
  case h1 => lcg_off
  case U => lcg_src
  case hl => exact rfl
  case e => intro _; k_put
  case hz => intro _; exact Nat.le_of_ble_eq_true rfl
  intro tk _
  repeat (walk_at "m ev")
  exact finn ⟨rfl, tk, t, rfl⟩
section
variable {C : Cx w} {l : Loc} {led : Led} {Q : Value → Loc → Led → Prop} {N U : Nat} {fl : Led → Led}
theorem c_opI {K x dx : Addr} {k : Str} {t : Tok} (hC : SetOk w K (Str.ofString "kind")) (hR : Room C N U) (hle : (Nat.ble 1 N && Nat.ble 10 U) = true) (sl : Slot [(x, instObj K dx), (dx, dictOf [] 0)] led fl)
    (h : ∀ a b, let led' : Led := fl [(x, instObj K dx), (dx, dictOf [dE w "kind" a (.str k b)] 1)]; Q .none l led') : Wp C (call (.ref 494) [.ref x, .str k t]) Q l led :=
  c_does (Operand_init C.G₀ hC) sl hR hle (by rintro _ _ ⟨rfl, a, b, rfl⟩; exact h a b)
end
theorem Reg_init (G : G0 w p loose mean mg mb hb) {x dx : Addr} {r : RegO} :
    Does w hb 2 20 536 [.ref x, .ref r.x] [] ([(x, instObj 553 dx), (dx, dictOf [] 0)] ++ r.led w) (fun v led' => v = .none ∧ ∃ a b c, led' = [(x, instObj 553 dx), (dx, dictOf [dE w "kind" a (.str (Str.ofString "reg") b), dE w "register" c (.ref r.x)] 2)] ++ r.led w) := by
  refine' enterB (binds := [(Str.ofString "self", .ref x), (Str.ofString "register", .ref r.x)]) (by assumption) ?k6 ?k7 ?k9 ?kB [(Str.ofString "register", .ref r.x), (Str.ofString "self", .ref x)] rfl ?_ ?c2 ?c3 ?c4 ?c5
  case k6 => k_is
  case k7 => k_is
  case k9 => (intro s hs; first | exact BindsTo.of_eq rfl | exact binds_K (Frag.In.keeps (G0.X (by assumption)) hs) rfl (by k_is) rfl rfl rfl)
  case c5 => decide
  case kB => exact locs rfl
  case c2 => exact rfl
  case c3 => exact rfl
  case c4 => exact rfl
  intro C Q hR fini finn perm env l led he
  repeat (walk_at "m ev")
  refine' c_opI set_Reg_kind hR rfl ?sl ?_
  case sl => kpt_turns
  intro a b _
  repeat (walk_at "m ev")
  exact finn ⟨rfl, _, _, _, rfl⟩
theorem Imm_init (G : G0 w p loose mean mg mb hb) {x dx : Addr} {a : Int} {t : Tok} :
    Does w hb 2 20 570 [.ref x, .int a t] [] ([(x, instObj 587 dx), (dx, dictOf [] 0)]) (fun v led' => v = .none ∧ ∃ a' b c d e f, led' = [(x, instObj 587 dx), (dx, dictOf [dE w "kind" a' (.str (Str.ofString "imm") b), dE w "worth" c (.int a d), dE w "name" e (.str (Str.ofString "") f)] 3)]) := by
  refine' enterB (binds := [(Str.ofString "self", .ref x), (Str.ofString "worth", .int a t), (Str.ofString "name", .str (Str.ofString "") 928)]) (by assumption) ?k6 ?k7 ?k9 ?kB [(Str.ofString "name", .str (Str.ofString "") 928), (Str.ofString "worth", .int a t), (Str.ofString "self", .ref x)] rfl ?_ ?c2 ?c3 ?c4 ?c5
  case k6 => k_is
  case k7 => k_is
  case k9 => (intro s hs; first | exact BindsTo.of_eq rfl | exact binds_K (Frag.In.keeps (G0.X (by assumption)) hs) rfl (by k_is) rfl rfl rfl)
  case c5 => decide
  case kB => exact locs rfl
  case c2 => exact rfl
  case c3 => exact rfl
  case c4 => exact rfl
  intro C Q hR fini finn perm env l led he
  repeat (walk_at "m ev")
  refine' c_opI set_Imm_kind hR rfl ?sl ?_
  case sl => kpt_turns
  intro a b _
  repeat (walk_at "m ev")
  exact finn ⟨rfl, _, _, _, _, _, _, rfl⟩
@[reducible] noncomputable def vBase : Option RegO → Value
  | .none => .none
  | .some r => .ref r.x
@[reducible] noncomputable def rl (w : World) : Option RegO → Led
  | .none => []
  | .some r => r.led w
structure MemOp where
  x : Addr
  dx : Addr
  base : Option RegO
  index : Option RegO
  sc : Int
  wo : Int
  sz : Int
  seg : Str
  τ : Nat → Tok
noncomputable abbrev MemOp.hd (w : World) (o : MemOp) : Led := [(o.x, instObj 640 o.dx),
  (o.dx, dictOf [dE w "kind" (o.τ 0) (.str (Str.ofString "mem") (o.τ 1)), dE w "base" (o.τ 2) (vBase o.base), dE w "index" (o.τ 3) (vBase o.index), dE w "scale" (o.τ 4) (.int o.sc (o.τ 5)), dE w "worth" (o.τ 6) (.int o.wo (o.τ 7)),
    dE w "size" (o.τ 8) (.int o.sz (o.τ 9)), dE w "segment" (o.τ 10) (.str o.seg (o.τ 11)), dE w "name" (o.τ 12) (.str (Str.ofString "") (o.τ 13))] 8)]
noncomputable abbrev MemOp.led (w : World) (o : MemOp) : Led := o.hd w ++ (rl w o.base ++ rl w o.index)
theorem mem_tok {x dx : Addr} {bv iv : Value} {sc wo sz : Int} {sg : Str} {a b c d e f g h i j k l m n : Tok} : ∃ τ : Nat → Tok, [(x, instObj 640 dx),
  (dx, dictOf [dE w "kind" a (.str (Str.ofString "mem") b), dE w "base" c bv, dE w "index" d iv, dE w "scale" e (.int sc f), dE w "worth" g (.int wo h),
    dE w "size" i (.int sz j), dE w "segment" k (.str sg l), dE w "name" m (.str (Str.ofString "") n)] 8)] = [(x, instObj 640 dx),
  (dx, dictOf [dE w "kind" (τ 0) (.str (Str.ofString "mem") (τ 1)), dE w "base" (τ 2) bv, dE w "index" (τ 3) iv, dE w "scale" (τ 4) (.int sc (τ 5)), dE w "worth" (τ 6) (.int wo (τ 7)),
    dE w "size" (τ 8) (.int sz (τ 9)), dE w "segment" (τ 10) (.str sg (τ 11)), dE w "name" (τ 12) (.str (Str.ofString "") (τ 13))] 8)] := ⟨fun q => [a, b, c, d, e, f, g, h, i, j, k, l, m, n].getD q 0, rfl⟩
theorem Mem_init (G : G0 w p loose mean mg mb hb) {x dx : Addr} {bv iv : Value} {sc wo zz : Int} {sg : Str} {t1 t2 t3 t4 : Tok} :
    Does w hb 2 20 604 [.ref x, bv, iv, .int sc t1, .int wo t2, .int zz t3, .str sg t4] [] [(x, instObj 640 dx), (dx, dictOf [] 0)] (fun v led' => v = .none ∧ ∃ τ : Nat → Tok, led' = [(x, instObj 640 dx),
  (dx, dictOf [dE w "kind" (τ 0) (.str (Str.ofString "mem") (τ 1)), dE w "base" (τ 2) bv, dE w "index" (τ 3) iv, dE w "scale" (τ 4) (.int sc (τ 5)), dE w "worth" (τ 6) (.int wo (τ 7)),
    dE w "size" (τ 8) (.int zz (τ 9)), dE w "segment" (τ 10) (.str sg (τ 11)), dE w "name" (τ 12) (.str (Str.ofString "") (τ 13))] 8)]) := by
  refine' enterB (binds := [(Str.ofString "self", .ref x), (Str.ofString "base", bv), (Str.ofString "index", iv), (Str.ofString "scale", .int sc t1), (Str.ofString "worth", .int wo t2), (Str.ofString "size", .int zz t3), (Str.ofString "segment", .str sg t4), (Str.ofString "name", .str (Str.ofString "") 972)]) (by assumption) ?k6 ?k7 ?k9 ?kB [(Str.ofString "name", .str (Str.ofString "") 972), (Str.ofString "segment", .str sg t4), (Str.ofString "size", .int zz t3), (Str.ofString "worth", .int wo t2), (Str.ofString "scale", .int sc t1), (Str.ofString "index", iv), (Str.ofString "base", bv), (Str.ofString "self", .ref x)] rfl ?_ ?c2 ?c3 ?c4 ?c5
  case k6 => k_is
  case k7 => k_is
  case k9 => (intro s hs; first | exact BindsTo.of_eq rfl | exact binds_K (Frag.In.keeps (G0.X (by assumption)) hs) rfl (by k_is) rfl rfl rfl)
  case c5 => decide
  case kB => exact locs rfl
  case c2 => exact rfl
  case c3 => exact rfl
  case c4 => exact rfl
  intro C Q hR fini finn perm env l led he
  repeat (walk_at "m ev")
  refine' c_opI set_Mem_kind hR rfl ?sl ?_
  case sl => kpt_turns
  intro a b _
  repeat (walk_at "m ev")
  exact finn ⟨rfl, mem_tok⟩
section
variable {C : Cx w} {l : Loc} {led : Led} {Q : Value → Loc → Led → Prop} {N U : Nat}
theorem c_Reg {r : RegO} {fl : Led → Led} (hR : Room C N U) (hle : (Nat.ble 3 N && Nat.ble 40 U) = true) (sl : Slot (r.led w) led fl)
    (k : ∀ x dx a b c, let led' : Led := [(x, instObj 553 dx), (dx, dictOf [dE w "kind" a (.str (Str.ofString "reg") b), dE w "register" c (.ref r.x)] 2)] ++ fl (r.led w); Q (.ref x) l led') : Wp C (call (.ref 553) [.ref r.x]) Q l led := fun s S => by
  obtain ⟨rest, p1, p2⟩ := sl.perm
  have rm := hR.le hle
  refine r_make C.G (S.perm p1) (by k_is) (by k_is) (by k_is) (fun x dx => Reg_init C.G₀ (x := x) (dx := dx) (r := r)) .here C.hh (by have := rm.d; lia) (by have := rm.u; lia) ?_
  rintro x dx led' s' ⟨a, b, c, rfl⟩ S'
  refine ⟨_, _, S'.perm ?_, k x dx a b c⟩
  rw [List.append_assoc]
  exact (p2 _).append_left _
theorem c_Imm {a : Int} {t : Tok} (hR : Room C N U) (hle : (Nat.ble 3 N && Nat.ble 24 U) = true)
    (k : ∀ x dx a' b c d e f, let led' : Led := [(x, instObj 587 dx), (dx, dictOf [dE w "kind" a' (.str (Str.ofString "imm") b), dE w "worth" c (.int a d), dE w "name" e (.str (Str.ofString "") f)] 3)] ++ led; Q (.ref x) l led') : Wp C (call (.ref 587) [.int a t]) Q l led :=
  c_make (by k_is) (by k_is) (by k_is) (fun x dx => Imm_init C.G₀ (x := x) (dx := dx)) hR hle (by
    rintro x dx led' ⟨a', b, c, d, e, f, rfl⟩
    exact k x dx a' b c d e f)
theorem c_Mem {bo io : Option RegO} {bv iv : Value} {sc wo sz : Int} {sg : Str} {t1 t2 t3 t4 : Tok} (eb : bv = vBase bo) (ei : iv = vBase io) (hR : Room C N U) (hle : (Nat.ble 3 N && Nat.ble 24 U) = true)
    (k : ∀ o : MemOp, o.base = bo → o.index = io → o.sc = sc → o.wo = wo → o.sz = sz → o.seg = sg → let led' : Led := o.hd w ++ led; Q (.ref o.x) l led') : Wp C (call (.ref 640) [bv, iv, .int sc t1, .int wo t2, .int sz t3, .str sg t4]) Q l led := by
  subst eb ei
  refine c_make (by k_is) (by k_is) (by k_is) (fun x dx => Mem_init C.G₀ (x := x) (dx := dx)) hR hle ?_
  rintro x dx led' ⟨τ, rfl⟩
  exact k ⟨x, dx, bo, io, sc, wo, sz, sg, τ⟩ rfl rfl rfl rfl rfl rfl
end
end
-- F8
section
variable {w : World} {p : Program} {loose : List Str} {mean : ExcName → Option Value} {mg mb : Str → Option Value} {hb : Heap}
inductive Sg
  | no | fs | gs
  deriving DecidableEq
noncomputable def Sg.str : Sg → Str
  | .no => Str.ofString ""
  | .fs => Str.ofString "fs"
  | .gs => Str.ofString "gs"
structure Spot where
  b : Int
  i : Int
  s : Int
  w : Int
  g : Sg
inductive BaseIs : Option RegO → Int → Prop
  | none {b} : b < 0 → BaseIs .none b
  | rip {r} : RegO.Is r ⟨.rip, 0, 64⟩ → BaseIs (.some r) 16
  | gpr {r b} : 0 ≤ b → b ≤ 15 → RegO.Is r ⟨.gpr, b, 64⟩ → BaseIs (.some r) b
noncomputable def baseZ (z : MState) (b : Int) : Int := if b < 0 then 0 else if b = 16 then z.rip else getZ z ⟨.gpr, b, 64⟩
noncomputable def offZ (z : MState) (q : Spot) : Int := (q.w + baseZ z q.b + baseZ z q.i * q.s) % 2 ^ 64
noncomputable def segZ (z : MState) : Sg → Int
  | .no => 0
  | .fs => z.fs
  | .gs => z.gs
noncomputable def placeZ (z : MState) (q : Spot) : Int := (offZ z q + segZ z q.g) % 2 ^ 64
structure MemOp.Is (o : MemOp) (q : Spot) : Prop where
  base : BaseIs o.base q.b
  index : BaseIs o.index q.i
  sc : o.sc = q.s
  wo : o.wo = q.w
  seg : o.seg = q.g.str
  small : q.s.natAbs < 2 ^ 64
theorem BaseIs.get {r : RegO} {b : Int} (h : BaseIs (.some r) b) : ∃ ρ : Rg, r.Is ρ ∧ (ρ.Ok ∨ ρ.k = .rip) ∧ ∀ z, getZ z ρ = baseZ z b := by
  cases h with
  | rip h => exact ⟨_, h, .inr rfl, fun z => by simp [baseZ, getZ]⟩
  | gpr h0 h1 h => exact ⟨_, h, .inl (.gpr h0 h1 (by decide)), fun z => by rw [baseZ, if_neg (by lia), if_neg (by lia)]⟩
theorem BaseIs.zero {b : Int} (h : BaseIs .none b) (z : MState) : baseZ z b = 0 := by
  cases h with
  | none h => rw [baseZ, if_pos h]
local macro_rules | `(tactic| walk_at "m call") => `(tactic| ((with_reducible refine' c_get ?pZ0 ?pZ1 ?pZ2 ?pZ3 ?pZ4 ?pZ5 ?pZ6 ?pZ7 ?_); (case pZ0 => assumption); (case pZ1 => exact rfl); (case pZ2 => assumption); (case pZ3 => assumption); (case pZ4 => assumption); (case pZ5 => assumption); (case pZ6 => exact rfl); (case pZ7 => walk_at "m slot2"); intro _ _))
theorem offset_does (G : G0 w p loose mean mg mb hb) {σ : Mac} {z : MState} {o : MemOp} {q : Spot} (hσ : σ.Is w z) (hz : z.Ok) (ho : o.Is q) :
    Does w hb 5 100 417 [.ref σ.st, .ref o.x] [] (o.led w ++ σ.led w) (RW (o.led w) fun v b => (∃ t, v = .int (offZ z q) t) ∧ b = σ.led w) := by
  obtain ⟨ox, odx, ob, oi, osc, owo, osz, osg, oτ⟩ := o
  obtain ⟨h1, h2, h3, h4, h5, h6⟩ := ho
  dsimp only at h1 h2 h3 h4 h5 h6
  subst h3 h4 h5
  cases ob with
  | none =>
    have b0 := h1.zero z
    cases oi with
    | none =>
      have i0 := h2.zero z
      refine' enterB (binds := [(Str.ofString "self", .ref σ.st), (Str.ofString "mem", .ref ox)]) (by assumption) ?k6 ?k7 ?k9 ?kB [(Str.ofString "mem", .ref ox), (Str.ofString "self", .ref σ.st)] rfl ?_ ?c2 ?c3 ?c4 ?c5
      case k6 => k_is
      case k7 => k_is
      case k9 => (intro s hs; first | exact BindsTo.of_eq rfl | exact binds_K (Frag.In.keeps (G0.X (by assumption)) hs) rfl (by k_is) rfl rfl rfl)
      case c5 => decide
      case kB => exact locs rfl
      case c2 => exact rfl
      case c3 => exact rfl
      case c4 => exact rfl
      intro C Q hR fini finn perm env l led he
      repeat (walk_at "m ev")
      have e : offZ z q = q.w % 2 ^ 64 := by rw [offZ, b0, i0]; simp
      exact fini ⟨_, _, rfl, ⟨⟨_, by rw [e]; rfl⟩, rfl⟩, rfl⟩
    | some ri =>
      obtain ⟨ρ, r1, r2, r3⟩ := h2.get
      have e : offZ z q = (q.w + getZ z ρ * q.s) % 2 ^ 64 := by rw [offZ, b0, r3]; simp
      refine' enterB (binds := [(Str.ofString "self", .ref σ.st), (Str.ofString "mem", .ref ox)]) (by assumption) ?k6 ?k7 ?k9 ?kB [(Str.ofString "mem", .ref ox), (Str.ofString "self", .ref σ.st)] rfl ?_ ?c2 ?c3 ?c4 ?c5
      case k6 => k_is
      case k7 => k_is
      case k9 => (intro s hs; first | exact BindsTo.of_eq rfl | exact binds_K (Frag.In.keeps (G0.X (by assumption)) hs) rfl (by k_is) rfl rfl rfl)
      case c5 => decide
      case kB => exact locs rfl
      case c2 => exact rfl
      case c3 => exact rfl
      case c4 => exact rfl
      intro C Q hR fini finn perm env l led he
      repeat (walk_at "m ev")
      exact fini ⟨_, _, rfl, ⟨⟨_, by rw [e]; rfl⟩, rfl⟩, rfl⟩
  | some rb =>
    obtain ⟨ρ, r1, r2, r3⟩ := h1.get
    cases oi with
    | none =>
      have i0 := h2.zero z
      have e : offZ z q = (q.w + getZ z ρ) % 2 ^ 64 := by rw [offZ, i0, r3]; simp
      refine' enterB (binds := [(Str.ofString "self", .ref σ.st), (Str.ofString "mem", .ref ox)]) (by assumption) ?k6 ?k7 ?k9 ?kB [(Str.ofString "mem", .ref ox), (Str.ofString "self", .ref σ.st)] rfl ?_ ?c2 ?c3 ?c4 ?c5
      case k6 => k_is
      case k7 => k_is
      case k9 => (intro s hs; first | exact BindsTo.of_eq rfl | exact binds_K (Frag.In.keeps (G0.X (by assumption)) hs) rfl (by k_is) rfl rfl rfl)
      case c5 => decide
      case kB => exact locs rfl
      case c2 => exact rfl
      case c3 => exact rfl
      case c4 => exact rfl
      intro C Q hR fini finn perm env l led he
      repeat (walk_at "m ev")
      exact fini ⟨_, _, rfl, ⟨⟨_, by rw [e]; rfl⟩, rfl⟩, rfl⟩
    | some ri =>
      obtain ⟨ρ', r1', r2', r3'⟩ := h2.get
      have e : offZ z q = (q.w + getZ z ρ + getZ z ρ' * q.s) % 2 ^ 64 := by rw [offZ, r3, r3']
      refine' enterB (binds := [(Str.ofString "self", .ref σ.st), (Str.ofString "mem", .ref ox)]) (by assumption) ?k6 ?k7 ?k9 ?kB [(Str.ofString "mem", .ref ox), (Str.ofString "self", .ref σ.st)] rfl ?_ ?c2 ?c3 ?c4 ?c5
      case k6 => k_is
      case k7 => k_is
      case k9 => (intro s hs; first | exact BindsTo.of_eq rfl | exact binds_K (Frag.In.keeps (G0.X (by assumption)) hs) rfl (by k_is) rfl rfl rfl)
      case c5 => decide
      case kB => exact locs rfl
      case c2 => exact rfl
      case c3 => exact rfl
      case c4 => exact rfl
      intro C Q hR fini finn perm env l led he
      repeat (walk_at "m ev")
      exact fini ⟨_, _, rfl, ⟨⟨_, by rw [e]; rfl⟩, rfl⟩, rfl⟩
end
-- F9
section
variable {w : World} {p : Program} {loose : List Str} {mean : ExcName → Option Value} {mg mb : Str → Option Value} {hb : Heap}
section
variable {C : Cx w} {l : Loc} {led : Led} {Q : Value → Loc → Led → Prop} {N U : Nat} {σ : Mac} {z : MState} {fl : Led → Led → Led}
theorem c_offset {o : MemOp} {q : Spot} {st : Addr} (hR : Room C N U) (hle : (Nat.ble 5 N && Nat.ble 100 U) = true) (hσ : σ.Is w z) (hz : z.Ok) (ho : o.Is q) (hst : σ.st = st) (sl : Slot2 (o.led w) (σ.led w) led fl)
    (k : ∀ t, let led' : Led := fl (o.led w) (σ.led w); Q (.int (offZ z q) t) l led') : Wp C (call (.ref 417) [.ref st, .ref o.x]) Q l led := by
  subst hst
  exact c_does2 (offset_does C.G₀ hσ hz ho) sl hR hle (by rintro _ _ ⟨⟨t, rfl⟩, rfl⟩; exact k t)
end
noncomputable abbrev Mac.ledM (w : World) (σ : Mac) (ml : Led) : Led := (σ.st, instObj 476 σ.sd) ::
  (σ.sd, dictOf [dE w "iset" (σ.τ 0) .none, dE w "regs" (σ.τ 1) (.ref σ.rg), dE w "xmm" (σ.τ 2) (.ref σ.xm), dE w "flags" (σ.τ 3) (.ref σ.fl.x), dE w "memory" (σ.τ 4) (.ref σ.me.x), dE w "rip" (σ.τ 5) (.int σ.rip (σ.τ 6)),
    dE w "begin" (σ.τ 7) (.int 0 (σ.τ 8)), dE w "segments" (σ.τ 9) (.ref σ.sg), dE w "is_halted" (σ.τ 10) (.bool false)] 9) ::
  (σ.rg, listOf σ.rvs.toArray σ.nr) :: (σ.xm, listOf σ.xvs.toArray σ.nx) :: (σ.sg, σ.sgo) :: (σ.fl.led w ++ ml)
theorem setMe_is {σ : Mac} {z : MState} {m' : MemO} {ms : List (Int × Int)} (h : σ.Is w z) (hx : m'.x = σ.me.x) (hm : m'.Is w ms) : ∃ σ' : Mac, σ'.st = σ.st ∧ σ'.Is w { z with mem := ms } ∧ σ.ledM w (m'.led w) = σ'.led w :=
  ⟨{ σ with me := m' }, rfl, ⟨h.regs, h.xmm, hm, h.rip, h.seg⟩, by rw [Mac.ledM, ← hx]⟩
theorem Sg.not_no (g : Sg) : (g.str == Str.ofString "") = decide (g = .no) := by cases g <;> decide +kernel
theorem segZ_look {z : MState} {g : Sg} {t1 t2 : Tok} (h : g ≠ .no) : ∃ t, lookS [(Str.ofString "fs", Value.int z.fs t1), (Str.ofString "gs", .int z.gs t2)] g.str = some (.int (segZ z g) t) := by
  cases g
  · exact absurd rfl h
  · exact ⟨t1, by rfl⟩
  · exact ⟨t2, by rfl⟩
theorem place_does (G : G0 w p loose mean mg mb hb) {σ : Mac} {z : MState} {o : MemOp} {q : Spot} (hσ : σ.Is w z) (hz : z.Ok) (ho : o.Is q) :
    Does w hb 6 140 424 [.ref σ.st, .ref o.x] [] (o.led w ++ σ.led w) (RW (o.led w) fun v b => (∃ t, v = .int (placeZ z q) t) ∧ b = σ.led w) := by
  obtain ⟨t1, t2, hseg⟩ := hσ.seg
  have e1 := q.g.not_no
  rw [← ho.seg] at e1
  refine' enterB (binds := [(Str.ofString "self", .ref σ.st), (Str.ofString "mem", .ref o.x)]) (by assumption) ?k6 ?k7 ?k9 ?kB [(Str.ofString "mem", .ref o.x), (Str.ofString "self", .ref σ.st)] rfl ?_ ?c2 ?c3 ?c4 ?c5
  case k6 => k_is
  case k7 => k_is
  case k9 => (intro s hs; first | exact BindsTo.of_eq rfl | exact binds_K (Frag.In.keeps (G0.X (by assumption)) hs) rfl (by k_is) rfl rfl rfl)
  case c5 => decide
  case kB => exact locs rfl
  case c2 => exact rfl
  case c3 => exact rfl
  case c4 => exact rfl
  intro C Q hR fini finn perm env l led he
  repeat (walk_at "m ev")
  by_cases hg : q.g = .no
  · rw [decide_eq_true hg] at e1
    repeat (walk_at "m ev")
    refine' c_offset hR rfl hσ hz ho rfl ?sl ?_
    case sl => walk_at "m slot2"
    intro _ _
    repeat (walk_at "m ev")
    exact fini ⟨_, _, rfl, ⟨⟨_, by rw [placeZ, hg]; rfl⟩, rfl⟩, rfl⟩
  · rw [decide_eq_false hg] at e1
    obtain ⟨t3, e3⟩ := segZ_look (z := z) (t1 := t1) (t2 := t2) hg
    rw [← ho.seg] at e3
    repeat (walk_at "m ev")
    refine c_sitem (by lcg_off) hseg e3 ?_
    repeat (walk_at "m ev")
    refine' c_offset hR rfl hσ hz ho rfl ?sl ?_
    case sl => walk_at "m slot2"
    intro _ _
    repeat (walk_at "m ev")
    exact fini ⟨_, _, rfl, ⟨⟨_, rfl⟩, rfl⟩, rfl⟩
section
variable {C : Cx w} {l : Loc} {led : Led} {Q : Value → Loc → Led → Prop} {N U : Nat} {σ : Mac} {z : MState} {fl : Led → Led → Led}
theorem c_place {o : MemOp} {q : Spot} {st : Addr} (hR : Room C N U) (hle : (Nat.ble 6 N && Nat.ble 140 U) = true) (hσ : σ.Is w z) (hz : z.Ok) (ho : o.Is q) (hst : σ.st = st) (sl : Slot2 (o.led w) (σ.led w) led fl)
    (k : ∀ t, let led' : Led := fl (o.led w) (σ.led w); Q (.int (placeZ z q) t) l led') : Wp C (call (.ref 424) [.ref st, .ref o.x]) Q l led := by
  subst hst
  exact c_does2 (place_does C.G₀ hσ hz ho) sl hR hle (by rintro _ _ ⟨⟨t, rfl⟩, rfl⟩; exact k t)
theorem c_mread {m : MemO} {ms : List (Int × Int)} {a n : Int} {t u : Tok} {W : Nat} {fl : Led → Led} (hR : Room C N U) (hle : (Nat.ble 4 N && Nat.ble 60 U) = true) (hm : m.Is w ms) (ho : OctM ms) (hn : n = (W : Int)) (hW : W ≤ 16) (sl : Slot (m.led w) led fl)
    (k : ∀ t, let led' : Led := fl (m.led w); Q (.int (num (bytesAt ms a W)) t) l led') : Wp C (call (.ref 304) [.ref m.x, .int a t, .int n u]) Q l led :=
  c_does (read_does C.G₀ hm ho hn hW) sl hR hle (by rintro _ _ ⟨⟨t, rfl⟩, rfl⟩; exact k t)
theorem c_mwrite {m : MemO} {ms : List (Int × Int)} {a n x : Int} {t u v : Tok} {W : Nat} {fl : Led → Led} (hR : Room C N U) (hle : (Nat.ble 4 N && Nat.ble 60 U) = true) (hm : m.Is w ms) (hz : ms.length ≤ 1000000) (hn : n = (W : Int)) (hW : W ≤ 16) (sl : Slot (m.led w) led fl)
    (k : ∀ m' : MemO, m'.x = m.x → m'.Is w (storeN ms a x W) → let led' : Led := fl (m'.led w); Q .none l led') : Wp C (call (.ref 311) [.ref m.x, .int a t, .int n u, .int x v]) Q l led :=
  c_does (write_does C.G₀ hm hz hn hW) sl hR hle (by rintro _ _ ⟨rfl, m', h1, h2, rfl⟩; exact k m' h1 h2)
theorem div8 {n : Int} (hn : n = 8 ∨ n = 16 ∨ n = 32 ∨ n = 64 ∨ n = 128) : Builtin.divisionGoesByPylong n 8 = false ∧ ∃ N : Nat, n / 8 = (N : Int) ∧ N ≤ 16 ∧ n = 8 * (N : Int) := by
  rcases hn with rfl | rfl | rfl | rfl | rfl
  · exact ⟨by decide +kernel, 1, by decide, by decide, by decide⟩
  · exact ⟨by decide +kernel, 2, by decide, by decide, by decide⟩
  · exact ⟨by decide +kernel, 4, by decide, by decide, by decide⟩
  · exact ⟨by decide +kernel, 8, by decide, by decide, by decide⟩
  · exact ⟨by decide +kernel, 16, by decide, by decide, by decide⟩
theorem div8N {n : Int} {N : Nat} (hn : n = 8 ∨ n = 16 ∨ n = 32 ∨ n = 64 ∨ n = 128) (hN : n = 8 * (N : Int)) : Builtin.divisionGoesByPylong n 8 = false ∧ n / 8 = (N : Int) ∧ N ≤ 16 := by
  obtain ⟨hq, N', e1, e2, e3⟩ := div8 hn
  have e4 : N' = N := by lia
  subst e4; exact ⟨hq, e1, e2⟩
end
local macro_rules | `(tactic| walk_at "m call") => `(tactic| ((with_reducible refine' c_place ?qZ0 ?qZ1 ?qZ2 ?qZ3 ?qZ4 ?qZ5 ?qZ6 ?_); (case qZ0 => assumption); (case qZ1 => exact rfl); (case qZ2 => assumption); (case qZ3 => assumption); (case qZ4 => assumption); (case qZ5 => exact rfl); (case qZ6 => walk_at "m slot2"); intro _ _))
local macro_rules | `(tactic| walk_at "m bin") => `(tactic| ((with_reducible refine' c_div ?rZ0 ?rZ1 ?_); (case rZ0 => decide); (case rZ1 => assumption); intro _))
theorem read_mem_does (G : G0 w p loose mean mg mb hb) {σ : Mac} {z : MState} {o : MemOp} {q : Spot} {n : Int} {t : Tok} {N : Nat} (hσ : σ.Is w z) (hz : z.Ok) (ho : o.Is q) (hn : n = 8 ∨ n = 16 ∨ n = 32 ∨ n = 64 ∨ n = 128) (hN : n = 8 * (N : Int)) :
    Does w hb 7 200 438 [.ref σ.st, .ref o.x, .int n t] [] (o.led w ++ σ.led w) (RW (o.led w) fun v b => (∃ t, v = .int (num (bytesAt z.mem (placeZ z q) N)) t) ∧ b = σ.led w) := by
  have hmem := hσ.mem
  have l3 := hz.mem
  obtain ⟨hq, e1, e2⟩ := div8N hn hN
  refine' enterB (binds := [(Str.ofString "self", .ref σ.st), (Str.ofString "operand", .ref o.x), (Str.ofString "size", .int n t)]) (by assumption) ?k6 ?k7 ?k9 ?kB [(Str.ofString "size", .int n t), (Str.ofString "operand", .ref o.x), (Str.ofString "self", .ref σ.st)] rfl ?_ ?c2 ?c3 ?c4 ?c5
  case k6 => k_is
  case k7 => k_is
  case k9 => (intro s hs; first | exact BindsTo.of_eq rfl | exact binds_K (Frag.In.keeps (G0.X (by assumption)) hs) rfl (by k_is) rfl rfl rfl)
  case c5 => decide
  case kB => exact locs rfl
  case c2 => exact rfl
  case c3 => exact rfl
  case c4 => exact rfl
  intro C Q hR fini finn perm env l led he
  repeat (walk_at "m ev")
  refine' c_mread hR rfl hmem l3 e1 e2 ?sl ?_
  case sl => kpt_turns
  intro _ _
  exact fini ⟨_, _, rfl, ⟨⟨_, rfl⟩, rfl⟩, rfl⟩
theorem read_imm_does (G : G0 w p loose mean mg mb hb) {σ : Mac} {x dx : Addr} {a' b c d e f : Tok} {a n : Int} {t : Tok} (h0 : 0 ≤ n) (h1 : n ≤ 128) :
    Does w hb 7 200 438 [.ref σ.st, .ref x, .int n t] [] ([(x, instObj 587 dx), (dx, dictOf [dE w "kind" a' (.str (Str.ofString "imm") b), dE w "worth" c (.int a d), dE w "name" e (.str (Str.ofString "") f)] 3)] ++ σ.led w)
      (fun v led' => (∃ t, v = .int (a % 2 ^ n.toNat) t) ∧ led' = ([(x, instObj 587 dx), (dx, dictOf [dE w "kind" a' (.str (Str.ofString "imm") b), dE w "worth" c (.int a d), dE w "name" e (.str (Str.ofString "") f)] 3)] ++ σ.led w)) := by
  refine' enterB (binds := [(Str.ofString "self", .ref σ.st), (Str.ofString "operand", .ref x), (Str.ofString "size", .int n t)]) (by assumption) ?k6 ?k7 ?k9 ?kB [(Str.ofString "size", .int n t), (Str.ofString "operand", .ref x), (Str.ofString "self", .ref σ.st)] rfl ?_ ?c2 ?c3 ?c4 ?c5
  case k6 => k_is
  case k7 => k_is
  case k9 => (intro s hs; first | exact BindsTo.of_eq rfl | exact binds_K (Frag.In.keeps (G0.X (by assumption)) hs) rfl (by k_is) rfl rfl rfl)
  case c5 => decide
  case kB => exact locs rfl
  case c2 => exact rfl
  case c3 => exact rfl
  case c4 => exact rfl
  intro C Q hR fini finn perm env l led he
  repeat (walk_at "m ev")
  exact fini ⟨⟨_, rfl⟩, rfl⟩
theorem write_mem_does (G : G0 w p loose mean mg mb hb) {σ : Mac} {z : MState} {o : MemOp} {q : Spot} {n x : Int} {t u : Tok} {N : Nat} (hσ : σ.Is w z) (hz : z.Ok) (hlen : z.mem.length ≤ 1000000) (ho : o.Is q) (hn : n = 8 ∨ n = 16 ∨ n = 32 ∨ n = 64 ∨ n = 128) (hN : n = 8 * (N : Int)) :
    Does w hb 7 200 445 [.ref σ.st, .ref o.x, .int n t, .int x u] [] (o.led w ++ σ.led w) (RW (o.led w) fun v b => v = .none ∧ ∃ σ' : Mac, σ'.st = σ.st ∧ σ'.Is w { z with mem := storeN z.mem (placeZ z q) x N } ∧ b = σ'.led w) := by
  have hmem := hσ.mem
  have l3 := hz.mem
  obtain ⟨hq, e1, e2⟩ := div8N hn hN
  refine' enterB (binds := [(Str.ofString "self", .ref σ.st), (Str.ofString "operand", .ref o.x), (Str.ofString "size", .int n t), (Str.ofString "worth", .int x u)]) (by assumption) ?k6 ?k7 ?k9 ?kB [(Str.ofString "worth", .int x u), (Str.ofString "size", .int n t), (Str.ofString "operand", .ref o.x), (Str.ofString "self", .ref σ.st)] rfl ?_ ?c2 ?c3 ?c4 ?c5
  case k6 => k_is
  case k7 => k_is
  case k9 => (intro s hs; first | exact BindsTo.of_eq rfl | exact binds_K (Frag.In.keeps (G0.X (by assumption)) hs) rfl (by k_is) rfl rfl rfl)
  case c5 => decide
  case kB => exact locs rfl
  case c2 => exact rfl
  case c3 => exact rfl
  case c4 => exact rfl
  intro C Q hR fini finn perm env l led he
  repeat (walk_at "m ev")
  refine' c_mwrite hR rfl hmem hlen e1 e2 ?sl ?_
  case sl => kpt_turns
  intro m' hx hm' _
  repeat (walk_at "m ev")
  exact finn ⟨_, σ.ledM w (m'.led w), rfl, ⟨rfl, setMe_is hσ hx hm'⟩, rfl⟩
theorem write_reg_does (G : G0 w p loose mean mg mb hb) {σ : Mac} {z : MState} {r : RegO} {ρ : Rg} {x dx : Addr} {a b c : Tok} {n v : Int} {t u : Tok} (hσ : σ.Is w z) (hz : z.Ok) (hr : r.Is ρ) (ok : ρ.Ok) (hn : n = 8 ∨ n = 16 ∨ n = 32 ∨ n = 64 ∨ n = 128) :
    Does w hb 7 200 445 [.ref σ.st, .ref x, .int n t, .int v u] [] ([(x, instObj 553 dx), (dx, dictOf [dE w "kind" a (.str (Str.ofString "reg") b), dE w "register" c (.ref r.x)] 2)] ++ (r.led w ++ σ.led w))
      (fun v' led' => v' = .none ∧ ∃ σ' : Mac, σ'.st = σ.st ∧ σ'.Is w (putLowZ z ρ n v) ∧ led' = r.led w ++ σ'.led w) := by
  refine' enterB (binds := [(Str.ofString "self", .ref σ.st), (Str.ofString "operand", .ref x), (Str.ofString "size", .int n t), (Str.ofString "worth", .int v u)]) (by assumption) ?k6 ?k7 ?k9 ?kB [(Str.ofString "worth", .int v u), (Str.ofString "size", .int n t), (Str.ofString "operand", .ref x), (Str.ofString "self", .ref σ.st)] rfl ?_ ?c2 ?c3 ?c4 ?c5
  case k6 => k_is
  case k7 => k_is
  case k9 => (intro s hs; first | exact BindsTo.of_eq rfl | exact binds_K (Frag.In.keeps (G0.X (by assumption)) hs) rfl (by k_is) rfl rfl rfl)
  case c5 => decide
  case kB => exact locs rfl
  case c2 => exact rfl
  case c3 => exact rfl
  case c4 => exact rfl
  intro C Q hR fini finn perm env l led he
  repeat (walk_at "m ev")
  refine' c_putLow hR rfl hσ hz hr ok hn rfl ?sl ?_
  case sl => walk_at "m slot2"
  intro σ' e1 e4 _
  repeat (walk_at "m ev")
  refine' perm (t := r.led w ++ σ'.led w) ?ss (finn ⟨rfl, σ', e1, e4, rfl⟩)
  case ss => exact .tail2
noncomputable def pushZ (z : MState) (N : Nat) (x : Int) : MState :=
  { z with regs := z.regs.set 4 ((z.regs.getD 4 0 - N) % 2 ^ 64), mem := storeN z.mem ((z.regs.getD 4 0 - N) % 2 ^ 64) x N }
noncomputable def popZ (z : MState) (N : Nat) : MState := { z with regs := z.regs.set 4 ((z.regs.getD 4 0 + N) % 2 ^ 64) }
theorem push_does (G : G0 w p loose mean mg mb hb) {σ : Mac} {z : MState} {n x : Int} {t u : Tok} {N : Nat} (hσ : σ.Is w z) (hz : z.Ok) (hlen : z.mem.length ≤ 1000000) (hn : n = (N : Int)) (hN : N ≤ 16) :
    Does w hb 7 200 452 [.ref σ.st, .int x u, .int n t] [] (σ.led w) (fun v b => v = .none ∧ ∃ σ' : Mac, σ'.st = σ.st ∧ σ'.Is w (pushZ z N x) ∧ b = σ'.led w) := by
  have hreg := hσ.regs
  have hmem := hσ.mem
  have l1 := hz.regs
  refine' enterB (binds := [(Str.ofString "self", .ref σ.st), (Str.ofString "worth", .int x u), (Str.ofString "width", .int n t)]) (by assumption) ?k6 ?k7 ?k9 ?kB [(Str.ofString "width", .int n t), (Str.ofString "worth", .int x u), (Str.ofString "self", .ref σ.st)] rfl ?_ ?c2 ?c3 ?c4 ?c5
  case k6 => k_is
  case k7 => k_is
  case k9 => (intro s hs; first | exact BindsTo.of_eq rfl | exact binds_K (Frag.In.keeps (G0.X (by assumption)) hs) rfl (by k_is) rfl rfl rfl)
  case c5 => decide
  case kB => exact locs rfl
  case c2 => exact rfl
  case c3 => exact rfl
  case c4 => exact rfl
  intro C Q hR fini finn perm env l led he
  repeat (walk_at "m ev")
  rename IntsAre _ (List.set _ _ _) => hi
  have hlen' : (z.regs.set (Int.toNat 4) ((z.regs.getD (Int.toNat 4) 0 - n) % 2 ^ Int.toNat 64)).length = 16 := by rw [List.length_set]; exact l1
  repeat (walk_at "m ev")
  have hg : (z.regs.set (Int.toNat 4) ((z.regs.getD (Int.toNat 4) 0 - n) % 2 ^ Int.toNat 64)).getD (Int.toNat 4) 0 = (z.regs.getD (Int.toNat 4) 0 - n) % 2 ^ Int.toNat 64 := by
    rw [List.getD_eq_getElem?_getD, List.getElem?_set_self (by rw [l1]; decide)]; rfl
  rw [hg]
  refine' c_mwrite hR rfl hmem hlen hn hN ?sl ?_
  case sl => kpt_turns
  intro m' hx hm' _
  repeat (walk_at "m ev")
  subst hn
  exact finn ⟨rfl, setMe_is (σ := σ.setR _) (z := { z with regs := z.regs.set (Int.toNat 4) ((z.regs.getD (Int.toNat 4) 0 - _) % 2 ^ Int.toNat 64) }) ⟨hi, hσ.xmm, hmem, hσ.rip, hσ.seg⟩ hx hm'⟩
theorem setR_ex {σ : Mac} {z z' : MState} {vs : List Value} {ns : List Int} (h : σ.Is w z) (hi : IntsAre vs ns) (e : z' = { z with regs := ns }) : ∃ σ' : Mac, σ'.st = σ.st ∧ σ'.Is w z' ∧ (σ.setR vs).led w = σ'.led w := by
  subst e; exact ⟨σ.setR vs, rfl, ⟨hi, h.xmm, h.mem, h.rip, h.seg⟩, rfl⟩
theorem pop_does (G : G0 w p loose mean mg mb hb) {σ : Mac} {z : MState} {n : Int} {t : Tok} {N : Nat} (hσ : σ.Is w z) (hz : z.Ok) (hn : n = (N : Int)) (hN : N ≤ 16) :
    Does w hb 7 200 459 [.ref σ.st, .int n t] [] (σ.led w) (fun v b => (∃ t, v = .int (num (bytesAt z.mem (z.regs.getD 4 0) N)) t) ∧ ∃ σ' : Mac, σ'.st = σ.st ∧ σ'.Is w (popZ z N) ∧ b = σ'.led w) := by
  have hreg := hσ.regs
  have hmem := hσ.mem
  have l1 := hz.regs
  have l3 := hz.mem
  refine' enterB (binds := [(Str.ofString "self", .ref σ.st), (Str.ofString "width", .int n t)]) (by assumption) ?k6 ?k7 ?k9 ?kB [(Str.ofString "width", .int n t), (Str.ofString "self", .ref σ.st)] rfl ?_ ?c2 ?c3 ?c4 ?c5
  case k6 => k_is
  case k7 => k_is
  case k9 => (intro s hs; first | exact BindsTo.of_eq rfl | exact binds_K (Frag.In.keeps (G0.X (by assumption)) hs) rfl (by k_is) rfl rfl rfl)
  case c5 => decide
  case kB => exact locs rfl
  case c2 => exact rfl
  case c3 => exact rfl
  case c4 => exact rfl
  intro C Q hR fini finn perm env l led he
  repeat (walk_at "m ev")
  refine' c_mread hR rfl hmem l3 hn hN ?sl ?_
  case sl => kpt_turns
  intro _ _
  repeat (walk_at "m ev")
  rename IntsAre _ (List.set _ _ _) => hi
  subst hn
  exact fini ⟨⟨_, rfl⟩, setR_ex hσ hi rfl⟩
end
-- Rules8
section
variable {w : World} {p : Program} {loose : List Str} {mean : ExcName → Option Value} {mg mb : Str → Option Value} {hb g : Heap} {L : Addr} {W : List Addr} {l : Loc} {news news' led rest : Led} {s₀ s : Shared}
  {A : Around} {E : Value → Shared → Prop} {Q : Value → Shared → Prop} {env : Env} {x : Str} {pos : Pos} {v : Value} {a b k : Int} {t u : Tok} {D T : Addr} {n : Nat} {vs : List Value}
theorem grow_of {h' : Heap} (S : St g L W l news s₀ s) (he : Heap.ExtBut s.heap.objs.size s.heap h') : St g L W l news s₀ { s with heap := h' } :=
  S.grow (fun b o e => he b o (Nat.ne_of_lt (Heap.lt_size e)) e) s.toks
theorem r_unpackItems {k : Nat} {Q : List Value → Shared → Prop} (S : St g L W l news s₀ s) (hm : (T, tupOf vs.toArray n) ∈ news) (hh : A.handled = none) (hk : k = vs.length)
    (h : ∀ s', St g L W l news s₀ s' → Q vs s') : wpAny (model pgm w) A (unpackItems (.ref T) k none) Q E s := by
  have e : k = vs.toArray.size := by simpa using hk
  subst e
  refine unpackItems_tuple hh (S.tup hm) fun h' he => ?_
  exact h _ (grow_of S he)
theorem r_assignTup {elts : List Expr} {x1} {Q : Unit → Shared → Prop} (S : St g L W l news s₀ s) (hm : (T, tupOf vs.toArray n) ∈ news) (hh : A.handled = none)
    (hn : (assignEach elts env).length = vs.length) (hstar : (assignEach elts env).findIdx? (·.1) = none)
    (h : ∀ s', St g L W l news s₀ s' → wpAny (model pgm w) A (assignInOrder ((assignEach elts env).map (·.2)) vs) Q E s') :
    wpAny (model pgm w) A (assign (.Tuple elts x1 pos) env (.ref T)) Q E s :=
  assign_Tuple_tuple hh (S.tup hm) (by simpa using hn) hstar fun h' he => h _ (grow_of S he)
theorem r_divS (G : Gr w p loose mean mg mb hb g) (S : St g L W l news s₀ s) (hp : 0 < b) (hq : b < 1073741824) (h : ∀ t s', St g L W l news s₀ s' → Q (.int (a / b) t) s') : wpAny (model pgm w) A (binaryOp .FloorDiv (.int a t) (.int b u)) Q E s :=
  r_div G S hp (PyProof.noPylong_small (by omega)) h
end
-- Rules9
theorem ints_at {vs : List Value} {ns : List Int} (h : IntsAre vs ns) : ∀ {i : Nat} {v : Value}, vs[i]? = some v → ∃ t, v = .int (ns.getD i 0) t := by
  induction h with
  | nil => intro i v e; simp at e
  | cons n t _ ih =>
    intro i v e
    cases i with
    | zero => simp at e; exact ⟨t, by simp [e]⟩
    | succ i => simp at e; obtain ⟨t', e'⟩ := ih e; exact ⟨t', by simpa using e'⟩
section
variable {w : World} {A : Around} {E : Value → Shared → Prop} {s : Shared} {Q : Value → Shared → Prop} {env : Env} {e : Expr}
theorem r_partN (h : Q .none s) : wpAny (model pgm w) A (evalPart none env) Q E s := wpAny_pure h
theorem r_partS (h : wpAny (model pgm w) A (eval e env) Q E s) : wpAny (model pgm w) A (evalPart (some e) env) Q E s := h
variable {g : Heap} {L : Addr} {W : List Addr} {l : Loc} {news : Led} {s₀ : Shared} {D : Addr} {vs : List Value} {n : Nat} {ns : List Int}
theorem r_forI {target : Expr} {body : List Stmt} {rest : Led} {Q : Flow → Shared → Prop} {Er : Value → Shared → Prop} (hh : A.handled = none) (hi : IntsAre vs ns)
    (S : St g L W l ((D, listOf vs.toArray n) :: rest) s₀ s)
    (J : Nat → Loc → Led → Prop) (hJ : J 0 l rest)
    (turn : ∀ (i : Nat) (t : Tok) (I : Addr) (oI : Obj) (l : Loc) (led : Led) (s : Shared) E', i < ns.length → J i l led → St g L W l ((I, oI) :: (D, listOf vs.toArray n) :: led) s₀ s →
      wpAny (model pgm w) A (assign target env (.int (ns.getD i 0) t)) (fun _ s₂ => wpAny (model pgm w) A (execs body env) (fun f s₃ => match f with
        | .next | .cont => ∃ l' led', J (i + 1) l' led' ∧ St g L W l' ((I, oI) :: (D, listOf vs.toArray n) :: led') s₀ s₃
        | .brk => Q .next s₃
        | .ret v => Q (.ret v) s₃) E' s₂) E' s)
    (fin : ∀ l led s, J ns.length l led → St g L W l ((D, listOf vs.toArray n) :: led) s₀ s → Q .next s)
    (ht : ∀ x v, letOwnedTupleGo target x v = pure () := by intro _ _; rfl) :
    wpAny (model pgm w) A (pyIter (.ref D)) (fun it s' => codeAny (model pgm w) A (.forLoop target it body [] env) (fun r s' => match r with | .ok f => Q f s' | .error e => Er e s') s') E s := by
  refine r_listIt S (.head _) hh fun I o It s' K h0 S' => ?_
  obtain ⟨Wk, hI⟩ := K
  rw [hi.length] at Wk
  refine r_forW (fx := [(D, listOf vs.toArray n)]) Wk (by simp) (by simp) hI J (o₀ := o) (led := rest) S' h0 hJ (fun i v oI l led s E' hlt hP hJ S => ?_) (fun l led s hJ S => fin l led s hJ S) (fun v => ht _ _)
  obtain ⟨t, rfl⟩ := ints_at hi hP
  exact turn i t I oI l led s E' hlt hJ S
end
theorem num_rev_step (ns : List Int) (i : Nat) (h : i < ns.length) : num ((ns.take (i + 1)).reverse) = 256 * num ((ns.take i).reverse) + ns.getD i 0 := by
  rw [List.take_succ_eq_append_getElem h, List.reverse_append]
  have : ns.getD i 0 = ns[i] := by rw [List.getD_eq_getElem?_getD, List.getElem?_eq_getElem h]; rfl
  rw [this]
  show ns[i] + 256 * num (ns.take i).reverse = _
  lia
-- B2
section
variable {w : World} {C : Cx w} {l l' : Loc} {led news : Led} {env : Env} {Q : Value → Loc → Led → Prop} {x : Str} {pos p1 p2 : Pos} {v : Value} {a b c : Int} {t u : Tok} {e : Expr} {es : List Expr} {N U n k : Nat} {o D B T f : Addr} {vs us : List Value} {ns ms : List Int} {value slice : Expr}
theorem c_divS (hp : 0 < b) (hq : b < 1073741824) (h : ∀ t, Q (.int (a / b) t) l led) : Wp C (binaryOp .FloorDiv (.int a t) (.int b u)) Q l led := fun s S => r_divS C.G S hp hq fun t s' S' => ⟨_, _, S', h t⟩
theorem c_mul (hm : IntMulOk a b) (h : ∀ t, Q (.int (a * b) t) l led) : Wp C (binaryOp .Mult (.int a t) (.int b u)) Q l led := fun s S => r_mul S hm fun t s' S' => ⟨_, _, S', h t⟩
theorem c_trueV {Q : Bool → Loc → Led → Prop} (h : let Q' : Value → Loc → Led → Prop := kTruthy C Q; Wp C (eval e env) Q' l led)
    (he : isTrue e env (eval e env) = (do let v ← eval e env; standAt e.pos; holding [v] (truthy v)) := by with_unfolding_all rfl) : Wp C (isTrue e env (eval e env)) Q l led := fun s S =>
  wpAny_isTrue_value (Wp.use h S fun v l' led' s' S' q => q s' S') he
theorem c_cell {cl : Addr} {ob : Obj} (he : EnvOk C env) (hc : env.cells.lookup x = some cl) (hm : (cl, ob) ∈ led) (hd : ob.data = .cell (some v)) (h : Q v l led) (hx : env.kindOf x = some .cell := by with_unfolding_all rfl) (hb : (x == ("__debug__" : Str)) = false := by decide) :
    Wp C (eval (.Name x pos) env) Q l led := fun s S => r_cell S hc hm hd ⟨_, _, S, h⟩ he.k hx hb
-- assignment to tuples of names
noncomputable def namesOf : List Expr → Option (List Str)
  | [] => some []
  | .Name x _ :: r => (namesOf r).map (x :: ·)
  | _ => none
@[reducible] noncomputable def bindAll : List Str → List Value → Loc → Loc
  | x :: xs, v :: vs, l => bindAll xs vs ((x, v) :: l)
  | _, _, l => l
noncomputable def allLoc (env : Env) (xs : List Str) : Bool := xs.all fun x => env.kindOf x == some .local
theorem c_storeRaw {Q : Unit → Loc → Led → Prop} (he : EnvOk C env) (h : Q () ((x, v) :: l) led) (hl : env.kindOf x = some .local) : Wp C (storeName env x v) Q l led := fun s S =>
  r_store S (fun s' S' => ⟨_, _, S', h⟩) he.k he.L hl
theorem loc_cons {env : Env} {x : Str} {xs : List Str} (h : allLoc env (x :: xs) = true) : env.kindOf x = some .local ∧ allLoc env xs = true := by
  have h : ((env.kindOf x == some .local) && allLoc env xs) = true := h
  rw [Bool.and_eq_true] at h
  exact ⟨by simpa using h.1, h.2⟩
theorem namesOf_cons {e : Expr} {r : List Expr} {xs : List Str} (h : namesOf (e :: r) = some xs) : ∃ x p ys, e = .Name x p ∧ namesOf r = some ys ∧ xs = x :: ys := by
  cases e <;> first
    | (cases h; done)
    | (obtain ⟨ys, hy, e⟩ := Option.map_eq_some_iff.mp h; exact ⟨_, _, ys, rfl, hy, e.symm⟩)
theorem asgNames (he : EnvOk C env) {elts : List Expr} : ∀ {xs : List Str} {vs : List Value} {l : Loc} {Q : Unit → Loc → Led → Prop}, namesOf elts = some xs → xs.length = vs.length → allLoc env xs = true → Q () (bindAll xs vs l) led → Wp C (assignInOrder ((assignEach elts env).map (·.2)) vs) Q l led := by
  induction elts with
  | nil =>
    intro xs vs l Q hx hn hl h
    cases hx
    cases vs with
    | nil => exact fun s S => assignInOrder_nil ⟨_, _, S, h⟩
    | cons _ _ => cases hn
  | cons e r ih =>
    intro xs vs l Q hx hn hl h
    obtain ⟨x, p, ys, rfl, hy, rfl⟩ := namesOf_cons hx
    cases vs with
    | nil => cases hn
    | cons v vs =>
      have hl2 := loc_cons hl
      refine fun s S => assignInOrder_cons (Wp.use (c_assignNm (c_storeRaw (Q := fun _ l' led' => l' = (x, v) :: l ∧ led' = led) he ⟨rfl, rfl⟩ hl2.1)) S fun _ l' led' s' S' q => ?_)
      obtain ⟨rfl, rfl⟩ := q
      exact ih hy (Nat.succ.inj hn) hl2.2 h s' S'
theorem bindNames (he : EnvOk C env) {xs : List Str} : ∀ {vs : List Value} {l : Loc} {Q : Unit → Loc → Led → Prop}, xs.length = vs.length → allLoc env xs = true → Q () (bindAll xs vs l) led → Wp C (assignInOrder (xs.map fun n => bindName env n) vs) Q l led := by
  induction xs with
  | nil =>
    intro vs l Q hn hl h
    cases vs with
    | nil => exact fun s S => assignInOrder_nil ⟨_, _, S, h⟩
    | cons _ _ => cases hn
  | cons x r ih =>
    intro vs l Q hn hl h
    cases vs with
    | nil => cases hn
    | cons v vs =>
      have hl2 := loc_cons hl
      refine fun s S => assignInOrder_cons (bindName_ (Wp.use (c_storeRaw (Q := fun _ l' led' => l' = (x, v) :: l ∧ led' = led) he ⟨rfl, rfl⟩ hl2.1) S fun _ l' led' s' S' q => ?_))
      obtain ⟨rfl, rfl⟩ := q
      exact ih (Nat.succ.inj hn) hl2.2 h s' S'
@[reducible] noncomputable def kAsgT (C : Cx w) (env : Env) (elts : List Expr) (m : Nat) (p : Pos) (Q : Flow → Loc → Led → Prop) : Value → Loc → Led → Prop := fun v l led => Wp C (assign (.Tuple elts m p) env v) (kNext Q) l led
theorem c_assignT {elts : List Expr} {m : Nat} {Q : Flow → Loc → Led → Prop} (h : let Q' : Value → Loc → Led → Prop := kAsgT C env elts m p1 Q; Wp C (eval e env) Q' l led) (hs : swapsWithSole [.Tuple elts m p1] e pos.line env = Pure.pure false := by with_unfolding_all rfl)
    (hw : swappedStores [.Tuple elts m p1] e env = Pure.pure none := by with_unfolding_all rfl) : Wp C (exec (.Assign [.Tuple elts m p1] e pos) env) Q l led := fun s S =>
  Assign_Tuple (Wp.use h S fun v l' led' s' S' q => Wp.use q S' fun _ _ _ _ S2 q2 => ⟨_, _, S2, q2⟩) hs hw
noncomputable def Swap (C : Cx w) (env : Env) (names : List Str) (Q : Flow → Loc → Led → Prop) (v : Value) (l : Loc) (led : Led) : Prop :=
  ∀ s, C.S l led s → wpAny (model pgm w) C.A (unpackItems v names.length none) (fun items s₂ => wpAny (model pgm w) C.A (assignInOrder (names.reverse.map fun n => bindName env n) items.reverse) (fun _ s' => ∃ l' led', C.S l' led' s' ∧ Q .next l' led') (fun _ _ => False) s₂) (fun _ _ => False) s
theorem c_assignSw {elts : List Expr} {names : List Str} {m : Nat} {Q : Flow → Loc → Led → Prop} (h : let Q' : Value → Loc → Led → Prop := Swap C env names Q; Wp C (eval e env) Q' l led) (hs : swapsWithSole [.Tuple elts m p1] e pos.line env = Pure.pure false := by with_unfolding_all rfl)
    (hw : swappedStores [.Tuple elts m p1] e env = Pure.pure (some names) := by with_unfolding_all rfl) : Wp C (exec (.Assign [.Tuple elts m p1] e pos) env) Q l led := fun s S =>
  Assign_Tuple_swapped (Wp.use h S fun v l' led' s' S' q => q s' S') hs hw
theorem swap {names : List Str} {Q : Flow → Loc → Led → Prop} (he : EnvOk C env) (hm : (T, tupOf vs.toArray n) ∈ led) (hn : names.length = vs.length) (h : let l' : Loc := bindAll names.reverse vs.reverse l; Q .next l' led) (hl : allLoc env names.reverse = true := by with_unfolding_all rfl) :
    Swap C env names Q (.ref T) l led := fun s S =>
  r_unpackItems S hm C.hh hn fun s' S' => Wp.use (bindNames (Q := fun _ l' led' => Q .next l' led') he (by simpa using hn) hl h) S' fun _ l1 led1 s1 S1 q => ⟨_, _, S1, q⟩
theorem names_each {elts : List Expr} : ∀ {xs : List Str}, namesOf elts = some xs → (assignEach elts env).length = xs.length ∧ (assignEach elts env).findIdx? (·.1) = none := by
  induction elts with
  | nil => intro xs h; cases h; exact ⟨rfl, rfl⟩
  | cons e r ih =>
    intro xs h
    obtain ⟨x, p, ys, rfl, hy, rfl⟩ := namesOf_cons h
    obtain ⟨h1, h2⟩ := ih hy
    refine ⟨congrArg Nat.succ h1, ?_⟩
    show List.findIdx? (·.1) ((false, _) :: assignEach r env) = none
    rw [List.findIdx?_cons, if_neg Bool.false_ne_true, h2]; rfl
theorem c_asgT {elts : List Expr} {m : Nat} {xs : List Str} {Q : Unit → Loc → Led → Prop} (he : EnvOk C env) (hm : (T, tupOf vs.toArray n) ∈ led) (hx : namesOf elts = some xs) (hn : xs.length = vs.length) (h : let l' : Loc := bindAll xs vs l; Q () l' led) (hl : allLoc env xs = true) :
    Wp C (assign (.Tuple elts m pos) env (.ref T)) Q l led := fun s S =>
  r_assignTup S hm C.hh ((names_each hx).1.trans hn) (names_each hx).2 fun s' S' => asgNames he hx hn hl h s' S'

-- slices
noncomputable def SlW (C : Cx w) (value slice : Expr) (o i j k : Value) (Q : Value → Loc → Led → Prop) (l : Loc) (led : Led) : Prop :=
  ∀ s, C.S l led s → wpAny (model pgm w) C.A (subscriptTail value slice o (.ref s.heap.objs.size)) (fun v s' => ∃ l' led', C.S l' led' s' ∧ Q v l' led') (fun _ _ => False) { s with heap := s.heap.push { cls := .type "slice", data := .fields #[i, j, k] } }
@[reducible] noncomputable def kSl3 (C : Cx w) (value slice : Expr) (o i j : Value) (Q : Value → Loc → Led → Prop) : Value → Loc → Led → Prop := fun k l led => SlW C value slice o i j k Q l led
@[reducible] noncomputable def kSl2 (C : Cx w) (env : Env) (value slice : Expr) (st : Option Expr) (o i : Value) (Q : Value → Loc → Led → Prop) : Value → Loc → Led → Prop := fun j l led => Wp C (evalPart st env) (kSl3 C value slice o i j Q) l led
@[reducible] noncomputable def kSl1 (C : Cx w) (env : Env) (value slice : Expr) (up st : Option Expr) (o : Value) (Q : Value → Loc → Led → Prop) : Value → Loc → Led → Prop := fun i l led => Wp C (evalPart up env) (kSl2 C env value slice st o i Q) l led
@[reducible] noncomputable def kSl0 (C : Cx w) (env : Env) (value slice : Expr) (lo up st : Option Expr) (Q : Value → Loc → Led → Prop) : Value → Loc → Led → Prop := fun o l led => Wp C (evalPart lo env) (kSl1 C env value slice up st o Q) l led
theorem c_slice {lo up st : Option Expr} (h : let Q' : Value → Loc → Led → Prop := kSl0 C env value (.Slice lo up st p1) lo up st Q; Wp C (eval value env) Q' l led) : Wp C (eval (.Subscript value (.Slice lo up st p1) pos) env) Q l led := fun s S =>
  Subscript_ (Wp.use h S fun o l0 led0 s0 S0 q0 => wpAny_Slice (Wp.use q0 S0 fun i l1 led1 s1 S1 q1 => Wp.use q1 S1 fun j l2 led2 s2 S2 q2 => Wp.use q2 S2 fun k l3 led3 s3 S3 q3 => q3 s3 S3))
theorem slName {slice : Expr} {o i : Value} {Q : Value → Shared → Prop} {A : Around} {E : Value → Shared → Prop} {s : Shared} (h : wpAny (model pgm w) A (subscriptTail (.Name (Str.ofString "_") ⟨0, 0, 0, 0⟩) slice o i) Q E s) : wpAny (model pgm w) A (subscriptTail value slice o i) Q E s :=
  kba_turn (value' := .Name (Str.ofString "_") ⟨0, 0, 0, 0⟩) (fun _ => rfl) h
theorem c_slAB {lo up : Option Expr} (hm : (D, listOf vs.toArray n) ∈ led) (hi : IntsAre vs ns) (h0 : 0 ≤ a) (h1 : 0 ≤ b) (hz : vs.length ≤ sizeLine)
    (h : ∀ (B : Addr) (ws : List Value), IntsAre ws ((ns.drop a.toNat).take (min b.toNat ns.length - a.toNat)) → let led' : Led := (B, listOf ws.toArray 0) :: led; Q (.ref B) l led') : SlW C value (.Slice lo up none p1) (.ref D) (.int a t) (.int b u) .none Q l led := fun s S =>
  slName (r_slice S (S.lst hm) hi h0 h1 hz (fun B ws s' _ hw S' => ⟨_, _, S', h B ws hw⟩) rfl (fun _ => rfl))
theorem c_slRev {lo up : Option Expr} {st : Expr} (hm : (D, listOf vs.toArray n) ∈ led) (hz : vs.length ≤ sizeLine) (h : ∀ (B : Addr), let led' : Led := (B, listOf vs.reverse.toArray 0) :: led; Q (.ref B) l led') :
    SlW C value (.Slice lo up (some st) p1) (.ref D) .none .none (.int (-1) u) Q l led := fun s S =>
  slName (r_rev S (S.lst hm) hz (fun B s' _ S' => ⟨_, _, S', h B⟩) rfl (fun _ => rfl))
theorem c_partN (h : Q .none l led) : Wp C (evalPart none env) Q l led := fun s S => r_partN ⟨_, _, S, h⟩
theorem c_partS (h : Wp C (eval e env) Q l led) : Wp C (evalPart (some e) env) Q l led := fun s S => r_partS (h s S)
-- loops
section
variable {target : Expr} {body : List Stmt} {Q : Flow → Loc → Led → Prop}
@[reducible] noncomputable def kTurn2 (q q2 : Addr × Obj) (J : Loc → Led → Prop) (Q : Flow → Loc → Led → Prop) : Flow → Loc → Led → Prop := fun f l led => match f with | .next | .cont => Turn q (fun l t => ∃ t', t = q2 :: t' ∧ J l t') l led | .brk => Q .next l led | .ret v => Q (.ret v) l led
theorem Turn.of2 {q q2 : Addr × Obj} {J : Loc → Led → Prop} {l : Loc} {t : Led} (h : J l t) : Turn q (fun l t => ∃ t', t = q2 :: t' ∧ J l t') l (q :: q2 :: t) := ⟨q2 :: t, .refl _, t, rfl, h⟩
theorem Turn.sub2 {q q2 : Addr × Obj} {J : Loc → Led → Prop} {l : Loc} {led t : Led} (hs : SubL (q :: q2 :: t) led) (h : J l t) : Turn q (fun l t => ∃ t', t = q2 :: t' ∧ J l t') l led := ⟨q2 :: t, hs, t, rfl, h⟩
@[reducible] noncomputable def kBody2 (C : Cx w) (env : Env) (body : List Stmt) (q q2 : Addr × Obj) (J : Loc → Led → Prop) (Q : Flow → Loc → Led → Prop) : Unit → Loc → Led → Prop := fun _ l led => Wp C (execs body env) (kTurn2 q q2 J Q) l led
theorem c_forI (hi : IntsAre vs ns) (J : Nat → Loc → Led → Prop) (hJ : J 0 l news)
    (turn : ∀ (i : Nat) (t : Tok) (I : Addr) (oI : Obj) (l : Loc) (led : Led), i < ns.length → J i l led → let Q' : Unit → Loc → Led → Prop := kBody2 C env body (I, oI) (D, listOf vs.toArray n) (J (i + 1)) Q; let led' : Led := (I, oI) :: (D, listOf vs.toArray n) :: led; Wp C (assign target env (.int (ns.getD i 0) t)) Q' l led')
    (fin : ∀ l led, J ns.length l led → let led' : Led := (D, listOf vs.toArray n) :: led; Q .next l led') (ht : ∀ x v, letOwnedTupleGo target x v = Pure.pure () := by intro _ _; with_unfolding_all rfl) :
    ForW C env target body Q (.ref D) l ((D, listOf vs.toArray n) :: news) := fun s S =>
  r_forI (Q := fun f s' => ∃ l' led', C.S l' led' s' ∧ Q f l' led') C.hh hi S J hJ (fun i t I oI l led s E' hlt hj S => Wp.use (turn i t I oI l led hlt hj) S fun _ l1 led1 s1 S1 q => Wp.use q S1 fun f l2 led2 s2 S2 q2 => by
    cases f with
    | next => obtain ⟨t, hs, t', rfl, j⟩ := q2; exact ⟨l2, t', j, hs.st S2⟩
    | cont => obtain ⟨t, hs, t', rfl, j⟩ := q2; exact ⟨l2, t', j, hs.st S2⟩
    | brk => exact ⟨_, _, S2, q2⟩
    | ret v => exact ⟨_, _, S2, q2⟩) (fun l led s hj S => ⟨_, _, S, fin l led hj⟩) ht
end
end
-- F10
local macro_rules | `(tactic| walk_at "m exec") => `(tactic| first | (with_reducible refine c_assignT ?_; intro _) | (with_reducible refine c_assignSw ?_; intro _))
local macro_rules | `(tactic| walk_at "m bin") => `(tactic| ((with_reducible refine' c_divS ?sZ0 ?sZ1 ?_); (case sZ0 => decide); (case sZ1 => decide); intro _))
local macro_rules | `(tactic| walk_at "m call") => `(tactic| ((with_reducible refine' c_len ?tZ0 ?tZ1 ?_); (case tZ0 => lcg_off); (case tZ1 => kwd_rel); intro _))
local macro_rules | `(tactic| walk_at "m true") => `(tactic| (with_reducible refine c_trueV ?_; intro _))
local macro_rules | `(tactic| walk_at "m ev") => `(tactic| first
  | ((with_reducible refine' swap ?uZ0 ?uZ1 ?uZ2 ?_); (case uZ0 => assumption); (case uZ1 => lcg_off); (case uZ2 => exact rfl); intro _)
  | ((with_reducible refine' c_asgT ?uZ0 ?uZ1 ?uZ2 ?uZ3 ?_ ?uZ4); (case uZ0 => assumption); (case uZ1 => lcg_off); (case uZ2 => exact rfl); (case uZ3 => exact rfl); (case uZ4 => exact rfl); intro _)
  | ((with_reducible refine' c_item ?uZ0 ?uZ1 ?uZ2 ?uZ3 ?_); (case uZ0 => lcg_off); (case uZ1 => decide); (case uZ2 => decide); (case uZ3 => exact rfl))
  | ((with_reducible refine' c_titem ?uZ0 ?uZ1 ?uZ2 ?uZ3 ?_); (case uZ0 => lcg_off); (case uZ1 => decide); (case uZ2 => decide); (case uZ3 => exact rfl))
  | ((with_reducible refine' c_setItem ?uZ0 ?uZ1 ?uZ2 ?uZ3 ?_); (case uZ0 => lcg_src); (case uZ1 => decide); (case uZ2 => (simp only [List.length_cons, List.length_nil]; omega)); (case uZ3 => decide); intro _))
section
variable {w : World} {p : Program} {loose : List Str} {mean : ExcName → Option Value} {mg mb : Str → Option Value} {hb : Heap}
structure PenO where
  pn : Addr
  la : Addr
  k : Int
  seed : Int
  t0 : Tok
  t1 : Tok
  np : Nat
  nl : Nat
  svs : List Value
  ns : List Int
noncomputable abbrev PenO.led (w : World) (P : PenO) : Led := [(P.pn, listOf [Value.ref P.la, .int P.k P.t0, .int P.seed P.t1].toArray P.np), (P.la, listOf P.svs.toArray P.nl)]
structure PenO.Ok (P : PenO) : Prop where
  arr : IntsAre P.svs P.ns
  len : P.ns.length ≤ 48
  k0 : 0 ≤ P.k
  bits : ∀ n ∈ P.ns, Builtin.Int.intBits n ≤ 2 ^ 20
theorem all_does (G : G0 w p loose mean mg mb hb) : Does w hb 1 10 649 [] [] [] (fun v led' => (∃ t, v = .int (2 ^ 64) t) ∧ led' = []) := by
  refine' enterB (binds := []) (by assumption) ?k6 ?k7 ?k9 ?kB [] rfl ?_ ?c2 ?c3 ?c4 ?c5
  case k6 => k_is
  case k7 => k_is
  case k9 => (intro s hs; first | exact BindsTo.of_eq rfl | exact binds_K (Frag.In.keeps (G0.X (by assumption)) hs) rfl (by k_is) rfl rfl rfl)
  case c5 => decide
  case kB => exact locs rfl
  case c2 => exact rfl
  case c3 => exact rfl
  case c4 => exact rfl
  intro C Q hR fini finn perm env l led he
  repeat (walk_at "m ev")
  exact fini ⟨⟨_, rfl⟩, rfl⟩
theorem raw_does (G : G0 w p loose mean mg mb hb) {P : PenO} (hP : P.Ok) : Does w hb 1 20 656 [.ref P.pn] [] (P.led w) (fun v led' => ∃ P' : PenO, P'.pn = P.pn ∧ P'.Ok ∧ (∃ x t, v = .int x t ∧ Builtin.Int.intBits x ≤ 2 ^ 20) ∧ led' = P'.led w) := by
  have h1 := hP.arr
  have h2 := hP.len
  have h3 := hP.k0
  have h4 := hP.bits
  have hl := h1.length
  have hl2 : P.svs.length ≤ 16777216 := by lia
  refine' enterB (binds := [(Str.ofString "pen", .ref P.pn)]) (by assumption) ?k6 ?k7 ?k9 ?kB [(Str.ofString "pen", .ref P.pn)] rfl ?_ ?c2 ?c3 ?c4 ?c5
  case k6 => k_is
  case k7 => k_is
  case k9 => (intro s hs; first | exact BindsTo.of_eq rfl | exact binds_K (Frag.In.keeps (G0.X (by assumption)) hs) rfl (by k_is) rfl rfl rfl)
  case c5 => decide
  case kB => exact locs rfl
  case c2 => exact rfl
  case c3 => exact rfl
  case c4 => exact rfl
  intro C Q hR fini finn perm env l led he
  repeat (walk_at "m ev")
  have bits : ∀ {a : Int}, 0 ≤ a → a < 2 ^ 30 → Builtin.Int.intBits a ≤ 2 ^ 20 := fun h h' => Nat.le_trans (intBits_le_64 (by lia) (by lia)) (by decide)
  refine r_iteD (fun hlt1 => ?_) fun hge => ?_
  ·
    repeat (walk_at "m ev")
    have hm : P.ns.getD P.k.toNat 0 ∈ P.ns := by
      rw [List.getD_eq_getElem?_getD, List.getElem?_eq_getElem (by lia)]
      exact List.getElem_mem _
    exact fini ⟨{ P with k := P.k + 1, t0 := _ }, rfl, ⟨h1, h2, by show 0 ≤ P.k + 1; lia, h4⟩, ⟨_, _, rfl, h4 _ hm⟩, rfl⟩
  ·
    repeat (walk_at "m ev")
    exact fini ⟨{ P with k := P.k + 1, t0 := _ }, rfl, ⟨h1, h2, by show 0 ≤ P.k + 1; lia, h4⟩, ⟨_, _, rfl, bits (by lia) (by lia)⟩, rfl⟩
section
variable {C : Cx w} {l : Loc} {led : Led} {Q : Value → Loc → Led → Prop} {N U : Nat} {P : PenO} {fl : Led → Led}
theorem c_raw {a : Addr} (hR : Room C N U) (hle : (Nat.ble 1 N && Nat.ble 20 U) = true) (hP : P.Ok) (ha : P.pn = a) (sl : Slot (P.led w) led fl)
    (k : ∀ (P' : PenO) x t, P'.Ok → P'.pn = a → Builtin.Int.intBits x ≤ 2 ^ 20 → let led' : Led := fl (P'.led w); Q (.int x t) l led') : Wp C (call (.ref 656) [.ref a]) Q l led := by
  subst ha
  exact c_does (raw_does C.G₀ hP) sl hR hle (by rintro _ _ ⟨P', e1, e2, ⟨x, t, rfl, h⟩, rfl⟩; exact k P' x t e2 e1 h)
end
theorem draw_does (G : G0 w p loose mean mg mb hb) {P : PenO} {m : Int} {t : Tok} (hP : P.Ok) (hm : 0 < m) : Does w hb 2 40 663 [.ref P.pn, .int m t] [] (P.led w) (fun v led' => ∃ P' : PenO, P'.pn = P.pn ∧ P'.Ok ∧ (∃ x t, v = .int x t ∧ 0 ≤ x ∧ x < m) ∧ led' = P'.led w) := by
  refine' enterB (binds := [(Str.ofString "pen", .ref P.pn), (Str.ofString "many", .int m t)]) (by assumption) ?k6 ?k7 ?k9 ?kB [(Str.ofString "many", .int m t), (Str.ofString "pen", .ref P.pn)] rfl ?_ ?c2 ?c3 ?c4 ?c5
  case k6 => k_is
  case k7 => k_is
  case k9 => (intro s hs; first | exact BindsTo.of_eq rfl | exact binds_K (Frag.In.keeps (G0.X (by assumption)) hs) rfl (by k_is) rfl rfl rfl)
  case c5 => decide
  case kB => exact locs rfl
  case c2 => exact rfl
  case c3 => exact rfl
  case c4 => exact rfl
  intro C Q hR fini finn perm env l led he
  repeat (walk_at "m ev")
  refine' c_raw hR rfl hP rfl ?sl ?_
  case sl => kpt_turns
  intro P' x tx e2 e1 _ _
  repeat (walk_at "m ev")
  exact fini ⟨P', e1, e2, ⟨_, _, rfl, Int.emod_nonneg _ (by lia), Int.emod_lt_of_pos _ hm⟩, rfl⟩
section
variable {C : Cx w} {l : Loc} {led : Led} {Q : Value → Loc → Led → Prop} {N U : Nat} {P : PenO} {fl : Led → Led}
theorem c_draw {m : Int} {t : Tok} {a : Addr} (hR : Room C N U) (hle : (Nat.ble 2 N && Nat.ble 40 U) = true) (hP : P.Ok) (ha : P.pn = a) (sl : Slot (P.led w) led fl) (hm : 0 < m)
    (k : ∀ (P' : PenO) x t, P'.Ok → P'.pn = a → 0 ≤ x ∧ x < m → let led' : Led := fl (P'.led w); Q (.int x t) l led') : Wp C (call (.ref 663) [.ref a, .int m t]) Q l led := by
  subst ha
  exact c_does (draw_does C.G₀ hP hm) sl hR hle (by rintro _ _ ⟨P', e1, e2, ⟨x, t, rfl, h0, h1⟩, rfl⟩; exact k P' x t e2 e1 ⟨h0, h1⟩)
theorem c_gpr {n z : Int} {t u : Tok} (hR : Room C N U) (hle : (Nat.ble 3 N && Nat.ble 100 U) = true) (h0 : 0 ≤ n) (h1 : n ≤ 15) (hz : z = 8 ∨ z = 16 ∨ z = 32 ∨ z = 64) (k : ∀ r : RegO, r.Is ⟨.gpr, n, z⟩ → let led' : Led := r.led w ++ led; Q (.ref r.x) l led') :
    Wp C (call (.ref 248) [.int n t, .int z u]) Q l led := c_does (gpr_does C.G₀ h0 h1 hz) .c0 hR hle (by rintro _ _ ⟨r, rfl, e1, e2, e3, rfl⟩; exact k r ⟨e1, e2, e3⟩)
theorem c_high {n : Int} {t : Tok} (hR : Room C N U) (hle : (Nat.ble 3 N && Nat.ble 100 U) = true) (h0 : 4 ≤ n) (h1 : n ≤ 7) (k : ∀ r : RegO, r.Is ⟨.high, n, 8⟩ → let led' : Led := r.led w ++ led; Q (.ref r.x) l led') :
    Wp C (call (.ref 255) [.int n t]) Q l led := c_does (high_does C.G₀ h0 h1) .c0 hR hle (by rintro _ _ ⟨r, rfl, e1, e2, e3, rfl⟩; exact k r ⟨e1, e2, e3⟩)
theorem c_xmm {n : Int} {t : Tok} (hR : Room C N U) (hle : (Nat.ble 3 N && Nat.ble 100 U) = true) (h0 : 0 ≤ n) (h1 : n ≤ 15) (k : ∀ r : RegO, r.Is ⟨.xmm, n, 128⟩ → let led' : Led := r.led w ++ led; Q (.ref r.x) l led') :
    Wp C (call (.ref 262) [.int n t]) Q l led := c_does (xmm_does C.G₀ h0 h1) .c0 hR hle (by rintro _ _ ⟨r, rfl, e1, e2, e3, rfl⟩; exact k r ⟨e1, e2, e3⟩)
theorem c_ripReg (hR : Room C N U) (hle : (Nat.ble 3 N && Nat.ble 100 U) = true) (k : ∀ r : RegO, r.Is ⟨.rip, 0, 64⟩ → let led' : Led := r.led w ++ led; Q (.ref r.x) l led') :
    Wp C (call (.ref 269) []) Q l led := c_does (rip_does C.G₀) .c0 hR hle (by rintro _ _ ⟨r, rfl, e1, e2, e3, rfl⟩; exact k r ⟨e1, e2, e3⟩)
theorem c_all (hR : Room C N U) (hle : (Nat.ble 1 N && Nat.ble 10 U) = true) (k : ∀ t, Q (.int (2 ^ 64) t) l led) : Wp C (call (.ref 649) []) Q l led := c_does0 (all_does C.G₀) hR hle (by rintro _ ⟨t, rfl⟩; exact k t)
end
local macro_rules | `(tactic| walk_at "m call") => `(tactic| first
  | ((with_reducible refine' c_raw ?vZ0 ?vZ1 ?vZ2 ?vZ3 ?vZ4 ?_); (case vZ0 => assumption); (case vZ1 => exact rfl); (case vZ2 => assumption); (case vZ3 => assumption); (case vZ4 => kpt_turns); intro _ _ _ _ _ _ _)
  | ((with_reducible refine' c_draw ?vZ0 ?vZ1 ?vZ2 ?vZ3 ?vZ4 ?vZ5 ?_); (case vZ0 => assumption); (case vZ1 => exact rfl); (case vZ2 => assumption); (case vZ3 => assumption); (case vZ4 => kpt_turns); (case vZ5 => first | decide | omega); intro _ _ _ _ _ _ _))
local macro_rules | `(tactic| walk_at "m ints") => `(tactic| first | exact IntsAre.nil | ((refine' IntsAre.cons _ _ ?wZ0); (case wZ0 => walk_at "m ints")))
local macro_rules | `(tactic| walk_at "m ev") => `(tactic| ((fail_if_success (fail_if_success (with_reducible show Wp _ (subscriptTail (Expr.List _ _) _ _ _) _ _ _))); (with_reducible refine' c_iget ?xZ0 ?xZ1 ?xZ2 ?xZ3 ?xZ4 ?_); (case xZ0 => lcg_off); (case xZ1 => walk_at "m ints"); (case xZ2 => kwd_rel); (case xZ3 => (simp only [List.length_cons, List.length_nil]; omega)); (case xZ4 => omega); intro _))
theorem worth_does (G : G0 w p loose mean mg mb hb) {P : PenO} (hP : P.Ok) : Does w hb 3 60 670 [.ref P.pn] [] (P.led w) (fun v led' => ∃ P' : PenO, P'.pn = P.pn ∧ P'.Ok ∧ (∃ x t, v = .int x t) ∧ led' = P'.led w) := by
  have hpn : P.pn = P.pn := rfl
  refine' enterB (binds := [(Str.ofString "pen", .ref P.pn)]) (by assumption) ?k6 ?k7 ?k9 ?kB [(Str.ofString "pen", .ref P.pn)] rfl ?_ ?c2 ?c3 ?c4 ?c5
  case k6 => k_is
  case k7 => k_is
  case k9 => (intro s hs; first | exact BindsTo.of_eq rfl | exact binds_K (Frag.In.keeps (G0.X (by assumption)) hs) rfl (by k_is) rfl rfl rfl)
  case c5 => decide
  case kB => exact locs rfl
  case c2 => exact rfl
  case c3 => exact rfl
  case c4 => exact rfl
  intro C Q hR fini finn perm env l led he
  repeat (walk_at "m ev")
  refine' c_mul ?hm ?_
  case hm => exact IntMulOk.of_le (m := 2 ^ 20) (n := 128) (by assumption) (intBits_le_iff.mpr (by decide)) (by decide)
  intro _
  repeat (walk_at "m ev")
  rename PenO.Ok _ => q1
  rename PenO.pn _ = _ => q2
  rename PenO => P2
  refine' perm (t := P2.led w) ?ss (fini ⟨P2, q2, q1, ⟨_, _, rfl⟩, rfl⟩)
  case ss => walk_at "m pk"
section
variable {C : Cx w} {l : Loc} {led : Led} {Q : Value → Loc → Led → Prop} {N U : Nat} {P : PenO} {fl : Led → Led}
theorem c_worth {a : Addr} (hR : Room C N U) (hle : (Nat.ble 3 N && Nat.ble 60 U) = true) (hP : P.Ok) (ha : P.pn = a) (sl : Slot (P.led w) led fl)
    (k : ∀ (P' : PenO) x t, P'.Ok → P'.pn = a → let led' : Led := fl (P'.led w); Q (.int x t) l led') : Wp C (call (.ref 670) [.ref a]) Q l led := by
  subst ha
  exact c_does (worth_does C.G₀ hP) sl hR hle (by rintro _ _ ⟨P', e1, e2, ⟨x, t, rfl⟩, rfl⟩; exact k P' x t e2 e1)
end
end
-- F11
local macro_rules | `(tactic| walk_at "m call") => `(tactic| first
  | ((with_reducible refine' c_raw ?yZ0 ?yZ1 ?yZ2 ?yZ3 ?yZ4 ?_); (case yZ0 => assumption); (case yZ1 => exact rfl); (case yZ2 => assumption); (case yZ3 => assumption); (case yZ4 => kpt_turns); intro _ _ _ _ _ _ _)
  | ((with_reducible refine' c_draw ?yZ0 ?yZ1 ?yZ2 ?yZ3 ?yZ4 ?yZ5 ?_); (case yZ0 => assumption); (case yZ1 => exact rfl); (case yZ2 => assumption); (case yZ3 => assumption); (case yZ4 => kpt_turns); (case yZ5 => first | decide | omega); intro _ _ _ _ _ _ _)
  | ((with_reducible refine' c_worth ?yZ0 ?yZ1 ?yZ2 ?yZ3 ?yZ4 ?_); (case yZ0 => assumption); (case yZ1 => exact rfl); (case yZ2 => assumption); (case yZ3 => assumption); (case yZ4 => kpt_turns); intro _ _ _ _ _ _)
  | ((with_reducible refine' c_gpr ?yZ0 ?yZ1 ?yZ2 ?yZ3 ?yZ4 ?_); (case yZ0 => assumption); (case yZ1 => exact rfl); (case yZ2 => kwd_rel); (case yZ3 => kwd_rel); (case yZ4 => kwd_rel); intro _ _ _)
  | ((with_reducible refine' c_high ?yZ0 ?yZ1 ?yZ2 ?yZ3 ?_); (case yZ0 => assumption); (case yZ1 => exact rfl); (case yZ2 => kwd_rel); (case yZ3 => kwd_rel); intro _ _ _)
  | ((with_reducible refine' c_xmm ?yZ0 ?yZ1 ?yZ2 ?yZ3 ?_); (case yZ0 => assumption); (case yZ1 => exact rfl); (case yZ2 => kwd_rel); (case yZ3 => kwd_rel); intro _ _ _)
  | ((with_reducible refine' c_ripReg ?yZ0 ?yZ1 ?_); (case yZ0 => assumption); (case yZ1 => exact rfl); intro _ _ _)
  | ((with_reducible refine' c_all ?yZ0 ?yZ1 ?_); (case yZ0 => assumption); (case yZ1 => exact rfl); intro _))
local macro_rules | `(tactic| walk_at "m ints") => `(tactic| first | exact IntsAre.nil | ((refine' IntsAre.cons _ _ ?zZ0); (case zZ0 => walk_at "m ints")))
local macro_rules | `(tactic| walk_at "m ev") => `(tactic| ((fail_if_success (fail_if_success (with_reducible show Wp _ (subscriptTail (Expr.List _ _) _ _ _) _ _ _))); (with_reducible refine' c_iget ?AZ0 ?AZ1 ?AZ2 ?AZ3 ?AZ4 ?_); (case AZ0 => lcg_off); (case AZ1 => walk_at "m ints"); (case AZ2 => kwd_rel); (case AZ3 => (simp only [List.length_cons, List.length_nil]; omega)); (case AZ4 => omega); intro _))
section
variable {w : World} {p : Program} {loose : List Str} {mean : ExcName → Option Value} {mg mb : Str → Option Value} {hb : Heap}
theorem size4 {y : Int} (h0 : 0 ≤ y) (h1 : y < 4) : ([8, 16, 32, 64] : List Int).getD y.toNat 0 = 8 ∨ ([8, 16, 32, 64] : List Int).getD y.toNat 0 = 16 ∨ ([8, 16, 32, 64] : List Int).getD y.toNat 0 = 32 ∨ ([8, 16, 32, 64] : List Int).getD y.toNat 0 = 64 := by
  have : y = 0 ∨ y = 1 ∨ y = 2 ∨ y = 3 := by lia
  rcases this with rfl | rfl | rfl | rfl <;> decide
theorem register_does (G : G0 w p loose mean mg mb hb) {P : PenO} (hP : P.Ok) : Does w hb 4 150 677 [.ref P.pn] [] (P.led w) (fun v led' => ∃ (P' : PenO) (r : RegO) (ρ : Rg), P'.pn = P.pn ∧ P'.Ok ∧ r.Is ρ ∧ ρ.Ok ∧ v = .ref r.x ∧ led' = r.led w ++ P'.led w) := by
  have hpn : P.pn = P.pn := rfl
  refine' enterB (binds := [(Str.ofString "pen", .ref P.pn)]) (by assumption) ?k6 ?k7 ?k9 ?kB [(Str.ofString "pen", .ref P.pn)] rfl ?_ ?c2 ?c3 ?c4 ?c5
  case k6 => k_is
  case k7 => k_is
  case k9 => (intro s hs; first | exact BindsTo.of_eq rfl | exact binds_K (Frag.In.keeps (G0.X (by assumption)) hs) rfl (by k_is) rfl rfl rfl)
  case c5 => decide
  case kB => exact locs rfl
  case c2 => exact rfl
  case c3 => exact rfl
  case c4 => exact rfl
  intro C Q hR fini finn perm env l led he
  repeat (walk_at "m ev")
  rename PenO.Ok _ => q1
  rename PenO.pn _ = _ => q2
  rename PenO => P2
  refine r_iteE (fun h => ?_) fun h => ?_
  ·
    repeat (walk_at "m ev")
    rename RegO.Is _ _ => q3
    rename RegO => r
    refine' perm (t := r.led w ++ P2.led w) ?ss (fini ⟨P2, r, _, q2, q1, q3, .high (by lia) (by lia), rfl, rfl⟩)
    case ss => walk_at "m pk"
  ·
    repeat (walk_at "m ev")
    refine r_iteD (fun h5 => ?_) fun h5 => ?_
    ·
      repeat (walk_at "m ev")
      rename RegO.Is _ _ => q3
      rename RegO => r
      refine' perm (t := r.led w ++ P2.led w) ?ss (fini ⟨P2, r, _, q2, q1, q3, .xmm (by lia) (by lia), rfl, rfl⟩)
      case ss => walk_at "m pk"
    ·
      repeat (walk_at "m ev")
      refine' c_gpr hR rfl ?h1 ?h2 (size4 ?h3 ?h4) ?_
      case h1 => lia
      case h2 => lia
      case h3 => lia
      case h4 => lia
      intro r q3 _
      repeat (walk_at "m ev")
      refine' perm (t := r.led w ++ P2.led w) ?ss (fini ⟨P2, r, _, q2, q1, q3, .gpr (by lia) (by lia) (size4 (by lia) (by lia)), rfl, rfl⟩)
      case ss => walk_at "m pk"
noncomputable def beginZ (ρ : Rg) : Int := match ρ.k with
  | .high => 8 * (ρ.n - 4) + 1
  | .xmm => 16 * ρ.n
  | _ => 8 * ρ.n
theorem begin_does (G : G0 w p loose mean mg mb hb) {r : RegO} {ρ : Rg} (hr : r.Is ρ) (ok : ρ.Ok) : Does w hb 1 10 684 [.ref r.x] [] (r.led w) (fun v led' => (∃ t, v = .int (beginZ ρ) t) ∧ led' = r.led w) := by
  have e2 := hr.high
  have e3 := hr.xmm
  have h2 := hr.num
  refine' enterB (binds := [(Str.ofString "register", .ref r.x)]) (by assumption) ?k6 ?k7 ?k9 ?kB [(Str.ofString "register", .ref r.x)] rfl ?_ ?c2 ?c3 ?c4 ?c5
  case k6 => k_is
  case k7 => k_is
  case k9 => (intro s hs; first | exact BindsTo.of_eq rfl | exact binds_K (Frag.In.keeps (G0.X (by assumption)) hs) rfl (by k_is) rfl rfl rfl)
  case c5 => decide
  case kB => exact locs rfl
  case c2 => exact rfl
  case c3 => exact rfl
  case c4 => exact rfl
  intro C Q hR fini finn perm env l led he
  cases ok with
  | gpr h0 h1 h5 =>
    repeat (walk_at "m ev")
    exact fini ⟨⟨_, by rw [h2]; rfl⟩, rfl⟩
  | high h0 h1 =>
    repeat (walk_at "m ev")
    exact fini ⟨⟨_, by rw [h2]; rfl⟩, rfl⟩
  | xmm h0 h1 =>
    repeat (walk_at "m ev")
    exact fini ⟨⟨_, by rw [h2]; rfl⟩, rfl⟩
end
-- F12
section
variable {w : World} {p : Program} {loose : List Str} {mean : ExcName → Option Value} {mg mb : Str → Option Value} {hb : Heap}
local macro_rules | `(tactic| walk_at "m eval") => `(tactic| (with_reducible refine c_slice ?_; intro _))
local macro_rules | `(tactic| walk_at "m ev") => `(tactic| first | with_reducible refine c_partN ?_ | with_reducible refine c_partS ?_)
theorem number_does (G : G0 w p loose mean mg mb hb) {D : Addr} {vs : List Value} {n : Nat} {ns : List Int} (hi : IntsAre vs ns) (hz : ns.length ≤ 1000) : Does w hb 1 10 691 [.ref D] [] [(D, listOf vs.toArray n)] (fun v led' => (∃ t, v = .int (num ns) t) ∧ led' = [(D, listOf vs.toArray n)]) := by
  have hlen := hi.length
  refine' enterB (binds := [(Str.ofString "octets", .ref D)]) (by assumption) ?k6 ?k7 ?k9 ?kB [(Str.ofString "octets", .ref D)] rfl ?_ ?c2 ?c3 ?c4 ?c5
  case k6 => k_is
  case k7 => k_is
  case k9 => (intro s hs; first | exact BindsTo.of_eq rfl | exact binds_K (Frag.In.keeps (G0.X (by assumption)) hs) rfl (by k_is) rfl rfl rfl)
  case c5 => decide
  case kB => exact locs rfl
  case c2 => exact rfl
  case c3 => exact rfl
  case c4 => exact rfl
  intro C Q hR fini finn perm env l led he
  repeat (walk_at "m ev")
  refine c_slRev (by lcg_off) (by rw [sizeLine_eq]; lia) ?_
  intro B _
  refine' c_forI hi.reverse (fun i l led => (∃ t, LocIn [(Str.ofString "total", .int (num ((ns.reverse.take i).reverse)) t)] l) ∧ led = [(D, listOf vs.toArray n)]) ?hJ ?turn ?fin
  case hJ => exact ⟨⟨_, rfl, trivial⟩, rfl⟩
  case turn =>
    rintro i t I oI l _ hi' ⟨⟨t1, hl⟩, rfl⟩ Q' led
    refine Wp.pick hl ?_
    have ee := num_rev_step ns.reverse i hi'
    repeat (walk_at "m ev")
    exact Turn.of2 ⟨⟨_, by rw [ee]; rfl, trivial⟩, rfl⟩
  case fin =>
    rintro l _ ⟨⟨t1, hl⟩, rfl⟩ led
    refine Wp.pick hl ?_
    repeat (walk_at "m ev")
    refine perm (t := [(D, listOf vs.toArray n)]) .tail1 (fini ⟨⟨t1, ?_⟩, rfl⟩)
    rw [List.take_of_length_le (Nat.le_refl _), List.reverse_reverse]
section
variable {C : Cx w} {l : Loc} {led : Led} {Q : Value → Loc → Led → Prop} {N U : Nat} {fl : Led → Led}
theorem c_number {D : Addr} {vs : List Value} {n : Nat} {ns : List Int} (hR : Room C N U) (hle : (Nat.ble 1 N && Nat.ble 10 U) = true) (hi : IntsAre vs ns) (hz : ns.length ≤ 1000) (sl : Slot [(D, listOf vs.toArray n)] led fl)
    (k : ∀ t, let led' : Led := fl [(D, listOf vs.toArray n)]; Q (.int (num ns) t) l led') : Wp C (call (.ref 691) [.ref D]) Q l led := c_does (number_does C.G₀ hi hz) sl hR hle (by rintro _ _ ⟨⟨t, rfl⟩, rfl⟩; exact k t)
theorem c_begin {r : RegO} {ρ : Rg} (hR : Room C N U) (hle : (Nat.ble 1 N && Nat.ble 10 U) = true) (hr : r.Is ρ) (ok : ρ.Ok) (sl : Slot (r.led w) led fl)
    (k : ∀ t, let led' : Led := fl (r.led w); Q (.int (beginZ ρ) t) l led') : Wp C (call (.ref 684) [.ref r.x]) Q l led := c_does (begin_does C.G₀ hr ok) sl hR hle (by rintro _ _ ⟨⟨t, rfl⟩, rfl⟩; exact k t)
end
end
-- F13
local macro_rules | `(tactic| walk_at "m eval") => `(tactic| (with_reducible refine c_slice ?_; intro _))
local macro_rules | `(tactic| walk_at "m ev") => `(tactic| first | with_reducible refine c_partN ?_ | with_reducible refine c_partS ?_)
local macro_rules | `(tactic| walk_at "m call") => `(tactic| first
  | ((with_reducible refine' c_begin ?BZ0 ?BZ1 ?BZ2 ?BZ3 ?BZ4 ?_); (case BZ0 => assumption); (case BZ1 => exact rfl); (case BZ2 => assumption); (case BZ3 => assumption); (case BZ4 => kpt_turns); intro _ _)
  | ((with_reducible refine' c_number ?BZ0 ?BZ1 ?BZ2 ?BZ3 ?BZ4 ?_); (case BZ0 => assumption); (case BZ1 => exact rfl); (case BZ2 => assumption); (case BZ3 => kwd_rel); (case BZ4 => kpt_turns); intro _ _))
section
variable {w : World} {p : Program} {loose : List Str} {mean : ExcName → Option Value} {mg mb : Str → Option Value} {hb : Heap}
structure WState where
  cells : List Int
  xcells : List Int
  mem : List (Int × Int)
  rip : Int
  fs : Int
  gs : Int
structure WorldO where
  wd : Addr
  rc : Addr
  xc : Addr
  wm : Addr
  nr : Nat
  nx : Nat
  cvs : List Value
  xvs : List Value
  wo : Obj
  mo : Obj
noncomputable abbrev WorldO.led (w : World) (ω : WorldO) : Led := [(ω.wd, ω.wo), (ω.rc, listOf ω.cvs.toArray ω.nr), (ω.xc, listOf ω.xvs.toArray ω.nx), (ω.wm, ω.mo)]
structure WorldO.Is (w : World) (ω : WorldO) (y : WState) : Prop where
  dict : ∃ t1 t2 t3, ω.wo.IsDictOf (PySem.strKind pgm w) [(Str.ofString "regs", .ref ω.rc), (Str.ofString "xmms", .ref ω.xc), (Str.ofString "memory", .ref ω.wm), (Str.ofString "rip", .int y.rip t1), (Str.ofString "fs", .int y.fs t2), (Str.ofString "gs", .int y.gs t3)]
  cells : IntsAre ω.cvs y.cells
  xcells : IntsAre ω.xvs y.xcells
  mem : ∃ kvs, ω.mo.IsDictOf (intKind pgm w) kvs ∧ Held kvs y.mem
  lo : (ω.wm == sysModules) = false
structure WState.Ok (y : WState) : Prop where
  cells : y.cells.length = 128
  xcells : y.xcells.length = 256
noncomputable def cellsOf (y : WState) (k : RK) : List Int := if k = .xmm then y.xcells else y.cells
noncomputable def getW (y : WState) (ρ : Rg) (N : Nat) : Int := num (((cellsOf y ρ.k).drop (beginZ ρ).toNat).take N)
theorem beginZ_nonneg {ρ : Rg} (ok : ρ.Ok) : 0 ≤ beginZ ρ := by
  cases ok <;> simp only [beginZ] <;> lia
noncomputable def wRef (ω : WorldO) (x : Str) : Option Addr := if Str.ofString "regs" = x then some ω.rc else if Str.ofString "xmms" = x then some ω.xc else if Str.ofString "memory" = x then some ω.wm else none
noncomputable def wInt (y : WState) (x : Str) : Option Int := if Str.ofString "rip" = x then some y.rip else if Str.ofString "fs" = x then some y.fs else if Str.ofString "gs" = x then some y.gs else none
theorem wRef_look {ω : WorldO} {x : Str} {a : Addr} {i j k : Value} (h : wRef ω x = some a) : lookS [(Str.ofString "regs", .ref ω.rc), (Str.ofString "xmms", .ref ω.xc), (Str.ofString "memory", .ref ω.wm), (Str.ofString "rip", i), (Str.ofString "fs", j), (Str.ofString "gs", k)] x = some (.ref a) := by
  unfold wRef at h
  simp only [lookS]
  split at h
  · cases h; rw [if_pos (by assumption)]
  · rw [if_neg (by assumption)]
    split at h
    · cases h; rw [if_pos (by assumption)]
    · rw [if_neg (by assumption)]
      split at h
      · cases h; rw [if_pos (by assumption)]
      · cases h
theorem wInt_look {y : WState} {x : Str} {n : Int} {a b c : Value} {t1 t2 t3 : Tok} (h : wInt y x = some n) (h1 : (x == Str.ofString "regs" || x == Str.ofString "xmms" || x == Str.ofString "memory") = false) :
    ∃ t, lookS [(Str.ofString "regs", a), (Str.ofString "xmms", b), (Str.ofString "memory", c), (Str.ofString "rip", .int y.rip t1), (Str.ofString "fs", .int y.fs t2), (Str.ofString "gs", .int y.gs t3)] x = some (.int n t) := by
  unfold wInt at h
  simp only [Bool.or_eq_false_iff, beq_eq_false_iff_ne, ne_eq] at h1
  simp only [lookS]
  rw [if_neg (fun e => h1.1.1 e.symm), if_neg (fun e => h1.1.2 e.symm), if_neg (fun e => h1.2 e.symm)]
  split at h
  · cases h; rw [if_pos (by assumption)]; exact ⟨_, rfl⟩
  · rw [if_neg (by assumption)]
    split at h
    · cases h; rw [if_pos (by assumption)]; exact ⟨_, rfl⟩
    · rw [if_neg (by assumption)]
      split at h
      · cases h; rw [if_pos (by assumption)]; exact ⟨_, rfl⟩
      · cases h
section
variable {C : Cx w} {l : Loc} {led : Led} {Q : Value → Loc → Led → Prop} {ω : WorldO} {y : WState} {x : Str} {a wd : Addr} {n : Int} {u : Tok} {value slice : Expr} {i : Nat}
theorem c_wref (hω : ω.Is w y) (hwd : ω.wd = wd) (hm : (ω.wd, ω.wo) ∈ led) (e : wRef ω x = some a) (h : Q (.ref a) l led) (hs : noSlice slice = true := by with_unfolding_all rfl) : Wp C (subscriptTail value slice (.ref wd) (.str x u)) Q l led := by
  obtain ⟨t1, t2, t3, hd⟩ := hω.dict
  subst hwd
  exact c_sitem hm hd (wRef_look e) h hs
theorem c_wint (hω : ω.Is w y) (hwd : ω.wd = wd) (hm : (ω.wd, ω.wo) ∈ led) (e : wInt y x = some n) (h : ∀ t, Q (.int n t) l led) (h1 : (x == Str.ofString "regs" || x == Str.ofString "xmms" || x == Str.ofString "memory") = false := by with_unfolding_all decide) (hs : noSlice slice = true := by with_unfolding_all rfl) :
    Wp C (subscriptTail value slice (.ref wd) (.str x u)) Q l led := by
  obtain ⟨t1, t2, t3, hd⟩ := hω.dict
  obtain ⟨t, e⟩ := wInt_look (a := .ref ω.rc) (b := .ref ω.xc) (c := .ref ω.wm) (t1 := t1) (t2 := t2) (t3 := t3) e h1
  subst hwd
  exact c_sitem hm hd e (h t) hs
end
local macro_rules | `(tactic| walk_at "m ev") => `(tactic| ((fail_if_success (fail_if_success (with_reducible show Wp _ (subscriptTail _ _ _ (Value.str _ _)) _ _ _))); first
  | ((with_reducible refine' c_wref ?CZ0 ?CZ1 ?CZ2 ?CZ3 ?_); (case CZ0 => assumption); (case CZ1 => first | exact rfl | assumption); (case CZ2 => lcg_off); (case CZ3 => exact rfl))
  | ((with_reducible refine' c_wint ?CZ0 ?CZ1 ?CZ2 ?CZ3 ?_); (case CZ0 => assumption); (case CZ1 => first | exact rfl | assumption); (case CZ2 => lcg_off); (case CZ3 => exact rfl); intro _)))
theorem cut_len {b n : Int} {N L : Nat} (h0 : 0 ≤ b) (e : n / 8 = (N : Int)) (hf : b + N ≤ (L : Int)) : min (b + n / 8).toNat L - b.toNat = N := by
  obtain ⟨k, rfl⟩ := Int.eq_ofNat_of_zero_le h0
  rw [e, ← Int.natCast_add, Int.toNat_natCast, Int.toNat_natCast, Nat.min_eq_left (by exact Int.ofNat_le.mp hf), Nat.add_sub_cancel_left]
theorem cut_le {b : Int} {N : Nat} {cs : List Int} (h0 : 0 ≤ b) (hf : b + N ≤ (cs.length : Int)) (h : cs.length ≤ 256) : (List.take N (List.drop b.toNat cs)).length ≤ 1000 := by
  rw [List.length_take]
  exact Nat.le_trans (Nat.min_le_left _ _) (by omega)
theorem law_get_does (G : G0 w p loose mean mg mb hb) {ω : WorldO} {y : WState} {r : RegO} {ρ : Rg} {n : Int} {t : Tok} {N : Nat} (hω : ω.Is w y) (hy : y.Ok) (hr : r.Is ρ) (ok : ρ.Ok) (hn : n = 8 * (N : Int)) (hf : beginZ ρ + N ≤ (cellsOf y ρ.k).length) :
    Does w hb 3 60 698 [.ref ω.wd, .ref r.x, .int n t] [] (r.led w ++ ω.led w) (RW (r.led w) fun v b => (∃ t, v = .int (getW y ρ N) t) ∧ b = ω.led w) := by
  have hx := hr.xmm
  have h0 := beginZ_nonneg ok
  have e8 : n / 8 = (N : Int) := by lia
  have lc := hy.cells
  have lx := hy.xcells
  have hlen : (cellsOf y ρ.k).length ≤ 256 := by unfold cellsOf; split <;> lia
  refine' enterB (binds := [(Str.ofString "world", .ref ω.wd), (Str.ofString "register", .ref r.x), (Str.ofString "size", .int n t)]) (by assumption) ?k6 ?k7 ?k9 ?kB [(Str.ofString "size", .int n t), (Str.ofString "register", .ref r.x), (Str.ofString "world", .ref ω.wd)] rfl ?_ ?c2 ?c3 ?c4 ?c5
  case k6 => k_is
  case k7 => k_is
  case k9 => (intro s hs; first | exact BindsTo.of_eq rfl | exact binds_K (Frag.In.keeps (G0.X (by assumption)) hs) rfl (by k_is) rfl rfl rfl)
  case c5 => decide
  case kB => exact locs rfl
  case c2 => exact rfl
  case c3 => exact rfl
  case c4 => exact rfl
  intro C Q hR fini finn perm env l led he
  refine c_seq ?_
  intro _
  refine Wp.cut (fun f l' led' => f = .next ∧ ∃ D vs n, IntsAre vs (cellsOf y ρ.k) ∧ (D, listOf vs.toArray n) ∈ led ∧ l' = (Str.ofString "cells", .ref D) :: l ∧ led' = led) ?h1 ?h2
  case h1 =>
    repeat (walk_at "m ev")
    by_cases hk : ρ.k = .xmm
    · rw [decide_eq_true hk] at hx
      repeat (walk_at "m ev")
      exact ⟨rfl, _, _, _, by rw [cellsOf, if_pos hk]; exact hω.xcells, by lcg_off, rfl, rfl⟩
    · rw [decide_eq_false hk] at hx
      repeat (walk_at "m ev")
      exact ⟨rfl, _, _, _, by rw [cellsOf, if_neg hk]; exact hω.cells, by lcg_off, rfl, rfl⟩
  case h2 =>
    rintro _ _ _ ⟨rfl, D, vs, m, hi, hm, rfl, rfl⟩
    have hl := hi.length
    repeat (walk_at "m ev")
    refine' c_slAB (ns := cellsOf y ρ.k) hm hi h0 ?h3 ?h4 ?_
    case h3 => lia
    case h4 => rw [sizeLine_eq]; lia
    intro B ws hw _
    rw [cut_len h0 e8 hf] at hw
    have hz : (List.take N (List.drop (beginZ ρ).toNat (cellsOf y ρ.k))).length ≤ 1000 := cut_le h0 hf hlen
    repeat (walk_at "m ev")
    exact perm (t := r.led w ++ ω.led w) .tail1 (fini ⟨_, _, rfl, ⟨⟨_, rfl⟩, rfl⟩, rfl⟩)
end
-- F14
local macro_rules | `(tactic| walk_at "m ev") => `(tactic| ((fail_if_success (fail_if_success (with_reducible show Wp _ (subscriptTail _ _ _ (Value.str _ _)) _ _ _))); first
  | ((with_reducible refine' c_wref ?DZ0 ?DZ1 ?DZ2 ?DZ3 ?_); (case DZ0 => assumption); (case DZ1 => first | exact rfl | assumption); (case DZ2 => lcg_off); (case DZ3 => exact rfl))
  | ((with_reducible refine' c_wint ?DZ0 ?DZ1 ?DZ2 ?DZ3 ?_); (case DZ0 => assumption); (case DZ1 => first | exact rfl | assumption); (case DZ2 => lcg_off); (case DZ3 => exact rfl); intro _)))
section
variable {w : World} {p : Program} {loose : List Str} {mean : ExcName → Option Value} {mg mb : Str → Option Value} {hb : Heap}
noncomputable abbrev WorldO.setC (ω : WorldO) (vs : List Value) : WorldO := { ω with cvs := vs }
noncomputable abbrev WorldO.setX (ω : WorldO) (vs : List Value) : WorldO := { ω with xvs := vs }
noncomputable def putCells (cs : List Int) (b : Nat) (x : Int) : Nat → List Int
  | 0 => cs
  | n + 1 => (putCells cs b x n).set (b + n) (x / 2 ^ (8 * n) % 256)
noncomputable def zeroN (cs : List Int) (b : Nat) : Nat → List Int
  | 0 => cs
  | n + 1 => (zeroN cs b n).set (b + 4 + n) 0
theorem putCells_length (cs : List Int) (b : Nat) (x : Int) : ∀ n, (putCells cs b x n).length = cs.length
  | 0 => rfl
  | n + 1 => by rw [putCells, List.length_set, putCells_length cs b x n]
theorem zeroN_length (cs : List Int) (b : Nat) : ∀ n, (zeroN cs b n).length = cs.length
  | 0 => rfl
  | n + 1 => by rw [zeroN, List.length_set, zeroN_length cs b n]
noncomputable def putW (y : WState) (ρ : Rg) (n x : Int) (N : Nat) : WState :=
  if ρ.k = .xmm then { y with xcells := putCells y.xcells (beginZ ρ).toNat x N }
  else { y with cells := if ρ.k = .gpr ∧ n = 32 then zeroN (putCells y.cells (beginZ ρ).toNat x N) (beginZ ρ).toNat 4 else putCells y.cells (beginZ ρ).toNat x N }
theorem put_step {y : WState} {vs : List Value} {cs : List Int} {b x : Int} {i : Nat} (h0 : 0 ≤ b) (h : IntsAre vs ((putCells cs b.toNat x i).set (b + (i : Int)).toNat (x / 2 ^ (8 * (i : Int)).toNat % 256))) : IntsAre vs (putCells cs b.toNat x (i + 1)) := by
  have ea : (b + (i : Int)).toNat = b.toNat + i := by lia
  have eb : (8 * (i : Int)).toNat = 8 * i := by lia
  rw [ea, eb] at h
  exact h
theorem zero_step {vs : List Value} {cs : List Int} {b : Int} {i : Nat} (h0 : 0 ≤ b) (h : IntsAre vs ((zeroN cs b.toNat i).set (b + (4 + (i : Int))).toNat 0)) : IntsAre vs (zeroN cs b.toNat (i + 1)) := by
  have ea : (b + (4 + (i : Int))).toNat = b.toNat + 4 + i := by (clear h; lia)
  rw [ea] at h
  exact h
theorem putW_x {ω : WorldO} {y : WState} {ρ : Rg} {n x : Int} {N : Nat} {vs : List Value} (hω : ω.Is w y) (hk : ρ.k = .xmm) (hv : IntsAre vs (putCells y.xcells (beginZ ρ).toNat x N)) : (ω.setX vs).Is w (putW y ρ n x N) := by
  rw [putW, if_pos hk]
  exact ⟨hω.dict, hω.cells, hv, hω.mem, hω.lo⟩
theorem putW_c {ω : WorldO} {y : WState} {ρ : Rg} {n x : Int} {N : Nat} {vs : List Value} (hω : ω.Is w y) (hk : ρ.k ≠ .xmm) (h32 : ¬ (ρ.k = .gpr ∧ n = 32)) (hv : IntsAre vs (putCells y.cells (beginZ ρ).toNat x N)) : (ω.setC vs).Is w (putW y ρ n x N) := by
  rw [putW, if_neg hk, if_neg h32]
  exact ⟨hω.dict, hv, hω.xcells, hω.mem, hω.lo⟩
theorem putW_z {ω : WorldO} {y : WState} {ρ : Rg} {n x : Int} {N : Nat} {vs : List Value} (hω : ω.Is w y) (hk : ρ.k ≠ .xmm) (h32 : ρ.k = .gpr ∧ n = 32) (hv : IntsAre vs (zeroN (putCells y.cells (beginZ ρ).toNat x N) (beginZ ρ).toNat 4)) : (ω.setC vs).Is w (putW y ρ n x N) := by
  rw [putW, if_neg hk, if_pos h32]
  exact ⟨hω.dict, hv, hω.xcells, hω.mem, hω.lo⟩
noncomputable abbrev PutWR (w : World) (ω : WorldO) (r : RegO) (y : WState) : Value → Led → Prop := RW (r.led w) fun v b => v = .none ∧ ∃ ω' : WorldO, ω'.wd = ω.wd ∧ ω'.Is w y ∧ b = ω'.led w
theorem putW_R {ω ω' : WorldO} {r : RegO} {y : WState} (h : ω'.Is w y) (e : ω'.wd = ω.wd) : PutWR w ω r y .none (r.led w ++ ω'.led w) := ⟨_, _, rfl, ⟨rfl, ω', e, h, rfl⟩, rfl⟩
theorem law_put_does (G : G0 w p loose mean mg mb hb) {ω : WorldO} {y : WState} {r : RegO} {ρ : Rg} {n x : Int} {t u : Tok} {N : Nat} (hω : ω.Is w y) (hy : y.Ok) (hr : r.Is ρ) (ok : ρ.Ok) (hn : n = 8 * (N : Int)) (hf : beginZ ρ + N ≤ (cellsOf y ρ.k).length) (hg : ρ.k = .gpr → beginZ ρ + 8 ≤ 128) :
    Does w hb 3 60 705 [.ref ω.wd, .ref r.x, .int n t, .int x u] [] (r.led w ++ ω.led w) (PutWR w ω r (putW y ρ n x N)) := by
  have h1 := hr.xmm
  have h2 := hr.gpr
  have hc := hω.cells
  have hx := hω.xcells
  have h0 := beginZ_nonneg ok
  have e8 : n / 8 = (N : Int) := by lia
  have lc := hy.cells
  have lx := hy.xcells
  refine' enterB (binds := [(Str.ofString "world", .ref ω.wd), (Str.ofString "register", .ref r.x), (Str.ofString "size", .int n t), (Str.ofString "worth", .int x u)]) (by assumption) ?k6 ?k7 ?k9 ?kB [(Str.ofString "worth", .int x u), (Str.ofString "size", .int n t), (Str.ofString "register", .ref r.x), (Str.ofString "world", .ref ω.wd)] rfl ?_ ?c2 ?c3 ?c4 ?c5
  case k6 => k_is
  case k7 => k_is
  case k9 => (intro s hs; first | exact BindsTo.of_eq rfl | exact binds_K (Frag.In.keeps (G0.X (by assumption)) hs) rfl (by k_is) rfl rfl rfl)
  case c5 => decide
  case kB => exact locs rfl
  case c2 => exact rfl
  case c3 => exact rfl
  case c4 => exact rfl
  intro C Q hR fini finn perm env l led he
  by_cases hk : ρ.k = .xmm
  · rw [decide_eq_true hk] at h1
    have h2 : (r.kd == Str.ofString "gpr") = false := by rw [h2, hk]; rfl
    rw [cellsOf, if_pos hk] at hf
    repeat (walk_at "m ev")
    refine' Wp.subF (t := (_, { cls := .type "range", data := .fields #[.int 0 _, .int (n / 8) _, .int 1 _] }) :: (r.led w ++ ω.led w)) ?ss ?_
    case ss => walk_at "m pk"
    refine' c_forN0 (m := N) e8 (fun i l led => (∃ t1 t2 t3, LocIn [(Str.ofString "cells", .ref ω.xc), (Str.ofString "begin", .int (beginZ ρ) t1), (Str.ofString "worth", .int x t2), (Str.ofString "register", .ref r.x), (Str.ofString "size", .int n t3)] l) ∧ ∃ vs' : List Value, IntsAre vs' (putCells y.xcells (beginZ ρ).toNat x i) ∧ led = r.led w ++ (ω.setX vs').led w) ?hJ ?turn ?fin
    case hJ => exact ⟨⟨_, _, _, rfl, rfl, rfl, rfl, rfl, trivial⟩, _, hx, rfl⟩
    case turn =>
      rintro i t I oI l _ hi' ⟨⟨t1, t2, t3, hl⟩, vs', hv, rfl⟩ Q' led
      refine Wp.pick hl ?_
      have hlen := putCells_length y.xcells (beginZ ρ).toNat x i
      repeat (walk_at "m ev")
      rename IntsAre _ (List.set _ _ _) => hi2
      exact Turn.of ⟨⟨_, _, _, rfl, rfl, rfl, rfl, rfl, trivial⟩, _, put_step (y := y) h0 hi2, rfl⟩
    case fin =>
      rintro l _ ⟨⟨t1, t2, t3, hl⟩, vs', hv, rfl⟩
      refine Wp.pick hl ?_
      repeat (walk_at "m ev")
      exact finn (putW_R (ω' := ω.setX vs') (putW_x hω hk hv) rfl)
  · rw [decide_eq_false hk] at h1
    rw [cellsOf, if_neg hk] at hf
    repeat (walk_at "m ev")
    refine' Wp.subF (t := (_, { cls := .type "range", data := .fields #[.int 0 _, .int (n / 8) _, .int 1 _] }) :: (r.led w ++ ω.led w)) ?ss ?_
    case ss => walk_at "m pk"
    refine' c_forN0 (m := N) e8 (fun i l led => (∃ t1 t2 t3, LocIn [(Str.ofString "cells", .ref ω.rc), (Str.ofString "begin", .int (beginZ ρ) t1), (Str.ofString "worth", .int x t2), (Str.ofString "register", .ref r.x), (Str.ofString "size", .int n t3)] l) ∧ ∃ vs' : List Value, IntsAre vs' (putCells y.cells (beginZ ρ).toNat x i) ∧ led = r.led w ++ (ω.setC vs').led w) ?hJ ?turn ?fin
    case hJ => exact ⟨⟨_, _, _, rfl, rfl, rfl, rfl, rfl, trivial⟩, _, hc, rfl⟩
    case turn =>
      rintro i t I oI l _ hi' ⟨⟨t1, t2, t3, hl⟩, vs', hv, rfl⟩ Q' led
      refine Wp.pick hl ?_
      have hlen := putCells_length y.cells (beginZ ρ).toNat x i
      repeat (walk_at "m ev")
      rename IntsAre _ (List.set _ _ _) => hi2
      exact Turn.of ⟨⟨_, _, _, rfl, rfl, rfl, rfl, rfl, trivial⟩, _, put_step (y := y) h0 hi2, rfl⟩
    case fin =>
      rintro l _ ⟨⟨t1, t2, t3, hl⟩, vs', hv, rfl⟩
      refine Wp.pick hl ?_
      have hlen := putCells_length y.cells (beginZ ρ).toNat x N
      repeat (walk_at "m ev")
      by_cases hgp : ρ.k = .gpr
      · rw [decide_eq_true hgp] at h2
        have hb := hg hgp
        repeat (walk_at "m ev")
        refine r_iteE (fun h32 => ?_) fun h32 => ?_
        ·
          repeat (walk_at "m ev")
          refine' Wp.subF (t := (_, { cls := .type "range", data := .fields #[.int 4 _, .int 8 _, .int 1 _] }) :: (r.led w ++ (ω.setC vs').led w)) ?ss ?_
          case ss => walk_at "m pk"
          refine' c_forN (m := 4) (by decide) (fun i l led => (∃ t1, LocIn [(Str.ofString "cells", .ref ω.rc), (Str.ofString "begin", .int (beginZ ρ) t1)] l) ∧ ∃ vs' : List Value, IntsAre vs' (zeroN (putCells y.cells (beginZ ρ).toNat x N) (beginZ ρ).toNat i) ∧ led = r.led w ++ (ω.setC vs').led w) ?hJ ?turn ?fin
          case hJ => exact ⟨⟨_, rfl, rfl, trivial⟩, _, hv, rfl⟩
          case turn =>
            rintro i t I oI l _ hi' ⟨⟨t1, hl⟩, vs', hv, rfl⟩ Q' led
            refine Wp.pick hl ?_
            have hlen2 := zeroN_length (putCells y.cells (beginZ ρ).toNat x N) (beginZ ρ).toNat i
            repeat (walk_at "m ev")
            rename IntsAre _ (List.set _ _ _) => hi2
            exact Turn.of ⟨⟨_, rfl, rfl, trivial⟩, _, zero_step h0 hi2, rfl⟩
          case fin =>
            rintro l _ ⟨_, vs', hv, rfl⟩
            exact finn (putW_R (ω' := ω.setC vs') (putW_z hω hk ⟨hgp, h32⟩ hv) rfl)
        ·
          repeat (walk_at "m ev")
          exact finn (putW_R (ω' := ω.setC vs') (putW_c hω hk (fun h => h32 h.2) hv) rfl)
      · rw [decide_eq_false hgp] at h2
        repeat (walk_at "m ev")
        exact finn (putW_R (ω' := ω.setC vs') (putW_c hω hk (fun h => hgp h.1) hv) rfl)
end
-- Rules10
theorem ints_snoc {vs : List Value} {ns : List Int} {n : Int} {t : Tok} (h : IntsAre vs ns) : IntsAre (vs ++ [.int n t]) (ns ++ [n]) := by
  induction h with
  | nil => exact .cons _ _ .nil
  | cons _ _ _ ih => exact .cons _ _ ih
section
variable {w : World} {A : Around} {E : Value → Shared → Prop} {env : Env} {elt target iter : Expr} {ifs : List Expr} {scope : Scope} {cl : List (Str × Addr)} {pos : Pos} {Q : Value → Shared → Prop} {g : Heap} {L : Addr} {W : List Addr} {l : Loc} {news led fx : Led} {s₀ s : Shared} {a b : Int}
theorem r_compN {N : Nat} {r : Addr} {t1 t2 t3 : Tok} (hb : b - a = (N : Int)) (hN : N ≤ 1000000) (hh : A.handled = none)
    (S : St g L W l ((r, { cls := .type "range", data := .fields #[.int a t1, .int b t2, .int 1 t3] }) :: news) s₀ s)
    (J : Nat → List Value → Led → Prop) (hJ : J 0 [] news) (hlen : ∀ i ys led, J i ys led → ys.length ≤ sizeLine)
    (hcell : ∀ y ∈ scope.names, y.2 ≠ .cell) (hkind : scope.kind = .function)
    (turn : ∀ (C D : Addr) oL (i : Nat) (t : Tok) (I : Addr) oI ys n led s E' W', i < N → J i ys led → St g C W' [] ((L, oL) :: (D, listOf ys.toArray n) :: (I, oI) :: led) s₀ s →
      wpAny (model pgm w) A (assign target (compEnvC scope cl C env) (.int (a + i) t)) (fun _ s₂ =>
        wpAny (model pgm w) A (forIn ifs true fun c r => if r = true then do let ok ← isTrue c (compEnvC scope cl C env) (eval c (compEnvC scope cl C env)); pure (ForInStep.yield ok) else pure (ForInStep.yield r)) (fun ok s₃ =>
          if ok = true then wpAny (model pgm w) A (eval elt (compEnvC scope cl C env)) (fun y s₄ => ∃ l' led', J (i + 1) (ys ++ [y]) led' ∧ St g C W' l' ((L, oL) :: (D, listOf ys.toArray n) :: (I, oI) :: led') s₀ s₄) E' s₃
          else ∃ l' led', J (i + 1) ys led' ∧ St g C W' l' ((L, oL) :: (D, listOf ys.toArray n) :: (I, oI) :: led') s₀ s₃) E' s₂) E' s)
    (fin : ∀ D ys n led s, J N ys led → St g L W l ((D, listOf ys.toArray n) :: led) s₀ s → Q (.ref D) s)
    (ht : ∀ x v, letOwnedTupleGo target x v = pure () := by intro _ _; rfl) :
    wpAny (model pgm w) A (pyIter (.ref r)) (fun it s₂ => CompGo w A E env elt target iter ifs scope cl pos Q it s₂) E s := by
  refine r_rangeIt S hh (by decide) fun I o It s' K h0 S' => ?_
  have hN' : (Builtin.Range.rangeSize a b 1).toNat = N := by rw [rangeSize_toNat]; lia
  obtain ⟨Wk, hI⟩ := K
  rw [hN'] at Wk
  refine r_compW (fx := []) Wk (by simp) (by simp) hI J (o₀ := o) (led := news) S' h0 hJ hlen hcell hkind (fun C D oL i v oI ys n led s E' W' hi hP hJ S => ?_) (fun D ys n led s hJ S => fin D ys n led s hJ S) (fun v => ht _ _)
  obtain ⟨t, rfl⟩ := hP
  have e : a + (i : Int) * 1 = a + (i : Int) := by lia
  rw [e]
  exact turn C D oL i t I oI ys n led s E' W' hi hJ S
end
-- B3
section
variable {w : World} {C : Cx w} {l l' : Loc} {led news fx : Led} {env : Env} {Q : Value → Loc → Led → Prop} {pos p1 : Pos} {a b c : Int} {elt target iter : Expr} {ifs : List Expr} {scope : Scope} {cl : List (Str × Addr)} {N U : Nat}
noncomputable def dropL : Nat → Led → Led
  | 0, l => l
  | n + 1, l => match l with
    | [] => []
    | _ :: r => dropL n r
inductive PkT (led : Led) : Led → List Nat → Nat → Prop
  | tail {t k} : dropL k led = t → PkT led t [] k
  | cons {q t i is k} : ix led i = some q → PkT led t is k → PkT led (q :: t) (i :: is) k
theorem ptl (k : Nat) {led : Led} : PkT led (dropL k led) [] k := .tail rfl
theorem dropL_eq : ∀ (k : Nat) (l : Led), dropL k l = l.drop k
  | 0, l => rfl
  | n + 1, [] => rfl
  | n + 1, _ :: r => dropL_eq n r
theorem PkT.mem {led : Led} : ∀ {t : Led} {is : List Nat} {k : Nat}, PkT led t is k → ∀ q ∈ t, ∃ j, led[j]? = some q ∧ (j ∈ is ∨ k ≤ j)
  | _, _, k, .tail e, q, h => by
    rw [dropL_eq] at e
    subst e
    obtain ⟨j, hj⟩ := List.mem_iff_getElem?.mp h
    rw [List.getElem?_drop] at hj
    exact ⟨k + j, hj, .inr (Nat.le_add_right _ _)⟩
  | _, _, _, .cons (i := i) h1 h2, q, h => by
    rcases List.mem_cons.mp h with rfl | h
    · exact ⟨i, ix_at h1, .inl (.head _)⟩
    · obtain ⟨j, e, hj⟩ := h2.mem q h
      exact ⟨j, e, hj.imp (.tail _) id⟩
theorem PkT.nd {led : Led} (hn : (led.map (·.1)).Nodup) : ∀ {t : Led} {is : List Nat} {k : Nat}, PkT led t is k → is.Nodup → (∀ i ∈ is, i < k) → (t.map (·.1)).Nodup
  | _, _, k, .tail e, _, _ => by
    rw [dropL_eq] at e
    subst e
    exact hn.sublist ((List.drop_sublist k led).map _)
  | _, _, k, .cons (q := q) (i := i) h1 h2, h, hk => by
    rw [List.nodup_cons] at h
    rw [List.map_cons, List.nodup_cons]
    refine ⟨fun hm => ?_, h2.nd hn h.2 fun j hj => hk j (.tail _ hj)⟩
    obtain ⟨q', hq', e⟩ := List.mem_map.mp hm
    obtain ⟨j, e2, hj⟩ := h2.mem q' hq'
    have e1 := ix_at h1
    have h3 : (led.map (·.1))[i]? = some q.1 := by rw [List.getElem?_map, e1]; rfl
    have h4 : (led.map (·.1))[j]? = some q.1 := by rw [List.getElem?_map, e2, ← e]; rfl
    have hlt := (List.getElem?_eq_some_iff.mp h3).1
    have := (List.getElem?_inj hlt hn).mp (h3.trans h4.symm)
    subst this
    rcases hj with hj | hj
    · exact h.1 hj
    · exact Nat.lt_irrefl _ (Nat.lt_of_lt_of_le (hk i (.head _)) hj)
theorem PkT.sub {t led : Led} {is : List Nat} {k : Nat} (h : PkT led t is k) (e : decide (is.Nodup ∧ ∀ i ∈ is, i < k) = true) : SubL t led :=
  have e := of_decide_eq_true e
  ⟨fun q hq => by obtain ⟨j, e, _⟩ := h.mem q hq; exact List.mem_of_getElem? e, fun n => h.nd n e.1 e.2⟩
theorem enterCB {name qual : Str} {params : Arguments} {body : List Stmt} {scope : Scope} {dV kV doc pm cdv ct oc : Value} {an od : Option Addr} {osl : Array (Option Value)} {f : Addr} {args : List Value} {kw : List (Str × Value)} {binds : List (Str × Value)} {led : Led} {R : Value → Led → Prop}
    {p : Program} {loose : List Str} {mean : ExcName → Option Value} {mg mb : Str → Option Value} {hb : Heap} (l : Loc)
    (G : G0 w p loose mean mg mb hb) (ho : (KF w.params).lookup f = some ⟨oc, od, .func (fnOf name qual params body scope dV kV doc pm an cdv ct), osl⟩) (hcd : codeIn (KF w.params) cdv qual = true)
    (hbind : ∀ s : Shared, hb.StaysIn s.heap → BindsTo s (fnOf name qual params body scope dV kV doc pm an cdv ct) ⟨args, kw⟩ binds)
    (hkind : ∀ n, ∀ x ∈ binds, scope.names.lookup x.1 = some .local ∨ (scope.names.lookup x.1 = some .cell ∧ ((cellsFrom n scope.names []).lookup x.1).isSome = true))
    (hnd : ((cellsFrom 0 scope.names []).map (·.1)).Nodup)
    (hl : ∀ L, (binds.filter fun y => (envOfC qual scope L f cdv).kindOf y.1 == some NameKind.local).reverse = l)
    (h : ∀ (C : Cx w) (Q : Flow → Loc → Led → Prop) (cells : Led), Room C N U → (∀ {v : Value} {l' led'}, R v led' → Q (.ret v) l' led') → (∀ {l' led'}, R .none led' → Q .next l' led') →
      (∀ {f : Flow} {l' led' t}, SubL t led' → Q f l' t → Q f l' led') → CellsAre (bindC (envOfC qual scope C.L f cdv).kindOf binds fun _ => none) (cellsFrom (C.L + 1) scope.names []) cells →
      let env := envOfC qual scope C.L f cdv; let l' : Loc := l; EnvOk C env → Wp C (execs body env) Q l' (cells ++ led))
    (hco : scope.isCoroutine = false := by rfl) (hgen : scope.isGenerator = false := by rfl) (hk : scope.kind = .function := by rfl) : Does w hb (N + 1) (U + 3) f args kw led R := by
  intro A s hh hs hled nd hdep hu
  have hroom : A.depth < recursionLimit := Nat.lt_of_le_of_lt (Nat.le_add_right _ _) hdep
  refine enterCQ (binds := binds) (led := led) (R := R) l G hs hled nd hroom ho hcd (hbind s hs) hkind hnd hl hh (fun g L W s' cells B Q Gr hc S hlt hhB hdB huB fi fn => ?_) hco hgen hk
  refine Wp.use (C := ⟨hb, p, loose, mean, mg, mb, g, L, W, s, B, G, Gr, hhB⟩)
    (Q := fun fl l' led' => ∃ t, SubL t led' ∧ ((∃ v, fl = .ret v ∧ R v t) ∨ (fl = .next ∧ R .none t)))
    (h ⟨hb, p, loose, mean, mg, mb, g, L, W, s, B, G, Gr, hhB⟩ _ cells ⟨?_, ?_⟩ ?_ ?_ ?_ hc ⟨hk, rfl, rfl, rfl⟩) S ?_
  · show B.depth + N < recursionLimit; rw [hdB]; lia
  · show B.units + U < cLine; rw [huB]; lia
  · exact fun {v l' led'} r => ⟨led', .refl _, .inl ⟨v, rfl, r⟩⟩
  · exact fun {l' led'} r => ⟨led', .refl _, .inr ⟨rfl, r⟩⟩
  · intro f l' led' t hr ⟨t', hr', q⟩
    exact ⟨t', hr'.trans hr, q⟩
  · rintro fl l' led' s' S' ⟨t, hr, q⟩
    have S1 := hr.st S'
    rcases q with ⟨v, rfl, q⟩ | ⟨rfl, q⟩
    · exact fi S1 q
    · exact fn S1 q

-- comprehensions
noncomputable def CompW (C : Cx w) (env : Env) (elt target iter : Expr) (ifs : List Expr) (scope : Scope) (cl : List (Str × Addr)) (pos : Pos) (Q : Value → Loc → Led → Prop) (v : Value) (l : Loc) (led : Led) : Prop :=
  ∀ s, C.S l led s → wpAny (model pgm w) C.A (pyIter v) (fun it s₂ => CompGo w C.A (fun _ _ => False) env elt target iter ifs scope cl pos (fun v s' => ∃ l' led', C.S l' led' s' ∧ Q v l' led') it s₂) (fun _ _ => False) s
theorem c_comp (h : let Q' : Value → Loc → Led → Prop := CompW C env elt target iter ifs scope cl pos Q; Wp C (eval iter env) Q' l led)
    (hclos : closureFor scope env = Pure.pure cl := by with_unfolding_all rfl) (hkind : scope.kind = .function := by with_unfolding_all rfl) (hnames : ∀ x ∈ scope.names, x.2 = .local → scope.names.lookup x.1 = some .local := by decide)
    (hs : ∀ x, foldedSetIterable iter env x = Pure.pure x := by intro _; with_unfolding_all rfl) : Wp C (eval (.ListComp elt [⟨target, iter, ifs, 0⟩] scope pos) env) Q l led := fun s S =>
  r_comp (Wp.use h S fun v l' led' s' S' q => q s' S') hclos hkind hnames hs
theorem CompW.sub {v : Value} {t : Led} (hs : SubL t led) (h : CompW C env elt target iter ifs scope cl pos Q v l t) : CompW C env elt target iter ifs scope cl pos Q v l led := fun s S => h s (hs.st S)
noncomputable def TestW (C : Cx w) (env : Env) (ifs : List Expr) (Q : Bool → Loc → Led → Prop) (l : Loc) (led : Led) : Prop :=
  Wp C (forIn ifs true fun c r => if r = true then do let ok ← isTrue c env (eval c env); Pure.pure (ForInStep.yield ok) else Pure.pure (ForInStep.yield r)) Q l led
theorem c_tests0 {Q : Bool → Loc → Led → Prop} (h : Q true l led) : TestW C env [] Q l led := fun s S => wpAny_tests_nil ⟨_, _, S, h⟩
theorem c_tests1 {e : Expr} {Q : Bool → Loc → Led → Prop} (h : Wp C (isTrue e env (eval e env)) Q l led) : TestW C env [e] Q l led := fun s S => wpAny_tests_one (h s S)
noncomputable def Turn3 (hd : Led) (J : Led → Prop) (l : Loc) (led : Led) : Prop := ∃ t, SubL (hd ++ t) led ∧ J t
theorem Turn3.of {q1 q2 q3 : Addr × Obj} {J : Led → Prop} {l : Loc} {t : Led} (h : J t) : Turn3 [q1, q2, q3] J l (q1 :: q2 :: q3 :: t) := ⟨t, .refl _, h⟩
theorem Turn3.sub {hd t : Led} {J : Led → Prop} {l : Loc} {led : Led} (hs : SubL (hd ++ t) led) (h : J t) : Turn3 hd J l led := ⟨t, hs, h⟩
@[reducible] noncomputable def kItem (C : Cx w) (env : Env) (elt : Expr) (hd : Led) (J : List Value → Led → Prop) (ys : List Value) : Bool → Loc → Led → Prop := fun ok l led => if ok = true then Wp C (eval elt env) (fun y l led => Turn3 hd (J (ys ++ [y])) l led) l led else Turn3 hd (J ys) l led
@[reducible] noncomputable def kTests (C : Cx w) (env : Env) (ifs : List Expr) (elt : Expr) (hd : Led) (J : List Value → Led → Prop) (ys : List Value) : Unit → Loc → Led → Prop := fun _ l led => TestW C env ifs (kItem C env elt hd J ys) l led
noncomputable abbrev Item (C : Cx w) (env : Env) (elt target : Expr) (ifs : List Expr) (scope : Scope) (cl : List (Str × Addr)) (fx : Led) (J J' : List Value → Led → Prop) (v : Value) : Prop :=
  ∀ (C' : Cx w) (D I : Addr) (oL oI : Obj) (ys : List Value) (n : Nat) (led : Led), (∀ {N U}, Room C N U → Room C' N U) → J ys led → let env' : Env := compEnvC scope cl C'.L env; EnvOk C' env' →
    let led' : Led := (C.L, oL) :: (D, listOf ys.toArray n) :: (I, oI) :: (fx ++ led); let Q' : Unit → Loc → Led → Prop := kTests C' env' ifs elt ((C.L, oL) :: (D, listOf ys.toArray n) :: (I, oI) :: fx) J' ys; Wp C' (assign target env' v) Q' [] led'
theorem item_st (he : EnvOk C env) (hkind : scope.kind = .function) {J J' : List Value → Led → Prop} {v : Value} (h : Item C env elt target ifs scope cl fx J J' v) {L' D I : Addr} {W' : List Addr} {oL oI : Obj} {ys : List Value} {n : Nat} {led : Led} {s : Shared} {E' : Value → Shared → Prop} (hJ : J ys led)
    (S : St C.g L' W' [] ((C.L, oL) :: (D, listOf ys.toArray n) :: (I, oI) :: (fx ++ led)) C.s₀ s) :
      wpAny (model pgm w) C.A (assign target (compEnvC scope cl L' env) v) (fun _ s₂ =>
        wpAny (model pgm w) C.A (forIn ifs true fun c r => if r = true then do let ok ← isTrue c (compEnvC scope cl L' env) (eval c (compEnvC scope cl L' env)); Pure.pure (ForInStep.yield ok) else Pure.pure (ForInStep.yield r)) (fun ok s₃ =>
          if ok = true then wpAny (model pgm w) C.A (eval elt (compEnvC scope cl L' env)) (fun y s₄ => ∃ l' led', J' (ys ++ [y]) led' ∧ St C.g L' W' l' ((C.L, oL) :: (D, listOf ys.toArray n) :: (I, oI) :: (fx ++ led')) C.s₀ s₄) E' s₃
          else ∃ l' led', J' ys led' ∧ St C.g L' W' l' ((C.L, oL) :: (D, listOf ys.toArray n) :: (I, oI) :: (fx ++ led')) C.s₀ s₃) E' s₂) E' s := by
  have fin : ∀ {J : Led → Prop} {l : Loc} {led : Led} {s : Shared}, St C.g L' W' l led C.s₀ s → Turn3 ((C.L, oL) :: (D, listOf ys.toArray n) :: (I, oI) :: fx) J l led → ∃ l' led', J led' ∧ St C.g L' W' l' ((C.L, oL) :: (D, listOf ys.toArray n) :: (I, oI) :: (fx ++ led')) C.s₀ s :=
    fun S ⟨t, hs, j⟩ => ⟨_, t, j, hs.st S⟩
  refine Wp.use (C := { C with L := L', W := W' }) (h { C with L := L', W := W' } D I oL oI ys n led (fun r => ⟨r.d, r.u⟩) hJ ⟨hkind, rfl, he.g, he.b⟩) S fun _ l1 led1 s1 S1 q => ?_
  refine Wp.use (C := { C with L := L', W := W' }) q S1 fun ok l2 led2 s2 S2 q2 => ?_
  cases ok with
  | true => exact (if_pos (c := true = true) rfl).symm ▸ Wp.use (C := { C with L := L', W := W' }) (iteT q2) S2 fun y l3 led3 s3 S3 q3 => fin S3 q3
  | false => exact (if_neg (c := false = true) (by decide)).symm ▸ fin S2 (iteF q2)
theorem c_compN {m : Nat} {r : Addr} {t1 t2 t3 : Tok} (hb : b - a = (m : Int)) (hm : m ≤ 1000000) (he : EnvOk C env) (J : Nat → List Value → Led → Prop) (hJ : J 0 [] news) (hlen : ∀ i ys led, J i ys led → ys.length ≤ sizeLine)
    (turn : ∀ (i : Nat) (t : Tok), i < m → Item C env elt target ifs scope cl [] (J i) (J (i + 1)) (.int (a + i) t))
    (fin : ∀ D ys n led, J m ys led → let led' : Led := (D, listOf ys.toArray n) :: led; Q (.ref D) l led')
    (hcell : ∀ y ∈ scope.names, y.2 ≠ .cell := by decide) (hkind : scope.kind = .function := by with_unfolding_all rfl) (ht : ∀ x v, letOwnedTupleGo target x v = Pure.pure () := by intro _ _; with_unfolding_all rfl) :
    CompW C env elt target iter ifs scope cl pos Q (.ref r) l ((r, { cls := .type "range", data := .fields #[.int a t1, .int b t2, .int 1 t3] }) :: news) := fun s S =>
  r_compN hb hm C.hh S J hJ hlen hcell hkind (fun L' D oL i t I oI ys n led s E' W' hi hj S => item_st he hkind (turn i t hi) hj S) (fun D ys n led s hj S => ⟨_, _, S, fin D ys n led hj⟩) ht
theorem c_compW {D : Addr} {I : Addr} {o₀ : Obj} {fp wr : List Addr} {m : Nat} {P : Nat → Value → Prop} {It : Nat → Heap → Prop} {s : Shared} {E : Value → Shared → Prop}
    (Wk : Walks pgm w C.A I fp wr m P It) (hfp : ∀ b ∈ fp, b = I ∨ b ∈ fx.map (·.1)) (hwr : ∀ b ∈ wr, b = I) (hI : ∀ i h, It i h → ∃ o, h.get? I = some o) (he : EnvOk C env)
    (J : Nat → List Value → Led → Prop) (S : C.S l ((I, o₀) :: (fx ++ led)) s) (hst : It 0 s.heap) (hJ : J 0 [] led) (hlen : ∀ i ys led, J i ys led → ys.length ≤ sizeLine)
    (turn : ∀ (i : Nat) (v : Value), i < m → P i v → Item C env elt target ifs scope cl fx (J i) (J (i + 1)) v)
    (fin : ∀ D ys n led, J m ys led → let led' : Led := (D, listOf ys.toArray n) :: (fx ++ led); Q (.ref D) l led')
    (hcell : ∀ y ∈ scope.names, y.2 ≠ .cell) (hkind : scope.kind = .function) (ht : ∀ v, letOwnedTupleGo target (.ref I) v = Pure.pure ()) :
    CompGo w C.A E env elt target iter ifs scope cl pos (fun v s' => ∃ l' led', C.S l' led' s' ∧ Q v l' led') (.ref I) s :=
  r_compW Wk hfp hwr hI J S hst hJ hlen hcell hkind (fun L' D oL i v oI ys n led s E' W' hi hp hj S => item_st he hkind (turn i v hi hp) hj S) (fun D ys n led s hj S => ⟨_, _, S, fin D ys n led hj⟩) ht
end
-- F15
local macro_rules | `(tactic| walk_at "m eval") => `(tactic| first
  | ((with_reducible refine' c_cell ?EZ0 ?EZ1 ?EZ2 ?EZ3 ?_); (case EZ0 => assumption); (case EZ1 => exact rfl); (case EZ2 => lcg_off); (case EZ3 => assumption))
  | (with_reducible refine c_comp ?_; intro _))
local macro_rules | `(tactic| walk_at "m ev") => `(tactic| first | with_reducible refine c_tests0 ?_ | with_reducible refine c_tests1 ?_)
local macro_rules | `(tactic| walk_at "m tl") => `(tactic| first | exact ptl 2 | exact ptl 3 | exact ptl 4 | exact ptl 5 | exact ptl 6 | exact ptl 7 | exact ptl 8 | exact ptl 9 | exact ptl 10 | exact ptl 11 | exact ptl 12 | exact ptl 13)
local macro_rules | `(tactic| walk_at "m pkts") => `(tactic| first | walk_at "m tl" | ((refine' PkT.cons ?FZ0 ?FZ1); (case FZ0 => lcg_sub); (case FZ1 => walk_at "m pkts")))
local macro_rules | `(tactic| walk_at "m pkt") => `(tactic| ((refine' PkT.sub ?GZ0 ?GZ1); (case GZ0 => walk_at "m pkts"); (case GZ1 => exact rfl)))
section
variable {w : World} {p : Program} {loose : List Str} {mean : ExcName → Option Value} {mg mb : Str → Option Value} {hb : Heap}
theorem SubL.dr {t led : Led} {k : Nat} (h : dropL k led = t) : SubL t led := by
  rw [dropL_eq] at h; subst h
  exact .of (r := led.take k) (by have := List.perm_append_comm (l₁ := led.take k) (l₂ := led.drop k); rwa [List.take_append_drop] at this)
theorem SubL.tail3 {a b c : Addr × Obj} {r : Led} : SubL r (a :: b :: c :: r) := .right (t := [a, b, c])
theorem Wp.named {α : Type} {w : World} {C : Cx w} {m : Sem α} {Q : α → Loc → Led → Prop} {l : Loc} {led : Led} (h : let led' : Led := led; Wp C m Q l led') : Wp C m Q l led := h
theorem WorldO.Is.setM {ω : WorldO} {y : WState} {a x : Int} {n : Nat} {mo : Obj} {kvs : List (Int × Value)} (h : ω.Is w y) (h1 : mo.IsDictOf (intKind pgm w) kvs) (h2 : Held kvs (storeN y.mem a x n)) : ({ ω with mo := mo } : WorldO).Is w { y with mem := storeN y.mem a x n } :=
  ⟨h.dict, h.cells, h.xcells, ⟨kvs, h1, h2⟩, h.lo⟩
theorem store_step {kvs : List (Int × Value)} {ms : List (Int × Int)} {a x : Int} {i : Nat} (h : Held kvs (putM (storeN ms a x i) ((a + (i : Int)) % 2 ^ 64) (x / 2 ^ (8 * (i : Int)).toNat % 256))) : Held kvs (storeN ms a x (i + 1)) := by
  have eb : (8 * (i : Int)).toNat = 8 * i := by lia
  rw [eb] at h
  exact h
theorem law_store_does (G : G0 w p loose mean mg mb hb) {ω : WorldO} {y : WState} {a n x : Int} {t u v : Tok} {N : Nat} (hω : ω.Is w y) (hy : y.mem.length ≤ 1000000) (hn : n = (N : Int)) (hN : N ≤ 16) :
    Does w hb 3 60 717 [.ref ω.wd, .int a t, .int n u, .int x v] [] (ω.led w) (fun v b => v = .none ∧ ∃ ω' : WorldO, ω'.wd = ω.wd ∧ ω'.Is w { y with mem := storeN y.mem a x N } ∧ b = ω'.led w) := by
  obtain ⟨kvs, hm1, hm2⟩ := hω.mem
  refine' enterB (binds := [(Str.ofString "world", .ref ω.wd), (Str.ofString "begin", .int a t), (Str.ofString "width", .int n u), (Str.ofString "worth", .int x v)]) (by assumption) ?k6 ?k7 ?k9 ?kB [(Str.ofString "worth", .int x v), (Str.ofString "width", .int n u), (Str.ofString "begin", .int a t), (Str.ofString "world", .ref ω.wd)] rfl ?_ ?c2 ?c3 ?c4 ?c5
  case k6 => k_is
  case k7 => k_is
  case k9 => (intro s hs; first | exact BindsTo.of_eq rfl | exact binds_K (Frag.In.keeps (G0.X (by assumption)) hs) rfl (by k_is) rfl rfl rfl)
  case c5 => decide
  case kB => exact locs rfl
  case c2 => exact rfl
  case c3 => exact rfl
  case c4 => exact rfl
  intro C Q hR fini finn perm env l led he
  repeat (walk_at "m ev")
  refine' c_forN0 (m := N) hn (fun i l led => (∃ t1 t2, LocIn [(Str.ofString "held", .ref ω.wm), (Str.ofString "begin", .int a t1), (Str.ofString "worth", .int x t2)] l) ∧ ∃ (mo : Obj) (kvs : List (Int × Value)), mo.IsDictOf (intKind pgm w) kvs ∧ Held kvs (storeN y.mem a x i) ∧ led = ({ ω with mo := mo } : WorldO).led w) ?hJ ?turn ?fin
  case hJ => exact ⟨⟨_, _, rfl, rfl, rfl, trivial⟩, ω.mo, kvs, hm1, hm2, rfl⟩
  case turn =>
    rintro i t I oI l _ hi' ⟨⟨t1, t2, hl⟩, mo, kvs, hm1, hm2, rfl⟩ Q' led
    refine Wp.pick hl ?_
    have hlen := storeN_length y.mem a x i
    repeat (walk_at "m ev")
    refine' c_hset ?Uq hm1 hm2 ?hzq ?_
    case Uq => lcg_src
    case hzq => lia
    intro mo' kvs' hd1 hd2 _
    repeat (walk_at "m ev")
    exact Turn.of ⟨⟨_, _, rfl, rfl, rfl, trivial⟩, mo', kvs', hd1, store_step hd2, rfl⟩
  case fin =>
    rintro l _ ⟨_, mo, kvs, hm1, hm2, rfl⟩
    repeat (walk_at "m ev")
    exact finn ⟨rfl, { ω with mo := mo }, rfl, hω.setM hm1 hm2, rfl⟩
theorem load_step {ys : List Value} {ms : List (Int × Int)} {a : Int} {i : Nat} {t : Tok} (h : IntsAre ys (bytesAt ms a i)) : IntsAre (ys ++ [.int (look ms ((a + (0 + (i : Int))) % 2 ^ 64)) t]) (bytesAt ms a (i + 1)) := by
  rw [bytesAt_succ, Int.zero_add]
  exact ints_snoc h
theorem bytesAt_len {ys : List Value} {ms : List (Int × Int)} {a : Int} {i : Nat} (h : IntsAre ys (bytesAt ms a i)) (hi : i ≤ 1000) : ys.length ≤ sizeLine := by
  have := h.length
  rw [bytesAt_length] at this
  rw [sizeLine_eq]; lia
theorem law_load_does (G : G0 w p loose mean mg mb hb) {ω : WorldO} {y : WState} {a n : Int} {t u : Tok} {N : Nat} (hω : ω.Is w y) (hn : n = (N : Int)) (hN : N ≤ 16) :
    Does w hb 3 60 710 [.ref ω.wd, .int a t, .int n u] [] (ω.led w) (fun v b => (∃ t, v = .int (num (bytesAt y.mem a N)) t) ∧ b = ω.led w) := by
  obtain ⟨kvs, hm1, hm2⟩ := hω.mem
  have hlo := hω.lo
  refine' enterCB (binds := [(Str.ofString "world", .ref ω.wd), (Str.ofString "begin", .int a t), (Str.ofString "width", .int n u)]) ?kL (by assumption) ?k6 ?k7 ?k9 ?kB ?kN ?kl ?_ ?c2 ?c3 ?c4
  case k6 => k_is
  case k7 => k_is
  case k9 => (intro s hs; exact BindsTo.of_eq rfl)
  case kB => exact kindsX rfl
  case kN => decide +kernel
  case kl => intro _; exact rfl
  case c2 => exact rfl
  case c3 => exact rfl
  case c4 => exact rfl
  intro C Q cells hR fini finn perm hcells env l he
  obtain ⟨o1, o2, rfl, hc1, hc2⟩ := CellsAre.two hcells
  have hc1 : o1.data = .cell (some (.int a t)) := hc1
  have hc2 : o2.data = .cell (some (.ref ω.wd)) := hc2
  clear hcells
  refine Wp.named ?_
  intro led
  repeat (walk_at "m ev")
  refine' c_compN (a := 0) (m := N) ?h1 ?hN he (fun i ys led => i ≤ N ∧ IntsAre ys (bytesAt y.mem a i) ∧ led = [(C.L + 1 + 1, o1), (C.L + 1, o2)] ++ ω.led w) ?hJ ?hlen ?turn ?fin
  case h1 => lia
  case hN => lia
  case hJ => exact ⟨Nat.zero_le _, .nil, rfl⟩
  case hlen =>
    rintro i ys led ⟨h0, h, rfl⟩
    exact bytesAt_len h (by lia)
  case turn =>
    rintro i t' hi C' D I oL oI ys n' _ hR' ⟨_, hys, rfl⟩ env' he' led Q'
    have hR1 := hR' hR
    repeat (walk_at "m ev")
    exact Turn3.of ⟨hi, load_step hys, rfl⟩
  case fin =>
    rintro D ys n' _ ⟨_, hys, rfl⟩ led
    have hz : (bytesAt y.mem a N).length ≤ 1000 := by rw [bytesAt_length]; lia
    repeat (walk_at "m ev")
    exact perm (t := ω.led w) .tail3 (fini ⟨⟨_, rfl⟩, rfl⟩)
section
variable {C : Cx w} {l : Loc} {led : Led} {Q : Value → Loc → Led → Prop} {F U : Nat} {fl : Led → Led} {fl2 : Led → Led → Led} {ω : WorldO} {y : WState} {r : RegO} {ρ : Rg} {n x a : Int} {t u v : Tok} {N : Nat} {wd : Addr}
theorem c_lget (hR : Room C F U) (hle : (Nat.ble 3 F && Nat.ble 60 U) = true) (hω : ω.Is w y) (hy : y.Ok) (hr : r.Is ρ) (ok : ρ.Ok) (hn : n = 8 * (N : Int)) (hf : beginZ ρ + N ≤ (cellsOf y ρ.k).length) (hwd : ω.wd = wd) (sl : Slot2 (r.led w) (ω.led w) led fl2)
    (k : ∀ t, let led' : Led := fl2 (r.led w) (ω.led w); Q (.int (getW y ρ N) t) l led') : Wp C (call (.ref 698) [.ref wd, .ref r.x, .int n t]) Q l led := by
  subst hwd
  exact c_does2 (law_get_does C.G₀ hω hy hr ok hn hf) sl hR hle (by rintro _ _ ⟨⟨t, rfl⟩, rfl⟩; exact k t)
theorem c_lput (hR : Room C F U) (hle : (Nat.ble 3 F && Nat.ble 60 U) = true) (hω : ω.Is w y) (hy : y.Ok) (hr : r.Is ρ) (ok : ρ.Ok) (hn : n = 8 * (N : Int)) (hf : beginZ ρ + N ≤ (cellsOf y ρ.k).length) (hg : ρ.k = .gpr → beginZ ρ + 8 ≤ 128) (hwd : ω.wd = wd) (sl : Slot2 (r.led w) (ω.led w) led fl2)
    (k : ∀ ω' : WorldO, ω'.wd = wd → ω'.Is w (putW y ρ n x N) → let led' : Led := fl2 (r.led w) (ω'.led w); Q .none l led') : Wp C (call (.ref 705) [.ref wd, .ref r.x, .int n t, .int x u]) Q l led := by
  subst hwd
  exact c_does2 (law_put_does C.G₀ hω hy hr ok hn hf hg) sl hR hle (by rintro _ _ ⟨rfl, ω', e1, e2, rfl⟩; exact k _ e1 e2)
theorem c_lstore (hR : Room C F U) (hle : (Nat.ble 3 F && Nat.ble 60 U) = true) (hω : ω.Is w y) (hy : y.mem.length ≤ 1000000) (hn : n = (N : Int)) (hN : N ≤ 16) (hwd : ω.wd = wd) (sl : Slot (ω.led w) led fl)
    (k : ∀ ω' : WorldO, ω'.wd = wd → ω'.Is w { y with mem := storeN y.mem a x N } → let led' : Led := fl (ω'.led w); Q .none l led') : Wp C (call (.ref 717) [.ref wd, .int a t, .int n u, .int x v]) Q l led := by
  subst hwd
  exact c_does (law_store_does C.G₀ hω hy hn hN) sl hR hle (by rintro _ _ ⟨rfl, ω', e1, e2, rfl⟩; exact k _ e1 e2)
theorem c_lload (hR : Room C F U) (hle : (Nat.ble 3 F && Nat.ble 60 U) = true) (hω : ω.Is w y) (hn : n = (N : Int)) (hN : N ≤ 16) (hwd : ω.wd = wd) (sl : Slot (ω.led w) led fl)
    (k : ∀ t, let led' : Led := fl (ω.led w); Q (.int (num (bytesAt y.mem a N)) t) l led') : Wp C (call (.ref 710) [.ref wd, .int a t, .int n u]) Q l led := by
  subst hwd
  exact c_does (law_load_does C.G₀ hω hn hN) sl hR hle (by rintro _ _ ⟨⟨t, rfl⟩, rfl⟩; exact k t)
end
end
-- F16
section
variable {w : World} {p : Program} {loose : List Str} {mean : ExcName → Option Value} {mg mb : Str → Option Value} {hb : Heap}
structure SpO where
  T : Addr
  q : Spot
  τ : Nat → Tok
noncomputable abbrev SpO.ent (p : SpO) : Addr × Obj := (p.T, tupOf [Value.int p.q.b (p.τ 0), .int p.q.i (p.τ 1), .int p.q.s (p.τ 2), .int p.q.w (p.τ 3), .str p.q.g.str (p.τ 4)].toArray 0)
noncomputable def SpO.val (p : SpO) : Value := .ref p.T
structure Spot.Ok (q : Spot) : Prop where
  b0 : -1 ≤ q.b
  b1 : q.b ≤ 16
  i0 : -1 ≤ q.i
  i1 : q.i ≤ 15
  s0 : q.s.natAbs < 2 ^ 64
structure OldsO where
  oa : Addr
  no : Nat
  its : List SpO
  all : List SpO
noncomputable abbrev OldsO.led (O : OldsO) : Led := (O.oa, listOf (O.its.map SpO.val).toArray O.no) :: O.all.map SpO.ent
structure OldsO.Ok (O : OldsO) (m : Nat) : Prop where
  sub : ∀ t ∈ O.its, t ∈ O.all
  ok : ∀ t ∈ O.all, t.q.Ok
  len : O.its.length ≤ m
section
variable {C : Cx w} {l : Loc} {led : Led} {Q : Value → Loc → Led → Prop} {D : Addr} {vs : List Value} {n : Nat} {v : Value} {u : Tok} {value slice : Expr}
theorem c_itemNeg (hm : (D, listOf (vs ++ [v]).toArray n) ∈ led) (h : Q v l led) (hs : noSlice slice = true := by with_unfolding_all rfl) : Wp C (subscriptTail value slice (.ref D) (.int (-1) u)) Q l led := fun s S => by
  refine tail_any (PySem.IsL.isList (n := n) (S.N _ hm).1).typeIs slot_list_getitem.lookup (wpAny_getItem_list_neg (PySem.IsL.isList (n := n) (S.N _ hm).1) (by decide) ?_ (by decide) ?_ ⟨_, _, S, h⟩) (notSlice_sub hs)
  · simp; lia
  · have e : (-1 + ((vs ++ [v]).toArray.size : Int)).toNat = vs.length := by simp; lia
    rw [e]; simp
theorem c_segs {a b c d : Tok} {x : Int} (hm : (D, listOf [Value.str (Str.ofString "") a, .str (Str.ofString "") b, .str (Str.ofString "fs") c, .str (Str.ofString "gs") d].toArray n) ∈ led) (h0 : 0 ≤ x) (h1 : x < 4)
    (h : ∀ (gg : Sg) tg, Q (.str gg.str tg) l led) (hs : noSlice slice = true := by with_unfolding_all rfl) : Wp C (subscriptTail value slice (.ref D) (.int x u)) Q l led := by
  have : x = 0 ∨ x = 1 ∨ x = 2 ∨ x = 3 := by lia
  rcases this with rfl | rfl | rfl | rfl
  · exact c_item hm (by decide) (by decide) (by rfl) (h .no a) hs
  · exact c_item hm (by decide) (by decide) (by rfl) (h .no b) hs
  · exact c_item hm (by decide) (by decide) (by rfl) (h .fs c) hs
  · exact c_item hm (by decide) (by decide) (by rfl) (h .gs d) hs
end
theorem item_of (its : List SpO) {x : Int} (h : 0 ≤ x ∧ x < ((its.map SpO.val).length : Int)) : ∃ sp, sp ∈ its ∧ (its.map SpO.val)[x.toNat]? = some (SpO.val sp) := by
  have hlt : x.toNat < its.length := by have := h.2; rw [List.length_map] at this; omega
  exact ⟨its[x.toNat], List.getElem_mem hlt, by rw [List.getElem?_map, List.getElem?_eq_getElem hlt]; rfl⟩
noncomputable def SpotR (w : World) (P : PenO) (O : OldsO) (m : Nat) : Value → Led → Prop := fun v led' => ∃ (P' : PenO) (sp : SpO) (its : List SpO) (no : Nat), P'.pn = P.pn ∧ P'.Ok ∧ OldsO.Ok ⟨O.oa, no, its, sp :: O.all⟩ (m + 1) ∧ v = sp.val ∧
      led' = P'.led w ++ OldsO.led ⟨O.oa, no, its, sp :: O.all⟩
theorem item_use (its : List SpO) {x : Int} {Z : Prop} (h : 0 ≤ x ∧ x < ((its.map SpO.val).length : Int)) (k : ∀ sp, sp ∈ its → (its.map SpO.val)[x.toNat]? = some (SpO.val sp) → Z) : Z := let ⟨sp, h1, h2⟩ := item_of its h; k sp h1 h2
theorem spot_end {P P' : PenO} {O : OldsO} {m no : Nat} {D : Addr} {b i sc wo : Int} {gg : Sg} {t0 t1 t2 t3 t4 : Tok} {vsL : List Value} (h1 : P'.pn = P.pn) (h2 : P'.Ok) (hq : Spot.Ok ⟨b, i, sc, wo, gg⟩) (hO : O.Ok m) (hv : vsL = O.its.map SpO.val ∨ vsL = O.its.map SpO.val ++ [.ref D]) :
    SpotR w P O m (.ref D) (P'.led w ++ ((O.oa, listOf vsL.toArray no) :: (D, tupOf [Value.int b t0, .int i t1, .int sc t2, .int wo t3, .str gg.str t4].toArray 0) :: O.all.map SpO.ent)) := by
  have hall : ∀ t ∈ ((⟨D, ⟨b, i, sc, wo, gg⟩, fun k => [t0, t1, t2, t3, t4].getD k 0⟩ : SpO) :: O.all), t.q.Ok := by
    intro t ht
    rcases List.mem_cons.mp ht with rfl | ht
    · exact hq
    · exact hO.ok t ht
  rcases hv with rfl | rfl
  · exact ⟨P', ⟨D, ⟨b, i, sc, wo, gg⟩, fun k => [t0, t1, t2, t3, t4].getD k 0⟩, O.its, no, h1, h2, ⟨fun t ht => .tail _ (hO.sub t ht), hall, Nat.le_succ_of_le hO.len⟩, rfl, rfl⟩
  · refine ⟨P', ⟨D, ⟨b, i, sc, wo, gg⟩, fun k => [t0, t1, t2, t3, t4].getD k 0⟩, O.its ++ [⟨D, ⟨b, i, sc, wo, gg⟩, fun k => [t0, t1, t2, t3, t4].getD k 0⟩], no, h1, h2, ⟨fun t ht => ?_, hall, ?_⟩, rfl, ?_⟩
    · rcases List.mem_append.mp ht with ht | ht
      · exact .tail _ (hO.sub t ht)
      · simp at ht; rw [ht]; exact .head _
    · show (O.its ++ [_]).length ≤ m + 1
      rw [List.length_append]; have := hO.len; simp; lia
    · rw [OldsO.led, List.map_append]; rfl
theorem scale_small {y : Int} (h0 : 0 ≤ y) (h1 : y < 4) : (([1, 2, 4, 8] : List Int).getD y.toNat 0).natAbs < 2 ^ 64 := by
  have : y = 0 ∨ y = 1 ∨ y = 2 ∨ y = 3 := by lia
  rcases this with rfl | rfl | rfl | rfl <;> decide
theorem law_spot_does (G : G0 w p loose mean mg mb hb) {P : PenO} {O : OldsO} {m : Nat} (hP : P.Ok) (hO : O.Ok m) (hm : m ≤ 1000) :
    Does w hb 3 100 724 [.ref P.pn, .ref O.oa] [] (P.led w ++ O.led) (SpotR w P O m) := by
  have hpn : P.pn = P.pn := rfl
  have hlen := hO.len
  have hl2 : (O.its.map SpO.val).length ≤ 16777216 := by rw [List.length_map]; lia
  refine' enterB (binds := [(Str.ofString "pen", .ref P.pn), (Str.ofString "olds", .ref O.oa)]) (by assumption) ?k6 ?k7 ?k9 ?kB [(Str.ofString "olds", .ref O.oa), (Str.ofString "pen", .ref P.pn)] rfl ?_ ?c2 ?c3 ?c4 ?c5
  case k6 => k_is
  case k7 => k_is
  case k9 => (intro s hs; first | exact BindsTo.of_eq rfl | exact binds_K (Frag.In.keeps (G0.X (by assumption)) hs) rfl (by k_is) rfl rfl rfl)
  case c5 => decide
  case kB => exact locs rfl
  case c2 => exact rfl
  case c3 => exact rfl
  case c4 => exact rfl
  intro C Q hR fini finn perm env l led he
  refine c_seq ?_
  intro _
  refine c_if ?_
  intro _
  refine Wp.cut (fun b l' led' => (b = true → O.its ≠ []) ∧ ∃ P' : PenO, P'.Ok ∧ P'.pn = P.pn ∧ l' = l ∧ SubL (P'.led w ++ O.led) led') ?test ?_
  case test =>
    repeat (walk_at "m ev")
    cases hits : O.its with
    | nil =>
      have i0 : IntsAre (O.its.map SpO.val) [] := by rw [hits]; exact .nil
      refine c_neInts (vs := O.its.map SpO.val) (us := []) (ns := []) (ms := []) (by lcg_off) i0 (by lcg_off) .nil hR rfl ?_
      repeat (walk_at "m ev")
      exact ⟨fun h => absurd h (by decide), P, hP, rfl, rfl, .tail1⟩
    | cons t0 tr =>
      have hne : (O.its.map SpO.val).length ≠ ([] : List Value).length := by rw [hits]; simp
      refine c_neLen (vs := O.its.map SpO.val) (us := []) (by lcg_off) (by lcg_off) hne hR ?_
      repeat (walk_at "m ev")
      rename PenO.Ok _ => q1
      rename PenO.pn _ = _ => q2
      refine r_iteD (fun _ => ?_) fun _ => ?_
      ·
        repeat (walk_at "m ev")
        exact ⟨fun _ => by rw [hits]; exact List.cons_ne_nil _ _, _, q1, q2, rfl, .tail1⟩
      ·
        exact ⟨fun _ => by rw [hits]; exact List.cons_ne_nil _ _, _, q1, q2, rfl, .tail1⟩
  rintro b _ _ ⟨hb, P₁, hP₁, hpn₁, rfl, hs⟩
  cases b with
  | true =>
    refine r_iteT ?_
    refine Wp.sub hs ?_
    refine Wp.named ?_
    intro led
    have hpos : 0 < (O.its.map SpO.val).length := by
      rw [List.length_map]
      exact List.length_pos_iff.mpr (hb rfl)
    repeat (walk_at "m ev")
    rename _ ∧ _ < ((List.map SpO.val O.its).length : Int) => hx
    rename PenO.Ok _ => q1
    rename PenO.pn _ = _ => q2
    refine item_use O.its hx fun sp hin0 hget => ?_
    refine c_item (by lcg_off) hx.1 (by lia) hget ?_
    have hin : sp ∈ O.all := hO.sub _ hin0
    have hqok := hO.ok _ hin
    refine' c_asgT (n := 0) (vs := [Value.int sp.q.b (sp.τ 0), .int sp.q.i (sp.τ 1), .int sp.q.s (sp.τ 2), .int sp.q.w (sp.τ 3), .str sp.q.g.str (sp.τ 4)]) he ?hm ?hx ?hn ?_ ?hl
    case hm => exact List.mem_append_right _ (List.mem_cons_of_mem _ (List.mem_map_of_mem (f := SpO.ent) hin))
    case hx => exact rfl
    case hn => exact rfl
    case hl => exact rfl
    intro _
    repeat (walk_at "m ev")
    rename PenO.Ok _ => q1
    rename PenO.pn _ = _ => q2
    refine' perm ?ss (fini (spot_end q2 q1 ?hq hO (.inl rfl)))
    case ss => walk_at "m pkt"
    case hq => exact ⟨hqok.b0, hqok.b1, hqok.i0, hqok.i1, hqok.s0⟩
  | false =>
    refine r_iteF ?_
    refine c_end ?_
    refine Wp.sub hs ?_
    refine Wp.named ?_
    intro led
    refine c_seq ?_
    intro _
    refine Wp.cut (fun f l' led' => f = Flow.next ∧ ∃ (P' : PenO) (b i : Int) (tb ti : Tok), P'.Ok ∧ P'.pn = P.pn ∧ -1 ≤ b ∧ b ≤ 16 ∧ -1 ≤ i ∧ i ≤ 15 ∧ LocIn [(Str.ofString "base", .int b tb), (Str.ofString "index", .int i ti), (Str.ofString "pen", .ref P.pn), (Str.ofString "olds", .ref O.oa)] l' ∧ SubL (P'.led w ++ O.led) led') ?as1 ?_
    case as1 =>
      repeat (walk_at "m ev")
      rename PenO.Ok _ => q1
      rename PenO.pn _ = _ => q2
      exact ⟨rfl, _, _, _, _, _, q1, q2, by lia, by lia, by lia, by lia, ⟨rfl, rfl, rfl, rfl, trivial⟩, .tail1⟩
    rintro _ _ _ ⟨rfl, P₂, b, i, tb, ti, hP₂, hpn₂, b0, b1, i0, i1, hl₂, hs2⟩
    refine Wp.sub hs2 ?_
    refine Wp.named ?_
    intro led
    refine Wp.pick hl₂ ?_
    intro l
    refine c_seq ?_
    intro _
    refine Wp.cut (fun f l' led' => f = Flow.next ∧ ∃ (i : Int) (tb ti : Tok), -1 ≤ i ∧ i ≤ 15 ∧ LocIn [(Str.ofString "base", .int b tb), (Str.ofString "index", .int i ti), (Str.ofString "pen", .ref P.pn), (Str.ofString "olds", .ref O.oa)] l' ∧ led' = led) ?as2 ?_
    case as2 =>
      repeat (walk_at "m ev")
      refine r_iteE (fun h4 => ?_) fun h4 => ?_
      ·
        repeat (walk_at "m ev")
        exact ⟨rfl, _, _, _, by lia, by lia, ⟨rfl, rfl, rfl, rfl, trivial⟩, rfl⟩
      ·
        repeat (walk_at "m ev")
        refine r_iteE (fun h5 => ?_) fun h5 => ?_
        ·
          repeat (walk_at "m ev")
          exact ⟨rfl, _, _, _, by lia, by lia, ⟨rfl, rfl, rfl, rfl, trivial⟩, rfl⟩
        ·
          repeat (walk_at "m ev")
          exact ⟨rfl, _, _, _, by lia, by lia, ⟨rfl, rfl, rfl, rfl, trivial⟩, rfl⟩
    rintro _ _ _ ⟨rfl, i, tb, ti, i0, i1, hl₃, rfl⟩
    refine Wp.pick hl₃ ?_
    intro l
    refine c_seq ?_
    intro _
    refine Wp.cut (fun f l' led' => f = Flow.next ∧ ∃ (P' : PenO) (sc : Int) (tb ti ts : Tok), P'.Ok ∧ P'.pn = P.pn ∧ sc.natAbs < 2 ^ 64 ∧ LocIn [(Str.ofString "scale", .int sc ts), (Str.ofString "base", .int b tb), (Str.ofString "index", .int i ti), (Str.ofString "pen", .ref P.pn), (Str.ofString "olds", .ref O.oa)] l' ∧ SubL (P'.led w ++ O.led) led') ?as3 ?_
    case as3 =>
      repeat (walk_at "m ev")
      refine r_iteD (fun h4 => ?_) fun h4 => ?_
      ·
        repeat (walk_at "m ev")
        rename PenO.Ok _ => q1
        rename PenO.pn _ = _ => q2
        exact ⟨rfl, _, _, _, _, _, q1, q2, scale_small (by lia) (by lia), ⟨rfl, rfl, rfl, rfl, rfl, trivial⟩, .tail1⟩
      ·
        repeat (walk_at "m ev")
        exact ⟨rfl, _, _, _, _, _, hP₂, hpn₂, by decide, ⟨rfl, rfl, rfl, rfl, rfl, trivial⟩, .refl _⟩
    rintro _ _ _ ⟨rfl, P₃, sc, tb, ti, ts, hP₃, hpn₃, hsc, hl₄, hs4⟩
    refine Wp.sub hs4 ?_
    refine Wp.named ?_
    intro led
    refine Wp.pick hl₄ ?_
    intro l
    repeat (walk_at "m ev")
    rename PenO.Ok _ => q1
    rename PenO.pn _ = _ => q2
    refine c_segs (by lcg_off) (by lia) (by lia) fun gg tg => ?_
    repeat (walk_at "m ev")
    refine' c_append (vs := O.its.map SpO.val) ?U ?hz ?_
    case U => lcg_src
    case hz => rw [sizeLine_eq]; exact hl2
    intro _
    repeat (walk_at "m ev")
    refine c_itemNeg (vs := O.its.map SpO.val) (by lcg_off) ?_
    refine' perm ?ss (fini (spot_end q2 q1 ?hq hO (.inr rfl)))
    case ss => walk_at "m pkt"
    case hq => exact ⟨b0, b1, i0, i1, hsc⟩
section
variable {C : Cx w} {l : Loc} {led : Led} {Q : Value → Loc → Led → Prop} {N U : Nat} {P : PenO} {O : OldsO} {m : Nat} {fl : Led → Led → Led}
theorem c_spot {pn oa : Addr} (hR : Room C N U) (hle : (Nat.ble 3 N && Nat.ble 100 U) = true) (hP : P.Ok) (hO : O.Ok m) (hm : m ≤ 1000) (e1 : P.pn = pn) (e2 : O.oa = oa) (sl : Slot2 (P.led w) O.led led fl)
    (k : ∀ (P' : PenO) (sp : SpO) (its : List SpO) (no : Nat), P'.Ok → P'.pn = pn → OldsO.Ok ⟨oa, no, its, sp :: O.all⟩ (m + 1) → let led' : Led := fl (P'.led w) (OldsO.led ⟨oa, no, its, sp :: O.all⟩); Q (.ref sp.T) l led') : Wp C (call (.ref 724) [.ref pn, .ref oa]) Q l led := fun s S => by
  subst e1 e2
  obtain ⟨rest, p1, p2⟩ := sl.perm
  have r := hR.le hle
  exact use (law_spot_does C.G₀ hP hO hm) C.G (S.perm p1) .here C.hh r.d r.u fun v led' s' r S' => by
    obtain ⟨P', sp, its, no, h1, h2, h3, rfl, rfl⟩ := r
    exact ⟨_, _, S'.perm (p2 _ _), k P' sp its no h2 h1 h3⟩
end
end
-- F17
section
variable {w : World} {p : Program} {loose : List Str} {mean : ExcName → Option Value} {mg mb : Str → Option Value} {hb : Heap}
theorem law_mem_does (G : G0 w p loose mean mg mb hb) {sp : SpO} {n : Int} {t : Tok} (hq : sp.q.Ok) :
    Does w hb 5 200 731 [.ref sp.T, .int n t] [] [sp.ent] (fun v led' => ∃ o : MemOp, v = .ref o.x ∧ o.Is sp.q ∧ led' = o.led w ++ [sp.ent]) := by
  have q1 := hq.b0
  have q2 := hq.b1
  have q3 := hq.i0
  have q4 := hq.i1
  have q5 := hq.s0
  refine' enterB (binds := [(Str.ofString "spot", .ref sp.T), (Str.ofString "size", .int n t)]) (by assumption) ?k6 ?k7 ?k9 ?kB [(Str.ofString "size", .int n t), (Str.ofString "spot", .ref sp.T)] rfl ?_ ?c2 ?c3 ?c4 ?c5
  case k6 => k_is
  case k7 => k_is
  case k9 => (intro s hs; first | exact BindsTo.of_eq rfl | exact binds_K (Frag.In.keeps (G0.X (by assumption)) hs) rfl (by k_is) rfl rfl rfl)
  case c5 => decide
  case kB => exact locs rfl
  case c2 => exact rfl
  case c3 => exact rfl
  case c4 => exact rfl
  intro C Q hR fini finn perm env l led he
  refine c_seq ?_
  intro _
  refine Wp.cut (fun f l' led' => f = Flow.next ∧ ∃ (bo : Option RegO) (t2 : Tok), BaseIs bo sp.q.b ∧ LocIn [(Str.ofString "base", vBase bo), (Str.ofString "spot", .ref sp.T), (Str.ofString "size", .int n t2)] l' ∧ led' = rl w bo ++ [sp.ent]) ?as1 ?_
  case as1 =>
    repeat (walk_at "m ev")
    refine r_iteD (fun h => ?_) fun h => ?_
    ·
      repeat (walk_at "m ev")
      exact ⟨rfl, none, _, .none h, ⟨rfl, rfl, rfl, trivial⟩, rfl⟩
    ·
      repeat (walk_at "m ev")
      refine r_iteE (fun h6 => ?_) fun h6 => ?_
      ·
        repeat (walk_at "m ev")
        rename RegO.Is _ _ => hr
        exact ⟨rfl, some _, _, by rw [h6]; exact .rip hr, ⟨rfl, rfl, rfl, trivial⟩, rfl⟩
      ·
        repeat (walk_at "m ev")
        rename RegO.Is _ _ => hr
        exact ⟨rfl, some _, _, .gpr (by lia) (by lia) hr, ⟨rfl, rfl, rfl, trivial⟩, rfl⟩
  rintro _ _ _ ⟨rfl, bo, t2, hbo, hl, rfl⟩
  refine Wp.pick hl ?_
  intro l
  repeat (walk_at "m ev")
  refine r_iteD (fun h => ?_) fun h => ?_
  ·
    repeat (walk_at "m ev")
    refine c_Mem (bo := bo) (io := none) rfl rfl hR rfl ?_
    intro o h1 h2 h3 h4 h5 h6 _
    refine perm (t := o.led w ++ [sp.ent]) (.of (r := []) ?_) (fini ⟨o, rfl, ⟨by rw [h1]; exact hbo, by rw [h2]; exact .none h, h3, h4, h6, q5⟩, rfl⟩)
    show (o.hd w ++ (rl w bo ++ [sp.ent])).Perm _
    rw [MemOp.led, h1, h2]
    simp [rl]
  ·
    repeat (walk_at "m ev")
    rename RegO.Is _ _ => hr
    refine c_Mem (bo := bo) (io := some _) rfl rfl hR rfl ?_
    intro o h1 h2 h3 h4 h5 h6 _
    refine perm (t := o.led w ++ [sp.ent]) (.of (r := []) ?_) (fini ⟨o, rfl, ⟨by rw [h1]; exact hbo, by rw [h2]; exact .gpr (by lia) (by lia) hr, h3, h4, h6, q5⟩, rfl⟩)
    rw [MemOp.led, h1, h2, List.append_nil, List.append_assoc, List.append_assoc]
    exact perm_mid.append_left _
section
variable {C : Cx w} {l : Loc} {led : Led} {Q : Value → Loc → Led → Prop} {N U : Nat} {fl : Led → Led} {sp : SpO}
end
noncomputable def wbase (y : WState) (b : Int) : Int := if b < 0 then 0 else if b = 16 then y.rip else getW y ⟨.gpr, b, 64⟩ 8
noncomputable def offW (y : WState) (q : Spot) : Int := (q.w + wbase y q.b + wbase y q.i * q.s) % 2 ^ 64
noncomputable def segW (y : WState) : Sg → Int
  | .no => 0
  | .fs => y.fs
  | .gs => y.gs
noncomputable def placeW (y : WState) (q : Spot) : Int := (offW y q + segW y q.g) % 2 ^ 64
theorem wbase0 {y : WState} {b : Int} (h : b < 0) : wbase y b = 0 := by rw [wbase, if_pos h]
theorem wbase16 {y : WState} {b : Int} (h : b = 16) : wbase y b = y.rip := by rw [wbase, if_neg (by lia), if_pos h]
theorem wbaseG {y : WState} {b : Int} (h : 0 ≤ b) (h2 : b ≠ 16) : wbase y b = getW y ⟨.gpr, b, 64⟩ 8 := by rw [wbase, if_neg (by lia), if_neg h2]
section
variable {C : Cx w} {l : Loc} {led : Led} {Q : Value → Loc → Led → Prop} {F U : Nat} {fl : Led → Led → Led}
theorem c_lget64 {ω : WorldO} {y : WState} {r : RegO} {b : Int} {t : Tok} {wd : Addr} (hR : Room C F U) (hle : (Nat.ble 3 F && Nat.ble 60 U) = true) (hω : ω.Is w y) (hy : y.Ok) (hr : r.Is ⟨.gpr, b, 64⟩) (h0 : 0 ≤ b) (h1 : b ≤ 15) (hwd : ω.wd = wd) (sl : Slot2 (r.led w) (ω.led w) led fl)
    (k : ∀ t, let led' : Led := fl (r.led w) (ω.led w); Q (.int (getW y ⟨.gpr, b, 64⟩ 8) t) l led') : Wp C (call (.ref 698) [.ref wd, .ref r.x, .int 64 t]) Q l led := by
  refine c_lget (N := 8) hR hle hω hy hr (.gpr h0 h1 (by decide)) (by decide) ?_ hwd sl k
  show 8 * b + 8 ≤ _
  rw [cellsOf, if_neg (fun h => nomatch h), hy.cells]; lia
end
local macro_rules | `(tactic| walk_at "m call") => `(tactic| ((with_reducible refine' c_lget64 ?HZ0 ?HZ1 ?HZ2 ?HZ3 ?HZ4 ?HZ5 ?HZ6 ?HZ7 ?HZ8 ?_); (case HZ0 => assumption); (case HZ1 => exact rfl); (case HZ2 => assumption); (case HZ3 => assumption); (case HZ4 => assumption); (case HZ5 => omega); (case HZ6 => omega); (case HZ7 => assumption); (case HZ8 => walk_at "m slot2"); intro _ _))
local macro_rules | `(tactic| walk_at "m call") => `(tactic| ((with_reducible refine' c_octet ?IZ0 ?IZ1 ?IZ2 ?IZ3 ?_); (case IZ0 => assumption); (case IZ1 => exact rfl); (case IZ2 => assumption); (case IZ3 => kpt_turns); intro _ _))
theorem law_offset_does (G : G0 w p loose mean mg mb hb) {sp : SpO} {ω : WorldO} {y : WState} (hq : sp.q.Ok) (hω : ω.Is w y) (hy : y.Ok) :
    Does w hb 5 200 738 [.ref ω.wd, .ref sp.T] [] ([sp.ent] ++ ω.led w) (RW [sp.ent] fun v b => (∃ t, v = .int (offW y sp.q) t) ∧ b = ω.led w) := by
  have q1 := hq.b0
  have q2 := hq.b1
  have q3 := hq.i0
  have q4 := hq.i1
  have hwd : ω.wd = ω.wd := rfl
  refine' enterB (binds := [(Str.ofString "world", .ref ω.wd), (Str.ofString "spot", .ref sp.T)]) (by assumption) ?k6 ?k7 ?k9 ?kB [(Str.ofString "spot", .ref sp.T), (Str.ofString "world", .ref ω.wd)] rfl ?_ ?c2 ?c3 ?c4 ?c5
  case k6 => k_is
  case k7 => k_is
  case k9 => (intro s hs; first | exact BindsTo.of_eq rfl | exact binds_K (Frag.In.keeps (G0.X (by assumption)) hs) rfl (by k_is) rfl rfl rfl)
  case c5 => decide
  case kB => exact locs rfl
  case c2 => exact rfl
  case c3 => exact rfl
  case c4 => exact rfl
  intro C Q hR fini finn perm env l led he
  refine c_seq ?_
  intro _
  refine Wp.cut (fun f l' led' => f = Flow.next ∧ ∃ t, l' = (Str.ofString "total", .int sp.q.w t) :: l ∧ led' = led) ?a1 ?_
  case a1 =>
    repeat (walk_at "m ev")
    exact ⟨rfl, _, rfl, rfl⟩
  rintro _ _ _ ⟨rfl, t1, rfl, rfl⟩
  refine c_seq ?_
  intro _
  refine Wp.cut (fun f l' led' => f = Flow.next ∧ ∃ t, LocIn [(Str.ofString "total", .int (sp.q.w + wbase y sp.q.b) t), (Str.ofString "world", .ref ω.wd), (Str.ofString "spot", .ref sp.T)] l' ∧ SubL ([sp.ent] ++ ω.led w) led') ?a2 ?_
  case a2 =>
    repeat (walk_at "m ev")
    refine r_iteE (fun h6 => ?_) fun h6 => ?_
    ·
      repeat (walk_at "m ev")
      exact ⟨rfl, _, ⟨by rw [wbase16 h6]; rfl, rfl, rfl, trivial⟩, .refl _⟩
    ·
      repeat (walk_at "m ev")
      refine r_iteD (fun h7 => ?_) fun h7 => ?_
      ·
        repeat (walk_at "m ev")
        exact ⟨rfl, _, ⟨by rw [wbaseG h7 h6]; rfl, rfl, rfl, trivial⟩, .tail2⟩
      ·
        repeat (walk_at "m ev")
        exact ⟨rfl, t1, ⟨by rw [wbase0 (by lia), Int.add_zero]; rfl, rfl, rfl, trivial⟩, .refl _⟩
  rintro _ _ _ ⟨rfl, t2, hl, hs⟩
  refine Wp.sub hs ?_
  refine Wp.named ?_
  intro led
  refine Wp.pick hl ?_
  intro l
  refine c_seq ?_
  intro _
  refine Wp.cut (fun f l' led' => f = Flow.next ∧ ∃ t, LocIn [(Str.ofString "total", .int (sp.q.w + wbase y sp.q.b + wbase y sp.q.i * sp.q.s) t)] l' ∧ SubL ([sp.ent] ++ ω.led w) led') ?a3 ?_
  case a3 =>
    have q5 := hq.s0
    repeat (walk_at "m ev")
    refine r_iteD (fun h7 => ?_) fun h7 => ?_
    ·
      repeat (walk_at "m ev")
      exact ⟨rfl, _, ⟨by rw [wbaseG h7 (by lia), Int.mul_comm]; rfl, trivial⟩, .tail2⟩
    ·
      repeat (walk_at "m ev")
      exact ⟨rfl, t2, ⟨by rw [wbase0 (b := sp.q.i) (by lia), Int.zero_mul, Int.add_zero]; rfl, trivial⟩, .refl _⟩
  rintro _ _ _ ⟨rfl, t3, hl, hs⟩
  refine Wp.sub hs ?_
  refine Wp.named ?_
  intro led
  refine Wp.pick hl ?_
  intro l
  repeat (walk_at "m ev")
  exact fini ⟨_, _, rfl, ⟨⟨_, rfl⟩, rfl⟩, rfl⟩
end
-- F18
local macro_rules | `(tactic| walk_at "m call") => `(tactic| ((with_reducible refine' c_lget64 ?JZ0 ?JZ1 ?JZ2 ?JZ3 ?JZ4 ?JZ5 ?JZ6 ?JZ7 ?JZ8 ?_); (case JZ0 => assumption); (case JZ1 => exact rfl); (case JZ2 => assumption); (case JZ3 => assumption); (case JZ4 => assumption); (case JZ5 => omega); (case JZ6 => omega); (case JZ7 => assumption); (case JZ8 => walk_at "m slot2"); intro _ _))
local macro_rules | `(tactic| walk_at "m call") => `(tactic| ((with_reducible refine' c_octet ?KZ0 ?KZ1 ?KZ2 ?KZ3 ?_); (case KZ0 => assumption); (case KZ1 => exact rfl); (case KZ2 => assumption); (case KZ3 => kpt_turns); intro _ _))
section
variable {w : World} {p : Program} {loose : List Str} {mean : ExcName → Option Value} {mg mb : Str → Option Value} {hb : Heap}
theorem r_iteC1 {c : Bool} {X Y : Prop} (e : c = true) (h : X) : if c = true then X else Y := by rw [if_pos e]; exact h
theorem r_iteC0 {c : Bool} {X Y : Prop} (e : c = false) (h : Y) : if c = true then X else Y := by rw [if_neg (by rw [e]; decide)]; exact h
section
variable {C : Cx w} {l : Loc} {led : Led} {Q : Value → Loc → Led → Prop} {N U : Nat} {fl : Led → Led → Led} {ω : WorldO} {y : WState} {sp : SpO}
theorem c_neS {a b : Str} {t u : Tok} (h : Q (.bool (a != b)) l led) : Wp C (compareOp .NotEq (.str a t) (.str b u)) Q l led := fun s S => PyProof.Rows.ne_str ⟨_, _, S, h⟩
theorem c_loffset {wd T : Addr} (hR : Room C N U) (hle : (Nat.ble 5 N && Nat.ble 200 U) = true) (hq : sp.q.Ok) (hω : ω.Is w y) (hy : y.Ok) (hwd : ω.wd = wd) (hT : sp.T = T) (sl : Slot2 [sp.ent] (ω.led w) led fl)
    (k : ∀ t, let led' : Led := fl [sp.ent] (ω.led w); Q (.int (offW y sp.q) t) l led') : Wp C (call (.ref 738) [.ref wd, .ref T]) Q l led := by
  subst hwd hT
  exact c_does2 (law_offset_does C.G₀ hq hω hy) sl hR hle (by rintro _ _ ⟨⟨t, rfl⟩, rfl⟩; exact k t)
end
local macro_rules | `(tactic| walk_at "m cmp") => `(tactic| with_reducible refine c_neS ?_)
theorem Sg.ne_no (g : Sg) : (g.str != Str.ofString "") = !decide (g = .no) := by cases g <;> decide +kernel
theorem segW_look {y : WState} {g : Sg} (h : g ≠ .no) : wInt y g.str = some (segW y g) ∧ (g.str == Str.ofString "regs" || g.str == Str.ofString "xmms" || g.str == Str.ofString "memory") = false := by
  cases g
  · exact absurd rfl h
  · exact ⟨by rfl, by decide +kernel⟩
  · exact ⟨by rfl, by decide +kernel⟩
theorem law_place_does (G : G0 w p loose mean mg mb hb) {sp : SpO} {ω : WorldO} {y : WState} (hq : sp.q.Ok) (hω : ω.Is w y) (hy : y.Ok) :
    Does w hb 6 250 745 [.ref ω.wd, .ref sp.T] [] ([sp.ent] ++ ω.led w) (RW [sp.ent] fun v b => (∃ t, v = .int (placeW y sp.q) t) ∧ b = ω.led w) := by
  have hwd : ω.wd = ω.wd := rfl
  have e1 := sp.q.g.ne_no
  refine' enterB (binds := [(Str.ofString "world", .ref ω.wd), (Str.ofString "spot", .ref sp.T)]) (by assumption) ?k6 ?k7 ?k9 ?kB [(Str.ofString "spot", .ref sp.T), (Str.ofString "world", .ref ω.wd)] rfl ?_ ?c2 ?c3 ?c4 ?c5
  case k6 => k_is
  case k7 => k_is
  case k9 => (intro s hs; first | exact BindsTo.of_eq rfl | exact binds_K (Frag.In.keeps (G0.X (by assumption)) hs) rfl (by k_is) rfl rfl rfl)
  case c5 => decide
  case kB => exact locs rfl
  case c2 => exact rfl
  case c3 => exact rfl
  case c4 => exact rfl
  intro C Q hR fini finn perm env l led he
  repeat (walk_at "m ev")
  refine' c_loffset hR rfl hq hω hy rfl rfl ?sl ?_
  case sl => walk_at "m slot2"
  intro _ _
  repeat (walk_at "m ev")
  by_cases hg : sp.q.g = .no
  · rw [decide_eq_true hg] at e1
    refine r_iteC0 e1 ?_
    repeat (walk_at "m ev")
    exact fini ⟨_, _, rfl, ⟨⟨_, by rw [placeW, hg]; rfl⟩, rfl⟩, rfl⟩
  · rw [decide_eq_false hg] at e1
    refine r_iteC1 e1 ?_
    repeat (walk_at "m ev")
    refine c_wint hω rfl (by lcg_off) (segW_look (y := y) hg).1 (fun _ => ?_) (segW_look (y := y) hg).2
    repeat (walk_at "m ev")
    exact fini ⟨_, _, rfl, ⟨⟨_, rfl⟩, rfl⟩, rfl⟩
section
variable {C : Cx w} {l : Loc} {led : Led} {Q : Value → Loc → Led → Prop} {N U : Nat} {fl : Led → Led → Led} {ω : WorldO} {y : WState} {sp : SpO}
theorem c_lplace {wd : Addr} (hR : Room C N U) (hle : (Nat.ble 6 N && Nat.ble 250 U) = true) (hq : sp.q.Ok) (hω : ω.Is w y) (hy : y.Ok) (hwd : ω.wd = wd) (sl : Slot2 [sp.ent] (ω.led w) led fl)
    (k : ∀ t, let led' : Led := fl [sp.ent] (ω.led w); Q (.int (placeW y sp.q) t) l led') : Wp C (call (.ref 745) [.ref wd, .ref sp.T]) Q l led := by
  subst hwd
  exact c_does2 (law_place_does C.G₀ hq hω hy) sl hR hle (by rintro _ _ ⟨⟨t, rfl⟩, rfl⟩; exact k t)
end
end
-- Plain2
noncomputable abbrev blk (cs : List Int) (a k : Nat) : List Int := (cs.drop a).take k
theorem blk_get (cs : List Int) (a k i : Nat) : (blk cs a k)[i]? = if i < k then cs[a + i]? else none := by
  simp [blk, List.getElem?_take, List.getElem?_drop]
theorem blk_set_other {cs : List Int} {a k j : Nat} {v : Int} (h : j < a ∨ a + k ≤ j) : blk (cs.set j v) a k = blk cs a k := by
  apply List.ext_getElem?
  intro i
  rw [blk_get, blk_get]
  split
  · rw [List.getElem?_set_ne (by lia)]
  · rfl
theorem blk_set_in {cs : List Int} {a k j : Nat} {v : Int} (h0 : a ≤ j) (h1 : j < a + k) : blk (cs.set j v) a k = (blk cs a k).set (j - a) v := by
  apply List.ext_getElem?
  intro i
  rw [blk_get, List.getElem?_set, List.getElem?_set, blk_get]
  have hl : (blk cs a k).length = min k (cs.length - a) := by simp [blk]
  by_cases hi : i < k
  · simp only [hi, if_true]
    by_cases e : j = a + i
    · subst e
      have : a + i - a = i := by lia
      simp only [this, if_true]
      by_cases h2 : a + i < cs.length
      · rw [if_pos h2, if_pos (by rw [hl]; lia)]
      · rw [if_neg h2, if_neg (by rw [hl]; lia)]
    · rw [if_neg e, if_neg (by lia)]
  · simp only [hi, if_false]
    rw [if_neg (by lia)]
theorem blk_put_other {cs : List Int} {a k b : Nat} {x : Int} : ∀ {n : Nat}, (a + k ≤ b ∨ b + n ≤ a) → blk (putCells cs b x n) a k = blk cs a k
  | 0, _ => rfl
  | n + 1, h => by
    rw [putCells, blk_set_other (by lia), blk_put_other (by lia)]
theorem blk_put_in {cs : List Int} {a k b : Nat} {x : Int} : ∀ {n : Nat}, a ≤ b → b + n ≤ a + k → blk (putCells cs b x n) a k = putCells (blk cs a k) (b - a) x n
  | 0, _, _ => rfl
  | n + 1, h0, h1 => by
    rw [putCells, blk_set_in (by lia) (by lia), blk_put_in h0 (by lia), putCells, show b + n - a = b - a + n by lia]
theorem num_set : ∀ {cs : List Int} {j : Nat} {v : Int}, j < cs.length → num (cs.set j v) = num cs + (v - cs.getD j 0) * 256 ^ j
  | [], _, _, h => absurd h (Nat.not_lt_zero _)
  | c :: r, 0, v, _ => by simp [num]; lia
  | c :: r, j + 1, v, h => by
    have ih := num_set (cs := r) (j := j) (v := v) (by simpa using h)
    simp only [List.set_cons_succ, num, ih, List.getD_cons_succ, Int.pow_succ]
    generalize num r = N
    generalize v - r.getD j 0 = d
    rw [Int.mul_add, Int.mul_comm ((256 : Int) ^ j) 256, ← Int.mul_assoc d, Int.mul_comm d 256, Int.mul_assoc 256 d]
    lia
theorem num_digit : ∀ {cs : List Int} {j : Nat}, Oct cs → j < cs.length → cs.getD j 0 = num cs / 256 ^ j % 256
  | [], _, _, h => absurd h (Nat.not_lt_zero _)
  | c :: r, 0, ho, _ => by
    have := ho c (by simp)
    simp [num]; lia
  | c :: r, j + 1, ho, h => by
    have ih := num_digit (cs := r) (j := j) (fun n hn => ho n (by simp [hn])) (by simpa using h)
    have hc := ho c (by simp)
    simp only [num, List.getD_cons_succ, ih, Int.pow_succ]
    rw [Int.mul_comm ((256 : Int) ^ j) 256, ← Int.ediv_ediv_of_nonneg (by decide : (0 : Int) ≤ 256)]
    congr 2
    lia
theorem emod_mul_split (x : Int) (a b : Int) (ha : 0 < a) (hb : 0 < b) : x % (a * b) = x % a + a * (x / a % b) := by
  have h1 := Int.emod_add_mul_ediv x a
  have h2 := Int.emod_add_mul_ediv (x / a) b
  have h3 : 0 ≤ x % a := Int.emod_nonneg _ (by lia)
  have h4 : x % a < a := Int.emod_lt_of_pos _ ha
  have h5 : 0 ≤ x / a % b := Int.emod_nonneg _ (by lia)
  have h6 : x / a % b < b := Int.emod_lt_of_pos _ hb
  have e : x = (x % a + a * (x / a % b)) + a * b * (x / a / b) := by
    rw [Int.mul_assoc, Int.add_assoc, ← Int.mul_add, h2, h1]
  rw [e, Int.add_mul_emod_self_left]
  rw [← e]
  refine Int.emod_eq_of_lt (Int.add_nonneg h3 (Int.mul_nonneg (by lia) h5)) ?_
  have : a * (x / a % b) ≤ a * (b - 1) := Int.mul_le_mul_of_nonneg_left (by lia) (by lia)
  rw [Int.mul_sub] at this
  (clear e h6 h5 h3 h2 h1 hb ha; lia)
-- Plain3
theorem putCells_getD {cs : List Int} {c : Nat} {x : Int} : ∀ {n j : Nat}, c + n ≤ j → (putCells cs c x n).getD j 0 = cs.getD j 0
  | 0, _, _ => rfl
  | n + 1, j, h => by
    rw [putCells, List.getD_eq_getElem?_getD, List.getElem?_set_ne (by lia), ← List.getD_eq_getElem?_getD, putCells_getD (by lia)]
theorem arith1 (N A B C D p q : Int) : N + (A - B) * q + (C - D) * (q * p) = N + (A + p * C - (B + p * D)) * q := by grind
theorem pow256' (n : Nat) : (0 : Int) < 256 ^ n := Int.pow_pos (by decide)
theorem num_put {cs : List Int} {c : Nat} {x : Int} (ho : Oct cs) : ∀ {n : Nat}, c + n ≤ cs.length → num (putCells cs c x n) = num cs + (x % 256 ^ n - num cs / 256 ^ c % 256 ^ n) * 256 ^ c
  | 0, _ => by simp [putCells, Int.emod_one]
  | n + 1, h => by
    have ih := num_put ho (n := n) (c := c) (x := x) (by lia)
    rw [putCells, num_set (by rw [putCells_length]; lia), putCells_getD (Nat.le_refl _), num_digit ho (by lia), ih]
    rw [Int.pow_succ 256 n, emod_mul_split x _ _ (pow256' n) (by decide), emod_mul_split (num cs / 256 ^ c) _ _ (pow256' n) (by decide)]
    rw [Int.ediv_ediv_of_nonneg (Int.le_of_lt (pow256' c)), ← Int.pow_add, ← pow256, Int.pow_add]
    exact arith1 _ _ _ _ _ _ _
theorem put_oct {cs : List Int} {c : Nat} {x : Int} (ho : Oct cs) : ∀ n, Oct (putCells cs c x n)
  | 0 => ho
  | n + 1 => by
    intro y hy
    rw [putCells] at hy
    rcases List.mem_or_eq_of_mem_set hy with h | h
    · exact put_oct ho n y h
    · rw [h]; exact ⟨Int.emod_nonneg _ (by decide), Int.emod_lt_of_pos _ (by decide)⟩
theorem zeroN_put (cs : List Int) (b : Nat) : ∀ n, zeroN cs b n = putCells cs (b + 4) 0 n
  | 0 => rfl
  | n + 1 => by rw [zeroN, putCells, zeroN_put cs b n]; simp
theorem blk_oct {cs : List Int} (ho : Oct cs) (a k : Nat) : Oct (blk cs a k) := fun n hn => ho n (List.mem_of_mem_drop (List.mem_of_mem_take hn))
theorem blk_len {cs : List Int} {a k : Nat} (h : a + k ≤ cs.length) : (blk cs a k).length = k := by simp [blk]; lia
noncomputable def regsOf (cs : List Int) (k : Nat) : List Int := (List.range 16).map fun (i : Nat) => num (blk cs (k * i) k)
theorem regsOf_len (cs : List Int) (k : Nat) : (regsOf cs k).length = 16 := by simp [regsOf]
theorem regsOf_get {cs : List Int} {k n : Nat} (h : n < 16) : (regsOf cs k).getD n 0 = num (blk cs (k * n) k) := by
  simp [regsOf, List.getD_eq_getElem?_getD, h]
theorem regsOf_set {cs cs' : List Int} {k n : Nat} (h : n < 16) (ho : ∀ i, i < 16 → i ≠ n → blk cs' (k * i) k = blk cs (k * i) k) : regsOf cs' k = (regsOf cs k).set n (num (blk cs' (k * n) k)) := by
  apply List.ext_getElem?
  intro i
  rw [List.getElem?_set, regsOf_len]
  simp only [regsOf, List.getElem?_map]
  by_cases hi : i < 16
  · by_cases e : n = i
    · subst e; simp [h]
    · rw [if_neg e, List.getElem?_range hi]
      simp only [Option.map_some]
      rw [ho i hi (Ne.symm e)]
  · rw [List.getElem?_eq_none (by simp; lia), if_neg (by lia)]
    rfl
theorem num_take {cs : List Int} (ho : Oct cs) {k : Nat} (h : k ≤ cs.length) : num (cs.take k) = num cs % 256 ^ k := by
  have e := num_append (cs.take k) (cs.drop k)
  rw [List.take_append_drop, List.length_take, Nat.min_eq_left h] at e
  have b := num_nonneg (xs := cs.take k) fun n hn => ho n (List.mem_of_mem_take hn)
  rw [List.length_take, Nat.min_eq_left h] at b
  rw [e, Int.add_mul_emod_self_left, Int.emod_eq_of_lt b.1 b.2]
theorem num_drop {cs : List Int} (ho : Oct cs) {k : Nat} (h : k ≤ cs.length) : num (cs.drop k) = num cs / 256 ^ k := by
  have e := num_append (cs.take k) (cs.drop k)
  rw [List.take_append_drop, List.length_take, Nat.min_eq_left h] at e
  have b := num_nonneg (xs := cs.take k) fun n hn => ho n (List.mem_of_mem_take hn)
  rw [List.length_take, Nat.min_eq_left h] at b
  rw [e, Int.add_mul_ediv_left _ _ (by have := pow256' k; lia), Int.ediv_eq_zero_of_lt b.1 b.2, Int.zero_add]
structure Rel (z : MState) (y : WState) : Prop where
  regs : z.regs = regsOf y.cells 8
  xmm : z.xmm = regsOf y.xcells 16
  mem : z.mem = y.mem
  rip : z.rip = y.rip
  fs : z.fs = y.fs
  gs : z.gs = y.gs
  lc : y.cells.length = 128
  lx : y.xcells.length = 256
  oc : Oct y.cells
  ox : Oct y.xcells
  om : OctM y.mem
theorem Rel.okZ {z : MState} {y : WState} (r : Rel z y) : z.Ok := ⟨by rw [r.regs, regsOf_len], by rw [r.xmm, regsOf_len], by rw [r.mem]; exact r.om⟩
theorem Rel.okW {z : MState} {y : WState} (r : Rel z y) : y.Ok := ⟨r.lc, r.lx⟩
theorem blk_blk (cs : List Int) (a k b m : Nat) (h : b + m ≤ k) : blk (blk cs a k) b m = blk cs (a + b) m := by
  apply List.ext_getElem?
  intro i
  rw [blk_get, blk_get, blk_get]
  by_cases hi : i < m
  · rw [if_pos hi, if_pos hi, if_pos (by lia), Nat.add_assoc]
  · rw [if_neg hi, if_neg hi]
theorem num_blk {cs : List Int} (ho : Oct cs) {a k b m : Nat} (h : b + m ≤ k) (hl : a + k ≤ cs.length) : num (blk cs (a + b) m) = num (blk cs a k) / 256 ^ b % 256 ^ m := by
  rw [← blk_blk cs a k b m h]
  have l := blk_len hl
  show num ((List.drop b (blk cs a k)).take m) = _
  rw [num_take (fun n hn => blk_oct ho a k n (List.mem_of_mem_drop hn)) (by rw [List.length_drop]; lia), num_drop (blk_oct ho a k) (by lia)]
-- Plain4
theorem pow2z (N : Nat) : (2 : Int) ^ (8 * (N : Int)).toNat = 256 ^ N := by
  have : (8 * (N : Int)).toNat = 8 * N := by lia
  rw [this, ← pow256]
theorem cells_gpr {y : WState} {k : RK} (h : k ≠ .xmm) : cellsOf y k = y.cells := if_neg h
theorem cells_xmm {y : WState} : cellsOf y .xmm = y.xcells := if_pos rfl
theorem Rel.get {z : MState} {y : WState} (r : Rel z y) {ρ : Rg} (ok : ρ.Ok) {N : Nat} (hN : ρ.z = 8 * (N : Int)) : getZ z ρ = getW y ρ N := by
  cases ok with
  | @gpr n zz h0 h1 h2 =>
    dsimp only at hN
    obtain ⟨m, rfl⟩ := Int.eq_ofNat_of_zero_le h0
    have hb : (beginZ ⟨.gpr, (m : Int), zz⟩).toNat = 8 * m + 0 := by simp only [beginZ]; lia
    have hl := r.lc
    show z.regs.getD (m : Int).toNat 0 % 2 ^ zz.toNat = num (blk (cellsOf y .gpr) _ N)
    rw [cells_gpr (k := .gpr) (by decide), hb, num_blk r.oc (k := 8) (by lia) (by lia), hN, pow2z, r.regs, Int.toNat_natCast, regsOf_get (by lia)]
    simp
  | @high n h0 h1 =>
    dsimp only at hN
    have hb : (beginZ ⟨.high, n, 8⟩).toNat = 8 * (n - 4).toNat + 1 := by simp only [beginZ]; lia
    have hl := r.lc
    have hN1 : N = 1 := by lia
    subst hN1
    show z.regs.getD (n - 4).toNat 0 / 2 ^ 8 % 2 ^ 8 = num (blk (cellsOf y .high) _ 1)
    rw [cells_gpr (k := .high) (by decide), hb, num_blk r.oc (k := 8) (by lia) (by omega), r.regs, regsOf_get (by omega)]
    rfl
  | @xmm n h0 h1 =>
    dsimp only at hN
    obtain ⟨m, rfl⟩ := Int.eq_ofNat_of_zero_le h0
    have hb : (beginZ ⟨.xmm, (m : Int), 128⟩).toNat = 16 * m := by simp only [beginZ]; lia
    have hN1 : N = 16 := by lia
    subst hN1
    show z.xmm.getD (m : Int).toNat 0 = num (blk (cellsOf y .xmm) _ 16)
    rw [cells_xmm, hb, r.xmm, Int.toNat_natCast, regsOf_get (by omega)]
theorem Rel.base {z : MState} {y : WState} (r : Rel z y) {b : Int} (hb : b ≤ 16) : baseZ z b = wbase y b := by
  unfold baseZ wbase
  split
  · rfl
  · split
    · exact r.rip
    · exact r.get (.gpr (by lia) (by lia) (by decide)) (show (64 : Int) = 8 * ((8 : Nat) : Int) by decide)
theorem Rel.off {z : MState} {y : WState} (r : Rel z y) {q : Spot} (hq : q.Ok) : offZ z q = offW y q := by
  have := hq.b1
  have := hq.i1
  rw [offZ, offW, r.base (by lia), r.base (by lia)]
theorem Rel.place {z : MState} {y : WState} (r : Rel z y) {q : Spot} (hq : q.Ok) : placeZ z q = placeW y q := by
  rw [placeZ, placeW, r.off hq]
  congr 2
  cases q.g
  · rfl
  · exact r.fs
  · exact r.gs
theorem Rel.store {z : MState} {y : WState} (r : Rel z y) {a b x : Int} {N : Nat} (h : storeN z.mem a x N = storeN y.mem b x N) : Rel { z with mem := storeN z.mem a x N } { y with mem := storeN y.mem b x N } :=
  ⟨r.regs, r.xmm, h, r.rip, r.fs, r.gs, r.lc, r.lx, r.oc, r.ox, storeN_oct r.om N⟩
theorem storeN_mod (ms : List (Int × Int)) (a x : Int) : ∀ n, storeN ms (a % 2 ^ 64) x n = storeN ms a x n
  | 0 => rfl
  | n + 1 => by rw [storeN, storeN, storeN_mod ms a x n, Int.emod_add_emod]
theorem regs_put {cs : List Int} (ho : Oct cs) {k m b N : Nat} {x : Int} (hm : m < 16) (hl : 16 * k ≤ cs.length) (hb : b + N ≤ k) :
    regsOf (putCells cs (k * m + b) x N) k = (regsOf cs k).set m ((regsOf cs k).getD m 0 + (x % 256 ^ N - (regsOf cs k).getD m 0 / 256 ^ b % 256 ^ N) * 256 ^ b) := by
  have hkm : k * m + k ≤ cs.length := by
    have : k * m + k = k * (m + 1) := by rw [Nat.mul_succ]
    have h2 : k * (m + 1) ≤ k * 16 := Nat.mul_le_mul_left _ (by lia)
    lia
  rw [regsOf_set (n := m) hm (fun i hi hne => ?_), regsOf_get hm]
  · congr 1
    rw [blk_put_in (by lia) (by lia), show k * m + b - k * m = b by omega, num_put (blk_oct ho _ _) (by rw [blk_len hkm]; lia)]
  · refine blk_put_other ?_
    rcases Nat.lt_or_gt_of_ne hne with h | h
    · left
      have : k * (i + 1) ≤ k * m := Nat.mul_le_mul_left _ h
      rw [Nat.mul_succ] at this; lia
    · right
      have : k * (m + 1) ≤ k * i := Nat.mul_le_mul_left _ h
      rw [Nat.mul_succ] at this; lia
theorem regs_lt {cs : List Int} (ho : Oct cs) {k m : Nat} (hm : m < 16) (hl : 16 * k ≤ cs.length) : 0 ≤ (regsOf cs k).getD m 0 ∧ (regsOf cs k).getD m 0 < 256 ^ k := by
  have hkm : k * m + k ≤ cs.length := by
    have : k * m + k = k * (m + 1) := by rw [Nat.mul_succ]
    have h2 : k * (m + 1) ≤ k * 16 := Nat.mul_le_mul_left _ (by lia)
    lia
  rw [regsOf_get hm]
  have := num_nonneg (blk_oct ho (k * m) k)
  rwa [blk_len hkm] at this
-- Plain5
theorem Rel.cells {z : MState} {y : WState} (r : Rel z y) {rs cs : List Int} (h1 : rs = regsOf cs 8) (h2 : cs.length = 128) (h3 : Oct cs) : Rel { z with regs := rs } { y with cells := cs } :=
  ⟨h1, r.xmm, r.mem, r.rip, r.fs, r.gs, h2, r.lx, h3, r.ox, r.om⟩
theorem Rel.xcells {z : MState} {y : WState} (r : Rel z y) {rs cs : List Int} (h1 : rs = regsOf cs 16) (h2 : cs.length = 256) (h3 : Oct cs) : Rel { z with xmm := rs } { y with xcells := cs } :=
  ⟨r.regs, h1, r.mem, r.rip, r.fs, r.gs, r.lc, h2, r.oc, h3, r.om⟩
theorem getD_set_self {l : List Int} {m : Nat} {v : Int} (h : m < l.length) : (l.set m v).getD m 0 = v := by
  rw [List.getD_eq_getElem?_getD, List.getElem?_set_self h]; rfl
theorem Rel.put_gpr {z : MState} {y : WState} (r : Rel z y) {m N : Nat} {zz x : Int} (hm : m < 16) (hz : zz = 8 ∨ zz = 16 ∨ zz = 32 ∨ zz = 64) (hN : zz = 8 * (N : Int)) :
    Rel (putZ z ⟨.gpr, (m : Int), zz⟩ x) (putW y ⟨.gpr, (m : Int), zz⟩ zz x N) := by
  have hb : (beginZ ⟨.gpr, (m : Int), zz⟩).toNat = 8 * m := by simp only [beginZ]; lia
  have hl := r.lc
  have hlt := regs_lt r.oc (k := 8) hm (by lia)
  have e0 := regs_put r.oc (k := 8) (m := m) (b := 0) (N := N) (x := x) hm (by lia) (by lia)
  simp only [Nat.add_zero, Int.pow_zero, Int.ediv_one, Int.mul_one] at e0
  have hp := put_oct r.oc (c := 8 * m) (x := x) N
  have hpl := putCells_length y.cells (8 * m) x N
  unfold putW
  rw [if_neg (fun h => nomatch h), hb]
  show Rel { z with regs := z.regs.set (m : Int).toNat (joinedI (z.regs.getD (m : Int).toNat 0) (x % 2 ^ zz.toNat) zz) } _
  rw [Int.toNat_natCast]
  refine r.cells ?_ ?_ ?_
  · rw [r.regs]
    by_cases h32 : zz = 32
    · subst h32
      have hN4 : N = 4 := by lia
      subst hN4
      rw [if_pos ⟨rfl, rfl⟩, zeroN_put, regs_put hp hm (by lia) (by lia), e0, List.set_set]
      congr 1
      rw [getD_set_self (by rw [regsOf_len]; exact hm)]
      simp only [joinedI]
      generalize (regsOf y.cells 8).getD m 0 = R at *
      have : (32 : Int).toNat = 32 := rfl
      rw [if_pos (by decide), this]
      have e1 : (256 : Int) ^ 4 = 4294967296 := by decide
      have e2 : (2 : Int) ^ 32 = 4294967296 := by decide
      have e3 : (256 : Int) ^ 8 = 18446744073709551616 := by decide
      rw [e1, e2]
      rw [e3] at hlt
      lia
    · rw [if_neg (fun h => h32 h.2), e0]
      congr 1
      generalize (regsOf y.cells 8).getD m 0 = R at *
      have e3 : (256 : Int) ^ 8 = 18446744073709551616 := by decide
      rw [e3] at hlt
      unfold joinedI
      rcases hz with rfl | rfl | rfl | rfl
      · have hN1 : N = 1 := by lia
        subst hN1
        rw [if_neg (by decide)]
        have e1 : (256 : Int) ^ 1 = 256 := by decide
        have e2 : (2 : Int) ^ (8 : Int).toNat = 256 := by decide
        rw [e1, e2]; lia
      · have hN1 : N = 2 := by lia
        subst hN1
        rw [if_neg (by decide)]
        have e1 : (256 : Int) ^ 2 = 65536 := by decide
        have e2 : (2 : Int) ^ (16 : Int).toNat = 65536 := by decide
        rw [e1, e2]; lia
      · exact absurd rfl h32
      · have hN1 : N = 8 := by lia
        subst hN1
        rw [if_pos (by decide)]
        have e2 : (2 : Int) ^ (64 : Int).toNat = 18446744073709551616 := by decide
        rw [e3, e2]; lia
  · split
    · rw [zeroN_length]; lia
    · lia
  · split
    · rw [zeroN_put]; exact put_oct hp 4
    · exact hp
theorem Rel.put_high {z : MState} {y : WState} (r : Rel z y) {n x : Int} (h0 : 4 ≤ n) (h1 : n ≤ 7) : Rel (putZ z ⟨.high, n, 8⟩ x) (putW y ⟨.high, n, 8⟩ 8 x 1) := by
  have hb : (beginZ ⟨.high, n, 8⟩).toNat = 8 * (n - 4).toNat + 1 := by simp only [beginZ]; lia
  have hl := r.lc
  have e0 := regs_put r.oc (k := 8) (m := (n - 4).toNat) (b := 1) (N := 1) (x := x) (by omega) (by lia) (by lia)
  unfold putW
  rw [if_neg (fun h => nomatch h), hb, if_neg (fun h => nomatch h.1)]
  refine r.cells ?_ (by rw [putCells_length]; exact hl) (put_oct r.oc 1)
  rw [e0, r.regs]
  rfl
theorem Rel.put_xmm {z : MState} {y : WState} (r : Rel z y) {m N : Nat} {n x : Int} (hm : m < 16) (hn : n = 32 ∨ n = 64 ∨ n = 128) (hN : n = 8 * (N : Int)) :
    Rel (putLowZ z ⟨.xmm, (m : Int), 128⟩ n x) (putW y ⟨.xmm, (m : Int), 128⟩ n x N) := by
  have hb : (beginZ ⟨.xmm, (m : Int), 128⟩).toNat = 16 * m := by simp only [beginZ]; lia
  have hl := r.lx
  have hlt := regs_lt r.ox (k := 16) hm (by lia)
  have e0 := regs_put r.ox (k := 16) (m := m) (b := 0) (N := N) (x := x) hm (by lia) (by lia)
  simp only [Nat.add_zero, Int.pow_zero, Int.ediv_one, Int.mul_one] at e0
  unfold putW
  rw [if_pos rfl, hb]
  have eN : (2 : Int) ^ n.toNat = 256 ^ N := by rw [hN, pow2z]
  by_cases h128 : n < 128
  · unfold putLowZ
    rw [if_pos ⟨rfl, h128⟩]
    refine r.xcells ?_ (by rw [putCells_length]; exact hl) (put_oct r.ox N)
    rw [e0, eN, r.xmm]
    show (regsOf y.xcells 16).set (m : Int).toNat _ = _
    rw [Int.toNat_natCast]
    congr 1
    lia
  · unfold putLowZ
    rw [if_neg (fun h => h128 h.2)]
    have hn1 : N = 16 := by (clear eN e0 hlt hl hb hm r; lia)
    subst hn1
    refine r.xcells ?_ (by rw [putCells_length]; exact hl) (put_oct r.ox 16)
    rw [e0, r.xmm]
    show (regsOf y.xcells 16).set (m : Int).toNat (x % 2 ^ 128) = _
    rw [Int.toNat_natCast]
    congr 1
    have e2 : (2 : Int) ^ 128 = 256 ^ 16 := by decide
    rw [e2, Int.emod_eq_of_lt hlt.1 hlt.2]
    lia
-- Plain6
theorem Rel.putLow {z : MState} {y : WState} (r : Rel z y) {ρ : Rg} (ok : ρ.Ok) {n x : Int} {N : Nat} (hn : n = 8 * (N : Int)) (h : ρ.k ≠ .xmm → n = ρ.z) (hx : ρ.k = .xmm → n = 32 ∨ n = 64 ∨ n = 128) :
    Rel (putLowZ z ρ n x) (putW y ρ n x N) := by
  cases ok with
  | @gpr m zz h0 h1 h2 =>
    have e : n = zz := h (fun h => nomatch h)
    subst e
    obtain ⟨k, rfl⟩ := Int.eq_ofNat_of_zero_le h0
    unfold putLowZ
    rw [if_neg (fun h => nomatch h.1)]
    exact r.put_gpr (by omega) h2 hn
  | @high m h0 h1 =>
    have e : n = 8 := h (fun h => nomatch h)
    subst e
    have : N = 1 := by lia
    subst this
    unfold putLowZ
    rw [if_neg (fun h => nomatch h.1)]
    exact r.put_high h0 h1
  | @xmm m h0 h1 =>
    obtain ⟨k, rfl⟩ := Int.eq_ofNat_of_zero_le h0
    exact r.put_xmm (by omega) (hx rfl) hn
theorem Rel.put {z : MState} {y : WState} (r : Rel z y) {ρ : Rg} (ok : ρ.Ok) {x : Int} {N : Nat} (hn : ρ.z = 8 * (N : Int)) : Rel (putZ z ρ x) (putW y ρ ρ.z x N) := by
  have e : putZ z ρ x = putLowZ z ρ ρ.z x := by
    unfold putLowZ
    rw [if_neg]
    rintro ⟨h1, h2⟩
    cases ok with
    | gpr _ _ _ => exact absurd h1 (fun h => nomatch h)
    | high _ _ => exact absurd h1 (fun h => nomatch h)
    | xmm _ _ => dsimp only at h2; lia
  rw [e]
  refine r.putLow ok hn (fun _ => rfl) fun h => ?_
  cases ok with
  | gpr _ _ _ => exact absurd h (fun h => nomatch h)
  | high _ _ => exact absurd h (fun h => nomatch h)
  | xmm _ _ => exact .inr (.inr rfl)
theorem Rel.sp {z : MState} {y : WState} (r : Rel z y) (v : Int) : Rel { z with regs := z.regs.set 4 (v % 2 ^ 64) } (putW y ⟨.gpr, 4, 64⟩ 64 v 8) := by
  have h := r.put_gpr (m := 4) (N := 8) (zz := 64) (x := v) (by decide) (by decide) (by decide)
  have e : putZ z ⟨.gpr, ((4 : Nat) : Int), 64⟩ v = { z with regs := z.regs.set 4 (v % 2 ^ 64) } := by
    show { z with regs := z.regs.set 4 (joinedI (z.regs.getD 4 0) (v % 2 ^ 64) 64) } = _
    rw [joinedI, if_pos (by decide)]
  rw [e] at h
  exact h
theorem Rel.top {z : MState} {y : WState} (r : Rel z y) : z.regs.getD 4 0 = getW y ⟨.gpr, 4, 64⟩ 8 := by
  rw [← r.get (ρ := ⟨.gpr, 4, 64⟩) (.gpr (by decide) (by decide) (by decide)) (show (64 : Int) = 8 * ((8 : Nat) : Int) by decide)]
  show _ = z.regs.getD 4 0 % 2 ^ 64
  have := regs_lt r.oc (k := 8) (m := 4) (by decide) (by rw [r.lc]; decide)
  rw [r.regs]
  have e3 : (256 : Int) ^ 8 = 2 ^ 64 := by decide
  rw [e3] at this
  rw [Int.emod_eq_of_lt this.1 this.2]
theorem putW_mem (y : WState) (ρ : Rg) (n x : Int) (N : Nat) : (putW y ρ n x N).mem = y.mem := by unfold putW; split <;> rfl
theorem Rel.push {z : MState} {y : WState} (r : Rel z y) (N : Nat) (x : Int) :
    Rel (pushZ z N x) { putW y ⟨.gpr, 4, 64⟩ 64 ((getW y ⟨.gpr, 4, 64⟩ 8 - N) % 2 ^ 64) 8 with mem := storeN (putW y ⟨.gpr, 4, 64⟩ 64 ((getW y ⟨.gpr, 4, 64⟩ 8 - N) % 2 ^ 64) 8).mem (getW y ⟨.gpr, 4, 64⟩ 8 - N) x N } := by
  have h := (r.sp ((getW y ⟨.gpr, 4, 64⟩ 8 - N) % 2 ^ 64)).store (a := (getW y ⟨.gpr, 4, 64⟩ 8 - N) % 2 ^ 64) (b := getW y ⟨.gpr, 4, 64⟩ 8 - N) (x := x) (N := N) (by rw [storeN_mod, putW_mem]; show storeN z.mem _ _ _ = _; rw [r.mem])
  rw [Int.emod_emod] at h
  unfold pushZ
  rw [r.top]
  exact h
theorem Rel.pop {z : MState} {y : WState} (r : Rel z y) (N : Nat) : Rel (popZ z N) (putW y ⟨.gpr, 4, 64⟩ 64 ((getW y ⟨.gpr, 4, 64⟩ 8 + N) % 2 ^ 64) 8) := by
  have h := r.sp ((getW y ⟨.gpr, 4, 64⟩ 8 + N) % 2 ^ 64)
  rw [Int.emod_emod] at h
  unfold popZ
  rw [r.top]
  exact h
-- F19
section
variable {w : World} {p : Program} {loose : List Str} {mean : ExcName → Option Value} {mg mb : Str → Option Value} {hb : Heap}
section
variable {C : Cx w} {l : Loc} {led : Led} {Q : Value → Loc → Led → Prop} {F U : Nat} {fl : Led → Led} {fl2 : Led → Led → Led} {σ : Mac} {z : MState}
theorem c_lput4 {ω : WorldO} {y : WState} {r : RegO} {x : Int} {t u : Tok} {wd : Addr} (hR : Room C F U) (hle : (Nat.ble 3 F && Nat.ble 60 U) = true) (hω : ω.Is w y) (hy : y.Ok) (hr : r.Is ⟨.gpr, 4, 64⟩) (hwd : ω.wd = wd) (sl : Slot2 (r.led w) (ω.led w) led fl2)
    (k : ∀ ω' : WorldO, ω'.wd = wd → ω'.Is w (putW y ⟨.gpr, 4, 64⟩ 64 x 8) → let led' : Led := fl2 (r.led w) (ω'.led w); Q .none l led') : Wp C (call (.ref 705) [.ref wd, .ref r.x, .int 64 t, .int x u]) Q l led := by
  refine c_lput (N := 8) hR hle hω hy hr (.gpr (by decide) (by decide) (by decide)) (by decide) ?_ ?_ hwd sl k
  · have e : cellsOf y RK.gpr = y.cells := cells_gpr (by decide)
    show (8 * 4 : Int) + 8 ≤ ((cellsOf y RK.gpr).length : Int)
    rw [e, hy.cells]; decide
  · intro _; show (8 * 4 : Int) + 8 ≤ 128; decide
theorem c_push {n x : Int} {t u : Tok} {N : Nat} {st : Addr} (hR : Room C F U) (hle : (Nat.ble 7 F && Nat.ble 200 U) = true) (hσ : σ.Is w z) (hz : z.Ok) (hlen : z.mem.length ≤ 1000000) (hn : n = (N : Int)) (hN : N ≤ 16) (hst : σ.st = st) (sl : Slot (σ.led w) led fl)
    (k : ∀ σ' : Mac, σ'.st = st → σ'.Is w (pushZ z N x) → let led' : Led := fl (σ'.led w); Q .none l led') : Wp C (call (.ref 452) [.ref st, .int x u, .int n t]) Q l led := by
  subst hst
  exact c_does (push_does C.G₀ hσ hz hlen hn hN) sl hR hle (by rintro _ _ ⟨rfl, σ', e1, e2, rfl⟩; exact k σ' e1 e2)
theorem c_pop {n : Int} {t : Tok} {N : Nat} {st : Addr} (hR : Room C F U) (hle : (Nat.ble 7 F && Nat.ble 200 U) = true) (hσ : σ.Is w z) (hz : z.Ok) (hn : n = (N : Int)) (hN : N ≤ 16) (hst : σ.st = st) (sl : Slot (σ.led w) led fl)
    (k : ∀ (σ' : Mac) t, σ'.st = st → σ'.Is w (popZ z N) → let led' : Led := fl (σ'.led w); Q (.int (num (bytesAt z.mem (z.regs.getD 4 0) N)) t) l led') : Wp C (call (.ref 459) [.ref st, .int n t]) Q l led := by
  subst hst
  exact c_does (pop_does C.G₀ hσ hz hn hN) sl hR hle (by rintro _ _ ⟨⟨t, rfl⟩, σ', e1, e2, rfl⟩; exact k σ' t e1 e2)
end
theorem two8 {x : Int} (h0 : 0 ≤ x) (h1 : x < 2) : ∃ N : Nat, ([2, 8] : List Int).getD x.toNat 0 = (N : Int) ∧ N ≤ 16 := by
  have : x = 0 ∨ x = 1 := by lia
  rcases this with rfl | rfl
  · exact ⟨2, by decide, by decide⟩
  · exact ⟨8, by decide, by decide⟩
noncomputable def StackR (w : World) (P : PenO) (ω : WorldO) (σ : Mac) (z : MState) : Value → Led → Prop := fun v led' => v = .bool true ∧ ∃ (P' : PenO) (ω' : WorldO) (σ' : Mac) (z' : MState) (y' : WState), P'.pn = P.pn ∧ P'.Ok ∧ ω'.wd = ω.wd ∧ σ'.st = σ.st ∧ σ'.Is w z' ∧ ω'.Is w y' ∧ Rel z' y' ∧ z'.mem.length ≤ z.mem.length + 16 ∧ led' = P'.led w ++ (ω'.led w ++ σ'.led w)
theorem two8_use {x : Int} {Z : Prop} (h0 : 0 ≤ x) (h1 : x < 2) (k : ∀ N : Nat, ([2, 8] : List Int).getD x.toNat 0 = (N : Int) → N ≤ 16 → Z) : Z := let ⟨N, a, b⟩ := two8 h0 h1; k N a b
theorem law_stack_does (G : G0 w p loose mean mg mb hb) {P : PenO} {ω : WorldO} {σ : Mac} {z : MState} {y : WState} {b : Bool} (hP : P.Ok) (hσ : σ.Is w z) (hω : ω.Is w y) (hr : Rel z y) (hlen : z.mem.length ≤ 100000) :
    Does w hb 8 300 752 [.ref P.pn, .ref ω.wd, .ref σ.st, .bool b] [] (P.led w ++ (ω.led w ++ σ.led w)) (StackR w P ω σ z) := by
  have hpn : P.pn = P.pn := rfl
  have hwd : ω.wd = ω.wd := rfl
  have hyok := hr.okW
  have hzok := hr.okZ
  refine' enterB (binds := [(Str.ofString "pen", .ref P.pn), (Str.ofString "world", .ref ω.wd), (Str.ofString "state", .ref σ.st), (Str.ofString "is_push", .bool b)]) (by assumption) ?k6 ?k7 ?k9 ?kB [(Str.ofString "is_push", .bool b), (Str.ofString "state", .ref σ.st), (Str.ofString "world", .ref ω.wd), (Str.ofString "pen", .ref P.pn)] rfl ?_ ?c2 ?c3 ?c4 ?c5
  case k6 => k_is
  case k7 => k_is
  case k9 => (intro s hs; first | exact BindsTo.of_eq rfl | exact binds_K (Frag.In.keeps (G0.X (by assumption)) hs) rfl (by k_is) rfl rfl rfl)
  case c5 => decide
  case kB => exact locs rfl
  case c2 => exact rfl
  case c3 => exact rfl
  case c4 => exact rfl
  intro C Q hR fini finn perm env l led he
  cases b with
  | true =>
    repeat (walk_at "m ev")
    rename PenO.Ok _ => q1
    rename PenO.pn _ = _ => q2
    rename RegO.Is _ _ => q3
    rename 0 ≤ _ ∧ _ < (2 : Int) => hx
    refine two8_use hx.1 hx.2 fun N eN hN => ?_
    refine' c_push (N := N) hR rfl hσ hzok (by lia) eN hN rfl ?sl ?_
    case sl => kpt_turns
    intro σ' s1 s2 _
    repeat (walk_at "m ev")
    refine' c_lput4 hR rfl hω hyok ?hr hwd ?sl ?_
    case sl => walk_at "m slot2"
    case hr => assumption
    intro ω₁ w1 w2 _
    have hy1 : ∀ v, (putW y ⟨.gpr, 4, 64⟩ 64 v 8).mem.length ≤ 1000000 := fun v => by rw [putW_mem, ← hr.mem]; lia
    repeat (walk_at "m ev")
    refine' c_lstore (N := N) hR rfl w2 (hy1 _) eN hN w1 ?sl ?_
    case sl => kpt_turns
    intro ω₂ w3 w4 _
    repeat (walk_at "m ev")
    rename PenO.Ok _ => q1
    rename PenO.pn _ = _ => q2
    rename PenO => P2
    refine perm (t := P2.led w ++ (ω₂.led w ++ σ'.led w)) (SubL.dr (k := 6) rfl) (fini ⟨rfl, P2, ω₂, σ', _, _, q2, q1, w3, s1, s2, w4, ?_, ?_, rfl⟩)
    · rw [eN]; exact hr.push N _
    · show (storeN z.mem _ _ N).length ≤ _
      refine Nat.le_trans (storeN_length _ _ _ _) (by lia)
  | false =>
    repeat (walk_at "m ev")
    rename PenO.Ok _ => q1
    rename PenO.pn _ = _ => q2
    rename PenO => P2
    rename RegO.Is _ _ => q3
    rename 0 ≤ _ ∧ _ < (2 : Int) => hx
    refine two8_use hx.1 hx.2 fun N eN hN => ?_
    refine' c_lput4 hR rfl hω hyok ?hr hwd ?sl ?_
    case sl => walk_at "m slot2"
    case hr => assumption
    intro ω₁ w1 w2 _
    repeat (walk_at "m ev")
    refine' c_pop (N := N) hR rfl hσ hzok eN hN rfl ?sl ?_
    case sl => kpt_turns
    intro σ' tp s1 s2 _
    repeat (walk_at "m ev")
    refine' c_lload (N := N) hR rfl w2 eN hN w1 ?sl ?_
    case sl => kpt_turns
    intro tl _
    repeat (walk_at "m ev")
    refine perm (t := P2.led w ++ (ω₁.led w ++ σ'.led w)) (SubL.dr (k := 6) rfl) (fini ⟨?_, P2, ω₁, σ', _, _, q2, q1, w1, s1, s2, w2, ?_, ?_, rfl⟩)
    · rw [putW_mem, hr.mem, hr.top]; simp
    · rw [eN]; exact hr.pop N
    · show z.mem.length ≤ _
      lia
end
-- F20
section
variable {w : World} {p : Program} {loose : List Str} {mean : ExcName → Option Value} {mg mb : Str → Option Value} {hb : Heap}
theorem octets_does (G : G0 w p loose mean mg mb hb) {m : MemO} {ms : List (Int × Int)} {a n : Int} {t u : Tok} {N : Nat} (hm : m.Is w ms) (ho : OctM ms) (hn : n = (N : Int)) (hN : N ≤ 16) :
    Does w hb 4 80 323 [.ref m.x, .int a t, .int n u] [] (m.led w) (fun v b => (∃ t, v = .bytes (byteArr (bytesAt ms a N)) t) ∧ b = m.led w) := by
  refine' enterCB (binds := [(Str.ofString "self", .ref m.x), (Str.ofString "place", .int a t), (Str.ofString "count", .int n u)]) ?kL (by assumption) ?k6 ?k7 ?k9 ?kB ?kN ?kl ?_ ?c2 ?c3 ?c4
  case k6 => k_is
  case k7 => k_is
  case k9 => (intro s hs; exact BindsTo.of_eq rfl)
  case kB => exact kindsX rfl
  case kN => decide +kernel
  case kl => intro _; exact rfl
  case c2 => exact rfl
  case c3 => exact rfl
  case c4 => exact rfl
  intro C Q cells hR fini finn perm hcells env l he
  obtain ⟨o1, o2, rfl, hc1, hc2⟩ := CellsAre.two hcells
  have hc1 : o1.data = .cell (some (.int a t)) := hc1
  have hc2 : o2.data = .cell (some (.ref m.x)) := hc2
  clear hcells
  refine Wp.named ?_
  intro led
  repeat (walk_at "m ev")
  refine' c_compN (a := 0) (m := N) ?h1 ?hN he (fun i ys led => i ≤ N ∧ IntsAre ys (bytesAt ms a i) ∧ led = [(C.L + 1 + 1, o1), (C.L + 1, o2)] ++ m.led w) ?hJ ?hlen ?turn ?fin
  case h1 => lia
  case hN => lia
  case hJ => exact ⟨Nat.zero_le _, .nil, rfl⟩
  case hlen =>
    rintro i ys led ⟨h0, h, rfl⟩
    exact bytesAt_len h (by lia)
  case turn =>
    rintro i t' hi C' D I oL oI ys n' _ hR' ⟨_, hys, rfl⟩ env' he' led Q'
    have hR1 := hR' hR
    repeat (walk_at "m ev")
    exact Turn3.of ⟨hi, load_step hys, rfl⟩
  case fin =>
    rintro D ys n' _ ⟨_, hys, rfl⟩ led
    repeat (walk_at "m ev")
    refine' c_bytes ?hm2 hys (bytesAt_oct ho a N) (bytesAt_len hys (by lia)) ?_
    case hm2 => lcg_off
    intro tb
    repeat (walk_at "m ev")
    exact perm (t := m.led w) .tail3 (fini ⟨⟨_, rfl⟩, rfl⟩)
end
-- F21
section
variable {w : World} {p : Program} {loose : List Str} {mean : ExcName → Option Value} {mg mb : Str → Option Value} {hb : Heap}
section
variable {C : Cx w} {l : Loc} {led : Led} {Q : Value → Loc → Led → Prop} {F U : Nat} {fl : Led → Led}
theorem c_octets {m : MemO} {ms : List (Int × Int)} {a n : Int} {t u : Tok} {N : Nat} (hR : Room C F U) (hle : (Nat.ble 4 F && Nat.ble 80 U) = true) (hm : m.Is w ms) (ho : OctM ms) (hn : n = (N : Int)) (hN : N ≤ 16) (sl : Slot (m.led w) led fl)
    (k : ∀ t, let led' : Led := fl (m.led w); Q (.bytes (byteArr (bytesAt ms a N)) t) l led') : Wp C (call (.ref 323) [.ref m.x, .int a t, .int n u]) Q l led :=
  c_does (octets_does C.G₀ hm ho hn hN) sl hR hle (by rintro _ _ ⟨⟨t, rfl⟩, rfl⟩; exact k t)
end
theorem find_does (G : G0 w p loose mean mg mb hb) {m : MemO} {ms : List (Int × Int)} {a b : Int} {ds : List Int} {t u v : Tok} {N : Nat} (hm : m.Is w ms) (ho : OctM ms) (hd : Oct ds) (hK : ds.length ≤ 16) (hN : b - ds.length + 1 - a = (N : Int)) :
    Does w hb 5 120 342 [.ref m.x, .bytes (byteArr ds) t, .int a u, .int b v] [] (m.led w) (fun v led' => led' = m.led w ∧ ((∃ i : Nat, i < N ∧ (∃ t, v = .int (a + i) t) ∧ bytesAt ms (a + i) ds.length = ds ∧ ∀ j : Nat, j < i → bytesAt ms (a + j) ds.length ≠ ds) ∨
      ((∃ t, v = .int (-1) t) ∧ ∀ j : Nat, j < N → bytesAt ms (a + j) ds.length ≠ ds))) := by
  refine' enterB (binds := [(Str.ofString "self", .ref m.x), (Str.ofString "octets", .bytes (byteArr ds) t), (Str.ofString "begin", .int a u), (Str.ofString "end", .int b v)]) (by assumption) ?k6 ?k7 ?k9 ?kB [(Str.ofString "end", .int b v), (Str.ofString "begin", .int a u), (Str.ofString "octets", .bytes (byteArr ds) t), (Str.ofString "self", .ref m.x)] rfl ?_ ?c2 ?c3 ?c4 ?c5
  case k6 => k_is
  case k7 => k_is
  case k9 => (intro s hs; first | exact BindsTo.of_eq rfl | exact binds_K (Frag.In.keeps (G0.X (by assumption)) hs) rfl (by k_is) rfl rfl rfl)
  case c5 => decide
  case kB => exact locs rfl
  case c2 => exact rfl
  case c3 => exact rfl
  case c4 => exact rfl
  intro C Q hR fini finn perm env l led he
  repeat (walk_at "m ev")
  refine c_lenB (by lia) fun _ => ?_
  repeat (walk_at "m ev")
  refine' c_forN (m := N) hN (fun i l led => (∃ t1 t2, LocIn [(Str.ofString "self", .ref m.x), (Str.ofString "octets", .bytes (byteArr ds) t1), (Str.ofString "begin", .int a t2)] l) ∧ led = m.led w ∧ ∀ j : Nat, j < i → bytesAt ms (a + j) ds.length ≠ ds) ?hJ ?turn ?fin
  case hJ => exact ⟨⟨_, _, rfl, rfl, rfl, trivial⟩, rfl, fun j hj => absurd hj (Nat.not_lt_zero _)⟩
  case turn =>
    rintro i t' I oI l _ hi ⟨⟨t1, t2, hl⟩, rfl, hno⟩ Q' led
    refine Wp.pick hl ?_
    repeat (walk_at "m ev")
    refine c_lenB (by lia) fun _ => ?_
    repeat (walk_at "m ev")
    refine' c_octets (N := ds.length) hR rfl hm ho rfl hK ?sl ?_
    case sl => kpt_turns
    intro tb _
    repeat (walk_at "m ev")
    refine c_eqB (bytesAt_oct ho _ _) hd ?_
    repeat (walk_at "m ev")
    refine r_iteD (fun h => ?_) fun h => ?_
    ·
      repeat (walk_at "m ev")
      exact perm (t := m.led w) .tail1 (fini ⟨rfl, .inl ⟨i, hi, ⟨_, rfl⟩, h, hno⟩⟩)
    ·
      repeat (walk_at "m ev")
      refine Turn.of ⟨⟨_, _, rfl, rfl, rfl, trivial⟩, rfl, fun j hj => ?_⟩
      by_cases e : j = i
      · rw [e]; exact h
      · exact hno j (by lia)
  case fin =>
    rintro l _ ⟨⟨t1, t2, hl⟩, rfl, hno⟩
    repeat (walk_at "m ev")
    exact fini ⟨rfl, .inr ⟨⟨_, rfl⟩, hno⟩⟩
end
-- F22
section
variable {w : World} {p : Program} {loose : List Str} {mean : ExcName → Option Value} {mg mb : Str → Option Value} {hb : Heap}
theorem Flags_copy (G : G0 w p loose mean mg mb hb) {f : FlgO} :
    Does w hb 4 80 143 [.ref f.x] [] (f.led w) (fun v led' => ∃ f' : FlgO, v = .ref f'.x ∧ led' = f'.led w ++ f.led w) := by
  refine' enterB (binds := [(Str.ofString "self", .ref f.x)]) (by assumption) ?k6 ?k7 ?k9 ?kB [(Str.ofString "self", .ref f.x)] rfl ?_ ?c2 ?c3 ?c4 ?c5
  case k6 => k_is
  case k7 => k_is
  case k9 => (intro s hs; first | exact BindsTo.of_eq rfl | exact binds_K (Frag.In.keeps (G0.X (by assumption)) hs) rfl (by k_is) rfl rfl rfl)
  case c5 => decide
  case kB => exact locs rfl
  case c2 => exact rfl
  case c3 => exact rfl
  case c4 => exact rfl
  intro C Q hR fini finn perm env l led he
  repeat (walk_at "m ev")
  refine c_Flags hR rfl ?_
  intro f' _
  repeat (walk_at "m ev")
  refine' c_does (Flags_pack C.G₀) ?sl hR rfl ?_
  case sl => kpt_turns
  rintro _ _ ⟨⟨t, rfl⟩, rfl⟩
  repeat (walk_at "m ev")
  refine' c_does (Flags_unpack C.G₀) ?sl hR rfl ?_
  case sl => kpt_turns
  rintro _ _ ⟨rfl, τ, rfl⟩
  repeat (walk_at "m ev")
  exact fini ⟨⟨f'.x, f'.dx, τ⟩, rfl, rfl⟩
end
-- B4
section
variable {w : World} {C : Cx w} {l l' : Loc} {led news fx : Led} {env : Env} {pos p1 : Pos} {elt target iter : Expr} {ifs : List Expr} {scope : Scope} {cl : List (Str × Addr)} {D : Addr} {ob : Obj} {kvs : List (Int × Value)}
theorem c_forD {body : List Stmt} {Q : Flow → Loc → Led → Prop} (hdk : ob.IsDictOf (intKind pgm w) kvs) (lo : (D == sysModules) = false) (J : Nat → Loc → Led → Prop) (hJ : J 0 l news)
    (turn : ∀ (i : Nat) (k : Int) (x : Value) (t : Tok) (I : Addr) (oI : Obj) (l : Loc) (led : Led), i < kvs.length → kvs[i]? = some (k, x) → J i l led → let Q' : Unit → Loc → Led → Prop := kBody2 C env body (I, oI) (D, ob) (J (i + 1)) Q; let led' : Led := (I, oI) :: (D, ob) :: led; Wp C (assign target env (.int k t)) Q' l led')
    (fin : ∀ l led, J kvs.length l led → let led' : Led := (D, ob) :: led; Q .next l led') (ht : ∀ x v, letOwnedTupleGo target x v = Pure.pure () := by intro _ _; with_unfolding_all rfl) :
    ForW C env target body Q (.ref D) l ((D, ob) :: news) := fun s S => by
  refine r_dictIt S (.head _) hdk lo C.hh fun I oI It s' K h0 S' => ?_
  refine r_forW (fx := [(D, ob)]) (led := news) (o₀ := oI) (Q := fun f s' => ∃ l' led', C.S l' led' s' ∧ Q f l' led') K.walks (by simp) (by simp) K.some J S' h0 hJ (fun i v oI l led s E' hi hP hj S => ?_) (fun l led s hj S => ⟨_, _, S, fin l led hj⟩) (fun v => ht _ _)
  obtain ⟨k, x, t, e, rfl⟩ := hP
  exact Wp.use (turn i k x t I oI l led hi e hj) S fun _ l1 led1 s1 S1 q => Wp.use q S1 fun f l2 led2 s2 S2 q2 => by
    cases f with
    | next => obtain ⟨t, hs, t', rfl, j⟩ := q2; exact ⟨l2, t', j, hs.st S2⟩
    | cont => obtain ⟨t, hs, t', rfl, j⟩ := q2; exact ⟨l2, t', j, hs.st S2⟩
    | brk => exact ⟨_, _, S2, q2⟩
    | ret v => exact ⟨_, _, S2, q2⟩
theorem c_compD {Q : Value → Loc → Led → Prop} (hdk : ob.IsDictOf (intKind pgm w) kvs) (lo : (D == sysModules) = false) (he : EnvOk C env) (J : Nat → List Value → Led → Prop) (hJ : J 0 [] news) (hlen : ∀ i ys led, J i ys led → ys.length ≤ sizeLine)
    (turn : ∀ (i : Nat) (k : Int) (x : Value) (t : Tok), i < kvs.length → kvs[i]? = some (k, x) → Item C env elt target ifs scope cl [(D, ob)] (J i) (J (i + 1)) (.int k t))
    (fin : ∀ B ys n led, J kvs.length ys led → let led' : Led := (B, listOf ys.toArray n) :: (D, ob) :: led; Q (.ref B) l led')
    (hcell : ∀ y ∈ scope.names, y.2 ≠ .cell := by decide) (hkind : scope.kind = .function := by with_unfolding_all rfl) (ht : ∀ x v, letOwnedTupleGo target x v = Pure.pure () := by intro _ _; with_unfolding_all rfl) :
    CompW C env elt target iter ifs scope cl pos Q (.ref D) l ((D, ob) :: news) := fun s S => by
  refine r_dictIt S (.head _) hdk lo C.hh fun I oI It s' K h0 S' => ?_
  exact c_compW (D := D) (fx := [(D, ob)]) (led := news) (o₀ := oI) K.walks (by simp) (by simp) K.some he J S' h0 hJ hlen (fun i v hi hP => by obtain ⟨k, x, t, e, rfl⟩ := hP; exact turn i k x t hi e) fin hcell hkind (fun v => ht _ _)
end
-- F23
section
variable {w : World} {p : Program} {loose : List Str} {mean : ExcName → Option Value} {mg mb : Str → Option Value} {hb : Heap}
theorem putM_fresh {ms : List (Int × Int)} {k v : Int} (h : ∀ p ∈ ms, p.1 ≠ k) : putM ms k v = ms ++ [(k, v)] := by
  unfold putM
  rw [if_neg]
  intro hh
  obtain ⟨p, hp, e⟩ := List.any_eq_true.mp hh
  exact h p hp (by simpa using e)
theorem Held.keyAt {kvs : List (Int × Value)} {ms : List (Int × Int)} (h : Held kvs ms) : ∀ {i : Nat} {p : Int × Int}, ms[i]? = some p → (kvs.map (·.1))[i]? = some p.1 := by
  induction h with
  | nil => intro i p e; simp at e
  | cons k' n t _ ih =>
    intro i p e
    cases i with
    | zero => simp at e; simp [← e]
    | succ i => simp at e; simpa using ih e
theorem nodup_idx {α : Type} : ∀ {l : List α} {i j : Nat} {a : α}, l.Nodup → l[i]? = some a → l[j]? = some a → i = j
  | [], _, _, _, _, h, _ => by simp at h
  | b :: l, 0, 0, _, _, _, _ => rfl
  | b :: l, 0, j + 1, a, nd, h1, h2 => by
    rw [List.nodup_cons] at nd
    simp at h1 h2
    subst h1
    exact absurd (List.mem_of_getElem? h2) nd.1
  | b :: l, i + 1, 0, a, nd, h1, h2 => by
    rw [List.nodup_cons] at nd
    simp at h1 h2
    subst h2
    exact absurd (List.mem_of_getElem? h1) nd.1
  | b :: l, i + 1, j + 1, a, nd, h1, h2 => by
    rw [List.nodup_cons] at nd
    simp at h1 h2
    rw [nodup_idx nd.2 h1 h2]
theorem dict_nodup {ob : Obj} {kvs : List (Int × Value)} (h : ob.IsDictOf (intKind pgm w) kvs) : (kvs.map (·.1)).Nodup := let ⟨_, _, _, _, _, _, h⟩ := h; h
theorem copy_step {kvs : List (Int × Value)} {ms : List (Int × Int)} {i : Nat} {k n : Int} {x : Value} (hd : Held kvs ms) (nd : (kvs.map (·.1)).Nodup) (hi : i < kvs.length) (hget : kvs[i]? = some (k, x)) (hmi : ms[i]? = some (k, n)) : putM (ms.take i) k n = ms.take (i + 1) := by
  have hlen := hd.length
  have hfresh : ∀ p ∈ ms.take i, p.1 ≠ k := by
    intro p hp e
    obtain ⟨j, hj, rfl⟩ := List.mem_iff_getElem.mp hp
    rw [List.length_take] at hj
    have hj' : j < kvs.length := by lia
    have e1 := hd.keyAt (i := j) (p := ms[j]'(by lia)) (by simp)
    have e2 : (kvs.map (·.1))[i]? = some k := by
      rw [List.getElem?_map, hget]; rfl
    have e3 : (ms[j]'(by lia)).1 = k := by simpa using e
    rw [e3] at e1
    have := nodup_idx nd e1 e2
    lia
  rw [putM_fresh hfresh, List.take_add_one, hmi]; rfl
theorem Memory_copy (G : G0 w p loose mean mg mb hb) {m : MemO} {ms : List (Int × Int)} (hm : m.Is w ms) (hz : ms.length ≤ 1000000) :
    Does w hb 4 80 349 [.ref m.x] [] (m.led w) (fun v led' => ∃ m' : MemO, v = .ref m'.x ∧ m'.Is w ms ∧ led' = m'.led w ++ m.led w) := by
  obtain ⟨⟨kvs, hd1, hd2⟩, lo⟩ := id hm
  have nd := dict_nodup hd1
  have hlen := hd2.length
  refine' enterB (binds := [(Str.ofString "self", .ref m.x)]) (by assumption) ?k6 ?k7 ?k9 ?kB [(Str.ofString "self", .ref m.x)] rfl ?_ ?c2 ?c3 ?c4 ?c5
  case k6 => k_is
  case k7 => k_is
  case k9 => (intro s hs; first | exact BindsTo.of_eq rfl | exact binds_K (Frag.In.keeps (G0.X (by assumption)) hs) rfl (by k_is) rfl rfl rfl)
  case c5 => decide
  case kB => exact locs rfl
  case c2 => exact rfl
  case c3 => exact rfl
  case c4 => exact rfl
  intro C Q hR fini finn perm env l led he
  repeat (walk_at "m ev")
  refine c_Memory hR rfl ?_
  intro m₀ hm₀ _
  repeat (walk_at "m ev")
  refine' Wp.subF (t := (m.he, m.heo) :: (m₀.led w ++ [(m.x, instObj 359 m.dx), (m.dx, dictOf [dE w "held" m.τ (.ref m.he)] 1)])) ?ss ?_
  case ss => walk_at "m pk"
  refine' c_forD hd1 lo (fun i l led => ∃ m' : MemO, m'.Is w (ms.take i) ∧ LocIn [(Str.ofString "other", .ref m'.x), (Str.ofString "self", .ref m.x)] l ∧ led = m'.led w ++ [(m.x, instObj 359 m.dx), (m.dx, dictOf [dE w "held" m.τ (.ref m.he)] 1)]) ?hJ ?turn ?fin
  case hJ => exact ⟨m₀, by simpa using hm₀, ⟨rfl, rfl, trivial⟩, rfl⟩
  case turn =>
    rintro i k x t I oI l _ hi hget ⟨m', hm', hl, rfl⟩ Q' led
    refine Wp.pick hl ?_
    intro l
    obtain ⟨⟨kvs', hd1', hd2'⟩, lo'⟩ := hm'
    obtain ⟨n, tn, rfl, hmi⟩ := hd2.get hget
    repeat (walk_at "m ev")
    refine c_hitem (by lcg_off) hd1 hget ?_
    repeat (walk_at "m ev")
    refine' c_hset ?U2 hd1' hd2' ?hz2 ?_
    case U2 => lcg_src
    case hz2 => rw [List.length_take]; lia
    intro o' kvs₂ h1 h2 _
    repeat (walk_at "m ev")
    rw [copy_step hd2 nd hi hget hmi] at h2
    exact Turn.of2 ⟨⟨m'.x, m'.dx, m'.he, o', m'.τ⟩, ⟨⟨_, h1, h2⟩, lo'⟩, ⟨rfl, rfl, trivial⟩, rfl⟩
  case fin =>
    rintro l _ ⟨m', hm', hl, rfl⟩ led
    refine Wp.pick hl ?_
    intro l
    repeat (walk_at "m ev")
    rw [hlen, List.take_length] at hm'
    refine perm (t := m'.led w ++ m.led w) ?ss (fini ⟨m', rfl, hm', rfl⟩)
    case ss => walk_at "m pk"
end
-- Sort1
theorem wpS_ite {prog : Program} {w : World} {A : Around} {E : Value → Shared → Prop} {s : Shared} {α : Type} {c : Prop} [Decidable c] {X Y : StateT SortSt Sem α} {Q : α → SortSt → Prop} {st : SortSt} (h1 : c → wpS (model prog w) A E s X Q st) (h2 : ¬ c → wpS (model prog w) A E s Y Q st) : wpS (model prog w) A E s (if c then X else Y) Q st := by
  by_cases h : c
  · rw [if_pos h]; exact h1 h
  · rw [if_neg h]; exact h2 h
theorem wpS_iteB {prog : Program} {w : World} {A : Around} {E : Value → Shared → Prop} {s : Shared} {α : Type} {m n : Nat} {X Y : StateT SortSt Sem α} {Q : α → SortSt → Prop} {st : SortSt} (h1 : m = n → wpS (model prog w) A E s X Q st) (h2 : m ≠ n → wpS (model prog w) A E s Y Q st) : wpS (model prog w) A E s (if (m == n) = true then X else Y) Q st :=
  wpS_ite (fun h => h1 (by simpa using h)) fun h => h2 (by simpa using h)
theorem wpS_iteD {prog : Program} {w : World} {A : Around} {E : Value → Shared → Prop} {s : Shared} {α : Type} {c : Prop} [Decidable c] {X Y : StateT SortSt Sem α} {Q : α → SortSt → Prop} {st : SortSt} (h1 : c → wpS (model prog w) A E s X Q st) (h2 : ¬ c → wpS (model prog w) A E s Y Q st) : wpS (model prog w) A E s (if decide c = true then X else Y) Q st :=
  wpS_ite (fun h => h1 (by simpa using h)) fun h => h2 (by simpa using h)
noncomputable def NK {ρ τ : Type} (I : τ → Nat → SortSt → Prop) (B : τ → SortSt → Prop) (x : Nat) : ForInStep (Option ρ × τ) → SortSt → Prop
  | .done (none, t), st' => B t st'
  | .yield (none, t), st' => I t (x + 1) st'
  | _, _ => False
theorem wpS_loopN {prog : Program} {w : World} {A : Around} {E : Value → Shared → Prop} {s : Shared} {ρ τ γ : Type} {a b : Nat} {f : Nat → Option ρ × τ → StateT SortSt Sem (ForInStep (Option ρ × τ))} {g : Option ρ × τ → StateT SortSt Sem γ} {Q : γ → SortSt → Prop} {st : SortSt} {t₀ : τ} (I : τ → Nat → SortSt → Prop) (B : τ → SortSt → Prop)
    (h0 : I t₀ a st) (step : ∀ x t st', a ≤ x → x < b → I t x st' → wpS (model prog w) A E s (f x (none, t)) (NK I B x) st') (over : ∀ t st', I t (max a b) st' → B t st')
    (post : ∀ t st', B t st' → wpS (model prog w) A E s (g (none, t)) Q st') : wpS (model prog w) A E s (forIn [a:b] (none, t₀) f >>= g) Q st := by
  refine wpS_bind (wpS_mono (wpS_forRange (I := fun x c st' => ∃ t, c = (none, t) ∧ I t x st') (Q := fun c st' => ∃ t, c = (none, t) ∧ B t st') ?a ?b ⟨_, rfl, h0⟩) ?c)
  case a =>
    rintro x c st' h1 h2 ⟨t, rfl, hi⟩
    refine wpS_mono (step x t st' h1 h2 hi) ?_
    rintro r st2 hk
    cases r with
    | done c =>
      obtain ⟨o, t⟩ := c
      cases o with
      | none => exact ⟨_, rfl, hk⟩
      | some M => exact hk.elim
    | yield c =>
      obtain ⟨o, t⟩ := c
      cases o with
      | none => exact ⟨_, rfl, hk⟩
      | some M => exact hk.elim
  case b =>
    rintro c st' ⟨t, rfl, hi⟩
    exact ⟨_, rfl, over _ _ hi⟩
  case c =>
    rintro c st' ⟨t, rfl, hb⟩
    exact post t st' hb
noncomputable def gallopP : Bool → Keyed → Array Keyed → Nat → Nat → Nat → StateT SortSt Sem (Option Nat) := sortPriv% PySem.Builtin.gallop
section
variable {prog : Program} {w : World} {A : Around} {E : Value → Shared → Prop} {s : Shared} {κ : SortKind} {key : Keyed → Int} {P : Keyed → Prop}
noncomputable def Cmp (prog : Program) (w : World) (A : Around) (s : Shared) (κ : SortKind) (key : Keyed → Int) (P : Keyed → Prop) : Prop :=
  ∀ x y, P x → P y → ∀ (Q : Bool → Shared → Prop) (E : Value → Shared → Prop), Q (decide (key x < key y)) s → wpAny (model prog w) A (keyLt' κ x.1 y.1) Q E s
theorem wpS_lt (C : Cmp prog w A s κ key P) {x y : Keyed} {st : SortSt} {Q : Option Bool → SortSt → Prop} (hk : kindOf st = κ) (hx : P x) (hy : P y) (h : Q (some (decide (key x < key y))) st) :
    wpS (model prog w) A E s (lt' x y) Q st := by
  rw [lt'_eq]
  refine wpS_bind (wpS_get ?_)
  rw [hk]
  refine wpS_bind (wpS_lift (wpAny_attempt (C x y hx hy _ _ ⟨rfl, ?_⟩)))
  exact wpS_pure h
theorem wpS_elem {arr : Array Keyed} {i : Nat} {x : Keyed} {st : SortSt} {Q : Keyed → SortSt → Prop} (hx : arr[i]? = some x) (h : Q x st) : wpS (model prog w) A E s (elem' arr i) Q st := by
  rw [elem'_eq, hx]; exact wpS_pure h
@[reducible] noncomputable def goes (key : Keyed → Int) (left : Bool) (x y : Keyed) : Prop := if left = true then key y < key x else key y ≤ key x
theorem wpS_beyond (C : Cmp prog w A s κ key P) {left : Bool} {x y : Keyed} {arr : Array Keyed} {i : Nat} {st : SortSt} {Q : Option Bool → SortSt → Prop} (hk : kindOf st = κ) (hx : P x) (hy : P y) (hi : arr[i]? = some y)
    (h : Q (some (decide (goes key left x y))) st) : wpS (model prog w) A E s (do
        let z ← elem' arr i
        if left = true then lt' z x
          else do
            let r ← lt' x z
            pure (Option.map (fun x => !x) r)) Q st := by
  refine wpS_bind (wpS_elem hi ?_)
  cases left with
  | true =>
    rw [if_pos rfl]
    refine wpS_lt C hk hy hx ?_
    simpa [goes] using h
  | false =>
    rw [if_neg (by decide)]
    refine wpS_bind (wpS_lt C hk hx hy (wpS_pure ?_))
    have e : decide (goes key false x y) = !decide (key x < key y) := by
      unfold goes
      by_cases h' : key x < key y
      · simp [h']
      · simp [h', Int.not_lt.mp h']
    rw [e] at h
    exact h
theorem goes_mono {left : Bool} {x : Keyed} {n : Nat} {L : Nat → Keyed} (hs : ∀ i j, i ≤ j → j < n → key (L i) ≤ key (L j)) : ∀ i j, i ≤ j → j < n → goes key left x (L j) → goes key left x (L i) := by
  intro i j hij hj hg
  have := hs i j hij hj
  cases left with
  | true => exact Int.lt_of_le_of_lt this hg
  | false => exact Int.le_trans this hg
theorem mid_lt {lo hi n : Nat} (h : ¬ lo ≥ hi) (h2 : hi ≤ n) : lo + (hi - lo) / 2 < n ∧ lo + (hi - lo) / 2 < hi := by omega
theorem over_le {a b n : Nat} (h : b + max 0 n ≤ n + a) : b ≤ a := by
  rw [Nat.zero_max, Nat.add_comm] at h
  exact Nat.le_of_add_le_add_left h
theorem mid_left {lo hi n i m : Nat} (h1 : lo ≤ m) (h2 : m < hi) (h3 : hi + i ≤ n + lo) : hi + (i + 1) ≤ n + (m + 1) ∧ m + (i + 1) ≤ n + lo := by lia
theorem gal_hi {hint la of n : Nat} (h1 : la < of) (h2 : hint + la < n) : hint + la + 1 ≤ hint + min of (n - hint) ∧ hint + min of (n - hint) ≤ n :=
  ⟨Nat.add_le_add_left (Nat.le_min.mpr ⟨h1, Nat.le_sub_of_add_le (by rw [Nat.add_comm]; exact h2)⟩) hint, Nat.le_trans (Nat.add_le_add_left (Nat.min_le_right _ _) hint) (Nat.le_of_eq (Nat.add_sub_cancel' (Nat.le_trans (Nat.le_add_right _ _) (Nat.le_of_lt h2))))⟩
theorem gal_lo {hint la of n : Nat} (h1 : la < of) (h2 : la ≤ hint) (h3 : hint < n) : hint + 1 - min of (hint + 1) ≤ hint - la ∧ hint - la ≤ n := by
  refine ⟨?_, Nat.le_trans (Nat.sub_le _ _) (Nat.le_of_lt h3)⟩
  have : la + 1 ≤ min of (hint + 1) := Nat.le_min.mpr ⟨h1, Nat.succ_le_succ h2⟩
  rw [show hint - la = hint + 1 - (la + 1) from (Nat.add_sub_add_right hint 1 la).symm]
  exact Nat.sub_le_sub_left this _
theorem gal_a {hint of n i : Nat} (a5 : n - hint ≤ of ∨ hint + of < n) (h1 : hint + min of (n - hint) ≤ i) (h2 : i < n) : hint + of < n ∧ hint + of ≤ i := by omega
theorem gal_b {hint of i : Nat} (a5 : hint + 1 ≤ of ∨ of ≤ hint) (hi : i < hint + 1 - min of (hint + 1)) : of ≤ hint ∧ i ≤ hint - of := by omega
theorem dbl_lt {of x : Nat} (h : x + 1 ≤ of) : of < 2 * of + 1 ∧ x + 1 + 1 ≤ 2 * of + 1 := by lia
theorem wpS_iteN {prog : Program} {w : World} {A : Around} {E : Value → Shared → Prop} {s : Shared} {α : Type} {c : Prop} [Decidable c] {X Y : StateT SortSt Sem α} {Q : α → SortSt → Prop} {st : SortSt} (h1 : ¬ c → wpS (model prog w) A E s X Q st) (h2 : c → wpS (model prog w) A E s Y Q st) : wpS (model prog w) A E s (if (!decide c) = true then X else Y) Q st :=
  wpS_ite (fun h => h1 (by simpa using h)) fun h => h2 (by simpa using h)
theorem wpS_gallop (C : Cmp prog w A s κ key P) {left : Bool} {x : Keyed} {arr : Array Keyed} {base n hint : Nat} {st : SortSt} {Q : Option Nat → SortSt → Prop} {L : Nat → Keyed} (hk : kindOf st = κ) (hx : P x)
    (hL : ∀ i, i < n → arr[base + i]? = some (L i) ∧ P (L i)) (hs : ∀ i j, i ≤ j → j < n → key (L i) ≤ key (L j)) (hh : hint < n)
    (h : ∀ k, k ≤ n → (∀ i, i < k → goes key left x (L i)) → (∀ i, k ≤ i → i < n → ¬ goes key left x (L i)) → Q (some k) st) :
    wpS (model prog w) A E s (gallopP left x arr base n hint) Q st := by
  have mono := goes_mono (left := left) (x := x) hs
  have bey : ∀ {i : Nat} {st' : SortSt} {Q : Option Bool → SortSt → Prop}, i < n → st' = st → Q (some (decide (goes key left x (L i)))) st' → _ := fun {i st' Q} hi e hq => wpS_beyond (E := E) C (left := left) (x := x) (y := L i) (arr := arr) (i := base + i) (e ▸ hk) hx (hL i hi).2 (hL i hi).1 hq
  refine wpS_bind (bey hh rfl ?_)
  dsimp -zeta only
  extract_lets -underBinder -merge jp m1 m2
  have hj : ∀ r la of lo hi st', st' = st → lo ≤ hi → hi ≤ n → (∀ i, i < lo → goes key left x (L i)) → (∀ i, hi ≤ i → i < n → ¬ goes key left x (L i)) → wpS (model prog w) A E s (jp r la of lo hi) Q st' := by
    intro _ la of lo hi st' e h0 h1 h2 h3
    refine wpS_loopN (fun t x' st' => st' = st ∧ t.1 ≤ t.2 ∧ t.2 ≤ n ∧ t.2 + x' ≤ n + t.1 ∧ (∀ i, i < t.1 → goes key left x (L i)) ∧ ∀ i, t.2 ≤ i → i < n → ¬ goes key left x (L i))
      (fun t st' => st' = st ∧ t.2 ≤ n ∧ (∀ i, i < t.2 → goes key left x (L i)) ∧ ∀ i, t.2 ≤ i → i < n → ¬ goes key left x (L i)) ⟨e, h0, h1, Nat.le_trans h1 (Nat.le_add_right _ _), h2, h3⟩ (fun x' t st' _ hx' hI => ?stp1)
      (fun t st' hI => ⟨hI.1, hI.2.2.1, fun i hi => hI.2.2.2.2.1 i (Nat.lt_of_lt_of_le hi (over_le hI.2.2.2.1)), hI.2.2.2.2.2⟩) (fun t st' hI => wpS_pure (hI.1 ▸ h t.2 hI.2.1 hI.2.2.1 hI.2.2.2))
    extract_lets -underBinder -merge s lo hi
    have a2 : hi ≤ n := hI.2.2.1
    refine wpS_ite (fun hge => wpS_pure ⟨hI.1, a2, fun i hi' => hI.2.2.2.2.1 i (Nat.lt_of_lt_of_le hi' hge), hI.2.2.2.2.2⟩) fun hlt => ?_
    have hm := mid_lt hlt a2
    have hl := mid_left (Nat.le_add_right lo ((hi - lo) / 2)) hm.2 hI.2.2.2.1
    refine wpS_bind (bey hm.1 hI.1 ?_)
    refine wpS_iteD (fun hg => wpS_pure ⟨hI.1, hm.2, a2, hl.1, fun i hi'' => mono i _ (Nat.le_of_lt_succ hi'') hm.1 hg, hI.2.2.2.2.2⟩) fun hg => wpS_pure ⟨hI.1, Nat.le_add_right _ _, Nat.le_of_lt hm.1, hl.2, hI.2.2.2.2.1, fun i h1 h2 hgi => hg (mono _ i h1 h2 hgi)⟩
  clear_value jp
  refine wpS_iteD (fun hg0 => ?_) fun hg0 => ?_
  · refine wpS_loopN (fun t x' st' => st' = st ∧ t.1 < t.2 ∧ x' + 1 ≤ t.2 ∧ hint + t.1 < n ∧ goes key left x (L (hint + t.1)))
      (fun t st' => st' = st ∧ t.1 < t.2 ∧ hint + t.1 < n ∧ goes key left x (L (hint + t.1)) ∧ (n - hint ≤ t.2 ∨ (hint + t.2 < n ∧ ¬ goes key left x (L (hint + t.2))))) ⟨rfl, Nat.zero_lt_one, Nat.le_refl _, hh, hg0⟩ (fun x' t st' _ hx' hI => ?stp2)
      (fun t st' hI => ⟨hI.1, hI.2.1, hI.2.2.2.1, hI.2.2.2.2, .inl (by have := hI.2.2.1; lia)⟩)
      (fun t st' hI => hj () _ _ _ _ _ hI.1 (gal_hi hI.2.1 hI.2.2.1).1 (gal_hi hI.2.1 hI.2.2.1).2 (fun i hi => mono i _ (Nat.le_of_lt_succ hi) hI.2.2.1 hI.2.2.2.1) (fun i h1 h2 hgi => ?far))
    case far =>
      have q := gal_a (hI.2.2.2.2.imp id (·.1)) h1 h2
      rcases hI.2.2.2.2 with a5 | a6
      · have := q.1; omega
      · exact a6.2 (mono _ i q.2 h2 hgi)
    extract_lets -underBinder -merge s la of
    refine wpS_ite (fun hge => wpS_pure ⟨hI.1, hI.2.1, hI.2.2.2.1, hI.2.2.2.2, .inl hge⟩) fun hge => ?_
    have hm : hint + of < n := by have : ¬ of ≥ n - hint := hge; lia
    refine wpS_bind (bey hm hI.1 ?_)
    exact wpS_iteN (fun hg => wpS_pure ⟨hI.1, hI.2.1, hI.2.2.2.1, hI.2.2.2.2, .inr ⟨hm, hg⟩⟩) fun hg => wpS_pure ⟨hI.1, (dbl_lt hI.2.2.1).1, (dbl_lt hI.2.2.1).2, hm, hg⟩
  · refine wpS_loopN (fun t x' st' => st' = st ∧ t.1 < t.2 ∧ x' + 1 ≤ t.2 ∧ t.1 ≤ hint ∧ ¬ goes key left x (L (hint - t.1)))
      (fun t st' => st' = st ∧ t.1 < t.2 ∧ t.1 ≤ hint ∧ ¬ goes key left x (L (hint - t.1)) ∧ (hint + 1 ≤ t.2 ∨ (t.2 ≤ hint ∧ goes key left x (L (hint - t.2))))) ⟨rfl, Nat.zero_lt_one, Nat.le_refl _, Nat.zero_le _, hg0⟩ (fun x' t st' _ hx' hI => ?stp3)
      (fun t st' hI => ⟨hI.1, hI.2.1, hI.2.2.2.1, hI.2.2.2.2, .inl (by have := hI.2.2.1; lia)⟩)
      (fun t st' hI => hj () _ _ _ _ _ hI.1 (gal_lo hI.2.1 hI.2.2.1 hh).1 (gal_lo hI.2.1 hI.2.2.1 hh).2 (fun i hi => ?near) (fun i h1 h2 hgi => hI.2.2.2.1 (mono _ i h1 h2 hgi)))
    case near =>
      have q := gal_b (hI.2.2.2.2.imp id (·.1)) hi
      rcases hI.2.2.2.2 with a5 | a6
      · have := q.1; lia
      · exact mono i _ q.2 (Nat.lt_of_le_of_lt (Nat.sub_le _ _) hh) a6.2
    extract_lets -underBinder -merge s la of
    refine wpS_ite (fun hge => wpS_pure ⟨hI.1, hI.2.1, hI.2.2.2.1, hI.2.2.2.2, .inl hge⟩) fun hge => ?_
    have hm : of ≤ hint := Nat.le_of_lt_succ (Nat.lt_of_not_ge hge)
    refine wpS_bind (bey (Nat.lt_of_le_of_lt (Nat.sub_le _ _) hh) hI.1 ?_)
    exact wpS_iteD (fun hg => wpS_pure ⟨hI.1, hI.2.1, hI.2.2.2.1, hI.2.2.2.2, .inr ⟨hm, hg⟩⟩) fun hg => wpS_pure ⟨hI.1, (dbl_lt hI.2.2.1).1, (dbl_lt hI.2.2.1).2, hm, hg⟩
end
-- Sort2
noncomputable def mergeLoP : Array Keyed → Array Keyed → StateT SortSt Sem (Array Keyed) := sortPriv% PySem.Builtin.mergeLo
noncomputable def Srt (key : Keyed → Int) (l : List Keyed) : Prop := l.Pairwise fun x y => key x ≤ key y
structure Jn (key : Keyed → Int) (T O A B : List Keyed) : Prop where
  perm : (O ++ (A ++ B)).Perm T
  sa : Srt key (O ++ A)
  sb : Srt key (O ++ B)
section
variable {key : Keyed → Int} {T O A B A1 A2 B1 B2 : List Keyed}
theorem Srt.nil : Srt key [] := List.Pairwise.nil
theorem Srt.app {l m : List Keyed} : Srt key (l ++ m) ↔ Srt key l ∧ Srt key m ∧ ∀ x ∈ l, ∀ y ∈ m, key x ≤ key y := List.pairwise_append
theorem Jn.a (J : Jn key T O (A1 ++ A2) B) (h : ∀ x ∈ A1, ∀ y ∈ B, key x ≤ key y) : Jn key T (O ++ A1) A2 B := by
  obtain ⟨p, sa, sb⟩ := J
  refine ⟨?_, by rw [List.append_assoc]; exact sa, ?_⟩
  · rw [List.append_assoc, ← List.append_assoc A1]; exact p
  · have h1 := Srt.app.mp sa
    have h2 := Srt.app.mp sb
    have h3 := Srt.app.mp h1.2.1
    refine Srt.app.mpr ⟨Srt.app.mpr ⟨h1.1, h3.1, fun x hx y hy => h1.2.2 x hx y (List.mem_append_left _ hy)⟩, h2.2.1, fun x hx y hy => ?_⟩
    rcases List.mem_append.mp hx with hx | hx
    · exact h2.2.2 x hx y hy
    · exact h x hx y hy
theorem Jn.swap (J : Jn key T O A B) : Jn key T O B A := ⟨(List.Perm.append_left _ List.perm_append_comm).trans J.perm, J.sb, J.sa⟩
theorem Jn.b (J : Jn key T O A (B1 ++ B2)) (h : ∀ x ∈ B1, ∀ y ∈ A, key x ≤ key y) : Jn key T (O ++ B1) A B2 := (J.swap.a h).swap
structure Mrg (key : Keyed → Int) (T : List Keyed) (M : List Keyed) : Prop where
  perm : M.Perm T
  srt : Srt key M
theorem Jn.doneB (J : Jn key T O A []) : Mrg key T (O ++ A ++ []) := ⟨by have := J.perm; simpa using this, by have := J.sa; simpa using this⟩
theorem Jn.doneA (J : Jn key T O [] B) : Mrg key T (O ++ [] ++ B) := ⟨by have := J.perm; simpa using this, by have := J.sb; simpa using this⟩
theorem Jn.last (J : Jn key T O A B) (h : ∀ x ∈ B, ∀ y ∈ A, key x ≤ key y) : Mrg key T (O ++ B ++ A) := by
  have J' : Jn key T (O ++ B) A [] := by
    have J2 : Jn key T O A (B ++ []) := by simpa using J
    exact J2.b h
  have := J'.doneB
  simpa using this
theorem ex_list (a : Array Keyed) (i j : Nat) : (a.extract i j).toList = (a.toList.drop i).take (j - i) := by rw [Array.toList_extract]
theorem ex_all (a : Array Keyed) (i : Nat) : (a.extract i a.size).toList = a.toList.drop i := by
  rw [ex_list, List.take_of_length_le (by simp)]
theorem drop_one {l : List Keyed} {i : Nat} {x : Keyed} (h : l[i]? = some x) : l.drop i = [x] ++ l.drop (i + 1) := by
  obtain ⟨hl, e⟩ := List.getElem?_eq_some_iff.mp h
  rw [List.drop_eq_getElem_cons hl, e]; rfl
theorem drop_run (l : List Keyed) (i k : Nat) : l.drop i = (l.drop i).take k ++ l.drop (i + k) := by
  rw [← List.drop_drop, List.take_append_drop]
theorem at_ex {a : Array Keyed} {i : Nat} (h : i < a.size) : ∃ x, a[i]? = some x ∧ a.toList[i]? = some x ∧ x ∈ a.toList := by
  refine ⟨a[i], by simp [h], by simp [h], by simp⟩
end
section
variable {key : Keyed → Int} {T A B : List Keyed} {o a b : Array Keyed} {i k : Nat} {y : Keyed}
theorem Jn.extA (J : Jn key T o.toList (a.toList.drop i) B) (h : ∀ x ∈ (a.toList.drop i).take k, ∀ y ∈ B, key x ≤ key y) : Jn key T (o ++ a.extract i (i + k)).toList (a.toList.drop (i + k)) B := by
  rw [Array.toList_append, ex_list, show i + k - i = k by lia]
  rw [drop_run a.toList i k] at J
  exact J.a h
theorem Jn.extB (J : Jn key T o.toList A (b.toList.drop i)) (h : ∀ x ∈ (b.toList.drop i).take k, ∀ y ∈ A, key x ≤ key y) : Jn key T (o ++ b.extract i (i + k)).toList A (b.toList.drop (i + k)) := (J.swap.extA h).swap
theorem Jn.pushA (J : Jn key T o.toList (a.toList.drop i) B) (hy : a.toList[i]? = some y) (h : ∀ u ∈ B, key y ≤ key u) : Jn key T (o.push y).toList (a.toList.drop (i + 1)) B := by
  rw [drop_one hy] at J
  rw [Array.toList_push]
  exact J.a fun x hx u hu => by rw [List.mem_singleton] at hx; subst hx; exact h u hu
theorem Jn.pushB (J : Jn key T o.toList A (b.toList.drop i)) (hy : b.toList[i]? = some y) (h : ∀ u ∈ A, key y ≤ key u) : Jn key T (o.push y).toList A (b.toList.drop (i + 1)) := (J.swap.pushA hy h).swap
end
section
variable {prog : Program} {w : World} {A : Around} {E : Value → Shared → Prop} {s : Shared} {κ : SortKind} {key : Keyed → Int} {P : Keyed → Prop}
theorem wpS_gallopL (C : Cmp prog w A s κ key P) {left : Bool} {x : Keyed} {arr : Array Keyed} {base n hint : Nat} {st : SortSt} {Q : Option Nat → SortSt → Prop} {Ls : List Keyed} (hk : kindOf st = κ) (hx : P x)
    (hL : ∀ i, i < n → arr[base + i]? = Ls[i]?) (hn : Ls.length = n) (hP : ∀ y ∈ Ls, P y) (hs : Srt key Ls) (hh : hint < n)
    (h : ∀ k, k ≤ n → (∀ y ∈ Ls.take k, goes key left x y) → (∀ y ∈ Ls.drop k, ¬ goes key left x y) → Q (some k) st) :
    wpS (model prog w) A E s (gallopP left x arr base n hint) Q st := by
  have e : ∀ i, i < n → Ls[i]? = some (Ls.getD i (Value.none, Value.none)) := fun i hi => by
    rw [List.getD_eq_getElem?_getD, List.getElem?_eq_getElem (by lia)]; rfl
  refine wpS_gallop (L := fun i => Ls.getD i (Value.none, Value.none)) C hk hx (fun i hi => ⟨(hL i hi).trans (e i hi), hP _ (List.mem_of_getElem? (e i hi))⟩) (fun i j hij hj => ?_) hh fun k hk' h1 h2 => h k hk' (fun y hy => ?_) fun y hy => ?_
  · by_cases hie : i = j
    · subst hie; exact Int.le_refl _
    · have hi' : i < Ls.length := by lia
      have hj' : j < Ls.length := by lia
      have := List.pairwise_iff_getElem.mp hs i j hi' hj' (by lia)
      simpa [List.getD_eq_getElem?_getD, hi', hj'] using this
  · obtain ⟨i, hi⟩ := List.mem_iff_getElem?.mp hy
    rw [List.getElem?_take] at hi
    split at hi
    · have := h1 i (by assumption)
      rw [List.getD_eq_getElem?_getD, hi] at this
      exact this
    · cases hi
  · obtain ⟨i, hi⟩ := List.mem_iff_getElem?.mp hy
    rw [List.getElem?_drop] at hi
    have hlt : k + i < Ls.length := (List.getElem?_eq_some_iff.mp hi).1
    have := h2 (k + i) (by lia) (by lia)
    rw [List.getD_eq_getElem?_getD, hi] at this
    exact this
structure SameG (st st' : SortSt) : Prop where
  kind : kindOf st' = kindOf st
  arr : arrOf st' = arrOf st
  pend : pendingOf st' = pendingOf st
  failed : failedOf st' = failedOf st
theorem SameG.refl (st : SortSt) : SameG st st := ⟨rfl, rfl, rfl, rfl⟩
theorem wpS_rule {σ : Type} {r : String} {Q : Unit → σ → Prop} {st : σ} (h : Q () st) : wpS (model prog w) A E s (liftM (rule r) : StateT σ Sem Unit) Q st := wpS_lift (wpAny_rule ⟨rfl, h⟩)
noncomputable def setG : Nat → StateT SortSt Sem Unit := sortPriv% PySem.Builtin.setMinGallop
theorem wpS_setG {n : Nat} {st₀ st : SortSt} {Q : Unit → SortSt → Prop} (hg : SameG st₀ st) (h : ∀ st', SameG st₀ st' → Q () st') : wpS (model prog w) A E s (setG n) Q st :=
  wpS_modify (h _ ⟨hg.kind, hg.arr, hg.pend, hg.failed⟩)
end
section
variable {prog : Program} {w : World} {A : Around} {E : Value → Shared → Prop} {s : Shared} {κ : SortKind} {key : Keyed → Int} {P : Keyed → Prop} {st : SortSt} {arr : Array Keyed} {i : Nat} {x : Keyed}
theorem wpS_elemE {Q : Keyed → SortSt → Prop} (h : i < arr.size) (k : ∀ y, arr.toList[i]? = some y → Q y st) : wpS (model prog w) A E s (elem' arr i) Q st := by
  obtain ⟨x, h1, h2, _⟩ := at_ex h
  exact wpS_elem h1 (k x h2)
theorem wpS_elemK {Q : Keyed → SortSt → Prop} (h : arr.toList[i]? = some x) (k : Q x st) : wpS (model prog w) A E s (elem' arr i) Q st := wpS_elem (by rwa [Array.getElem?_toList] at h) k
theorem wpS_galR (C : Cmp prog w A s κ key P) {left : Bool} {st₀ : SortSt} {Q : Option Nat → SortSt → Prop} (hg : SameG st₀ st) (hk : kindOf st₀ = κ) (hx : P x) (hP : ∀ z ∈ arr.toList, P z) (hs : Srt key (arr.toList.drop i)) (hi : i < arr.size)
    (h : ∀ k, k ≤ arr.size - i → (∀ z ∈ (arr.toList.drop i).take k, goes key left x z) → (∀ z ∈ arr.toList.drop (i + k), ¬ goes key left x z) → Q (some k) st) : wpS (model prog w) A E s (gallopP left x arr i (arr.size - i) 0) Q st :=
  wpS_gallopL C (hg.kind.trans hk) hx (Ls := arr.toList.drop i) (fun j _ => by rw [List.getElem?_drop, Array.getElem?_toList]) (by simp) (fun z hz => hP z (List.mem_of_mem_drop hz)) hs (by omega) fun k h1 h2 h3 => h k h1 h2 (by rwa [List.drop_drop] at h3)
noncomputable def LK {τ : Type} (st : SortSt) (R : Array Keyed → Prop) (I : τ → Nat → Prop) (B : τ → Prop) (x : Nat) : ForInStep (Option (Array Keyed) × τ) → SortSt → Prop
  | .done (some M, _), st' => SameG st st' ∧ R M
  | .done (none, t), st' => SameG st st' ∧ B t
  | .yield (none, t), st' => SameG st st' ∧ I t (x + 1)
  | .yield (some _, _), _ => False
theorem wpS_loop {τ γ : Type} {n : Nat} {f : Nat → Option (Array Keyed) × τ → StateT SortSt Sem (ForInStep (Option (Array Keyed) × τ))} {g : Option (Array Keyed) × τ → StateT SortSt Sem γ} {Q : γ → SortSt → Prop} {st₀ : SortSt} {t₀ : τ} (R : Array Keyed → Prop) (I : τ → Nat → Prop) (B : τ → Prop)
    (hg : SameG st₀ st) (h0 : I t₀ 0) (step : ∀ x t st', SameG st₀ st' → I t x → wpS (model prog w) A E s (f x (none, t)) (LK st₀ R I B x) st') (over : ∀ t, I t n → B t)
    (post : ∀ t st', SameG st₀ st' → B t → wpS (model prog w) A E s (g (none, t)) Q st') (fin : ∀ M t st', SameG st₀ st' → R M → wpS (model prog w) A E s (g (some M, t)) Q st') : wpS (model prog w) A E s (forIn [0:n] (none, t₀) f >>= g) Q st := by
  refine wpS_bind (wpS_mono (wpS_forRange (I := fun x c st' => SameG st₀ st' ∧ ∃ t, c = (none, t) ∧ I t x) (Q := fun c st' => SameG st₀ st' ∧ ((∃ M t, c = (some M, t) ∧ R M) ∨ ∃ t, c = (none, t) ∧ B t)) ?a ?b ⟨hg, _, rfl, h0⟩) ?c)
  case a =>
    rintro x c st' _ _ ⟨hg, t, rfl, hi⟩
    refine wpS_mono (step x t st' hg hi) ?_
    rintro r st2 hk
    cases r with
    | done c =>
      obtain ⟨o, t⟩ := c
      cases o with
      | none => exact ⟨hk.1, .inr ⟨_, rfl, hk.2⟩⟩
      | some M => exact ⟨hk.1, .inl ⟨_, _, rfl, hk.2⟩⟩
    | yield c =>
      obtain ⟨o, t⟩ := c
      cases o with
      | none => exact ⟨hk.1, _, rfl, hk.2⟩
      | some M => exact hk.elim
  case b =>
    rintro c st' ⟨hg, t, rfl, hi⟩
    rw [Nat.zero_max] at hi
    exact ⟨hg, .inr ⟨_, rfl, over _ hi⟩⟩
  case c =>
    rintro c st' ⟨hg, ⟨M, t, rfl, hr⟩ | ⟨t, rfl, hb⟩⟩
    · exact fin M t st' hg hr
    · exact post t st' hg hb
end
section
variable {key : Keyed → Int} {P : Keyed → Prop} {a b out : Array Keyed} {ia ib n k : Nat} {y z : Keyed}
structure LoH (key : Keyed → Int) (P : Keyed → Prop) (a b : Array Keyed) : Prop where
  pa : ∀ x ∈ a.toList, P x
  pb : ∀ x ∈ b.toList, P x
  l : ∀ y ∈ b.toList, ∀ x, a.toList[a.size - 1]? = some x → key y ≤ key x
theorem LoH.at_a (H : LoH key P a b) (h : a.toList[ia]? = some y) : P y := H.pa _ (List.mem_of_getElem? h)
theorem LoH.at_b (H : LoH key P a b) (h : b.toList[ib]? = some y) : P y := H.pb _ (List.mem_of_getElem? h)
noncomputable abbrev Jl (key : Keyed → Int) (a b out : Array Keyed) (ia ib : Nat) : Prop := Jn key (a.toList ++ b.toList) out.toList (a.toList.drop ia) (b.toList.drop ib)
noncomputable abbrev LoR (key : Keyed → Int) (a b : Array Keyed) (M : Array Keyed) : Prop := Mrg key (a.toList ++ b.toList) M.toList
theorem Jl.done (J : Jl key a b out ia ib) (hor : ib = b.size ∨ ia = a.size) : LoR key a b (out ++ a.extract ia a.size ++ b.extract ib b.size) := by
  show Mrg _ _ _
  rw [Array.toList_append, Array.toList_append, ex_all, ex_all]
  unfold Jl at J
  rcases hor with rfl | rfl
  · rw [List.drop_of_length_le (Nat.le_of_eq Array.length_toList)] at J ⊢
    exact J.doneB
  · rw [List.drop_of_length_le (l := a.toList) (Nat.le_of_eq Array.length_toList)] at J ⊢
    exact J.doneA
theorem LoH.last (H : LoH key P a b) (J : Jl key a b out ia ib) (hor : ia + 1 = a.size) : LoR key a b (out ++ b.extract ib b.size ++ a.extract ia a.size) := by
  show Mrg _ _ _
  rw [Array.toList_append, Array.toList_append, ex_all, ex_all]
  refine J.last fun x hx y hy => ?_
  obtain ⟨z, _, hz, _⟩ := at_ex (a := a) (i := ia) (by lia)
  rw [drop_one hz, List.drop_of_length_le (by rw [Array.length_toList]; lia), List.append_nil, List.mem_singleton] at hy
  subst hy
  exact H.l x (List.mem_of_mem_drop hx) _ (by rw [← hz]; congr 1; omega)
structure LoS (key : Keyed → Int) (a b out : Array Keyed) (ia ib n : Nat) : Prop where
  j : Jl key a b out ia ib
  ha : ia + 1 < a.size
  hb : ib < b.size
  sz : n ≤ out.size
theorem srt_head {l : List Keyed} (hs : Srt key (l.drop ia)) (hy : l[ia]? = some y) : ∀ u ∈ l.drop ia, key y ≤ key u := by
  intro u hu
  rw [drop_one hy] at hu hs
  rcases List.mem_append.mp hu with hm | hm
  · rw [List.mem_singleton] at hm; subst hm; exact Int.le_refl _
  · exact (Srt.app.mp hs).2.2 y (by simp) u hm
theorem Jl.sA (J : Jl key a b out ia ib) : Srt key (a.toList.drop ia) := (Srt.app.mp J.sa).2.1
theorem Jl.sB (J : Jl key a b out ia ib) : Srt key (b.toList.drop ib) := (Srt.app.mp J.sb).2.1
theorem Jl.takeB (J : Jl key a b out ia ib) (hy : b.toList[ib]? = some y) (hz : a.toList[ia]? = some z) (h : key y < key z) : Jl key a b (out.push y) ia (ib + 1) :=
  J.pushB hy fun u hu => Int.le_trans (Int.le_of_lt h) (srt_head J.sA hz u hu)
theorem Jl.takeA (J : Jl key a b out ia ib) (hy : b.toList[ib]? = some y) (hz : a.toList[ia]? = some z) (h : ¬ key y < key z) : Jl key a b (out.push z) (ia + 1) ib :=
  J.pushA hz fun u hu => Int.le_trans (Int.not_lt.mp h) (srt_head J.sB hy u hu)
theorem Jl.galA (J : Jl key a b out ia ib) (hy : b.toList[ib]? = some y) (h : ∀ z ∈ (a.toList.drop ia).take k, goes key false y z) : Jl key a b (out ++ a.extract ia (ia + k)) (ia + k) ib :=
  J.extA fun z hz u hu => Int.le_trans (h z hz) (srt_head J.sB hy u hu)
theorem Jl.galB (J : Jl key a b out ia ib) (hz : a.toList[ia]? = some z) (h : ∀ u ∈ (b.toList.drop ib).take k, goes key true z u) : Jl key a b (out ++ b.extract ib (ib + k)) ia (ib + k) :=
  J.extB fun u hu v hv => Int.le_trans (Int.le_of_lt (h u hu)) (srt_head J.sA hz v hv)
theorem goes_not0 {l : List Keyed} (h : ∀ z ∈ l, ¬ goes key false y z) : ∀ z ∈ l, key y ≤ key z := fun z hz => by
  have := h z hz
  simp only [goes, Bool.false_eq_true, if_false] at this
  lia
theorem goes_not1 {l : List Keyed} (h : ∀ z ∈ l, ¬ goes key true y z) : ∀ z ∈ l, key y ≤ key z := fun z hz => by
  have := h z hz
  simp only [goes, if_true] at this
  lia
theorem Jl.over (J : Jl key a b out ia ib) (h : a.size + b.size + 1 ≤ out.size) : False := by
  have := J.perm.length_eq
  simp only [List.length_append, List.length_drop, Array.length_toList] at this
  lia
theorem Jl.start (na : 0 < a.size) (sa : Srt key a.toList) (sb : Srt key b.toList) (hf : ∀ x ∈ a.toList, ∀ y, b.toList[0]? = some y → key y ≤ key x) (hy : b.toList[0]? = some y) : Jl key a b #[y] 0 1 := by
  have e : b.toList = [y] ++ b.toList.drop 1 := by rw [← drop_one hy, List.drop_zero]
  refine ⟨?_, ?_, ?_⟩
  · rw [e]
    simp only [List.drop_zero, List.singleton_append]
    exact List.perm_middle.symm
  · refine Srt.app.mpr ⟨List.pairwise_singleton _ _, sa, fun x hx z hz => ?_⟩
    rw [List.mem_singleton] at hx
    subst hx
    exact hf z hz _ hy
  · rw [← e]; exact sb
theorem LoS.le {m : Nat} (S : LoS key a b out ia ib n) (h : m ≤ n) : LoS key a b out ia ib m := ⟨S.j, S.ha, S.hb, Nat.le_trans h S.sz⟩
theorem sz_push {o : Array Keyed} (h : n ≤ o.size) : n + 1 ≤ (o.push y).size := by rw [Array.size_push]; lia
theorem sz_push' {o : Array Keyed} (h : n ≤ o.size) : n ≤ (o.push y).size := by rw [Array.size_push]; lia
theorem sz_app {o c : Array Keyed} (h : n ≤ o.size) : n ≤ (o ++ c).size := by rw [Array.size_append]; lia
theorem k0 {i k : Nat} {p : Keyed → Prop} {l : List Keyed} (h : ¬ k > 0) (g : ∀ z ∈ l.drop (i + k), p z) : ∀ z ∈ l.drop i, p z := by
  rw [show i + k = i by lia] at g; exact g
theorem lt_ne {i m : Nat} (h : i < m) (e : i + 1 ≠ m) : i + 1 < m := by lia
theorem le_sub {i m c : Nat} (h : i < m) (e : c ≤ m - i) : i + c ≤ m := by lia
end
section
variable {prog : Program} {w : World} {A : Around} {E : Value → Shared → Prop} {s : Shared} {κ : SortKind} {key : Keyed → Int} {P : Keyed → Prop}
noncomputable abbrev LoI (key : Keyed → Int) (a b : Array Keyed) {τ : Type} (n : Nat) (m : Nat) (t : Array Keyed × Nat × Nat × τ) (x : Nat) : Prop := LoS key a b t.1 t.2.1 t.2.2.1 (n + m * x)
theorem wpS_mergeLo (C : Cmp prog w A s κ key P) {a b : Array Keyed} {st : SortSt} {Q : Array Keyed → SortSt → Prop} (hk : kindOf st = κ) (ha : ∀ x ∈ a.toList, P x) (hb : ∀ x ∈ b.toList, P x)
    (sa : Srt key a.toList) (sb : Srt key b.toList) (na : 0 < a.size) (nb : 0 < b.size) (hf : ∀ x ∈ a.toList, ∀ y, b.toList[0]? = some y → key y ≤ key x)
    (hl : ∀ y ∈ b.toList, ∀ x, a.toList[a.size - 1]? = some x → key y ≤ key x)
    (h : ∀ M st', SameG st st' → Mrg key (a.toList ++ b.toList) M.toList → Q M st') : wpS (model prog w) A E s (mergeLoP a b) Q st := by
  have H : LoH key P a b := ⟨ha, hb, hl⟩
  refine wpS_bind (wpS_rule ?_)
  extract_lets -underBinder -merge total done lastOfA
  refine wpS_bind (wpS_elemE nb fun b0 hb0 => ?_)
  have J0 : Jl key a b #[b0] 0 1 := Jl.start na sa sb hf hb0
  extract_lets -underBinder -merge out ia ib
  refine wpS_iteB (fun e => wpS_pure (h _ _ (.refl _) (J0.done (.inl e)))) fun e1 => ?_
  refine wpS_iteB (fun e => wpS_pure (h _ _ (.refl _) (H.last J0 e))) fun e2 => ?_
  refine wpS_bind (wpS_get ?_)
  extract_lets -underBinder -merge mg
  refine wpS_loop (LoR key a b) (LoI key a b 1 1) (fun _ => False) (.refl _) ⟨J0, lt_ne na e2, lt_ne nb e1, Nat.le_refl _⟩ ?step (fun t S => S.j.over (by rw [Nat.add_comm]; simpa using S.sz)) (fun _ _ _ h => h.elim) (fun M _ st' hg hr => wpS_pure (h M st' hg hr))
  intro x t st' hg S
  extract_lets -underBinder -merge s1 out s2 ia s3 ib mg ac bc
  have S : LoS key a b out ia ib (1 + 1 * x) := S
  refine wpS_loop (LoR key a b) (LoI key a b (1 + 1 * x) 1) (fun t => LoS key a b t.1 t.2.1 t.2.2.1 (1 + 1 * (x + 1))) hg (S.le (by lia)) ?step1 (fun t S => S.le (by have : 0 < total := Nat.add_pos_left na _; lia)) (fun t st' hg S => ?post1) (fun M _ st' hg hr => wpS_pure ⟨hg, hr⟩)
  case step1 =>
    intro y t st' hg S
    extract_lets -underBinder -merge s1 out s2 ia s3 ib s4 ac bc
    have S : LoS key a b out ia ib (1 + 1 * x + 1 * y) := S
    have na' := Nat.lt_of_succ_lt S.ha
    refine wpS_bind (wpS_elemE S.hb fun yb hyb => wpS_bind (wpS_elemE na' fun za hza => wpS_bind (wpS_lt C (hg.kind.trans hk) (H.at_b hyb) (H.at_a hza) ?_)))
    refine wpS_iteD (fun hlt => ?_) fun hlt => ?_
    · refine wpS_bind (wpS_elemK hyb ?_)
      extract_lets -underBinder -merge out2 ib2 bc2 ac2
      have J2 : Jl key a b out2 ia ib2 := S.j.takeB hyb hza hlt
      refine wpS_iteB (fun e => wpS_pure ⟨hg, J2.done (.inl e)⟩) fun e => ?_
      have S2 : LoS key a b out2 ia ib2 (1 + 1 * x + 1 * y + 1) := ⟨J2, S.ha, Nat.lt_of_le_of_ne S.hb e, sz_push S.sz⟩
      exact wpS_ite (fun _ => wpS_pure ⟨hg, S2.le (by lia)⟩) fun _ => wpS_pure ⟨hg, S2⟩
    · refine wpS_bind (wpS_elemK hza ?_)
      extract_lets -underBinder -merge out2 ia2 ac2 bc2
      have J2 : Jl key a b out2 ia2 ib := S.j.takeA hyb hza hlt
      refine wpS_iteB (fun e => wpS_pure ⟨hg, H.last J2 e⟩) fun e => ?_
      have S2 : LoS key a b out2 ia2 ib (1 + 1 * x + 1 * y + 1) := ⟨J2, Nat.lt_of_le_of_ne S.ha e, S.hb, sz_push S.sz⟩
      exact wpS_ite (fun _ => wpS_pure ⟨hg, S2.le (by lia)⟩) fun _ => wpS_pure ⟨hg, S2⟩
  extract_lets -underBinder -merge r1 s1 out s2 ia s3 ib s4 ac bc
  have S : LoS key a b out ia ib (1 + 1 * (x + 1)) := S
  refine wpS_bind (wpS_rule ?_)
  extract_lets -underBinder -merge mg
  refine wpS_loop (LoR key a b) (LoI key a b (1 + 1 * (x + 1)) 0) (fun t => LoS key a b t.1 t.2.1 t.2.2.1 (1 + 1 * (x + 1))) hg (S.le (Nat.le_of_eq (by lia))) ?step2 (fun t S => S.le (Nat.le_add_right _ _)) (fun t st' hg S => ?post2) (fun M _ st' hg hr => wpS_pure ⟨hg, hr⟩)
  case post2 =>
    extract_lets -underBinder -merge
    exact wpS_bind (wpS_setG hg fun st' hg => wpS_pure ⟨hg, S⟩)
  intro y t st' hg S
  extract_lets -underBinder -merge s1 out s2 ia s3 ib s4 mg s5 ac bc jp
  have S : LoS key a b out ia ib (1 + 1 * (x + 1)) := S.le (Nat.le_add_right _ _)
  have hj : ∀ r mg st', SameG st st' → wpS (model prog w) A E s (jp r mg) (LK st (LoR key a b) (LoI key a b (1 + 1 * (x + 1)) 0) (fun t => LoS key a b t.1 t.2.1 t.2.2.1 (1 + 1 * (x + 1))) y) st' := by
    intro _ mg st' hg
    refine wpS_bind (wpS_setG hg fun st' hg => ?_)
    refine wpS_bind (wpS_elemE S.hb fun yb hyb => wpS_bind (wpS_galR C hg hk (H.at_b hyb) H.pa S.j.sA (Nat.lt_of_succ_lt S.ha) fun k hk' g1 g2 => ?_))
    dsimp -zeta only
    extract_lets -underBinder -merge ac jp1 out3 ia3
    have h1 : ∀ r out ia st', SameG st st' → Jl key a b out ia ib → ia + 1 < a.size → 1 + 1 * (x + 1) ≤ out.size → (∀ z ∈ a.toList.drop ia, key yb ≤ key z) → wpS (model prog w) A E s (jp1 r out ia) (LK st (LoR key a b) (LoI key a b (1 + 1 * (x + 1)) 0) (fun t => LoS key a b t.1 t.2.1 t.2.2.1 (1 + 1 * (x + 1))) y) st' := by
      intro _ out ia st' hg J h1 hz hak
      refine wpS_bind (wpS_elemK hyb ?_)
      extract_lets -underBinder -merge out2 ib2
      have J2 : Jl key a b out2 ia ib2 := J.pushB hyb hak
      refine wpS_iteB (fun e => wpS_pure ⟨hg, J2.done (.inl e)⟩) fun e => ?_
      have hb2 : ib2 < b.size := Nat.lt_of_le_of_ne S.hb e
      refine wpS_bind (wpS_elemE (Nat.lt_of_succ_lt h1) fun za hza => wpS_bind (wpS_galR C hg hk (H.at_a hza) H.pb J2.sB hb2 fun k hk' g1 g2 => ?_))
      dsimp -zeta only
      extract_lets -underBinder -merge bc jp2 out4 ib4
      have h2 : ∀ r out ib st', SameG st st' → Jl key a b out ia ib → ib < b.size → 1 + 1 * (x + 1) ≤ out.size → (∀ u ∈ b.toList.drop ib, key za ≤ key u) → wpS (model prog w) A E s (jp2 r out ib) (LK st (LoR key a b) (LoI key a b (1 + 1 * (x + 1)) 0) (fun t => LoS key a b t.1 t.2.1 t.2.2.1 (1 + 1 * (x + 1))) y) st' := by
        intro _ out ib st' hg J hb hz hbk
        refine wpS_bind (wpS_elemK hza ?_)
        extract_lets -underBinder -merge out2 ia2
        have J2 : Jl key a b out2 ia2 ib := J.pushA hza hbk
        refine wpS_iteB (fun e => wpS_pure ⟨hg, H.last J2 e⟩) fun e => ?_
        have S2 : LoS key a b out2 ia2 ib (1 + 1 * (x + 1)) := ⟨J2, Nat.lt_of_le_of_ne h1 e, hb, sz_push' hz⟩
        exact wpS_ite (fun _ => wpS_pure ⟨hg, S2⟩) fun _ => wpS_pure ⟨hg, S2.le (by lia)⟩
      refine wpS_ite (fun _ => ?_) fun h0 => ?_
      · have J3 : Jl key a b out4 ia ib4 := J2.galB hza g1
        refine wpS_iteB (fun e => wpS_pure ⟨hg, J3.done (.inl e)⟩) fun e => ?_
        exact h2 () _ _ _ hg J3 (Nat.lt_of_le_of_ne (le_sub hb2 hk') e) (sz_app (sz_push' hz)) (goes_not1 g2)
      · exact h2 () _ _ _ hg J2 hb2 (sz_push' hz) (goes_not1 (k0 h0 g2))
    refine wpS_ite (fun _ => ?_) fun h0 => ?_
    · have J3 : Jl key a b out3 ia3 ib := S.j.galA hyb g1
      refine wpS_iteB (fun e => wpS_pure ⟨hg, H.last J3 e⟩) fun e => ?_
      refine wpS_iteB (fun e => wpS_pure ⟨hg, J3.done (.inr e)⟩) fun e2 => ?_
      exact h1 () _ _ _ hg J3 (lt_ne (Nat.lt_of_le_of_ne (le_sub (Nat.lt_of_succ_lt S.ha) hk') e2) e) (sz_app S.sz) (goes_not0 g2)
    · exact h1 () _ _ _ hg S.j S.ha S.sz (goes_not0 (k0 h0 g2))
  exact wpS_ite (fun _ => hj () _ _ hg) fun _ => hj () _ _ hg
end
-- Sort3
noncomputable def mergeHiP : Array Keyed → Array Keyed → StateT SortSt Sem (Array Keyed) := sortPriv% PySem.Builtin.mergeHi
noncomputable def Jh (key : Keyed → Int) (T : List Keyed) (o : Array Keyed) (la : List Keyed) (na : Nat) (lb : List Keyed) (nb : Nat) : Prop := Jn (fun x => - key x) T o.toList (la.take na).reverse (lb.take nb).reverse
section
variable {key : Keyed → Int} {T la lb : List Keyed} {o a b : Array Keyed} {na nb k i : Nat} {y : Keyed}
theorem srt_rev {l : List Keyed} (h : Srt (fun x => - key x) l.reverse) : Srt key l := by
  have := List.pairwise_reverse.mp h
  exact this.imp fun h => Int.le_of_neg_le_neg h
theorem Jh.swap (J : Jh key T o la na lb nb) : Jh key T o lb nb la na := Jn.swap J
theorem Jh.sortA (J : Jh key T o la na lb nb) : Srt key (la.take na) := srt_rev (Srt.app.mp J.sa).2.1
theorem Jh.sortB (J : Jh key T o la na lb nb) : Srt key (lb.take nb) := J.swap.sortA
theorem take_last (h : 0 < na) (hy : la[na - 1]? = some y) : la.take na = la.take (na - 1) ++ [y] := by
  obtain ⟨n, rfl⟩ : ∃ n, na = n + 1 := ⟨na - 1, by lia⟩
  rw [Nat.add_sub_cancel] at hy ⊢
  obtain ⟨hl, e⟩ := List.getElem?_eq_some_iff.mp hy
  rw [List.take_succ_eq_append_getElem hl, e]
theorem le_last (hy : la[na - 1]? = some y) (h : 0 < na) (hs : Srt key (la.take na)) : ∀ u ∈ la.take na, key u ≤ key y := by
  intro u hu
  rw [take_last h hy] at hu hs
  rcases List.mem_append.mp hu with hm | hm
  · exact (Srt.app.mp hs).2.2 u hm y (by simp)
  · rw [List.mem_singleton] at hm; subst hm; exact Int.le_refl _
theorem Jh.pushA (J : Jh key T o la na lb nb) (h : 0 < na) (hy : la[na - 1]? = some y) (hu : ∀ u ∈ lb.take nb, key u ≤ key y) : Jh key T (o.push y) la (na - 1) lb nb := by
  unfold Jh at J ⊢
  rw [take_last h hy, List.reverse_append] at J
  rw [Array.toList_push]
  refine Jn.a (A1 := [y]) J fun x hx u hu' => ?_
  rw [List.mem_singleton] at hx
  subst hx
  have := hu u (List.mem_reverse.mp hu')
  lia
theorem Jh.pushB (J : Jh key T o la na lb nb) (h : 0 < nb) (hy : lb[nb - 1]? = some y) (hu : ∀ u ∈ la.take na, key u ≤ key y) : Jh key T (o.push y) la na lb (nb - 1) := (J.swap.pushA h hy hu).swap
theorem Jh.extA (J : Jh key T o a.toList na lb nb) (h : k ≤ na) (hn : na ≤ a.size) (hu : ∀ x ∈ (a.toList.take na).drop k, ∀ u ∈ lb.take nb, key u ≤ key x) : Jh key T (o ++ (a.extract k na).reverse) a.toList k lb nb := by
  unfold Jh at J ⊢
  have e : a.toList.take na = a.toList.take k ++ (a.toList.drop k).take (na - k) := by
    have := List.take_add (l := a.toList) (i := k) (j := na - k)
    rwa [show k + (na - k) = na by lia] at this
  have e2 : (a.toList.take na).drop k = (a.toList.drop k).take (na - k) := List.drop_take
  rw [e2] at hu
  rw [e, List.reverse_append] at J
  rw [Array.toList_append, Array.toList_reverse, ex_list]
  refine Jn.a J fun x hx u hu' => ?_
  have := hu x (List.mem_reverse.mp hx) u (List.mem_reverse.mp hu')
  lia
theorem Jh.extB (J : Jh key T o la na b.toList nb) (h : k ≤ nb) (hn : nb ≤ b.size) (hu : ∀ x ∈ (b.toList.take nb).drop k, ∀ u ∈ la.take na, key u ≤ key x) : Jh key T (o ++ (b.extract k nb).reverse) la na b.toList k := (J.swap.extA h hn hu).swap
theorem mrg_rev {M : List Keyed} (h : Mrg (fun x => - key x) T M.reverse) : Mrg key T M := ⟨(List.reverse_perm M).symm.trans h.perm, srt_rev h.srt⟩
theorem ex_zero (a : Array Keyed) (n : Nat) : (a.extract 0 n).toList = a.toList.take n := by rw [ex_list, List.drop_zero, Nat.sub_zero]
theorem Jh.done (J : Jh key T o a.toList na b.toList nb) (h : na = 0 ∨ nb = 0) : Mrg key T (a.extract 0 na ++ b.extract 0 nb ++ o.reverse).toList := by
  refine mrg_rev ?_
  rw [Array.toList_append, Array.toList_append, ex_zero, ex_zero, Array.toList_reverse]
  simp only [List.reverse_append, List.reverse_reverse]
  unfold Jh at J
  rcases h with rfl | rfl
  · have := Jn.doneA (O := o.toList) (B := (b.toList.take nb).reverse) (by simpa using J)
    simpa using this
  · have := Jn.doneB (O := o.toList) (A := (a.toList.take na).reverse) (by simpa using J)
    simpa using this
theorem Jh.first (J : Jh key T o a.toList na b.toList nb) (h : ∀ x ∈ b.toList.take nb, ∀ y ∈ a.toList.take na, key x ≤ key y) : Mrg key T (b.extract 0 nb ++ a.extract 0 na ++ o.reverse).toList := by
  refine mrg_rev ?_
  rw [Array.toList_append, Array.toList_append, ex_zero, ex_zero, Array.toList_reverse]
  simp only [List.reverse_append, List.reverse_reverse]
  unfold Jh at J
  have := J.swap.last fun x hx y hy => by
    have := h y (List.mem_reverse.mp hy) x (List.mem_reverse.mp hx)
    lia
  simpa using this
end
section
variable {prog : Program} {w : World} {A : Around} {E : Value → Shared → Prop} {s : Shared} {κ : SortKind} {key : Keyed → Int} {P : Keyed → Prop} {st : SortSt} {arr : Array Keyed} {m : Nat} {x : Keyed}
theorem wpS_galP (C : Cmp prog w A s κ key P) {left : Bool} {st₀ : SortSt} {Q : Option Nat → SortSt → Prop} (hg : SameG st₀ st) (hk : kindOf st₀ = κ) (hx : P x) (hP : ∀ z ∈ arr.toList, P z) (hs : Srt key (arr.toList.take m)) (h0 : 0 < m) (hm : m ≤ arr.size)
    (h : ∀ k, k ≤ m → (∀ z ∈ arr.toList.take k, goes key left x z) → (∀ z ∈ (arr.toList.take m).drop k, ¬ goes key left x z) → Q (some k) st) : wpS (model prog w) A E s (gallopP left x arr 0 m (m - 1)) Q st :=
  wpS_gallopL C (hg.kind.trans hk) hx (Ls := arr.toList.take m) (fun i hi => by rw [List.getElem?_take, if_pos hi, Nat.zero_add, Array.getElem?_toList]) (by rw [List.length_take, Array.length_toList, Nat.min_eq_left hm]) (fun z hz => hP z (List.mem_of_mem_take hz)) hs (Nat.sub_lt h0 (by decide))
    fun k h1 h2 h3 => h k h1 (fun z hz => h2 z (by rw [List.take_take, Nat.min_eq_left h1]; exact hz)) h3
end
section
variable {key : Keyed → Int} {P : Keyed → Prop} {a b out : Array Keyed} {na nb n k : Nat} {y z : Keyed}
noncomputable abbrev Jk (key : Keyed → Int) (a b out : Array Keyed) (na nb : Nat) : Prop := Jh key (a.toList ++ b.toList) out a.toList na b.toList nb
structure HiH (key : Keyed → Int) (P : Keyed → Prop) (a b : Array Keyed) : Prop where
  pa : ∀ x ∈ a.toList, P x
  pb : ∀ x ∈ b.toList, P x
  f : ∀ x ∈ a.toList, ∀ y, b.toList[0]? = some y → key y ≤ key x
  n : 0 < b.size
theorem HiH.at_a {i : Nat} (H : HiH key P a b) (h : a.toList[i]? = some y) : P y := H.pa _ (List.mem_of_getElem? h)
theorem HiH.at_b {i : Nat} (H : HiH key P a b) (h : b.toList[i]? = some y) : P y := H.pb _ (List.mem_of_getElem? h)
theorem HiH.first (H : HiH key P a b) (J : Jk key a b out na nb) (e : nb = 1) : LoR key a b (b.extract 0 nb ++ a.extract 0 na ++ out.reverse) := by
  refine Jh.first J fun x hx y hy => ?_
  obtain ⟨z, _, hz, _⟩ := at_ex H.n
  subst e
  rw [take_last (by decide) hz, Nat.sub_self, List.take_zero, List.nil_append, List.mem_singleton] at hx
  subst hx
  exact H.f y (List.mem_of_mem_take hy) _ hz
structure HiS (key : Keyed → Int) (a b : Array Keyed) (na nb : Nat) (out : Array Keyed) (n : Nat) : Prop where
  j : Jk key a b out na nb
  ha : 0 < na
  hb : 1 < nb
  la : na ≤ a.size
  lb : nb ≤ b.size
  sz : n ≤ out.size
theorem HiS.le {m : Nat} (S : HiS key a b na nb out n) (h : m ≤ n) : HiS key a b na nb out m := ⟨S.j, S.ha, S.hb, S.la, S.lb, Nat.le_trans h S.sz⟩
theorem Jk.takeA (J : Jk key a b out na nb) (h : 0 < na) (h2 : 0 < nb) (hy : b.toList[nb - 1]? = some y) (hz : a.toList[na - 1]? = some z) (hlt : key y < key z) : Jk key a b (out.push z) (na - 1) nb :=
  Jh.pushA J h hz fun u hu => Int.le_trans (le_last hy h2 J.sortB u hu) (Int.le_of_lt hlt)
theorem Jk.takeB (J : Jk key a b out na nb) (h : 0 < na) (h2 : 0 < nb) (hy : b.toList[nb - 1]? = some y) (hz : a.toList[na - 1]? = some z) (hlt : ¬ key y < key z) : Jk key a b (out.push y) na (nb - 1) :=
  Jh.pushB J h2 hy fun u hu => Int.le_trans (le_last hz h J.sortA u hu) (Int.not_lt.mp hlt)
theorem goes_all0 {l : List Keyed} (h : ∀ z ∈ l, goes key false y z) : ∀ z ∈ l, key z ≤ key y := fun z hz => by
  have := h z hz
  simp only [goes, Bool.false_eq_true, if_false] at this
  lia
theorem goes_all1 {l : List Keyed} (h : ∀ z ∈ l, goes key true y z) : ∀ z ∈ l, key z ≤ key y := fun z hz => by
  have := h z hz
  simp only [goes, if_true] at this
  lia
theorem Jk.galA (J : Jk key a b out na nb) (h : k ≤ na) (hn : na ≤ a.size) (h2 : 0 < nb) (hy : b.toList[nb - 1]? = some y) (g : ∀ z ∈ (a.toList.take na).drop k, ¬ goes key false y z) : Jk key a b (out ++ (a.extract k na).reverse) k nb :=
  Jh.extA J h hn fun z hz u hu => Int.le_trans (le_last hy h2 J.sortB u hu) (goes_not0 g z hz)
theorem Jk.galB (J : Jk key a b out na nb) (h : k ≤ nb) (hn : nb ≤ b.size) (h2 : 0 < na) (hz : a.toList[na - 1]? = some z) (g : ∀ z' ∈ (b.toList.take nb).drop k, ¬ goes key true z z') : Jk key a b (out ++ (b.extract k nb).reverse) na k :=
  Jh.extB J h hn fun u hu v hv => Int.le_trans (le_last hz h2 J.sortA v hv) (goes_not1 g u hu)
theorem Jk.over (J : Jk key a b out na nb) (h1 : na ≤ a.size) (h2 : nb ≤ b.size) (h3 : 0 < na) (h : a.size + b.size + 1 ≤ out.size) : False := by
  have := Jn.perm J |>.length_eq
  simp only [List.length_append, List.length_reverse, List.length_take, Array.length_toList] at this
  lia
theorem Jk.start (ha0 : 0 < a.size) (sa : Srt key a.toList) (sb : Srt key b.toList) (hl : ∀ y ∈ b.toList, ∀ x, a.toList[a.size - 1]? = some x → key y ≤ key x) (hy : a.toList[a.size - 1]? = some y) : Jk key a b #[y] (a.size - 1) b.size := by
  have Ji : Jk key a b (#[] : Array Keyed) a.size b.size := by
    unfold Jk Jh
    rw [List.take_of_length_le (Nat.le_of_eq Array.length_toList), List.take_of_length_le (Nat.le_of_eq Array.length_toList)]
    refine ⟨?_, ?_, ?_⟩
    · exact (List.reverse_perm _).append (List.reverse_perm _)
    · exact List.pairwise_reverse.mpr (sa.imp fun h => Int.neg_le_neg h)
    · exact List.pairwise_reverse.mpr (sb.imp fun h => Int.neg_le_neg h)
  exact Jh.pushA Ji ha0 hy fun u hu => hl u (List.mem_of_mem_take hu) _ hy
theorem kk0 {na k : Nat} {p : Keyed → Prop} {l : List Keyed} (h : ¬ na - k > 0) (hk : k ≤ na) (g : ∀ z ∈ l.take k, p z) : ∀ z ∈ l.take na, p z := by
  rw [show na = k by lia]; exact g
theorem pos_ne {n : Nat} (h : n ≠ 0) : 0 < n := Nat.pos_of_ne_zero h
theorem one_ne {n : Nat} (h : 0 < n) (e : n ≠ 1) : 1 < n := by lia
theorem sub_pos1 {n : Nat} (h : 1 < n) : 0 < n - 1 := by omega
theorem sub_lt1 {n m : Nat} (h : 0 < n) (hm : n ≤ m) : n - 1 < m := by omega
end
section
variable {prog : Program} {w : World} {A : Around} {E : Value → Shared → Prop} {s : Shared} {κ : SortKind} {key : Keyed → Int} {P : Keyed → Prop}
noncomputable abbrev HiI (key : Keyed → Int) (a b : Array Keyed) {τ : Type} (n : Nat) (m : Nat) (t : Nat × Nat × Array Keyed × τ) (x : Nat) : Prop := HiS key a b t.1 t.2.1 t.2.2.1 (n + m * x)
theorem wpS_mergeHi (C : Cmp prog w A s κ key P) {a b : Array Keyed} {st : SortSt} {Q : Array Keyed → SortSt → Prop} (hk : kindOf st = κ) (ha : ∀ x ∈ a.toList, P x) (hb : ∀ x ∈ b.toList, P x)
    (sa : Srt key a.toList) (sb : Srt key b.toList) (ha0 : 0 < a.size) (hb0 : 0 < b.size) (hf : ∀ x ∈ a.toList, ∀ y, b.toList[0]? = some y → key y ≤ key x)
    (hl : ∀ y ∈ b.toList, ∀ x, a.toList[a.size - 1]? = some x → key y ≤ key x)
    (h : ∀ M st', SameG st st' → Mrg key (a.toList ++ b.toList) M.toList → Q M st') : wpS (model prog w) A E s (mergeHiP a b) Q st := by
  have H : HiH key P a b := ⟨ha, hb, hf, hb0⟩
  refine wpS_bind (wpS_rule ?_)
  extract_lets -underBinder -merge total done firstOfB na nb
  refine wpS_bind (wpS_elemE (Nat.sub_lt ha0 (by decide)) fun a0 ha1 => ?_)
  have J0 : Jk key a b #[a0] (a.size - 1) b.size := Jk.start ha0 sa sb hl ha1
  extract_lets -underBinder -merge out
  refine wpS_iteB (fun e => wpS_pure (h _ _ (.refl _) (J0.done (.inl e)))) fun e1 => ?_
  refine wpS_iteB (fun e => wpS_pure (h _ _ (.refl _) (H.first J0 e))) fun e2 => ?_
  refine wpS_bind (wpS_get ?_)
  extract_lets -underBinder -merge mg
  refine wpS_loop (LoR key a b) (HiI key a b 1 1) (fun _ => False) (.refl _) ⟨J0, pos_ne e1, one_ne hb0 e2, Nat.sub_le _ _, Nat.le_refl _, Nat.le_refl _⟩ ?step (fun t S => Jk.over S.j S.la S.lb S.ha (by rw [Nat.add_comm]; simpa using S.sz)) (fun _ _ _ h => h.elim) (fun M _ st' hg hr => wpS_pure (h M st' hg hr))
  intro x t st' hg S
  extract_lets -underBinder -merge s1 na s2 nb s3 out mg ac bc
  have S : HiS key a b na nb out (1 + 1 * x) := S
  refine wpS_loop (LoR key a b) (HiI key a b (1 + 1 * x) 1) (fun t => HiS key a b t.1 t.2.1 t.2.2.1 (1 + 1 * (x + 1))) hg (S.le (by lia)) ?step1 (fun t S => S.le (by have : 0 < total := Nat.add_pos_left ha0 _; lia)) (fun t st' hg S => ?post1) (fun M _ st' hg hr => wpS_pure ⟨hg, hr⟩)
  case step1 =>
    intro y t st' hg S
    extract_lets -underBinder -merge s1 na s2 nb s3 out s4 ac bc
    have S : HiS key a b na nb out (1 + 1 * x + 1 * y) := S
    have nb0 := Nat.lt_of_succ_lt S.hb
    refine wpS_bind (wpS_elemE (sub_lt1 nb0 S.lb) fun yb hyb => wpS_bind (wpS_elemE (sub_lt1 S.ha S.la) fun za hza => wpS_bind (wpS_lt C (hg.kind.trans hk) (H.at_b hyb) (H.at_a hza) ?_)))
    refine wpS_iteD (fun hlt => ?_) fun hlt => ?_
    · extract_lets -underBinder -merge na2
      refine wpS_bind (wpS_elemK hza ?_)
      extract_lets -underBinder -merge out2 ac2 bc2
      have J2 : Jk key a b out2 na2 nb := Jk.takeA S.j S.ha nb0 hyb hza hlt
      refine wpS_iteB (fun e => wpS_pure ⟨hg, J2.done (.inl e)⟩) fun e => ?_
      have S2 : HiS key a b na2 nb out2 (1 + 1 * x + 1 * y + 1) := ⟨J2, pos_ne e, S.hb, Nat.le_trans (Nat.sub_le _ _) S.la, S.lb, sz_push S.sz⟩
      exact wpS_ite (fun _ => wpS_pure ⟨hg, S2.le (by lia)⟩) fun _ => wpS_pure ⟨hg, S2⟩
    · extract_lets -underBinder -merge nb2
      refine wpS_bind (wpS_elemK hyb ?_)
      extract_lets -underBinder -merge out2 bc2 ac2
      have J2 : Jk key a b out2 na nb2 := Jk.takeB S.j S.ha nb0 hyb hza hlt
      refine wpS_iteB (fun e => wpS_pure ⟨hg, H.first J2 e⟩) fun e => ?_
      have S2 : HiS key a b na nb2 out2 (1 + 1 * x + 1 * y + 1) := ⟨J2, S.ha, one_ne (sub_pos1 S.hb) e, S.la, Nat.le_trans (Nat.sub_le _ _) S.lb, sz_push S.sz⟩
      exact wpS_ite (fun _ => wpS_pure ⟨hg, S2.le (by lia)⟩) fun _ => wpS_pure ⟨hg, S2⟩
  extract_lets -underBinder -merge r1 s1 na s2 nb s3 out s4 ac bc
  have S : HiS key a b na nb out (1 + 1 * (x + 1)) := S
  refine wpS_bind (wpS_rule ?_)
  extract_lets -underBinder -merge mg
  refine wpS_loop (LoR key a b) (HiI key a b (1 + 1 * (x + 1)) 0) (fun t => HiS key a b t.1 t.2.1 t.2.2.1 (1 + 1 * (x + 1))) hg (S.le (Nat.le_of_eq (by lia))) ?step2 (fun t S => S.le (Nat.le_add_right _ _)) (fun t st' hg S => ?post2) (fun M _ st' hg hr => wpS_pure ⟨hg, hr⟩)
  case post2 =>
    extract_lets -underBinder -merge
    exact wpS_bind (wpS_setG hg fun st' hg => wpS_pure ⟨hg, S⟩)
  intro y t st' hg S
  extract_lets -underBinder -merge s1 na s2 nb s3 out s4 mg s5 ac bc jp
  have S : HiS key a b na nb out (1 + 1 * (x + 1)) := S.le (Nat.le_add_right _ _)
  have nb0 := Nat.lt_of_succ_lt S.hb
  have hj : ∀ r mg st', SameG st st' → wpS (model prog w) A E s (jp r mg) (LK st (LoR key a b) (HiI key a b (1 + 1 * (x + 1)) 0) (fun t => HiS key a b t.1 t.2.1 t.2.2.1 (1 + 1 * (x + 1))) y) st' := by
    intro _ mg st' hg
    refine wpS_bind (wpS_setG hg fun st' hg => ?_)
    refine wpS_bind (wpS_elemE (sub_lt1 nb0 S.lb) fun yb hyb => wpS_bind (wpS_galP C hg hk (H.at_b hyb) H.pa S.j.sortA S.ha S.la fun k hk' g1 g2 => ?_))
    dsimp -zeta only
    extract_lets -underBinder -merge k1 ac jp1 out3 na3
    have h1 : ∀ r na out st', SameG st st' → Jk key a b out na nb → 0 < na → na ≤ a.size → 1 + 1 * (x + 1) ≤ out.size → (∀ z ∈ a.toList.take na, key z ≤ key yb) → wpS (model prog w) A E s (jp1 r na out) (LK st (LoR key a b) (HiI key a b (1 + 1 * (x + 1)) 0) (fun t => HiS key a b t.1 t.2.1 t.2.2.1 (1 + 1 * (x + 1))) y) st' := by
      intro _ na out st' hg J h0 h1 hz hak
      show wpS (model prog w) A E s (elem' b (nb - 1) >>= _) (LK st (LoR key a b) (HiI key a b (1 + 1 * (x + 1)) 0) (fun t => HiS key a b t.1 t.2.1 t.2.2.1 (1 + 1 * (x + 1))) y) st'
      refine wpS_bind (wpS_elemK hyb ?_)
      extract_lets -underBinder -merge out2
      have J2 : Jk key a b out2 na (nb - 1) := Jh.pushB J nb0 hyb hak
      refine wpS_iteB (fun e => wpS_pure ⟨hg, H.first J2 e⟩) fun e => ?_
      have hb2 : nb - 1 ≤ b.size := Nat.le_trans (Nat.sub_le _ _) S.lb
      refine wpS_bind (wpS_elemE (sub_lt1 h0 h1) fun za hza => wpS_bind (wpS_galP C hg hk (H.at_a hza) H.pb J2.sortB (sub_pos1 S.hb) hb2 fun k hk' g1 g2 => ?_))
      dsimp -zeta only
      extract_lets -underBinder -merge k2 bc jp2 out4 nb4
      have h2 : ∀ r nb out st', SameG st st' → Jk key a b out na nb → 1 < nb → nb ≤ b.size → 1 + 1 * (x + 1) ≤ out.size → (∀ z ∈ b.toList.take nb, key z ≤ key za) → wpS (model prog w) A E s (jp2 r nb out) (LK st (LoR key a b) (HiI key a b (1 + 1 * (x + 1)) 0) (fun t => HiS key a b t.1 t.2.1 t.2.2.1 (1 + 1 * (x + 1))) y) st' := by
        intro _ nb out st' hg J hb hlb hz hbk
        show wpS (model prog w) A E s (elem' a (na - 1) >>= _) (LK st (LoR key a b) (HiI key a b (1 + 1 * (x + 1)) 0) (fun t => HiS key a b t.1 t.2.1 t.2.2.1 (1 + 1 * (x + 1))) y) st'
        refine wpS_bind (wpS_elemK hza ?_)
        extract_lets -underBinder -merge out2
        have J2 : Jk key a b out2 (na - 1) nb := Jh.pushA J h0 hza hbk
        refine wpS_iteB (fun e => wpS_pure ⟨hg, J2.done (.inl e)⟩) fun e => ?_
        have S2 : HiS key a b (na - 1) nb out2 (1 + 1 * (x + 1)) := ⟨J2, pos_ne e, hb, Nat.le_trans (Nat.sub_le _ _) h1, hlb, sz_push' hz⟩
        exact wpS_ite (fun _ => wpS_pure ⟨hg, S2⟩) fun _ => wpS_pure ⟨hg, S2.le (by lia)⟩
      refine wpS_ite (fun _ => ?_) fun h0' => ?_
      · have J3 : Jk key a b out4 na nb4 := Jk.galB J2 hk' hb2 h0 hza g2
        refine wpS_iteB (fun e => wpS_pure ⟨hg, H.first J3 e⟩) fun e => ?_
        refine wpS_iteB (fun e => wpS_pure ⟨hg, J3.done (.inr e)⟩) fun e2 => ?_
        exact h2 () _ _ _ hg J3 (one_ne (pos_ne e2) e) (Nat.le_trans hk' hb2) (sz_app (sz_push' hz)) (goes_all1 g1)
      · exact h2 () _ _ _ hg J2 (one_ne (sub_pos1 S.hb) e) hb2 (sz_push' hz) (kk0 h0' hk' (goes_all1 g1))
    refine wpS_ite (fun _ => ?_) fun h0 => ?_
    · have J3 : Jk key a b out3 na3 nb := Jk.galA S.j hk' S.la nb0 hyb g2
      refine wpS_iteB (fun e => wpS_pure ⟨hg, J3.done (.inl e)⟩) fun e => ?_
      exact h1 () _ _ _ hg J3 (pos_ne e) (Nat.le_trans hk' S.la) (sz_app S.sz) (goes_all0 g1)
    · exact h1 () _ _ _ hg S.j S.ha S.la S.sz (kk0 h0 hk' (goes_all0 g1))
  exact wpS_ite (fun _ => hj () _ _ hg) fun _ => hj () _ _ hg
end
-- Sort4
noncomputable def mergeAtP : Nat → StateT SortSt Sem Bool := sortPriv% PySem.Builtin.mergeAt
theorem wpS_set {M : Model} {A : Around} {E : Value → Shared → Prop} {s : Shared} {σ : Type} {st st' : σ} {Q : PUnit → σ → Prop} (h : Q ⟨⟩ st') : wpS M A E s (set st' : StateT σ Sem PUnit) Q st := by
  unfold wpS; rw [StateT.run_set]; exact wpAny_pure ⟨rfl, h⟩
theorem fold_write {off : Nat} : ∀ (l : List Keyed) (m : Nat) (arr : Array Keyed) (pre X post : List Keyed), arr.toList = pre ++ X ++ post → pre.length = off + m → X.length = l.length →
    ((l.zipIdx m).foldl (fun (a : Array Keyed) (x : Keyed × Nat) => match x with | (p, j) => a.setIfInBounds (off + j) p) arr).toList = pre ++ l ++ post
  | [], m, arr, pre, X, post, h1, h2, h3 => by
    have : X = [] := List.length_eq_zero_iff.mp h3
    subst this
    exact h1
  | q :: l, m, arr, pre, X, post, h1, h2, h3 => by
    obtain ⟨x, X', rfl⟩ : ∃ x X', X = x :: X' := by
      cases X with
      | nil => simp at h3
      | cons x X' => exact ⟨x, X', rfl⟩
    rw [List.zipIdx_cons, List.foldl_cons]
    have e1 : (arr.setIfInBounds (off + m) q).toList = (pre ++ [q]) ++ X' ++ post := by
      rw [Array.toList_setIfInBounds, h1, ← h2]
      simp
    have := fold_write (off := off) l (m + 1) (arr.setIfInBounds (off + m) q) (pre ++ [q]) X' post e1 (by simp; lia) (by simpa using h3)
    exact this.trans (by simp)
section
variable {prog : Program} {w : World} {A : Around} {E : Value → Shared → Prop} {s : Shared} {κ : SortKind} {key : Keyed → Int} {P : Keyed → Prop}
theorem get_mid {arr : Array Keyed} {pre X post : List Keyed} (h : arr.toList = pre ++ X ++ post) {i : Nat} (hi : i < X.length) : arr[pre.length + i]? = X[i]? := by
  rw [← Array.getElem?_toList, h, List.append_assoc, List.getElem?_append_right (by lia), List.getElem?_append_left (by omega)]
  congr 1; omega
theorem ex_mid {arr : Array Keyed} {pre X post : List Keyed} (h : arr.toList = pre ++ X ++ post) : (arr.extract pre.length (pre.length + X.length)).toList = X := by
  rw [ex_list, h, List.append_assoc, List.drop_left, show pre.length + X.length - pre.length = X.length by lia, List.take_left]
theorem Mrg.refl {l : List Keyed} (h : Srt key l) : Mrg key l l := ⟨.refl _, h⟩
theorem wpS_mergeAt (C : Cmp prog w A s κ key P) {i sa na sb nb pw pw2 : Nat} {pre X Y post : List Keyed} {st : SortSt} {Q : Bool → SortSt → Prop} (hk : kindOf st = κ) (hfail : failedOf st = none)
    (harr : (arrOf st).toList = pre ++ (X ++ Y) ++ post) (hP : ∀ x ∈ (arrOf st).toList, P x) (h1 : (pendingOf st)[i]? = some (sa, na, pw)) (h2 : (pendingOf st)[i + 1]? = some (sb, nb, pw2))
    (e1 : sa = pre.length) (e2 : na = X.length) (e3 : sb = sa + na) (e4 : nb = Y.length) (p1 : 0 < na) (p2 : 0 < nb) (s1 : Srt key X) (s2 : Srt key Y)
    (h : ∀ M (st' : SortSt), Mrg key (X ++ Y) M → kindOf st' = κ → failedOf st' = none → (arrOf st').toList = pre ++ M ++ post → pendingOf st' = ((pendingOf st).setIfInBounds i (sa, na + nb, pw)).eraseIdxIfInBounds (i + 1) → Q true st') :
    wpS (model prog w) A E s (mergeAtP i) Q st := by
  have hX : (arrOf st).toList = pre ++ X ++ (Y ++ post) := by rw [harr]; simp
  have hY : (arrOf st).toList = (pre ++ X) ++ Y ++ post := by rw [harr]; simp
  have hsb : sb = (pre ++ X).length := by rw [List.length_append]; lia
  obtain ⟨y0, hy0⟩ : ∃ y0, Y[0]? = some y0 := ⟨Y[0]'(by lia), by simp⟩
  have gy : (arrOf st)[sb]? = some y0 := by
    have := get_mid hY (i := 0) (by lia)
    rw [hsb]; simpa [hy0] using this
  have my : y0 ∈ Y := List.mem_of_getElem? hy0
  have PX : ∀ x ∈ X, P x := fun x hx => hP x (by rw [hX]; simp [hx])
  have PY : ∀ x ∈ Y, P x := fun x hx => hP x (by rw [hY]; simp [hx])
  have y0le : ∀ y ∈ Y, key y0 ≤ key y := by
    intro y hy
    have e := drop_one hy0
    rw [List.drop_zero] at e
    rw [e] at hy s2
    rcases List.mem_append.mp hy with hm | hm
    · rw [List.mem_singleton] at hm; subst hm; exact Int.le_refl _
    · exact (Srt.app.mp s2).2.2 y0 (by simp) y hm
  obtain ⟨x1, hx1⟩ : ∃ x1, X[na - 1]? = some x1 := ⟨X[na - 1]'(by omega), by simp⟩
  have mx : x1 ∈ X := List.mem_of_getElem? hx1
  have x1le : ∀ x ∈ X, key x ≤ key x1 := by
    have := le_last (key := key) (na := na) hx1 p1 (by rw [e2, List.take_length]; exact s1)
    rwa [e2, List.take_length] at this
  refine wpS_bind (wpS_get ?_)
  dsimp only
  rw [h1, h2]
  dsimp only
  refine wpS_bind (wpS_set ?_)
  refine wpS_bind (wpS_elem gy ?_)
  refine wpS_bind (wpS_gallopL C hk (PY _ my) (Ls := X) (fun i hi => by rw [e1]; exact get_mid hX (by lia)) e2.symm PX s1 p1 fun k hk' g1 g2 => ?_)
  dsimp only
  have done : Srt key (X ++ Y) → ∀ st' : SortSt, arrOf st' = arrOf st → kindOf st' = kindOf st → failedOf st' = failedOf st → pendingOf st' = ((pendingOf st).setIfInBounds i (sa, na + nb, pw)).eraseIdxIfInBounds (i + 1) → Q true st' := by
    intro hs st' a1 a2 a3 a4
    exact h (X ++ Y) st' (.refl hs) (a2.trans hk) (a3.trans hfail) (by rw [a1]; exact harr) a4
  refine wpS_iteB (fun e5 => ?_) fun e5 => ?_
  · refine wpS_pure (done (Srt.app.mpr ⟨s1, s2, fun x hx y hy => ?_⟩) _ rfl rfl rfl rfl)
    have := g1 x (by rw [List.take_of_length_le (by lia)]; exact hx)
    simp only [goes, Bool.false_eq_true, if_false] at this
    have := y0le y hy
    lia
  have gx : (arrOf st)[sa + k + (na - k) - 1]? = some x1 := by
    have := get_mid hX (i := na - 1) (by omega)
    rw [← e1] at this
    rw [show sa + k + (na - k) - 1 = sa + (na - 1) by lia, this, hx1]
  refine wpS_bind (wpS_elem gx ?_)
  refine wpS_bind (wpS_gallopL C hk (PX _ mx) (Ls := Y) (fun i hi => by rw [hsb]; exact get_mid hY (by lia)) e4.symm PY s2 (by lia) fun k2 hk2 g3 g4 => ?_)
  dsimp only
  refine wpS_iteB (fun e6 => ?_) fun e6 => ?_
  · refine wpS_pure (done (Srt.app.mpr ⟨s1, s2, fun x hx y hy => ?_⟩) _ rfl rfl rfl rfl)
    have := g4 y (by rw [e6]; exact hy)
    simp only [goes, if_true] at this
    have := x1le x hx
    lia
  have xs : ((arrOf st).extract (sa + k) sb).toList = X.drop k := by
    have hX' : (arrOf st).toList = (pre ++ X.take k) ++ X.drop k ++ (Y ++ post) := by
      rw [hX]; simp only [List.append_assoc]
      rw [← List.append_assoc (X.take k) (X.drop k), List.take_append_drop]
    have := ex_mid hX'
    rw [← this]
    congr 2
    · rw [List.length_append, List.length_take]; lia
    · rw [List.length_append, List.length_take, List.length_drop]; lia
  have ys : ((arrOf st).extract sb (sb + k2)).toList = Y.take k2 := by
    have hY' : (arrOf st).toList = (pre ++ X) ++ Y.take k2 ++ (Y.drop k2 ++ post) := by
      rw [hY]; simp only [List.append_assoc]
      rw [← List.append_assoc (Y.take k2) (Y.drop k2), List.take_append_drop]
    have := ex_mid hY'
    rw [← this]
    congr 2
    rw [List.length_take]; lia
  have sX : Srt key (X.drop k) := List.Pairwise.sublist (List.drop_sublist _ _) s1
  have sY : Srt key (Y.take k2) := List.Pairwise.sublist (List.take_sublist _ _) s2
  have hm : ∀ (R : Array Keyed → SortSt → Prop) (st₁ : SortSt), kindOf st₁ = κ → (∀ M st', SameG st₁ st' → Mrg key (X.drop k ++ Y.take k2) M.toList → R M st') →
      wpS (model prog w) A E s (mergeLoP ((arrOf st).extract (sa + k) sb) ((arrOf st).extract sb (sb + k2))) R st₁ ∧ wpS (model prog w) A E s (mergeHiP ((arrOf st).extract (sa + k) sb) ((arrOf st).extract sb (sb + k2))) R st₁ := by
    intro R st₁ hk₁ hR
    have a1 : ∀ x ∈ ((arrOf st).extract (sa + k) sb).toList, P x := by rw [xs]; exact fun x hx => PX x (List.mem_of_mem_drop hx)
    have a2 : ∀ x ∈ ((arrOf st).extract sb (sb + k2)).toList, P x := by rw [ys]; exact fun x hx => PY x (List.mem_of_mem_take hx)
    have z1 : ((arrOf st).extract (sa + k) sb).size = na - k := by rw [← Array.length_toList, xs, List.length_drop]; lia
    have z2 : ((arrOf st).extract sb (sb + k2)).size = k2 := by rw [← Array.length_toList, ys, List.length_take]; lia
    have a3 : ∀ x ∈ ((arrOf st).extract (sa + k) sb).toList, ∀ y, ((arrOf st).extract sb (sb + k2)).toList[0]? = some y → key y ≤ key x := by
      rw [xs, ys]
      intro x hx y hy
      rw [List.getElem?_take, if_pos (by lia), hy0] at hy
      cases hy
      have := g2 x hx
      simp only [goes, Bool.false_eq_true, if_false] at this
      lia
    have a4 : ∀ y ∈ ((arrOf st).extract sb (sb + k2)).toList, ∀ x, ((arrOf st).extract (sa + k) sb).toList[((arrOf st).extract (sa + k) sb).size - 1]? = some x → key y ≤ key x := by
      rw [z1, xs, ys]
      intro y hy x hx
      rw [List.getElem?_drop, show k + (na - k - 1) = na - 1 by lia, hx1] at hx
      cases hx
      have := g3 y hy
      simp only [goes, if_true] at this
      lia
    refine ⟨wpS_mergeLo C hk₁ a1 a2 (by rw [xs]; exact sX) (by rw [ys]; exact sY) (by lia) (by lia) a3 a4 fun M st' g m => hR M st' g (by rwa [xs, ys] at m),
      wpS_mergeHi C hk₁ a1 a2 (by rw [xs]; exact sX) (by rw [ys]; exact sY) (by lia) (by lia) a3 a4 fun M st' g m => hR M st' g (by rwa [xs, ys] at m)⟩
  have fin : ∀ (M : Array Keyed) (st' : SortSt), arrOf st' = arrOf st → kindOf st' = kindOf st → failedOf st' = failedOf st → pendingOf st' = ((pendingOf st).setIfInBounds i (sa, na + nb, pw)).eraseIdxIfInBounds (i + 1) → Mrg key (X.drop k ++ Y.take k2) M.toList →
      ∀ st'' : SortSt, kindOf st'' = kindOf st' → failedOf st'' = failedOf st' → pendingOf st'' = pendingOf st' → arrOf st'' = M.toList.zipIdx.foldl (fun (a : Array Keyed) (x : Keyed × Nat) => match x with | (p, j) => a.setIfInBounds (sa + k + j) p) (arrOf st') → Q true st'' := by
    intro M st' a1 a2 a3 a4 m st'' b1 b2 b3 b4
    have hs : (arrOf st').toList = (pre ++ X.take k) ++ (X.drop k ++ Y.take k2) ++ (Y.drop k2 ++ post) := by
      rw [a1, harr]; simp only [List.append_assoc]
      rw [← List.append_assoc (X.take k) (X.drop k), List.take_append_drop, ← List.append_assoc (Y.take k2) (Y.drop k2), List.take_append_drop]
    have hw := fold_write (off := sa + k) M.toList 0 (arrOf st') _ _ _ hs (by rw [List.length_append, List.length_take]; lia) m.perm.length_eq.symm
    refine h (X.take k ++ (M.toList ++ Y.drop k2)) st'' ⟨?_, ?_⟩ (b1.trans (a2.trans hk)) (b2.trans (a3.trans hfail)) ?_ (b3.trans a4)
    · have : X ++ Y = X.take k ++ ((X.drop k ++ Y.take k2) ++ Y.drop k2) := by
        simp only [List.append_assoc]
        rw [← List.append_assoc (X.take k) (X.drop k), List.take_append_drop, List.take_append_drop]
      rw [this]
      exact (m.perm.append_right _).append_left _
    · have hx0 : ∀ x ∈ X.take k, key x ≤ key y0 := by
        intro x hx
        have := g1 x hx
        simpa only [goes, Bool.false_eq_true, if_false] using this
      have hy1 : ∀ y ∈ Y.drop k2, key x1 ≤ key y := by
        intro y hy
        have := g4 y hy
        simp only [goes, if_true] at this
        lia
      have hM : ∀ z ∈ M.toList, key y0 ≤ key z ∧ key z ≤ key x1 := by
        intro z hz
        rcases List.mem_append.mp (m.perm.mem_iff.mp hz) with hm | hm
        · have := g2 z hm
          simp only [goes, Bool.false_eq_true, if_false] at this
          exact ⟨by lia, x1le z (List.mem_of_mem_drop hm)⟩
        · have := g3 z hm
          simp only [goes, if_true] at this
          exact ⟨y0le z (List.mem_of_mem_take hm), by lia⟩
      refine Srt.app.mpr ⟨List.Pairwise.sublist (List.take_sublist _ _) s1, Srt.app.mpr ⟨m.srt, List.Pairwise.sublist (List.drop_sublist _ _) s2, fun z hz y hy => Int.le_trans (hM z hz).2 (hy1 y hy)⟩, fun x hx z hz => ?_⟩
      rcases List.mem_append.mp hz with hz | hz
      · exact Int.le_trans (hx0 x hx) (hM z hz).1
      · exact Int.le_trans (hx0 x hx) (y0le z (List.mem_of_mem_drop hz))
    · rw [b4, hw]; simp
  refine wpS_ite (fun e7 => ?_) fun e7 => ?_
  · refine wpS_bind ?_
    refine (hm _ _ ?_ fun M st' g m => ?_).1
    · exact hk
    refine wpS_bind (wpS_modify (wpS_bind (wpS_get ?_)))
    have ef : failedOf st' = none := g.failed.trans hfail
    refine wpS_pure ?_
    show Q (Option.isNone (failedOf st')) _
    rw [ef]
    exact fin M st' g.arr g.kind g.failed g.pend m _ rfl rfl rfl rfl
  · refine wpS_bind ?_
    refine (hm _ _ ?_ fun M st' g m => ?_).2
    · exact hk
    refine wpS_bind (wpS_modify (wpS_bind (wpS_get ?_)))
    have ef : failedOf st' = none := g.failed.trans hfail
    refine wpS_pure ?_
    show Q (Option.isNone (failedOf st')) _
    rw [ef]
    exact fin M st' g.arr g.kind g.failed g.pend m _ rfl rfl rfl rfl
end
-- Sort5
section
variable {key : Keyed → Int}
noncomputable def Kx (key : Keyed → Int) (xs : Array Keyed) (i : Nat) : Int := match xs[i]? with
  | some p => key p
  | none => 0
noncomputable def SrtOn (key : Keyed → Int) (xs : Array Keyed) (lo hi : Nat) : Prop := ∀ i j, lo ≤ i → i ≤ j → j < hi → Kx key xs i ≤ Kx key xs j
theorem Kx_congr {xs ys : Array Keyed} {i j : Nat} (h : xs[i]? = ys[j]?) : Kx key xs i = Kx key ys j := by unfold Kx; rw [h]
theorem Kx_mirror {xs : Array Keyed} {i j : Nat} (hj : j ≤ xs.size) (k : Nat) : Kx key (mirror xs i j ((j - i) / 2)) k = if i ≤ k ∧ k < j then Kx key xs (i + j - 1 - k) else Kx key xs k := by
  have e := getElem?_mirror_all (i := i) hj k
  by_cases h1 : i ≤ k ∧ k < j
  · rw [if_pos h1] at e ⊢; exact Kx_congr e
  · rw [if_neg h1] at e ⊢; exact Kx_congr e
theorem Kx_bubble {xs : Array Keyed} {src d : Nat} (hs : src < xs.size) (hd : d ≤ src) (k : Nat) : Kx key (bubble xs src d) k = if k = src - d then Kx key xs src else if src - d < k ∧ k ≤ src then Kx key xs (k - 1) else Kx key xs k := by
  have e := getElem?_bubble hs d hd k
  by_cases h1 : k = src - d
  · rw [if_pos h1] at e ⊢; exact Kx_congr e
  · rw [if_neg h1] at e ⊢
    by_cases h2 : src - d < k ∧ k ≤ src
    · rw [if_pos h2] at e ⊢; exact Kx_congr e
    · rw [if_neg h2] at e ⊢; exact Kx_congr e
theorem Kx_ne {xs : Array Keyed} (nd : (xs.toList.map key).Nodup) {i j : Nat} (hij : i < j) (hj : j < xs.size) : Kx key xs i ≠ Kx key xs j := by
  have hi : i < xs.size := by lia
  have e1 : Kx key xs i = key xs[i] := by unfold Kx; rw [getElem?_pos xs i hi]
  have e2 : Kx key xs j = key xs[j] := by unfold Kx; rw [getElem?_pos xs j hj]
  rw [e1, e2]
  have := List.pairwise_iff_getElem.mp nd i j (by simpa using hi) (by simpa using hj) hij
  simpa using this
theorem SrtOn.one {xs : Array Keyed} {lo : Nat} : SrtOn key xs lo (lo + 1) := fun i j h1 h2 h3 => by
  have : i = j := by lia
  subst this; exact Int.le_refl _
theorem SrtOn.snoc {xs : Array Keyed} {lo n : Nat} (h : SrtOn key xs lo (lo + n)) (hn : 1 ≤ n) (hle : Kx key xs (lo + n - 1) ≤ Kx key xs (lo + n)) : SrtOn key xs lo (lo + (n + 1)) := fun i j h1 h2 h3 => by
  by_cases hj : j < lo + n
  · exact h i j h1 h2 hj
  · have e : j = lo + n := by lia
    subst e
    by_cases e2 : i = lo + n
    · subst e2; exact Int.le_refl _
    · exact Int.le_trans (h i (lo + n - 1) h1 (by lia) (by (clear e2 hj h3 h2 h1 hle h; omega))) hle
end
section
variable {prog : Program} {w : World} {A : Around} {E : Value → Shared → Prop} {s : Shared} {κ : SortKind} {key : Keyed → Int} {P : Keyed → Prop}
structure Moved (lo : Nat) (st st' : SortSt) : Prop where
  kind : kindOf st' = kindOf st
  pend : pendingOf st' = pendingOf st
  failed : failedOf st' = failedOf st
  perm : (arrOf st').Perm (arrOf st)
  low : ∀ i, i < lo → (arrOf st')[i]? = (arrOf st)[i]?
theorem Moved.refl (lo : Nat) (st : SortSt) : Moved lo st st := ⟨rfl, rfl, rfl, .refl _, fun _ _ => rfl⟩
theorem Moved.set {lo : Nat} {st st' : SortSt} (h : Moved lo st st') {xs : Array Keyed} (hp : xs.Perm (arrOf st')) (hl : ∀ i, i < lo → xs[i]? = (arrOf st')[i]?) : Moved lo st (setArr st' xs) :=
  ⟨h.kind, h.pend, h.failed, hp.trans h.perm, fun i hi => (hl i hi).trans (h.low i hi)⟩
theorem Moved.size {lo : Nat} {st st' : SortSt} (h : Moved lo st st') : (arrOf st').size = (arrOf st).size := h.perm.size_eq
theorem wpS_ltAtK (C : Cmp prog w A s κ key P) {i j : Nat} {st : SortSt} {Q : Option Bool → SortSt → Prop} (hk : kindOf st = κ) (hP : ∀ x ∈ (arrOf st).toList, P x) (hi : i < (arrOf st).size) (hj : j < (arrOf st).size)
    (h : Q (some (decide (Kx key (arrOf st) i < Kx key (arrOf st) j))) st) : wpS (model prog w) A E s (ltAt' i j) Q st := by
  obtain ⟨x, hx, _, hxm⟩ := at_ex hi
  obtain ⟨y, hy, _, hym⟩ := at_ex hj
  rw [ltAt'_eq]
  refine wpS_bind (wpS_get (wpS_bind (wpS_elem hx (wpS_bind (wpS_elem hy (wpS_lt C hk (hP _ hxm) (hP _ hym) ?_))))))
  unfold Kx at h
  rw [hx, hy] at h
  exact h
theorem wpS_rev {st : SortSt} {i j : Nat} {Q : Unit → SortSt → Prop} (h : Q () (setArr st (mirror (arrOf st) i j ((j - i) / 2)))) : wpS (model prog w) A E s (reverseSlice' i j) Q st := by
  rw [reverseSlice'_eq]; exact wpS_modify h
theorem mirror_low {xs : Array Keyed} {i j lo : Nat} (hj : j ≤ xs.size) (hlo : lo ≤ i) : ∀ k, k < lo → (mirror xs i j ((j - i) / 2))[k]? = xs[k]? := fun k hk => by
  rw [getElem?_mirror_all hj, if_neg (by lia)]
theorem wpS_asc (C : Cmp prog w A s κ key P) {lo a n : Nat} {st : SortSt} {body : Nat → Option (Option Nat) × Nat → StateT SortSt Sem (ForInStep (Option (Option Nat) × Nat))} {Q : Option (Option Nat) × Nat → SortSt → Prop} (hk : kindOf st = κ) (hP : ∀ x ∈ (arrOf st).toList, P x)
    (ha : 1 ≤ a) (han : a ≤ n) (hn : lo + n ≤ (arrOf st).size) (hs : SrtOn key (arrOf st) lo (lo + a))
    (hb : ∀ i k (R : ForInStep (Option (Option Nat) × Nat) → SortSt → Prop), wpS (model prog w) A E s (ltAt' (lo + k) (lo + k - 1)) (fun c st' => ∃ b, c = some b ∧ if b = true then R (.done (none, k)) st' else R (.yield (none, k + 1)) st') st → wpS (model prog w) A E s (body i (none, k)) R st)
    (h : ∀ m, a ≤ m → m ≤ n → SrtOn key (arrOf st) lo (lo + m) → (m = n ∨ Kx key (arrOf st) (lo + m) < Kx key (arrOf st) (lo + m - 1)) → Q (none, m) st) :
    wpS (model prog w) A E s (forIn [a:n] (none, a) body) Q st := by
  refine wpS_forRange (I := fun x c st' => st' = st ∧ c = (none, x) ∧ SrtOn key (arrOf st) lo (lo + x)) ?step ?fin ⟨rfl, rfl, hs⟩
  case fin =>
    rintro c st' ⟨rfl, rfl, hs'⟩
    rw [show max a n = n by lia] at hs' ⊢
    exact h n han (Nat.le_refl _) hs' (.inl rfl)
  case step =>
    rintro x c st' hax hxn ⟨rfl, rfl, hs'⟩
    refine hb x x _ (wpS_ltAtK C hk hP (by lia) (by omega) ⟨_, rfl, ?_⟩)
    by_cases hlt : Kx key (arrOf st') (lo + x) < Kx key (arrOf st') (lo + x - 1)
    · rw [if_pos (by simpa using hlt)]
      exact h x hax (by lia) hs' (.inr hlt)
    · rw [if_neg (by simpa using hlt)]
      exact ⟨rfl, rfl, hs'.snoc (by lia) (by lia)⟩
theorem rev_srt {xs : Array Keyed} {lo x : Nat} (hx : lo + x ≤ xs.size) (hd : ∀ i j, lo ≤ i → i < j → j < lo + x → Kx key xs j < Kx key xs i) : SrtOn key (mirror xs lo (lo + x) ((lo + x - lo) / 2)) lo (lo + x) := by
  intro i j h1 h2 h3
  have hi : i < lo + x := Nat.lt_of_le_of_lt h2 h3
  rw [Kx_mirror hx, Kx_mirror hx, if_pos ⟨h1, hi⟩, if_pos ⟨Nat.le_trans h1 h2, h3⟩]
  rcases Nat.lt_or_eq_of_le h2 with e | e
  · exact Int.le_of_lt (hd _ _ (by omega) (by omega) (by omega))
  · rw [e]; exact Int.le_refl _
theorem down_snoc {xs : Array Keyed} {lo x : Nat} (hx : 1 ≤ x) (hd : ∀ i j, lo ≤ i → i < j → j < lo + x → Kx key xs j < Kx key xs i) (hl : Kx key xs (lo + x) < Kx key xs (lo + x - 1)) : ∀ i j, lo ≤ i → i < j → j < lo + (x + 1) → Kx key xs j < Kx key xs i := by
  intro i j h1 h2 h3
  by_cases hj : j < lo + x
  · exact hd i j h1 h2 hj
  · have e : j = lo + x := by lia
    subst e
    by_cases hi : i = lo + x - 1
    · subst hi; exact hl
    · exact Int.lt_trans hl (hd i (lo + x - 1) h1 (by lia) (by omega))
theorem down_two {xs : Array Keyed} {lo : Nat} (hl : Kx key xs (lo + 1) < Kx key xs (lo + 1 - 1)) : ∀ i j, lo ≤ i → i < j → j < lo + 2 → Kx key xs j < Kx key xs i := down_snoc (x := 1) (Nat.le_refl _) (fun i j h1 h2 h3 => by lia) hl
theorem up_lt {a b : Int} (h : a ≠ b) (g : ¬ b < a) : a < b := by lia
theorem wpS_count (C : Cmp prog w A s κ key P) {lo n : Nat} {st : SortSt} {Q : Option Nat → SortSt → Prop} (hk : kindOf st = κ) (hP : ∀ x ∈ (arrOf st).toList, P x) (nd : ((arrOf st).toList.map key).Nodup) (h1 : 1 ≤ n) (hn : lo + n ≤ (arrOf st).size)
    (h : ∀ m (st' : SortSt), Moved lo st st' → 1 ≤ m → m ≤ n → SrtOn key (arrOf st') lo (lo + m) → Q (some m) st') : wpS (model prog w) A E s (countRun' lo n) Q st := by
  refine wpS_bind (wpS_asc C hk hP (Nat.le_refl 1) h1 hn .one (fun i k R hR => ?_) fun m hm1 hm2 hs hor => ?_)
  · refine wpS_bind (wpS_mono hR ?_)
    rintro c st' ⟨b, rfl, hb⟩
    cases b with
    | true => exact wpS_pure (by simpa using hb)
    | false => exact wpS_pure (by simpa using hb)
  refine wpS_iteB (fun e1 => wpS_pure (h m st (.refl _ _) hm1 hm2 hs)) fun e1 => ?_
  extract_lets -underBinder -merge jp
  have hlt := hor.resolve_left e1
  have hmn : lo + m - 1 < (arrOf st).size := by omega
  have hlo : lo < (arrOf st).size := by lia
  refine wpS_ite (fun e2 => ?_) fun e2 => ?_
  · refine wpS_bind (wpS_ltAtK C hk hP hlo hmn ?_)
    have h2m : lo < lo + m - 1 := by have : m > 1 := e2; omega
    exact wpS_iteD (fun _ => wpS_pure (h m st (.refl _ _) hm1 hm2 hs)) fun hn2 => absurd (up_lt (Kx_ne nd h2m hmn) (Int.not_lt.mpr (hs lo (lo + m - 1) (Nat.le_refl _) (Nat.le_of_lt h2m) (by omega)))) hn2
  have e3 : m = 1 := by lia
  subst e3
  have n2 : 2 ≤ n := by lia
  refine wpS_bind (wpS_rule ?_)
  extract_lets -underBinder -merge n1 q1
  refine wpS_loopN (fun t x st' => st' = st ∧ t = (x, 0) ∧ ∀ i j, lo ≤ i → i < j → j < lo + x → Kx key (arrOf st) j < Kx key (arrOf st) i)
    (fun t st' => st' = st ∧ ∃ x, t = (x, 0) ∧ 2 ≤ x ∧ x ≤ n ∧ ∀ i j, lo ≤ i → i < j → j < lo + x → Kx key (arrOf st) j < Kx key (arrOf st) i) ⟨rfl, rfl, down_two hlt⟩ (fun x t st' hx hxn hI => ?step)
    (fun t st' hI => ⟨hI.1, n, by rw [hI.2.1, Nat.max_eq_right n2], n2, Nat.le_refl _, by have := hI.2.2; rwa [Nat.max_eq_right n2] at this⟩) (fun t st' hJ => ?post)
  case step =>
    obtain ⟨e, et, hd⟩ := hI
    subst e et
    have hx0 : 2 ≤ x := hx
    have hx1 : lo + x < (arrOf st').size := by lia
    have hx2 : lo + x - 1 < (arrOf st').size := by omega
    extract_lets -underBinder -merge s n3 q3
    refine wpS_bind (wpS_ltAtK C hk hP hx1 hx2 ?_)
    dsimp -zeta only
    extract_lets -underBinder -merge jpA jpB
    refine wpS_iteD (fun hl => ?_) fun hl => ?_
    · exact wpS_ite (fun h0 => absurd h0 (Nat.lt_irrefl 0)) fun _ => wpS_pure ⟨rfl, rfl, down_snoc (Nat.le_of_succ_le hx0) hd hl⟩
    · refine wpS_bind (wpS_ltAtK C hk hP hx2 hx1 ?_)
      exact wpS_iteD (fun hg => wpS_pure ⟨rfl, x, rfl, hx0, Nat.le_of_lt hxn, hd⟩) fun hg => absurd (up_lt (Kx_ne nd (i := lo + x - 1) (j := lo + x) (Nat.sub_lt (Nat.lt_of_lt_of_le (Nat.lt_of_lt_of_le (by decide) hx0) (Nat.le_add_left _ _)) (by decide)) hx1) hl) hg
  obtain ⟨e, x, et, hx1, hx2, hd⟩ := hJ
  subst e et
  extract_lets -underBinder -merge r4 s4 n4 q4 jp4
  refine wpS_ite (fun h0 => absurd h0 (Nat.lt_irrefl 0)) fun _ => ?_
  refine wpS_bind (wpS_rev ?_)
  have hxs : lo + x ≤ (arrOf st').size := by lia
  have hM : Moved lo st' (setArr st' (mirror (arrOf st') lo (lo + x) ((lo + x - lo) / 2))) := (Moved.refl lo st').set (mirror_perm _ _ _ _) (mirror_low hxs (Nat.le_refl _))
  have hP' : ∀ y ∈ (arrOf (setArr st' (mirror (arrOf st') lo (lo + x) ((lo + x - lo) / 2)))).toList, P y := fun y hy => hP y ((Array.perm_iff_toList_perm.mp hM.perm).mem_iff.mp hy)
  have hsz := hM.size
  refine wpS_bind (wpS_asc C (hM.kind.trans hk) hP' (Nat.le_trans (by decide) hx1) hx2 (by rw [hsz]; exact hn) (rev_srt hxs hd) (fun i k R hR => ?_) fun m hm1 hm2 hs _ => ?_)
  · refine wpS_bind (wpS_mono hR ?_)
    rintro c st' ⟨b, rfl, hb⟩
    cases b with
    | true => exact wpS_pure (by simpa using hb)
    | false => exact wpS_pure (by simpa using hb)
  · exact wpS_pure (h m _ hM (Nat.le_trans (Nat.le_trans (by decide) hx1) hm1) hm2 hs)
theorem ins_srt {xs : Array Keyed} {lo k l : Nat} (hks : lo + k < xs.size) (h2 : l ≤ k) (h4 : ∀ i, lo ≤ i → i < lo + l → Kx key xs i ≤ Kx key xs (lo + k)) (h5 : ∀ i, lo + l ≤ i → i < lo + k → Kx key xs (lo + k) < Kx key xs i) (hs : SrtOn key xs lo (lo + k)) :
    SrtOn key (bubble xs (lo + k) (lo + k - (lo + l))) lo (lo + (k + 1)) := by
  have e : lo + k - (lo + k - (lo + l)) = lo + l := by omega
  have hd : lo + k - (lo + l) ≤ lo + k := Nat.sub_le _ _
  have n2 : Kx key (bubble xs (lo + k) (lo + k - (lo + l))) (lo + l) = Kx key xs (lo + k) := by rw [Kx_bubble hks hd, e, if_pos rfl]
  have n1 : ∀ i, i < lo + l → Kx key (bubble xs (lo + k) (lo + k - (lo + l))) i = Kx key xs i := fun i hi => by rw [Kx_bubble hks hd, e, if_neg (Nat.ne_of_lt hi), if_neg fun h => Nat.lt_asymm hi h.1]
  have n3 : ∀ i, lo + l < i → i ≤ lo + k → Kx key (bubble xs (lo + k) (lo + k - (lo + l))) i = Kx key xs (i - 1) := fun i hi hk => by rw [Kx_bubble hks hd, e, if_neg (Nat.ne_of_gt hi), if_pos ⟨hi, hk⟩]
  intro i j a1 a2 a3
  have a3' : j ≤ lo + k := Nat.le_of_lt_succ a3
  rcases Nat.lt_trichotomy j (lo + l) with hj | hj | hj
  · rw [n1 i (Nat.lt_of_le_of_lt a2 hj), n1 j hj]
    exact hs i j a1 a2 (Nat.lt_of_lt_of_le hj (Nat.add_le_add_left h2 _))
  · rw [hj, n2]
    rcases Nat.lt_or_eq_of_le (hj ▸ a2) with hi | hi
    · rw [n1 i hi]; exact h4 i a1 hi
    · rw [hi, n2]; exact Int.le_refl _
  · rw [n3 j hj a3']
    have q := h5 (j - 1) (Nat.le_sub_one_of_lt hj) (by lia)
    rcases Nat.lt_trichotomy i (lo + l) with hi | hi | hi
    · rw [n1 i hi]; exact Int.le_trans (h4 i a1 hi) (Int.le_of_lt q)
    · rw [hi, n2]; exact Int.le_of_lt q
    · rw [n3 i hi (Nat.le_trans a2 a3')]
      exact hs (i - 1) (j - 1) (by lia) (Nat.sub_le_sub_right a2 1) (by lia)
theorem ins_low {xs : Array Keyed} {lo k l : Nat} (hks : lo + k < xs.size) : ∀ i, i < lo → (bubble xs (lo + k) (lo + k - (lo + l)))[i]? = xs[i]? := fun i hi => by
  rw [getElem?_bubble hks _ (Nat.sub_le _ _), if_neg (by omega), if_neg (by omega)]
theorem avg_lt {l r k : Nat} (h : ¬ l ≥ r) (h2 : r ≤ k) : (l + r) / 2 < r ∧ l ≤ (l + r) / 2 ∧ (l + r) / 2 < k := by lia
theorem SrtOn.min0 {xs : Array Keyed} {lo ok n : Nat} (hs : SrtOn key xs lo (lo + ok)) : SrtOn key xs lo (lo + min (max ok 1) n) := fun i j h1 h2 h3 => by
  by_cases e : i = j
  · subst e; exact Int.le_refl _
  · exact hs i j h1 h2 (by lia)
theorem wpS_binary (C : Cmp prog w A s κ key P) {lo n ok : Nat} {st : SortSt} {Q : Bool → SortSt → Prop} (hk : kindOf st = κ) (hP : ∀ x ∈ (arrOf st).toList, P x) (hok : ok ≤ n) (hn : lo + n ≤ (arrOf st).size) (hs : SrtOn key (arrOf st) lo (lo + ok))
    (h : ∀ (st' : SortSt), Moved lo st st' → SrtOn key (arrOf st') lo (lo + n) → Q true st') : wpS (model prog w) A E s (binarySort' lo n ok) Q st := by
  refine wpS_loopN (fun _ k st' => Moved lo st st' ∧ SrtOn key (arrOf st') lo (lo + min k n)) (fun _ st' => Moved lo st st' ∧ SrtOn key (arrOf st') lo (lo + n)) ⟨.refl _ _, hs.min0⟩ (fun k _ st' hak hkn hI => ?step)
    (fun _ st' hI => ⟨hI.1, by have := hI.2; rwa [Nat.min_eq_right (Nat.le_max_right _ _)] at this⟩) (fun _ st' hI => wpS_pure (h st' hI.1 hI.2))
  have hM := hI.1
  have hs' : SrtOn key (arrOf st') lo (lo + k) := by have := hI.2; rwa [Nat.min_eq_left (Nat.le_of_lt hkn)] at this
  have hsz : lo + k < (arrOf st').size := by rw [hM.size]; lia
  have hP' : ∀ y ∈ (arrOf st').toList, P y := fun y hy => hP y ((Array.perm_iff_toList_perm.mp hM.perm).mem_iff.mp hy)
  extract_lets -underBinder -merge l0 r0
  refine wpS_loopN (fun t x st2 => st2 = st' ∧ t.1 ≤ t.2 ∧ t.2 ≤ k ∧ t.2 + x ≤ k + t.1 ∧ (∀ i, lo ≤ i → i < lo + t.1 → Kx key (arrOf st') i ≤ Kx key (arrOf st') (lo + k)) ∧ ∀ i, lo + t.2 ≤ i → i < lo + k → Kx key (arrOf st') (lo + k) < Kx key (arrOf st') i)
    (fun t st2 => st2 = st' ∧ t.1 ≤ k ∧ (∀ i, lo ≤ i → i < lo + t.1 → Kx key (arrOf st') i ≤ Kx key (arrOf st') (lo + k)) ∧ ∀ i, lo + t.1 ≤ i → i < lo + k → Kx key (arrOf st') (lo + k) < Kx key (arrOf st') i)
    ⟨rfl, Nat.zero_le _, Nat.le_refl _, Nat.le_add_right _ _, fun i h1 h2 => absurd h1 (Nat.not_le_of_lt h2), fun i h1 h2 => absurd h1 (Nat.not_le_of_lt h2)⟩ (fun x t st2 _ hx hJ => ?inner) (fun t st2 hJ => ⟨hJ.1, Nat.le_trans hJ.2.1 hJ.2.2.1, hJ.2.2.2.2.1, fun i h1 h2 => hJ.2.2.2.2.2 i (Nat.le_trans (Nat.add_le_add_left (over_le hJ.2.2.2.1) lo) h1) h2⟩)
    (fun t st2 hJ => ?post)
  case post =>
    extract_lets -underBinder -merge q s l
    have e := hJ.1
    subst e
    refine wpS_bind (wpS_modify (wpS_pure ⟨hM.set (bubble_perm _ (lo + k) (lo + k - (lo + l))) (ins_low hsz), ?_⟩))
    rw [Nat.min_eq_left hkn]
    exact ins_srt hsz hJ.2.1 hJ.2.2.1 hJ.2.2.2 hs'
  have e := hJ.1
  subst e
  extract_lets -underBinder -merge s l r m
  refine wpS_ite (fun hge => wpS_pure ⟨rfl, Nat.le_trans hJ.2.1 hJ.2.2.1, hJ.2.2.2.2.1, fun i h1 h2 => hJ.2.2.2.2.2 i (Nat.le_trans (Nat.add_le_add_left hge _) h1) h2⟩) fun hlt => ?_
  have hm := avg_lt hlt hJ.2.2.1
  have hl := mid_left hm.2.1 hm.1 hJ.2.2.2.1
  have hmk : lo + m < lo + k := Nat.add_lt_add_left hm.2.2 lo
  refine wpS_bind (wpS_ltAtK C (hM.kind.trans hk) hP' hsz (Nat.lt_trans hmk hsz) ?_)
  refine wpS_iteD (fun hg => wpS_pure ⟨rfl, hm.2.1, Nat.le_of_lt hm.2.2, hl.2, hJ.2.2.2.2.1, fun i h1 h2 => Int.lt_of_lt_of_le hg (hs' _ i (Nat.le_add_right _ _) h1 h2)⟩) fun hg => wpS_pure ⟨rfl, hm.1, hJ.2.2.1, hl.1, fun i h1 h2 => Int.le_trans (hs' i _ h1 (Nat.le_of_lt_succ h2) hmk) (Int.not_lt.mp hg), hJ.2.2.2.2.2⟩
end
-- Sort6
noncomputable def Mt (key : Keyed → Int) : Nat → List (Nat × Nat × Nat) → List (List Keyed) → Prop
  | _, [], [] => True
  | s, e :: p, R :: Rs => e.1 = s ∧ e.2.1 = R.length ∧ 0 < R.length ∧ Srt key R ∧ Mt key (s + R.length) p Rs
  | _, _, _ => False
section
variable {key : Keyed → Int}
theorem Mt.length : ∀ {s : Nat} {p : List (Nat × Nat × Nat)} {Rs : List (List Keyed)}, Mt key s p Rs → p.length = Rs.length ∧ p.length ≤ Rs.flatten.length
  | _, [], [], _ => ⟨rfl, Nat.le_refl _⟩
  | s, e :: p, R :: Rs, ⟨_, _, h, _, r⟩ => by
    have := Mt.length r
    simp only [List.length_cons, List.flatten_cons, List.length_append]
    lia
theorem Mt.snoc : ∀ {s : Nat} {p : List (Nat × Nat × Nat)} {Rs : List (List Keyed)}, Mt key s p Rs → ∀ {R : List Keyed} {e : Nat × Nat × Nat}, e.1 = s + Rs.flatten.length → e.2.1 = R.length → 0 < R.length → Srt key R → Mt key s (p ++ [e]) (Rs ++ [R])
  | s, [], [], _, R, e, h1, h2, h3, h4 => ⟨by simpa using h1, h2, h3, h4, trivial⟩
  | s, e :: p, R :: Rs, ⟨a, b, c, d, r⟩, R', e', h1, h2, h3, h4 => ⟨a, b, c, d, Mt.snoc r (by rw [h1]; simp [Nat.add_assoc]) h2 h3 h4⟩
theorem Mt.pw {pw : Nat} : ∀ {s : Nat} {p : List (Nat × Nat × Nat)} {Rs : List (List Keyed)} {k : Nat}, Mt key s p Rs → Mt key s (p.modify k fun x => match x with | (a, b, _) => (a, b, pw)) Rs
  | _, [], [], k, _ => by cases k <;> trivial
  | s, e :: p, R :: Rs, 0, ⟨a, b, c, d, r⟩ => ⟨a, b, c, d, r⟩
  | s, e :: p, R :: Rs, k + 1, ⟨a, b, c, d, r⟩ => ⟨a, b, c, d, Mt.pw r⟩
inductive MtCut (key : Keyed → Int) (s : Nat) (p : List (Nat × Nat × Nat)) (F : List Keyed) (i : Nat) : Prop
  | mk (s1 n1 w1 n2 w2 : Nat) (pre X Y post : List Keyed) (h1 : p[i]? = some (s1, n1, w1)) (h2 : p[i + 1]? = some (s1 + n1, n2, w2)) (h3 : F = pre ++ (X ++ Y) ++ post) (h4 : s1 = s + pre.length) (h5 : n1 = X.length) (h7 : n2 = Y.length)
    (h8 : 0 < n1) (h9 : 0 < n2) (h10 : Srt key X) (h11 : Srt key Y) (h12 : ∀ M : List Keyed, M.length = X.length + Y.length → Srt key M → ∃ Rs', Rs'.flatten = pre ++ M ++ post ∧ Mt key s ((p.set i (s1, n1 + n2, w1)).eraseIdx (i + 1)) Rs')
theorem MtCut.cons {e : Nat × Nat × Nat} {R : List Keyed} {s : Nat} {p : List (Nat × Nat × Nat)} {F : List Keyed} {i : Nat} (h : MtCut key (s + R.length) p F i) (a : e.1 = s) (b : e.2.1 = R.length) (c : 0 < R.length) (d : Srt key R) : MtCut key s (e :: p) (R ++ F) (i + 1) := by
  cases h with
  | mk s1 n1 w1 n2 w2 pre X Y post h1 h2 h3 h4 h5 h7 h8 h9 h10 h11 h12 =>
    refine .mk s1 n1 w1 n2 w2 (R ++ pre) X Y post (by simpa using h1) (by simpa using h2) (by rw [h3]; simp) (by rw [List.length_append, h4, Nat.add_assoc]) h5 h7 h8 h9 h10 h11 fun M hM hs => ?_
    obtain ⟨Rs', q1, q2⟩ := h12 M hM hs
    exact ⟨R :: Rs', by rw [List.flatten_cons, q1]; simp, a, b, c, d, q2⟩
theorem Mt.merge : ∀ {Rs : List (List Keyed)} {s : Nat} {p : List (Nat × Nat × Nat)} {i : Nat}, Mt key s p Rs → i + 1 < p.length → MtCut key s p Rs.flatten i := by
  intro Rs
  induction Rs with
  | nil =>
    intro s p i m h
    cases p with
    | nil => exact absurd h (Nat.not_lt_zero _)
    | cons e p => exact m.elim
  | cons R Rs ih =>
    intro s p i m h
    cases p with
    | nil => exact m.elim
    | cons e p =>
      obtain ⟨a, b, c, d, r⟩ := m
      cases i with
      | succ i => exact (ih r (Nat.lt_of_succ_lt_succ h)).cons a b c d
      | zero =>
        cases p with
        | nil => exact absurd h (Nat.lt_irrefl _)
        | cons e' p =>
          cases Rs with
          | nil => exact r.elim
          | cons R' Rs =>
            obtain ⟨a', b', c', d', r⟩ := r
            obtain ⟨s1, n1, w1⟩ := e
            obtain ⟨s2, n2, w2⟩ := e'
            dsimp only at a b a' b'
            subst a b a' b'
            refine .mk s1 _ w1 _ w2 [] R R' Rs.flatten rfl rfl (by simp) rfl rfl rfl c c' d d' fun M hM hs => ⟨M :: Rs, by simp, rfl, hM.symm, by rw [hM]; exact Nat.add_pos_left c _, hs, ?_⟩
            rw [hM, ← Nat.add_assoc]
            exact r
theorem srt_of_on {xs : Array Keyed} {lo n : Nat} (h : SrtOn key xs lo (lo + n)) (hn : lo + n ≤ xs.size) : Srt key ((xs.toList.drop lo).take n) := by
  refine List.pairwise_iff_getElem.mpr fun i j hi hj hij => ?_
  have hj' : j < n := by rw [List.length_take] at hj; lia
  have := h (lo + i) (lo + j) (by lia) (by lia) (by lia)
  have e1 : Kx key xs (lo + i) = key (xs[lo + i]'(by lia)) := by unfold Kx; rw [getElem?_pos xs (lo + i) (by lia)]
  have e2 : Kx key xs (lo + j) = key (xs[lo + j]'(by lia)) := by unfold Kx; rw [getElem?_pos xs (lo + j) (by lia)]
  rw [e1, e2] at this
  simpa using this
theorem low_take {xs ys : Array Keyed} {lo : Nat} (h : ∀ i, i < lo → xs[i]? = ys[i]?) : xs.toList.take lo = ys.toList.take lo := by
  apply List.ext_getElem?
  intro i
  rw [List.getElem?_take, List.getElem?_take]
  split
  · rw [Array.getElem?_toList, Array.getElem?_toList]; exact h i (by assumption)
  · rfl
end
section
variable {prog : Program} {w : World} {A : Around} {E : Value → Shared → Prop} {s : Shared} {κ : SortKind} {key : Keyed → Int} {P : Keyed → Prop} {a₀ : Array Keyed}
structure RunS (κ : SortKind) (key : Keyed → Int) (a₀ : Array Keyed) (rest : List Keyed) (lo : Nat) (st : SortSt) : Prop where
  kind : kindOf st = κ
  failed : failedOf st = none
  perm : (arrOf st).Perm a₀
  runs : ∃ Rs : List (List Keyed), (arrOf st).toList = Rs.flatten ++ rest ∧ Mt key 0 (pendingOf st).toList Rs ∧ lo = Rs.flatten.length
theorem RunS.holds {rest : List Keyed} {lo : Nat} {st : SortSt} (S : RunS κ key a₀ rest lo st) (h : ∀ x ∈ a₀.toList, P x) : ∀ x ∈ (arrOf st).toList, P x := fun x hx => h x ((Array.perm_iff_toList_perm.mp S.perm).mem_iff.mp hx)
theorem wpS_mergeRun (C : Cmp prog w A s κ key P) {i lo : Nat} {rest : List Keyed} {st : SortSt} {Q : Bool → SortSt → Prop} (S : RunS κ key a₀ rest lo st) (hP : ∀ x ∈ a₀.toList, P x) (hi : i + 1 < (pendingOf st).size)
    (h : ∀ (st' : SortSt), RunS κ key a₀ rest lo st' → (pendingOf st').size + 1 = (pendingOf st).size → Q true st') : wpS (model prog w) A E s (mergeAtP i) Q st := by
  obtain ⟨Rs, h1, h2, h3⟩ := S.runs
  obtain ⟨s1, n1, w1, n2, w2, pre, X, Y, post, e1, e2, e3, e4, e5, e7, e8, e9, e10, e11, e12⟩ := h2.merge (i := i) (by simpa using hi)
  rw [Array.getElem?_toList] at e1 e2
  refine wpS_mergeAt C S.kind S.failed (pre := pre) (X := X) (Y := Y) (post := post ++ rest) (by rw [h1, e3]; simp) (S.holds hP) e1 e2 (by rw [e4, Nat.zero_add]) e5 rfl e7 e8 e9 e10 e11 fun M st' m a1 a2 a3 a4 => ?_
  have hl := m.perm.length_eq
  rw [List.length_append] at hl
  obtain ⟨Rs', q1, q2⟩ := e12 M hl m.srt
  refine h st' ⟨a1, a2, ?_, Rs', ?_, ?_, ?_⟩ ?_
  · refine (Array.perm_iff_toList_perm.mpr ?_).trans S.perm
    rw [a3, h1, e3, List.append_assoc, List.append_assoc, List.append_assoc]
    exact (m.perm.append_right _).append_left _
  · rw [a3, q1]; simp
  · rw [a4]
    have : (((pendingOf st).setIfInBounds i (s1, n1 + n2, w1)).eraseIdxIfInBounds (i + 1)).toList = ((pendingOf st).toList.set i (s1, n1 + n2, w1)).eraseIdx (i + 1) := by
      unfold Array.eraseIdxIfInBounds
      rw [dif_pos (by simpa using hi), Array.toList_eraseIdx, Array.toList_setIfInBounds]
    rw [this]; exact q2
  · rw [h3, e3, q1]; simp [hl, Nat.add_assoc]
  · rw [a4]
    unfold Array.eraseIdxIfInBounds
    rw [dif_pos (by simpa using hi), Array.size_eraseIdx, Array.size_setIfInBounds]
    lia
theorem RunS.moved {rest : List Keyed} {lo n : Nat} {st st' : SortSt} (S : RunS κ key a₀ rest lo st) (M : Moved lo st st') : RunS κ key a₀ (((arrOf st').toList.drop lo).take n ++ ((arrOf st').toList.drop lo).drop n) lo st' := by
  obtain ⟨Rs, h1, h2, h3⟩ := S.runs
  refine ⟨M.kind.trans S.kind, M.failed.trans S.failed, M.perm.trans S.perm, Rs, ?_, by rw [M.pend]; exact h2, h3⟩
  rw [List.take_append_drop]
  have e := low_take M.low
  rw [h1, h3, List.take_left, ← h3] at e
  rw [← e, List.take_append_drop]
theorem RunS.push {R rest : List Keyed} {lo n : Nat} {st : SortSt} (S : RunS κ key a₀ (R ++ rest) lo st) (hR : Srt key R) (hn : R.length = n) (h0 : 0 < n) : RunS κ key a₀ rest (lo + n) (setPending st ((pendingOf st).push (lo, n, 0))) := by
  obtain ⟨Rs, h1, h2, h3⟩ := S.runs
  refine ⟨S.kind, S.failed, S.perm, Rs ++ [R], ?_, ?_, ?_⟩
  · show (arrOf st).toList = _
    rw [h1]; simp
  · show Mt key 0 ((pendingOf st).push (lo, n, 0)).toList (Rs ++ [R])
    rw [Array.toList_push]
    exact h2.snoc (by rw [Nat.zero_add]; exact h3) hn.symm (by lia) hR
  · rw [h3]; simp [hn]
theorem RunS.pw {rest : List Keyed} {lo k pw : Nat} {st : SortSt} (S : RunS κ key a₀ rest lo st) : RunS κ key a₀ rest lo (setPending st ((pendingOf st).modify k fun x => match x with | (a, b, _) => (a, b, pw))) := by
  obtain ⟨Rs, h1, h2, h3⟩ := S.runs
  refine ⟨S.kind, S.failed, S.perm, Rs, h1, ?_, h3⟩
  show Mt key 0 ((pendingOf st).modify k _).toList Rs
  rw [Array.toList_modify]
  exact h2.pw
theorem RunS.len {rest : List Keyed} {lo N : Nat} {st : SortSt} (S : RunS κ key a₀ rest lo st) (hN : a₀.size = N) : (arrOf st).size = N ∧ lo + rest.length = N := by
  obtain ⟨Rs, h1, h2, h3⟩ := S.runs
  have hl := congrArg List.length h1
  have hs := S.perm.size_eq
  rw [List.length_append, Array.length_toList] at hl
  lia
theorem RunS.nil {rest : List Keyed} {lo N : Nat} {st : SortSt} (S : RunS κ key a₀ rest lo st) (hN : a₀.size = N) (h : N ≤ lo) : RunS κ key a₀ [] lo st := by
  have := (S.len hN).2
  have e : rest = [] := List.length_eq_zero_iff.mp (by lia)
  rw [e] at S; exact S
theorem RunS.few {rest : List Keyed} {lo N : Nat} {st : SortSt} (S : RunS κ key a₀ rest lo st) (hN : a₀.size = N) : (pendingOf st).size ≤ N := by
  obtain ⟨Rs, h1, h2, h3⟩ := S.runs
  have hl := congrArg List.length h1
  have hs := S.perm.size_eq
  have := h2.length
  rw [List.length_append, Array.length_toList] at hl
  rw [Array.length_toList] at this
  lia
theorem RunS.sorted {lo : Nat} {st : SortSt} (S : RunS κ key a₀ [] lo st) (hle : (pendingOf st).size ≤ 1) : Srt key (arrOf st).toList := by
  obtain ⟨Rs, h1, h2, h3⟩ := S.runs
  rw [h1, List.append_nil]
  have := h2.length
  rw [Array.length_toList] at this
  match Rs, h2 with
  | [], _ => exact List.Pairwise.nil
  | [R], h2 =>
    match hq : (pendingOf st).toList, h2 with
    | [e], ⟨_, _, _, d, _⟩ => simpa using d
  | R :: R' :: Rs, _ => simp at this; lia
theorem Moved.both {lo : Nat} {st st1 st2 : SortSt} (M1 : Moved lo st st1) (M2 : Moved lo st1 st2) : Moved lo st st2 := ⟨M2.kind.trans M1.kind, M2.pend.trans M1.pend, M2.failed.trans M1.failed, M2.perm.trans M1.perm, fun i hi => (M2.low i hi).trans (M1.low i hi)⟩
theorem pick_lt {c : Prop} [Decidable c] {n : Nat} (h : ¬ n ≤ 1) : (if c then n - 2 - 1 else n - 2) + 1 < n := by split <;> omega
theorem two_lt {n : Nat} (h : n > 1) : n - 2 + 1 < n := by omega
theorem RunS.put {rest : List Keyed} {lo n N : Nat} {st st2 : SortSt} (S : RunS κ key a₀ rest lo st) (hN : a₀.size = N) (M2 : Moved lo st st2) (hs2 : SrtOn key (arrOf st2) lo (lo + n)) (h1 : 1 ≤ n) (h2 : lo + n ≤ N) :
    ∃ R r, R.length = n ∧ Srt key R ∧ RunS κ key a₀ (R ++ r) lo st2 := by
  have S2 := S.moved (n := n) M2
  have hz := (S2.len hN).1
  exact ⟨_, _, by rw [List.length_take, List.length_drop, Array.length_toList, hz]; lia, srt_of_on hs2 (by lia), S2⟩
theorem wpS_sortRunsM (C : Cmp prog w A s κ key P) {st : SortSt} {Q : Unit → SortSt → Prop} (hk : kindOf st = κ) (hf : failedOf st = none) (hp : pendingOf st = #[]) (hP : ∀ x ∈ (arrOf st).toList, P x) (nd : ((arrOf st).toList.map key).Nodup)
    (h : ∀ (st' : SortSt), (arrOf st').Perm (arrOf st) → failedOf st' = none → Srt key (arrOf st').toList → Q () st') : wpS (model prog w) A E s sortRuns' Q st := by
  have ndP : ∀ {st' : SortSt}, (arrOf st').Perm (arrOf st) → ((arrOf st').toList.map key).Nodup := fun hp => (((Array.perm_iff_toList_perm.mp hp).map key).nodup_iff).mpr nd
  refine wpS_bind (wpS_get ?_)
  extract_lets -underBinder -merge N mr lo0
  have hN : (arrOf st).size = N := rfl
  clear_value N mr
  refine wpS_loopN (fun lo x st' => x ≤ lo ∧ ∃ rest, RunS κ key (arrOf st) rest lo st') (fun lo st' => RunS κ key (arrOf st) [] lo st') ⟨Nat.le_refl _, (arrOf st).toList, hk, hf, .refl _, [], by simp, by rw [hp]; trivial, rfl⟩ ?step
    (fun lo st' ⟨hx, rest, S⟩ => S.nil hN (by rw [Nat.max_eq_right (Nat.zero_le _)] at hx; exact hx)) (fun lo st' S => ?post)
  case post =>
    extract_lets -underBinder -merge
    refine wpS_loopN (fun _ x st' => RunS κ key (arrOf st) [] lo st' ∧ (x + (pendingOf st').size ≤ N ∨ (pendingOf st').size ≤ 1)) (fun _ st' => RunS κ key (arrOf st) [] lo st' ∧ (pendingOf st').size ≤ 1) ⟨S, .inl (by rw [Nat.zero_add]; exact S.few hN)⟩ (fun x _ st' _ hx S => ?step2)
      (fun _ st' ⟨S, hor⟩ => ⟨S, by lia⟩) (fun _ st' S => wpS_pure (h st' S.1.perm S.1.failed (S.1.sorted S.2)))
    case step2 =>
      extract_lets -underBinder -merge
      refine wpS_bind (wpS_get ?_)
      extract_lets -underBinder -merge
      refine wpS_ite (fun hle => wpS_pure ⟨S.1, hle⟩) fun hle => ?_
      refine wpS_bind (wpS_mergeRun C S.1 hP (pick_lt hle) fun st2 S' hsz => ?_)
      exact wpS_pure ⟨S', by lia⟩
  intro x lo st' _ hx ⟨hxl, rest, S⟩
  extract_lets -underBinder -merge
  refine wpS_ite (fun hge => wpS_pure (S.nil hN hge)) fun hge => ?_
  have hz := (S.len hN).1
  refine wpS_bind (wpS_count C S.kind (S.holds hP) (ndP S.perm) (by lia) (by lia) fun m st1 M1 hm1 hm2 hs1 => ?_)
  dsimp -zeta only
  extract_lets -underBinder -merge n jp force n2
  have hj : ∀ r n st2, Moved lo st' st2 → SrtOn key (arrOf st2) lo (lo + n) → 1 ≤ n → lo + n ≤ N → wpS (model prog w) A E s (jp r n) (NK (fun lo x st' => x ≤ lo ∧ ∃ rest, RunS κ key (arrOf st) rest lo st') (fun lo st' => RunS κ key (arrOf st) [] lo st') x) st2 := by
    intro _ n st2 M2 hs2 hn1 hn2
    obtain ⟨R, r, lR, sR, S2⟩ := S.put hN M2 hs2 hn1 hn2
    refine wpS_bind (wpS_get ?_)
    extract_lets -underBinder -merge jp2
    have hj2 : ∀ r0 st3, RunS κ key (arrOf st) (R ++ r) lo st3 → wpS (model prog w) A E s (jp2 r0) (NK (fun lo x st' => x ≤ lo ∧ ∃ rest, RunS κ key (arrOf st) rest lo st') (fun lo st' => RunS κ key (arrOf st) [] lo st') x) st3 :=
      fun _ st3 S3 => wpS_bind (wpS_modify (wpS_pure ⟨by show x + 1 ≤ lo + n; lia, r, S3.push sR lR hn1⟩))
    clear_value jp2
    cases (pendingOf st2).back? with
    | none => exact hj2 () _ S2
    | some e =>
      obtain ⟨e1, e2, e3⟩ := e
      dsimp -zeta only
      extract_lets -underBinder -merge pw
      clear_value pw
      refine wpS_loopN (fun _ _ st3 => RunS κ key (arrOf st) (R ++ r) lo st3) (fun _ st3 => RunS κ key (arrOf st) (R ++ r) lo st3) S2 (fun x' _ st3 _ _ S3 => ?step3) (fun _ _ h => h) (fun _ st3 S3 => ?post3)
      case post3 => exact wpS_bind (wpS_modify (hj2 _ _ (S3.pw (pw := pw))))
      refine wpS_bind (wpS_get ?_)
      extract_lets -underBinder -merge
      by_cases hz : (pendingOf st3).size > 1
      · have hq : ∃ q, (if (pendingOf st3).size > 1 then (pendingOf st3)[(pendingOf st3).size - 2]? else none) = some q := ⟨_, by rw [if_pos hz]; exact Array.getElem?_eq_getElem (Nat.lt_of_succ_lt (two_lt hz))⟩
        obtain ⟨⟨q1, q2, q3⟩, hq⟩ := hq
        show wpS (model prog w) A E s (match if (pendingOf st3).size > 1 then (pendingOf st3)[(pendingOf st3).size - 2]? else none with | some (_, _, older) => _ | x => _) _ _
        rw [hq]
        dsimp -zeta only
        refine wpS_ite (fun _ => wpS_pure S3) fun _ => wpS_bind (wpS_mergeRun C S3 hP (two_lt hz) fun st4 S4 _ => wpS_pure S4)
      · show wpS (model prog w) A E s (match if (pendingOf st3).size > 1 then (pendingOf st3)[(pendingOf st3).size - 2]? else none with | some (_, _, older) => _ | x => _) _ _
        rw [if_neg hz]
        exact wpS_pure S3
  refine wpS_ite (fun hlt => ?_) fun hge => hj () _ _ M1 hs1 hm1 (by lia)
  refine wpS_bind (wpS_rule ?_)
  have S1 := S.moved (n := 0) M1
  have hz1 := (S1.len hN).1
  refine wpS_bind (wpS_binary C (lo := lo) (n := min (N - lo) mr) (ok := m) S1.kind (S1.holds hP) (by (clear hz1 S1 hj hs1 hm1 M1 hz hge S hxl hx hN ndP h nd hP hp hf hk C; lia)) (by lia) hs1 fun st2 M2 hs2 => ?_)
  exact hj () _ _ (M1.both M2) hs2 (by omega) (by lia)
end
-- Sort7
structure PrO where
  T : Addr
  k : Int
  v : Int
  t : Tok
  u : Tok
noncomputable def PrO.obj (p : PrO) : Obj := { cls := .type "tuple", data := .seq [Value.int p.k p.t, Value.int p.v p.u].toArray 0 }
noncomputable abbrev PrO.ent (p : PrO) : Addr × Obj := (p.T, p.obj)
noncomputable def PrO.val (p : PrO) : Value := .ref p.T
noncomputable def pickP (ps : List PrO) (v : Value) : PrO := match v with
  | .ref T => (ps.find? fun p => p.T = T).getD ⟨0, 0, 0, 0, 0⟩
  | _ => ⟨0, 0, 0, 0, 0⟩
theorem pickP_val : ∀ {ps : List PrO} {p : PrO}, (ps.map PrO.T).Nodup → p ∈ ps → pickP ps p.val = p
  | [], _, _, h => by simp at h
  | q :: r, p, nd, h => by
    rw [List.map_cons, List.nodup_cons] at nd
    rcases List.mem_cons.mp h with rfl | h
    · simp [pickP, PrO.val]
    · have hne : q.T ≠ p.T := fun e => nd.1 (e ▸ List.mem_map_of_mem h)
      have := pickP_val nd.2 h
      simpa [pickP, PrO.val, hne] using this
noncomputable def keyP (ps : List PrO) (x : Keyed) : Int := (pickP ps x.1).k
section
variable {prog : Program} {w : World} {A : Around} {E : Value → Shared → Prop} {s : Shared}
theorem nodup_inj {α β : Type} {f : α → β} : ∀ {l : List α} {x y : α}, (l.map f).Nodup → x ∈ l → y ∈ l → f x = f y → x = y
  | [], _, _, _, h, _, _ => by simp at h
  | a :: l, x, y, nd, hx, hy, e => by
    rw [List.map_cons, List.nodup_cons] at nd
    rcases List.mem_cons.mp hx with rfl | hx
    · rcases List.mem_cons.mp hy with rfl | hy
      · rfl
      · exact absurd (e ▸ List.mem_map_of_mem hy) nd.1
    · rcases List.mem_cons.mp hy with rfl | hy
      · exact absurd (e ▸ List.mem_map_of_mem (f := f) ‹x ∈ l›) nd.1
      · exact nodup_inj nd.2 hx hy e
theorem cmpP {ps : List PrO} (hT : (ps.map PrO.T).Nodup) (hk : (ps.map PrO.k).Nodup) (hg : ∀ p ∈ ps, s.heap.get? p.T = some p.obj) : Cmp prog w A s (tuples' true) (keyP ps) (fun x => ∃ p ∈ ps, x = (p.val, p.val)) := by
  rintro _ _ ⟨p, hp, rfl⟩ ⟨q, hq, rfl⟩ Q E h
  have e1 : keyP ps (p.val, p.val) = p.k := by rw [keyP, pickP_val hT hp]
  have e2 : keyP ps (q.val, q.val) = q.k := by rw [keyP, pickP_val hT hq]
  rw [e1, e2] at h
  refine kat_lt (hg p hp) rfl (hg q hq) rfl ?_
  show KatLex _ _ _ _ _ _ [(Value.int p.k p.t, Value.int q.k q.t), (Value.int p.v p.u, Value.int q.v q.u)] 0 s
  refine kat_cons (wpAny_eqBool_int ?_)
  by_cases e : p.k = q.k
  · have := nodup_inj hk hp hq e
    subst this
    rw [beq_self_eq_true]
    refine kat_yes (kat_cons (wpAny_eqBool_int ?_))
    rw [beq_self_eq_true]
    refine kat_yes (kat_nil ?_)
    simpa using h
  · have e' : (p.k == q.k) = false := by simpa using e
    rw [e']
    exact kat_no (oneLt_int h)
theorem tups_of : ∀ {ps : List PrO} {h : Heap}, (∀ p ∈ ps, h.get? p.T = some p.obj) → KatTups h (ps.map PrO.val) (ps.map fun p => Value.int p.k p.t)
  | [], _, _ => .nil
  | p :: r, h, hg => KatTups.cons (hg p (by simp)) rfl rfl rfl (tups_of fun q hq => hg q (by simp [hq]))
theorem zip_pairs (ps : List PrO) : ((ps.map PrO.val).toArray.zip (ps.map PrO.val).toArray).toList = ps.map fun p => (p.val, p.val) := by
  simp [List.zip_map']
theorem srt_short {key : Keyed → Int} : ∀ {l : List Keyed}, l.length < 2 → Srt key l
  | [], _ => List.Pairwise.nil
  | [_], _ => List.pairwise_singleton _ _
  | _ :: _ :: _, h => by simp only [List.length_cons] at h; lia
theorem sort_pairs {a : Addr} {ps : List PrO} {n : Nat} {F : PySem.Fin → Shared → Prop} (ho : s.heap.get? a = some (seqObj "list" (ps.map PrO.val).toArray n))
    (hT : (ps.map PrO.T).Nodup) (hk : (ps.map PrO.k).Nodup) (hg : ∀ p ∈ ps, s.heap.get? p.T = some p.obj) (hna : ∀ p ∈ ps, p.T ≠ a) (hz : ps.length ≤ 1000000)
    (h : ∀ (qs : List PrO), qs.Perm ps → qs.Pairwise (fun x y => x.k ≤ y.k) → F (.done (.ret .none)) { s with heap := sortedHeap s.heap a (ps.map PrO.val) (qs.map PrO.val).toArray }) :
    wpAny (model prog w) A (Builtin.«list.sort» ⟨[.ref a], []⟩) F E s := by
  rw [list_sort_plain]
  have ha : a < s.heap.objs.size := Heap.lt_size ho
  have hsl := sizeLine_eq
  have hl : (ps.map PrO.val).length = ps.length := List.length_map ..
  have hsz : (ps.map PrO.val).toArray.size = ps.length := by simp
  refine wpAny_bind (listItems_at ho rfl ?_)
  refine wpAny_bind (listUpdate_at ho rfl ?_ (by lia) (Nat.zero_le _))
  obtain ⟨e1, ho1⟩ : ∃ e1, (s.heap.update a (Obj.mapSeq fun _ => #[])).get? a = some (seqObj "list" #[] e1) := ⟨_, get?_update_seq ho (fun _ => #[])⟩
  refine wpAny_bind (seqEpoch_at ho1 rfl ?_)
  refine wpAny_bind (wpAny_newTuple ?_ (by simp only [List.length_map]; lia))
  refine wpAny_bind (wpAny_newList ?_ (Nat.zero_le _))
  refine wpAny_holding ?_
  have keep : ∀ b o, b ≠ a → s.heap.get? b = some o → (((s.heap.update a (Obj.mapSeq fun _ => #[])).push (seqObj "tuple" (ps.map PrO.val).toArray 0)).push (seqObj "list" #[] 0)).get? b = some o := fun b o hb q => by
    have hlt := Heap.lt_size q
    rw [Heap.get?_push_ne _ _ _ (by rw [size_push', Heap.size_update]; exact Nat.ne_of_lt (Nat.lt_succ_of_lt hlt)), Heap.get?_push_ne _ _ _ (by rw [Heap.size_update]; exact Nat.ne_of_lt hlt), Heap.get?_update_ne _ _ _ _ hb]
    exact q
  have ho6 : (((s.heap.update a (Obj.mapSeq fun _ => #[])).push (seqObj "tuple" (ps.map PrO.val).toArray 0)).push (seqObj "list" #[] 0)).get? a = some (seqObj "list" #[] e1) := by
    rw [Heap.get?_push_ne _ _ _ (by rw [size_push', Heap.size_update]; exact Nat.ne_of_lt (Nat.lt_succ_of_lt ha)), Heap.get?_push_ne _ _ _ (by rw [Heap.size_update]; exact Nat.ne_of_lt ha)]
    exact ho1
  show wpAny (model prog w) A _ F E { s with heap := ((s.heap.update a (Obj.mapSeq fun _ => #[])).push (seqObj "tuple" (ps.map PrO.val).toArray 0)).push (seqObj "list" #[] 0) }
  dsimp only
  have fin : ∀ st' : SortSt, (arrOf st').Perm ((ps.map PrO.val).toArray.zip (ps.map PrO.val).toArray) → Srt (keyP ps) (arrOf st').toList →
      F (.done (.ret .none)) { s with heap := sortedHeap s.heap a (ps.map PrO.val) ((arrOf st').map (·.2)) } := by
    intro st' hp hs
    have hl : (arrOf st').toList.Perm (ps.map fun p => (p.val, p.val)) := by rw [← zip_pairs]; exact Array.perm_iff_toList_perm.mp hp
    have hmem : ∀ x ∈ (arrOf st').toList, ∃ p ∈ ps, x = (p.val, p.val) := fun x hx => by
      obtain ⟨p, hp', rfl⟩ := List.mem_map.mp (hl.mem_iff.mp hx)
      exact ⟨p, hp', rfl⟩
    have eq : (arrOf st').toList.map (fun x => (pickP ps x.1).val) = (arrOf st').toList.map (·.2) := List.map_congr_left fun x hx => by
      obtain ⟨p, hp', rfl⟩ := hmem x hx
      rw [pickP_val hT hp']
    have := h ((arrOf st').toList.map fun x => pickP ps x.1) ?_ ?_
    · have e : (((arrOf st').toList.map fun x => pickP ps x.1).map PrO.val).toArray = (arrOf st').map (·.2) := by
        rw [List.map_map]
        apply Array.toList_inj.mp
        rw [Array.toList_map]
        exact eq
      rw [e] at this
      exact this
    · have := hl.map fun x => pickP ps x.1
      rw [List.map_map] at this
      have e2 : ps.map ((fun x : Keyed => pickP ps x.1) ∘ fun p => (p.val, p.val)) = ps := by
        conv => rhs; rw [← List.map_id ps]
        exact List.map_congr_left fun p hp' => pickP_val hT hp'
      rwa [e2] at this
    · exact List.pairwise_map.mpr hs
  by_cases h2 : (ps.map PrO.val).toArray.size < 2
  · rw [if_pos h2, if_pos h2]
    refine wpAny_bind (wpAny_pure ?_)
    rw [StateT.run_pure]
    refine wpAny_bind (wpAny_pure ?_)
    dsimp only
    refine wpAny_bind (seqEpoch_at ho6 rfl ?_)
    refine wpAny_bind (listUpdate_at ho6 rfl ?_ (Nat.zero_le _) (by rw [Array.size_map]; show ((ps.map PrO.val).toArray.zip (ps.map PrO.val).toArray).size ≤ _; simp; lia))
    simp only [bne_self_eq_false, Bool.false_eq_true, if_false]
    refine wpAny_pure (fin (SortSt.mk' general' ((ps.map PrO.val).toArray.zip (ps.map PrO.val).toArray) #[] 7 none) (Array.Perm.refl _) ?_)
    show Srt _ ((ps.map PrO.val).toArray.zip (ps.map PrO.val).toArray).toList
    rw [zip_pairs]
    exact srt_short (by rw [List.length_map]; lia)
  · rw [if_neg h2, if_neg h2]
    have hg' : ∀ p ∈ ps, (((s.heap.update a (Obj.mapSeq fun _ => #[])).push (seqObj "tuple" (ps.map PrO.val).toArray 0)).push (seqObj "list" #[] 0)).get? p.T = some p.obj := fun p hp => keep _ _ (hna p hp) (hg p hp)
    refine wpAny_bind (kat_kind (T := .type "int") (tups_of hg') (by rw [List.length_map]; lia) (fun v hv => ?_) rfl ?_)
    · obtain ⟨p, _, rfl⟩ := List.mem_map.mp hv
      exact Looks.of_pure rfl
    have hz2 := zip_pairs ps
    have ekey : ((((ps.map PrO.val).toArray.zip (ps.map PrO.val).toArray).toList).map (keyP ps)) = ps.map PrO.k := by
      rw [hz2, List.map_map]
      exact List.map_congr_left fun p hp => by show (pickP ps p.val).k = p.k; rw [pickP_val hT hp]
    refine wpAny_bind (wpAny_mono (wpS_sortRunsM (κ := tuples' true) (key := keyP ps) (P := fun x => ∃ p ∈ ps, x = (p.val, p.val)) (st := SortSt.mk' (tuples' (Value.type "int" != Value.type "tuple")) ((ps.map PrO.val).toArray.zip (ps.map PrO.val).toArray) #[] 7 none)
      (Q := fun _ st' => (arrOf st').Perm ((ps.map PrO.val).toArray.zip (ps.map PrO.val).toArray) ∧ failedOf st' = none ∧ Srt (keyP ps) (arrOf st').toList)
      (cmpP hT hk hg') rfl rfl rfl (fun x hx => ?_) ?_ fun st' a1 a2 a3 => ⟨a1, a2, a3⟩) ?_ fun _ _ e => e)
    · rw [show (arrOf (SortSt.mk' (tuples' (Value.type "int" != Value.type "tuple")) ((ps.map PrO.val).toArray.zip (ps.map PrO.val).toArray) #[] 7 none)).toList = _ from hz2] at hx
      obtain ⟨p, hp, rfl⟩ := List.mem_map.mp hx
      exact ⟨p, hp, rfl⟩
    · rw [show ((arrOf (SortSt.mk' (tuples' (Value.type "int" != Value.type "tuple")) ((ps.map PrO.val).toArray.zip (ps.map PrO.val).toArray) #[] 7 none)).toList.map (keyP ps)) = _ from ekey]
      exact hk
    rintro ⟨⟨⟩, st'⟩ s' ⟨rfl, hp, hf, hs⟩
    dsimp only
    refine wpAny_bind (seqEpoch_at ho6 rfl ?_)
    refine wpAny_bind (listUpdate_at ho6 rfl ?_ (Nat.zero_le _) (by
      refine Nat.le_trans (Nat.le_of_eq ((Array.size_map ..).trans hp.size_eq)) ?_
      simp; lia))
    rw [hf]
    simp only [bne_self_eq_false, Bool.false_eq_true, if_false]
    exact wpAny_pure (fin st' hp hs)
theorem sorted_pairs {l : Addr} {ps : List PrO} {Q : Value → Shared → Prop} (hl : s.heap.IsList l (ps.map PrO.val).toArray)
    (hT : (ps.map PrO.T).Nodup) (hk : (ps.map PrO.k).Nodup) (hg : ∀ p ∈ ps, s.heap.get? p.T = some p.obj) (hz : ps.length ≤ 1000000)
    (h : ∀ (qs : List PrO), qs.Perm ps → qs.Pairwise (fun x y => x.k ≤ y.k) → Q (.ref (s.heap.objs.size + 1)) { s with heap := sortedAll s.heap (ps.map PrO.val) (qs.map PrO.val).toArray }) :
    wpAny (model prog w) A (call (.builtin "sorted") [.ref l]) Q E s := by
  have hsl := sizeLine_eq
  refine Calls.call_function_entry kind_sorted plain_sorted entry_sorted (args_sorted1 _) ?_
  unfold Builtin.«sorted»
  refine wpAny_bind (m := checkCount "sorted" 1 1 _) (wpAny_pure ?_)
  refine wpAny_bind (collect_list hl ?_ (by rw [List.length_map]; lia))
  refine wpAny_bind (wpAny_newList ?_ (by rw [List.length_map]; lia))
  generalize hvs : ps.map PrO.val = vs at *
  have hsz : ((s.heap.push (seqObj "list" #[] 0)).update s.heap.objs.size (Obj.mapSeq (· ++ vs.toArray))).objs.size = s.heap.objs.size + 1 := by
    rw [Heap.size_update, size_push']
  have hoL : (((s.heap.push (seqObj "list" #[] 0)).update s.heap.objs.size (Obj.mapSeq (· ++ vs.toArray))).push (seqObj "list" vs.toArray 0)).get? (s.heap.objs.size + 1) = some (seqObj "list" vs.toArray 0) := by
    rw [← hsz]; exact Heap.get?_push_size _ rfl
  have keep : ∀ b o, s.heap.get? b = some o → (((s.heap.push (seqObj "list" #[] 0)).update s.heap.objs.size (Obj.mapSeq (· ++ vs.toArray))).push (seqObj "list" vs.toArray 0)).get? b = some o := fun b o q => by
    have hlt : b < s.heap.objs.size := Heap.lt_size q
    rw [Heap.get?_push_ne _ _ _ (by rw [hsz]; exact Nat.ne_of_lt (Nat.lt_succ_of_lt hlt)), Heap.get?_update_ne _ _ _ _ (Nat.ne_of_lt hlt), Heap.get?_push_ne _ _ _ (Nat.ne_of_lt hlt)]
    exact q
  show wpAny _ _ _ _ _ { s with heap := ((s.heap.push (seqObj "list" #[] 0)).update s.heap.objs.size (Obj.mapSeq (· ++ vs.toArray))).push (seqObj "list" vs.toArray 0) }
  rw [hsz]
  refine wpAny_bind (wpAny_holding (wpAny_call_entry slot_list_sort ⟨_, hoL, rfl⟩ entry_list_sort ?body (args_list_sort _)))
  case body =>
    refine sort_pairs (s := { s with heap := ((s.heap.push (seqObj "list" #[] 0)).update s.heap.objs.size (Obj.mapSeq (· ++ vs.toArray))).push (seqObj "list" vs.toArray 0) })
      (ps := ps) (n := 0) (by rw [hvs]; exact hoL) hT hk (fun p hp => keep _ _ (hg p hp)) (fun p hp => Nat.ne_of_lt (Nat.lt_succ_of_lt (Heap.lt_size (hg p hp)))) hz fun qs a1 a2 => ⟨_, rfl, ?_⟩
    refine wpAny_pure ⟨_, rfl, ?_⟩
    have := h qs a1 a2
    rw [hvs]
    exact this
end
-- F24
section
variable {w : World} {p : Program} {loose : List Str} {mean : ExcName → Option Value} {mg mb : Str → Option Value} {hb : Heap}
noncomputable def PrO.kv (p : PrO) : Int × Int := (p.k, p.v)
theorem CellsAre.one' {cm : Str → Option Value} {x : Str} {a : Addr} {cells : Led} (h : CellsAre cm [(x, a)] cells) : ∃ o, cells = [(a, o)] ∧ o.data = .cell (cm x) := by
  cases h with
  | cons h1 h2 => cases h2; exact ⟨_, rfl, h1⟩
theorem r_sorted {g : Heap} {L : Addr} {W : List Addr} {l : Loc} {rest : Led} {s₀ s : Shared} {A : Around} {E Q : Value → Shared → Prop} {D : Addr} {n : Nat} {ps : List PrO}
    (S : St g L W l ((D, listOf (ps.map PrO.val).toArray n) :: (ps.map PrO.ent ++ rest)) s₀ s) (hk : (ps.map PrO.k).Nodup) (hz : ps.length ≤ 1000000)
    (h : ∀ (B : Addr) (k : Nat) (qs : List PrO) s', qs.Perm ps → qs.Pairwise (fun x y => x.k ≤ y.k) → St g L W l ((B, listOf (qs.map PrO.val).toArray k) :: (qs.map PrO.ent ++ rest)) s₀ s' → Q (.ref B) s') :
    wpAny (model pgm w) A (call (.builtin "sorted") [.ref D]) Q E s := by
  have nd := S.nd
  rw [List.map_cons, List.nodup_cons, List.map_append, List.nodup_append, List.map_map] at nd
  refine sorted_pairs (S.lst (.head _)) nd.2.1 hk (fun p hp => S.at (a := p.T) (o := p.obj) (.tail _ (List.mem_append_left _ (List.mem_map_of_mem (f := PrO.ent) hp)))) hz fun qs a1 a2 => ?_
  obtain ⟨e, he⟩ := sortedAll_at s.heap (ps.map PrO.val) (qs.map PrO.val).toArray
  have S1 := S.grow (h' := sortedAll s.heap (ps.map PrO.val) (qs.map PrO.val).toArray) (fun b o q => sortedAll_old q) s.toks
  refine h (s.heap.objs.size + 1) e qs _ a1 a2 ?_
  have S2 := (S1.drop).perm ((a1.symm.map PrO.ent).append_right rest)
  obtain ⟨m, F, em⟩ := S2.ns
  have hL := S.ltL
  refine S2.ofK1 F em (fun q hq => ?_) fun q hq => ?_
  · rcases List.mem_cons.mp hq with rfl | hq
    · exact ⟨he, fun e => Nat.lt_irrefl _ (Nat.lt_trans hL (Nat.lt_of_lt_of_eq (Nat.lt_succ_self _) e)), Heap.get?_none_of_le (Nat.le_succ_of_le (Nat.le_trans F.above (Nat.le_of_lt hL)))⟩
    · exact S2.N q hq
  · have hq' : q ∈ ps.map PrO.ent ++ rest := by
      rcases List.mem_append.mp hq with h1 | h1
      · exact List.mem_append_left _ ((a1.map PrO.ent).mem_iff.mp h1)
      · exact List.mem_append_right _ h1
    have := S.fresh q (.tail _ hq')
    show q.1 < s.heap.objs.size + 1
    exact Nat.lt_succ_of_lt this
theorem c_sorted {C : Cx w} {l : Loc} {rest : Led} {Q : Value → Loc → Led → Prop} {D : Addr} {n : Nat} {ps : List PrO} (hk : (ps.map PrO.k).Nodup) (hz : ps.length ≤ 1000000)
    (h : ∀ (B : Addr) (k : Nat) (qs : List PrO), qs.Perm ps → qs.Pairwise (fun x y => x.k ≤ y.k) → let led' : Led := (B, listOf (qs.map PrO.val).toArray k) :: (qs.map PrO.ent ++ rest); Q (.ref B) l led') :
    Wp C (call (.builtin "sorted") [.ref D]) Q l ((D, listOf (ps.map PrO.val).toArray n) :: (ps.map PrO.ent ++ rest)) := fun s S => r_sorted S hk hz fun B k qs s' h1 h2 S' => ⟨_, _, S', h B k qs h1 h2⟩
theorem Held.keys {kvs : List (Int × Value)} {ms : List (Int × Int)} (h : Held kvs ms) : kvs.map (·.1) = ms.map (·.1) := by
  induction h with
  | nil => rfl
  | cons k' n t _ ih => simp [ih]
theorem filter_take (ms : List (Int × Int)) (i : Nat) (x : Int × Int) (h : ms[i]? = some x) : (ms.take (i + 1)).filter (fun p => p.2 ≠ 0) = (ms.take i).filter (fun p => p.2 ≠ 0) ++ (if x.2 ≠ 0 then [x] else []) := by
  rw [List.take_add_one, h, List.filter_append]
  congr 1
  by_cases e : x.2 = 0 <;> simp [e]
theorem perm_rot {a b c : Led} : (a ++ (b ++ c)).Perm ((c ++ a) ++ b) := List.perm_append_comm.trans (by rw [List.append_assoc]; exact List.perm_append_comm)
theorem written_does (G : G0 w p loose mean mg mb hb) {m : MemO} {ms : List (Int × Int)} (hm : m.Is w ms) (hz : ms.length ≤ 100000) :
    Does w hb 2 80 328 [.ref m.x] [] (m.led w) (fun v b => ∃ (B : Addr) (k : Nat) (qs : List PrO), v = .ref B ∧ (qs.map PrO.kv).Perm (ms.filter fun p => p.2 ≠ 0) ∧ qs.Pairwise (fun x y => x.k ≤ y.k) ∧ (qs.map PrO.k).Nodup ∧
      b = (B, listOf (qs.map PrO.val).toArray k) :: (qs.map PrO.ent ++ m.led w)) := by
  obtain ⟨⟨kvs, hd1, hd2⟩, lo⟩ := hm
  have nd := dict_nodup hd1
  have hlen := hd2.length
  refine' enterCB (binds := [(Str.ofString "self", .ref m.x)]) ?kL (by assumption) ?k6 ?k7 ?k9 ?kB ?kN ?kl ?_ ?c2 ?c3 ?c4
  case k6 => k_is
  case k7 => k_is
  case k9 => (intro s hs; exact BindsTo.of_eq rfl)
  case kB => exact kindsX rfl
  case kN => decide +kernel
  case kl => intro _; exact rfl
  case c2 => exact rfl
  case c3 => exact rfl
  case c4 => exact rfl
  intro C Q cells hR fini finn perm hcells env l he
  obtain ⟨o1, rfl, hc1⟩ := CellsAre.one' hcells
  have hc1 : o1.data = .cell (some (.ref m.x)) := hc1
  clear hcells
  refine Wp.named ?_
  intro led
  repeat (walk_at "m ev")
  refine' CompW.sub (t := (m.he, m.heo) :: ([(C.L + 1, o1), (m.x, instObj 359 m.dx), (m.dx, dictOf [dE w "held" m.τ (.ref m.he)] 1)] ++ ([] : List PrO).reverse.map PrO.ent)) ?ss ?_
  case ss => walk_at "m pk"
  refine' c_compD hd1 lo he (fun i ys led => ∃ ps : List PrO, ys = ps.map PrO.val ∧ ps.map PrO.kv = (ms.take i).filter (fun p => p.2 ≠ 0) ∧ led = [(C.L + 1, o1), (m.x, instObj 359 m.dx), (m.dx, dictOf [dE w "held" m.τ (.ref m.he)] 1)] ++ ps.reverse.map PrO.ent) ?hJ ?hlen ?turn ?fin
  case hJ => exact ⟨[], rfl, rfl, rfl⟩
  case hlen =>
    rintro i ys led ⟨ps, rfl, e, rfl⟩
    have := congrArg List.length e
    have h2 := List.length_filter_le (fun p : Int × Int => decide (p.2 ≠ 0)) (ms.take i)
    rw [List.length_map] at this ⊢
    rw [List.length_take] at h2
    rw [sizeLine_eq]; lia
  case turn =>
    rintro i k x t hi hget C' D I oL oI ys n' _ hR' ⟨ps, rfl, e, rfl⟩ env' he' led Q'
    obtain ⟨n, tn, rfl, hmi⟩ := hd2.get hget
    have hft := filter_take ms i (k, n) hmi
    repeat (walk_at "m ev")
    refine c_hitem (by lcg_off) hd1 hget ?_
    repeat (walk_at "m ev")
    refine r_iteN (fun hne => ?_) fun heq => ?_
    ·
      repeat (walk_at "m ev")
      refine c_hitem (by lcg_off) hd1 hget ?_
      repeat (walk_at "m ev")
      refine' Turn3.sub (t := [(C.L + 1, o1), (m.x, instObj 359 m.dx), (m.dx, dictOf [dE w "held" m.τ (.ref m.he)] 1)] ++ (PrO.ent ⟨_, k, n, _, _⟩ :: ps.reverse.map PrO.ent)) ?ss ⟨ps ++ [⟨_, k, n, _, _⟩], ?g1, ?g2, ?g3⟩
      case ss => walk_at "m pkt"
      case g1 => rw [List.map_append]; rfl
      case g2 => rw [hft, if_pos hne, List.map_append, e]; rfl
      case g3 => rw [List.reverse_append]; rfl
    ·
      repeat (walk_at "m ev")
      refine Turn3.sub (t := [(C.L + 1, o1), (m.x, instObj 359 m.dx), (m.dx, dictOf [dE w "held" m.τ (.ref m.he)] 1)] ++ ps.reverse.map PrO.ent) (.refl _) ⟨ps, rfl, ?_, rfl⟩
      rw [hft, if_neg (fun h => h heq), List.append_nil]; exact e
  case fin =>
    rintro D ys n' _ ⟨ps, rfl, e, rfl⟩ led
    rw [hlen, List.take_length] at e
    have nd2 : (ms.map (·.1)).Nodup := by rw [← hd2.keys]; exact nd
    have ndk : (ps.map PrO.k).Nodup := by
      have e2 : ps.map PrO.k = (ms.filter fun p => p.2 ≠ 0).map (·.1) := by rw [← e, List.map_map]; rfl
      rw [e2]
      exact List.Nodup.sublist (List.filter_sublist.map _) nd2
    have hz2 : ps.length ≤ 100000 := by
      have e3 := congrArg List.length e
      have e4 := List.length_filter_le (fun p : Int × Int => decide (p.2 ≠ 0)) ms
      rw [List.length_map] at e3
      lia
    repeat (walk_at "m ev")
    refine Wp.sub (t := (D, listOf (ps.map PrO.val).toArray n') :: (ps.map PrO.ent ++ m.led w)) (.of (r := [(C.L + 1, o1)]) ?_) ?_
    · refine (List.Perm.cons _ ?_)
      have e1 := (List.reverse_perm ps).map PrO.ent
      have e2 : ((m.he, m.heo) :: ([(C.L + 1, o1), (m.x, instObj 359 m.dx), (m.dx, dictOf [dE w "held" m.τ (.ref m.he)] 1)] ++ ps.reverse.map PrO.ent)).Perm (([(C.L + 1, o1)] ++ m.led w) ++ ps.map PrO.ent) := by
        refine List.Perm.trans (List.Perm.cons _ (e1.append_left _)) ?_
        exact List.Perm.append_right (ps.map PrO.ent) (l₁ := [(m.he, m.heo), (C.L + 1, o1), (m.x, instObj 359 m.dx), (m.dx, dictOf [dE w "held" m.τ (.ref m.he)] 1)]) (l₂ := [(C.L + 1, o1)] ++ m.led w) (List.perm_middle (l₁ := [(C.L + 1, o1), (m.x, instObj 359 m.dx), (m.dx, dictOf [dE w "held" m.τ (.ref m.he)] 1)]) (l₂ := [])).symm
      refine e2.trans ?_
      exact (List.Perm.append_right _ List.perm_append_comm).trans (by rw [List.append_assoc]; exact perm_rot)
    refine c_sorted ndk (by lia) fun B k qs a1 a2 => ?_
    intro _
    refine fini ⟨B, k, qs, rfl, ?_, a2, (a1.map PrO.k).nodup_iff.mpr ndk, rfl⟩
    rw [← e]
    exact a1.map PrO.kv
end
-- F25
section
variable {w : World} {p : Program} {loose : List Str} {mean : ExcName → Option Value} {mg mb : Str → Option Value} {hb : Heap}
structure PairsOf (ms : List (Int × Int)) (qs : List PrO) : Prop where
  perm : (qs.map PrO.kv).Perm (ms.filter fun p => p.2 ≠ 0)
  srt : qs.Pairwise fun x y => x.k ≤ y.k
  nd : (qs.map PrO.k).Nodup
theorem PairsOf.len {ms : List (Int × Int)} {qs : List PrO} (h : PairsOf ms qs) : qs.length ≤ ms.length := by
  have := h.perm.length_eq
  have h2 := List.length_filter_le (fun p : Int × Int => decide (p.2 ≠ 0)) ms
  rw [List.length_map] at this
  lia
theorem perm_last {a b c r : Led} (h : (a ++ r).Perm b) : ((c ++ a) ++ r).Perm (b ++ c) := by
  rw [List.append_assoc]
  exact List.perm_append_comm.trans (List.Perm.append_right c h)
section
variable {C : Cx w} {l : Loc} {led : Led} {Q : Value → Loc → Led → Prop} {N U : Nat} {fl : Led → Led}
theorem c_written {m : MemO} {ms : List (Int × Int)} (hR : Room C N U) (hle : (Nat.ble 2 N && Nat.ble 80 U) = true) (hm : m.Is w ms) (hz : ms.length ≤ 100000) (sl : Slot (m.led w) led fl)
    (k : ∀ (B : Addr) (n : Nat) (qs : List PrO), PairsOf ms qs → let led' : Led := (B, listOf (qs.map PrO.val).toArray n) :: (fl (m.led w) ++ qs.map PrO.ent); Q (.ref B) l led') : Wp C (call (.ref 328) [.ref m.x]) Q l led := fun s S => by
  obtain ⟨rest, p1, p2⟩ := sl.perm
  have r := hR.le hle
  exact use (written_does C.G₀ hm hz) C.G (S.perm p1) .here C.hh r.d r.u fun v led' s' r S' => by
    obtain ⟨B, n, qs, rfl, h1, h2, h3, rfl⟩ := r
    exact ⟨_, _, S'.perm (List.Perm.cons _ (perm_last (p2 _))), k B n qs ⟨h1, h2, h3⟩⟩
end
theorem Memory_told (G : G0 w p loose mean mg mb hb) {m : MemO} {ms : List (Int × Int)} (hm : m.Is w ms) (hz : ms.length ≤ 100000) :
    Does w hb 3 120 356 [.ref m.x] [] (m.led w) (fun v b => ∃ (T : Addr) (qs : List PrO), v = .ref T ∧ PairsOf ms qs ∧ b = (T, tupOf (qs.map PrO.val).toArray 0) :: (m.led w ++ qs.map PrO.ent)) := by
  refine' enterB (binds := [(Str.ofString "self", .ref m.x)]) (by assumption) ?k6 ?k7 ?k9 ?kB [(Str.ofString "self", .ref m.x)] rfl ?_ ?c2 ?c3 ?c4 ?c5
  case k6 => k_is
  case k7 => k_is
  case k9 => (intro s hs; first | exact BindsTo.of_eq rfl | exact binds_K (Frag.In.keeps (G0.X (by assumption)) hs) rfl (by k_is) rfl rfl rfl)
  case c5 => decide
  case kB => exact locs rfl
  case c2 => exact rfl
  case c3 => exact rfl
  case c4 => exact rfl
  intro C Q hR fini finn perm env l led he
  repeat (walk_at "m ev")
  refine' c_written hR rfl hm hz ?sl ?_
  case sl => kpt_turns
  intro B n qs hq _
  have hl := hq.len
  repeat (walk_at "m ev")
  refine' c_tupleList ?hm2 ?hz2 ?_
  case hm2 => lcg_off
  case hz2 => rw [List.length_map, sizeLine_eq]; lia
  intro T _
  repeat (walk_at "m ev")
  refine' perm ?ss (fini ⟨T, qs, rfl, hq, rfl⟩)
  case ss => walk_at "m pkt"
section
variable {C : Cx w} {l : Loc} {led : Led} {Q : Value → Loc → Led → Prop} {N U : Nat} {fl : Led → Led}
theorem c_mtold {m : MemO} {ms : List (Int × Int)} (hR : Room C N U) (hle : (Nat.ble 3 N && Nat.ble 120 U) = true) (hm : m.Is w ms) (hz : ms.length ≤ 100000) (sl : Slot (m.led w) led fl)
    (k : ∀ (T : Addr) (qs : List PrO), PairsOf ms qs → let led' : Led := (T, tupOf (qs.map PrO.val).toArray 0) :: (fl (m.led w) ++ qs.map PrO.ent); Q (.ref T) l led') : Wp C (call (.ref 356) [.ref m.x]) Q l led := fun s S => by
  obtain ⟨rest, p1, p2⟩ := sl.perm
  have r := hR.le hle
  exact use (Memory_told C.G₀ hm hz) C.G (S.perm p1) .here C.hh r.d r.u fun v led' s' r S' => by
    obtain ⟨T, qs, rfl, h1, rfl⟩ := r
    refine ⟨_, _, S'.perm (List.Perm.cons _ ?_), k T qs h1⟩
    exact (List.Perm.append_right rest List.perm_append_comm).trans (perm_last (p2 _))
end
end
-- F26
section
variable {w : World} {p : Program} {loose : List Str} {mean : ExcName → Option Value} {mg mb : Str → Option Value} {hb : Heap}
structure TellO where
  T : Addr
  a : Addr
  b : Addr
  c : Addr
  d : Addr
  f : Addr
  rv : List Value
  xv : List Value
  fv : List Value
  qs : List PrO
  rip : Int
  fs : Int
  gs : Int
  t1 : Tok
  t2 : Tok
  t3 : Tok
noncomputable abbrev TellO.hd (o : TellO) : Led := [(o.T, tupOf [Value.ref o.a, .ref o.b, .ref o.c, .ref o.d, .int o.rip o.t1, .ref o.f, .bool false].toArray 0), (o.a, tupOf o.rv.toArray 0), (o.b, tupOf o.xv.toArray 0), (o.c, tupOf o.fv.toArray 0),
  (o.d, tupOf (o.qs.map PrO.val).toArray 0), (o.f, tupOf [Value.int o.fs o.t2, .int o.gs o.t3].toArray 0)]
noncomputable abbrev TellO.led (o : TellO) : Led := o.hd ++ o.qs.map PrO.ent
structure TellO.Is (o : TellO) (z : MState) : Prop where
  regs : IntsAre o.rv z.regs
  xmm : IntsAre o.xv z.xmm
  flags : IntsAre o.fv [0, 0, 0, 0, 0, 0, 0]
  mem : PairsOf z.mem o.qs
  rip : o.rip = z.rip
  fs : o.fs = z.fs
  gs : o.gs = z.gs
theorem SubL.mid {a b c : Led} : SubL ((a ++ c) ++ b) (a ++ (b ++ c)) := .of (r := []) (by rw [List.append_nil, List.append_assoc]; exact List.perm_append_comm.append_left a)
section
variable {C : Cx w} {l : Loc} {led : Led} {Q : Value → Loc → Led → Prop} {N U : Nat} {fl : Led → Led}
theorem c_ftold {f : FlgO} (hR : Room C N U) (hle : (Nat.ble 1 N && Nat.ble 10 U) = true) (sl : Slot (f.led w) led fl)
    (k : ∀ (T : Addr) (vs : List Value), IntsAre vs [0, 0, 0, 0, 0, 0, 0] → let led' : Led := fl ((T, tupOf vs.toArray 0) :: f.led w); Q (.ref T) l led') : Wp C (call (.ref 115) [.ref f.x]) Q l led :=
  c_does (Flags_told C.G₀) sl hR hle (by rintro _ _ ⟨T, vs, rfl, h, rfl⟩; exact k T vs h)
end
theorem State_told (G : G0 w p loose mean mg mb hb) {σ : Mac} {z : MState} (hσ : σ.Is w z) (hz : z.Ok) (hlen : z.mem.length ≤ 100000) :
    Does w hb 4 160 466 [.ref σ.st] [] (σ.led w) (fun v b => ∃ o : TellO, v = .ref o.T ∧ o.Is z ∧ b = o.led ++ σ.led w) := by
  have hreg := hσ.regs
  have hxmm := hσ.xmm
  obtain ⟨t1, t2, hseg⟩ := hσ.seg
  have l1 := hz.regs
  have l2 := hz.xmm
  have v1 := hreg.length
  have v2 := hxmm.length
  refine' enterB (binds := [(Str.ofString "self", .ref σ.st)]) (by assumption) ?k6 ?k7 ?k9 ?kB [(Str.ofString "self", .ref σ.st)] rfl ?_ ?c2 ?c3 ?c4 ?c5
  case k6 => k_is
  case k7 => k_is
  case k9 => (intro s hs; first | exact BindsTo.of_eq rfl | exact binds_K (Frag.In.keeps (G0.X (by assumption)) hs) rfl (by k_is) rfl rfl rfl)
  case c5 => decide
  case kB => exact locs rfl
  case c2 => exact rfl
  case c3 => exact rfl
  case c4 => exact rfl
  intro C Q hR fini finn perm env l led he
  repeat (walk_at "m ev")
  refine' c_tupleList ?hm2 ?hz2 ?_
  case hm2 => lcg_off
  case hz2 => rw [sizeLine_eq]; lia
  intro T1 _
  repeat (walk_at "m ev")
  refine' c_tupleList ?hm2 ?hz2 ?_
  case hm2 => lcg_off
  case hz2 => rw [sizeLine_eq]; lia
  intro T2 _
  repeat (walk_at "m ev")
  refine' c_ftold hR rfl ?sl ?_
  case sl => kpt_turns
  intro T3 fv hf _
  repeat (walk_at "m ev")
  refine' c_mtold hR rfl hσ.mem hlen ?sl ?_
  case sl => kpt_turns
  intro T4 qs hq _
  repeat (walk_at "m ev")
  refine' perm (.trans .mid ?ss) (fini ⟨(⟨_, _, _, _, _, _, σ.rvs, σ.xvs, fv, qs, σ.rip, z.fs, z.gs, _, _, _⟩ : TellO), rfl, ⟨hreg, hxmm, hf, hq, hσ.rip, rfl, rfl⟩, rfl⟩)
  case ss => walk_at "m pkt"
end
-- F27
section
variable {w : World} {p : Program} {loose : List Str} {mean : ExcName → Option Value} {mg mb : Str → Option Value} {hb : Heap}
section
variable {C : Cx w} {l : Loc} {led : Led} {Q : Value → Loc → Led → Prop} {N U : Nat} {fl : Led → Led}
theorem c_State (hR : Room C N U) (hle : (Nat.ble 4 N && Nat.ble 44 U) = true) (k : ∀ σ : Mac, σ.Is w z0 → let led' : Led := σ.led w ++ led; Q (.ref σ.st) l led') : Wp C (call (.ref 476) [.none]) Q l led :=
  c_make (by k_is) (by k_is) (by k_is) (fun x dx => State_init C.G₀ (x := x) (dx := dx)) hR hle (by rintro x dx led' ⟨σ, rfl, hσ, rfl⟩; exact k σ hσ)
theorem c_fcopy {f : FlgO} (hR : Room C N U) (hle : (Nat.ble 4 N && Nat.ble 80 U) = true) (sl : Slot (f.led w) led fl) (k : ∀ f' : FlgO, let led' : Led := fl (f'.led w ++ f.led w); Q (.ref f'.x) l led') : Wp C (call (.ref 143) [.ref f.x]) Q l led :=
  c_does (Flags_copy C.G₀) sl hR hle (by rintro _ _ ⟨f', rfl, rfl⟩; exact k f')
theorem c_mcopy {m : MemO} {ms : List (Int × Int)} (hR : Room C N U) (hle : (Nat.ble 4 N && Nat.ble 80 U) = true) (hm : m.Is w ms) (hz : ms.length ≤ 1000000) (sl : Slot (m.led w) led fl)
    (k : ∀ m' : MemO, m'.Is w ms → let led' : Led := fl (m'.led w ++ m.led w); Q (.ref m'.x) l led') : Wp C (call (.ref 349) [.ref m.x]) Q l led :=
  c_does (Memory_copy C.G₀ hm hz) sl hR hle (by rintro _ _ ⟨m', rfl, h, rfl⟩; exact k m' h)
end
local macro_rules | `(tactic| lcg_src) => `(tactic| first
  | with_reducible exact At.here | ((with_reducible refine' At.skip ?LZ0); (case LZ0 => lcg_src))
  | ((with_reducible refine' At.left ?LZ0); (case LZ0 => lcg_src)) | ((with_reducible refine' At.right ?LZ0); (case LZ0 => lcg_src)))
local macro_rules | `(tactic| lcg_sub) => `(tactic| first | exact ixn 0 | exact ixn 1 | exact ixn 2 | exact ixn 3 | exact ixn 4 | exact ixn 5 | exact ixn 6 | exact ixn 7 | exact ixn 8 | exact ixn 9 | exact ixn 10 | exact ixn 11 | exact ixn 12 | exact ixn 13 | exact ixn 14 | exact ixn 15 | exact ixn 16 | exact ixn 17 | exact ixn 18 | exact ixn 19 | exact ixn 20 | exact ixn 21 | exact ixn 22 | exact ixn 23 | exact ixn 24 | exact ixn 25 | exact ixn 26 | exact ixn 27 | exact ixn 28 | exact ixn 29 | exact ixn 30 | exact ixn 31 | exact ixn 32 | exact ixn 33)
theorem State_copy (G : G0 w p loose mean mg mb hb) {σ : Mac} {z : MState} (hσ : σ.Is w z) (hz : z.Ok) (hlen : z.mem.length ≤ 100000) :
    Does w hb 5 160 473 [.ref σ.st] [] (σ.led w) (fun v b => ∃ σ' : Mac, v = .ref σ'.st ∧ σ'.Is w z ∧ b = σ'.led w ++ σ.led w) := by
  have hreg := hσ.regs
  have hxmm := hσ.xmm
  have hmem := hσ.mem
  obtain ⟨t1, t2, hseg⟩ := hσ.seg
  have l1 := hz.regs
  have l2 := hz.xmm
  have v1 := hreg.length
  have v2 := hxmm.length
  refine' enterB (binds := [(Str.ofString "self", .ref σ.st)]) (by assumption) ?k6 ?k7 ?k9 ?kB [(Str.ofString "self", .ref σ.st)] rfl ?_ ?c2 ?c3 ?c4 ?c5
  case k6 => k_is
  case k7 => k_is
  case k9 => (intro s hs; first | exact BindsTo.of_eq rfl | exact binds_K (Frag.In.keeps (G0.X (by assumption)) hs) rfl (by k_is) rfl rfl rfl)
  case c5 => decide
  case kB => exact locs rfl
  case c2 => exact rfl
  case c3 => exact rfl
  case c4 => exact rfl
  intro C Q hR fini finn perm env l led he
  repeat (walk_at "m ev")
  refine c_State hR rfl ?_
  intro σ₁ _ _
  repeat (walk_at "m ev")
  refine' c_listCopy ?hm2 ?hz2 ?_
  case hm2 => lcg_off
  case hz2 => rw [sizeLine_eq]; lia
  intro B1 k1 _
  repeat (walk_at "m ev")
  refine' c_listCopy ?hm2 ?hz2 ?_
  case hm2 => lcg_off
  case hz2 => rw [sizeLine_eq]; lia
  intro B2 k2 _
  repeat (walk_at "m ev")
  refine' c_fcopy hR rfl ?sl ?_
  case sl => kpt_turns
  intro f' _
  repeat (walk_at "m ev")
  refine' c_mcopy hR rfl hmem (by lia) ?sl ?_
  case sl => kpt_turns
  intro m' hm' _
  repeat (walk_at "m ev")
  obtain ⟨σ', e1, e2, _, e3⟩ := macRaw_is (w := w) (z := z) hreg hxmm hm' hσ.rip ⟨_, _, by assumption⟩
  refine' perm (t := macRaw w σ₁.st σ₁.sd B1 B2 _ _ _ σ.rvs σ.xvs _ σ.rip f' m' _ _ _ _ _ _ _ _ _ _ _ ++ σ.led w) ?ss (fini ⟨σ', by rw [e1], e2, congrArg (fun x => x ++ σ.led w) e3⟩)
  case ss => walk_at "m pk"
end
-- Plain7
noncomputable def runF : Int → List Int → List (Int × Int)
  | _, [] => []
  | b, x :: r => (b, x) :: runF (b + 1) r
theorem runF_snoc : ∀ (b : Int) (r : List Int) (x : Int), runF b (r ++ [x]) = runF b r ++ [(b + r.length, x)]
  | b, [], x => by simp [runF]
  | b, y :: r, x => by
    have ih := runF_snoc (b + 1) r x
    simp only [List.cons_append, runF, ih, List.length_cons]
    rw [show b + 1 + (r.length : Int) = b + ((r.length + 1 : Nat) : Int) by lia]
structure SpnO where
  T : Addr
  b : Int
  r : List Int
  t : Tok
  u : Tok
noncomputable def SpnO.obj (p : SpnO) : Obj := tupOf [Value.int p.b p.t, .bytes (byteArr p.r) p.u].toArray 0
noncomputable abbrev SpnO.ent (p : SpnO) : Addr × Obj := (p.T, p.obj)
noncomputable def SpnO.val (p : SpnO) : Value := .ref p.T
noncomputable def SpnO.pr (p : SpnO) : Int × List Int := (p.b, p.r)
noncomputable def flatS (F : List (Int × List Int)) : List (Int × Int) := (F.map fun f => runF f.1 f.2).flatten
structure SpansOf (ps : List (Int × Int)) (F : List (Int × List Int)) : Prop where
  flat : flatS F = ps
  ne : ∀ f ∈ F, f.2 ≠ []
  oct : ∀ f ∈ F, Oct f.2
  sep : F.Pairwise fun f g => f.1 + (f.2.length : Int) < g.1
theorem flatS_snoc (F : List (Int × List Int)) (f : Int × List Int) : flatS (F ++ [f]) = flatS F ++ runF f.1 f.2 := by simp [flatS]
structure SpInv (ps : List (Int × Int)) (F : List (Int × List Int)) (b : Int) (r : List Int) (i : Nat) : Prop where
  sp : r ≠ [] → SpansOf (ps.take i) (F ++ [(b, r)])
  e : r = [] → F = [] ∧ i = 0
theorem SpInv.start (ps : List (Int × Int)) : SpInv ps [] 0 [] 0 := ⟨fun h => absurd rfl h, fun _ => ⟨rfl, rfl⟩⟩
section
variable {ps : List (Int × Int)} {F : List (Int × List Int)} {b k n : Int} {r : List Int} {i : Nat}
theorem take_snoc {α : Type} {l : List α} {i : Nat} {x : α} (h : l[i]? = some x) : l.take (i + 1) = l.take i ++ [x] := by rw [List.take_add_one, h]; rfl
theorem SpInv.first (I : SpInv ps F b [] i) (h : ps[i]? = some (k, n)) (hn : 0 ≤ n ∧ n < 256) : SpInv ps F k [n] (i + 1) := by
  obtain ⟨rfl, rfl⟩ := I.e rfl
  refine ⟨fun _ => ⟨?_, ?_, ?_, ?_⟩, fun h => by simp at h⟩
  · rw [take_snoc h]; simp [flatS, runF]
  · intro f hf; simp at hf; rw [hf]; simp
  · intro f hf; simp at hf; rw [hf]; intro x hx; simp at hx; rw [hx]; exact hn
  · simp
theorem SpInv.grow (I : SpInv ps F b r i) (hr : r ≠ []) (h : ps[i]? = some (k, n)) (hn : 0 ≤ n ∧ n < 256) (e : k = b + r.length) : SpInv ps F b (r ++ [n]) (i + 1) := by
  have S := I.sp hr
  refine ⟨fun _ => ⟨?_, ?_, ?_, ?_⟩, fun h => by simp at h⟩
  · rw [take_snoc h, ← S.flat, flatS_snoc, flatS_snoc]
    show _ ++ runF b (r ++ [n]) = _
    rw [runF_snoc, ← e, List.append_assoc]
  · intro f hf
    rcases List.mem_append.mp hf with hm | hm
    · exact S.ne f (List.mem_append_left _ hm)
    · simp at hm; rw [hm]; simp
  · intro f hf
    rcases List.mem_append.mp hf with hm | hm
    · exact S.oct f (List.mem_append_left _ hm)
    · simp at hm; rw [hm]
      intro x hx
      rcases List.mem_append.mp hx with h1 | h1
      · exact S.oct (b, r) (by simp) x h1
      · simp at h1; rw [h1]; exact hn
  · have := List.pairwise_append.mp S.sep
    refine List.pairwise_append.mpr ⟨this.1, List.pairwise_singleton _ _, fun f hf g hg => ?_⟩
    simp at hg; rw [hg]
    exact this.2.2 f hf (b, r) (by simp)
theorem runF_last : ∀ {b : Int} {r : List Int}, r ≠ [] → ∃ x, (b + r.length - 1, x) ∈ runF b r
  | b, [x], _ => ⟨x, by simp [runF]⟩
  | b, x :: y :: r, _ => by
    obtain ⟨z, hz⟩ := runF_last (b := b + 1) (r := y :: r) (by simp)
    refine ⟨z, ?_⟩
    rw [runF]
    refine List.mem_cons_of_mem _ ?_
    have e : b + ((x :: y :: r).length : Int) - 1 = b + 1 + ((y :: r).length : Int) - 1 := by simp only [List.length_cons]; lia
    rw [e]; exact hz
theorem SpInv.next (I : SpInv ps F b r i) (hr : r ≠ []) (h : ps[i]? = some (k, n)) (hn : 0 ≤ n ∧ n < 256) (e : k ≠ b + r.length) (hs : ps.Pairwise fun x y => x.1 < y.1) : SpInv ps (F ++ [(b, r)]) k [n] (i + 1) := by
  have S := I.sp hr
  have hlt : b + r.length < k := by
    obtain ⟨x, hx⟩ := runF_last (b := b) hr
    have hm : (b + (r.length : Int) - 1, x) ∈ ps.take i := by
      rw [← S.flat, flatS_snoc]
      exact List.mem_append_right _ hx
    obtain ⟨j, hj⟩ := List.mem_iff_getElem?.mp hm
    rw [List.getElem?_take] at hj
    split at hj
    · obtain ⟨hi', e1⟩ := List.getElem?_eq_some_iff.mp h
      obtain ⟨hj', e2⟩ := List.getElem?_eq_some_iff.mp hj
      have := List.pairwise_iff_getElem.mp hs j i hj' hi' (by lia)
      rw [e1, e2] at this
      dsimp only at this
      lia
    · cases hj
  refine ⟨fun _ => ⟨?_, ?_, ?_, ?_⟩, fun h => by simp at h⟩
  · rw [take_snoc h, flatS_snoc, S.flat]; rfl
  · intro f hf
    rcases List.mem_append.mp hf with hm | hm
    · exact S.ne f hm
    · simp at hm; rw [hm]; simp
  · intro f hf
    rcases List.mem_append.mp hf with hm | hm
    · exact S.oct f hm
    · simp at hm; rw [hm]; intro x hx; simp at hx; rw [hx]; exact hn
  · refine List.pairwise_append.mpr ⟨S.sep, List.pairwise_singleton _ _, fun f hf g hg => ?_⟩
    simp at hg; rw [hg]
    show f.1 + f.2.length < k
    rcases List.mem_append.mp hf with hm | hm
    · have := (List.pairwise_append.mp S.sep).2.2 f hm (b, r) (by simp)
      dsimp only at this
      lia
    · simp at hm; rw [hm]; exact hlt
theorem SpInv.done (I : SpInv ps F b r ps.length) (hr : r ≠ []) : SpansOf ps (F ++ [(b, r)]) := by
  have := I.sp hr
  rwa [List.take_length] at this
theorem SpInv.done0 (I : SpInv ps F b [] ps.length) : SpansOf ps F := by
  obtain ⟨rfl, e⟩ := I.e rfl
  have : ps = [] := List.length_eq_zero_iff.mp e
  subst this
  exact ⟨rfl, by simp, by simp, .nil⟩
end
theorem PairsOf.kvLt {ms : List (Int × Int)} {qs : List PrO} (h : PairsOf ms qs) : (qs.map PrO.kv).Pairwise fun x y => x.1 < y.1 := by
  refine List.pairwise_map.mpr ?_
  have h2 : qs.Pairwise fun x y => x.k ≠ y.k := List.pairwise_map.mp h.nd
  exact (h.srt.and h2).imp fun ⟨a, b⟩ => by show (_ : Int) < _; exact Int.lt_iff_le_and_ne.mpr ⟨a, b⟩
theorem PairsOf.oct {ms : List (Int × Int)} {qs : List PrO} (h : PairsOf ms qs) (ho : OctM ms) : ∀ q ∈ qs, 0 ≤ q.v ∧ q.v < 256 := fun q hq => by
  have := h.perm.mem_iff.mp (List.mem_map_of_mem (f := PrO.kv) hq)
  exact ho _ ((List.mem_filter.mp this).1)
-- Rules11
section
variable {w : World} {p : Program} {loose : List Str} {mean : ExcName → Option Value} {mg mb : Str → Option Value} {hb g : Heap} {L : Addr} {W : List Addr} {l : Loc} {news led : Led} {s₀ s : Shared}
  {A : Around} {E : Value → Shared → Prop} {Q : Value → Shared → Prop} {env : Env} {D : Addr} {vs : List Value} {n : Nat}
theorem r_forWT {target : Expr} {body : List Stmt} {I : Addr} {o₀ : Obj} {fx : Led} {fp wr : List Addr} {N : Nat} {P : Nat → Value → Prop} {It : Nat → Heap → Prop} {Q : Flow → Shared → Prop} {Er : Value → Shared → Prop}
    (Wk : Walks pgm w A I fp wr N P It) (hfp : ∀ b ∈ fp, b = I ∨ b ∈ fx.map (·.1)) (hwr : ∀ b ∈ wr, b = I) (hI : ∀ i h, It i h → ∃ o, h.get? I = some o)
    (hgo : ∀ i v (s : Shared) (Q : Unit → Shared → Prop) (E : Value → Shared → Prop), P i v → It (i + 1) s.heap → Q () s → wpAny (model pgm w) A (letOwnedTupleGo target (.ref I) v) Q E s)
    (J : Nat → Loc → Led → Prop) (S : St g L W l ((I, o₀) :: (fx ++ led)) s₀ s) (hst : It 0 s.heap) (hJ : J 0 l led)
    (turn : ∀ i v oI l led s E', i < N → P i v → J i l led → St g L W l ((I, oI) :: (fx ++ led)) s₀ s →
      wpAny (model pgm w) A (assign target env v) (fun _ s₂ => wpAny (model pgm w) A (execs body env) (fun f s₃ => match f with
        | .next | .cont => ∃ l' led', J (i + 1) l' led' ∧ St g L W l' ((I, oI) :: (fx ++ led')) s₀ s₃
        | .brk => Q .next s₃
        | .ret v => Q (.ret v) s₃) E' s₂) E' s)
    (fin : ∀ l led s, J N l led → St g L W l (fx ++ led) s₀ s → Q .next s) :
    codeAny (model pgm w) A (.forLoop target (.ref I) body [] env) (fun r s' => match r with | .ok f => Q f s' | .error e => Er e s') s := by
  refine codeAny_forLoop_any (FInv g L W I fx s₀ N J It) ?_ (N + 1) ⟨0, o₀, l, led, rfl, Nat.zero_le _, hJ, hst, S⟩
  rintro k s ⟨i, oI, l, led, rfl, hi, hJ, hst, S⟩
  by_cases hlt : i < N
  · refine Wk.item i s _ _ hlt hst fun v h' tk hP hst' hk => ?_
    obtain ⟨oI', ho'⟩ := hI _ _ hst'
    have S' := S.mod .here (fun b x hb e => hk b x (fun hm => hb (hwr b hm)) e) ho' tk
    refine hgo i v _ _ _ hP hst' ?_
    refine wpAny_mono (turn i v oI' l led _ _ hlt hP hJ S') (fun _ s₂ h₂ => wpAny_mono h₂ (fun fl s₃ h₃ => ?_) fun _ _ e => e) fun _ _ e => e
    have back : (∃ l' led', J (i + 1) l' led' ∧ St g L W l' ((I, oI') :: (fx ++ led')) s₀ s₃) → ∃ m, m < N + 1 - i ∧ FInv g L W I fx s₀ N J It m s₃ := by
      rintro ⟨l', led', hJ', S₃⟩
      refine ⟨N + 1 - (i + 1), by omega, i + 1, oI', l', led', rfl, hlt, hJ', Wk.frame _ _ _ hst' fun b hb o e => ?_, S₃⟩
      rcases hfp b hb with rfl | hm
      · have : o = oI' := Option.some.inj (e.symm.trans ho')
        rw [this]; exact S₃.at (.head _)
      · obtain ⟨q, hq, rfl⟩ := List.mem_map.mp hm
        have h1 := S'.at (a := q.1) (o := q.2) (.tail _ (List.mem_append_left _ hq))
        have : o = q.2 := Option.some.inj (e.symm.trans h1)
        rw [this]; exact S₃.at (.tail _ (List.mem_append_left _ hq))
    cases fl with
    | next => exact back h₃
    | cont => exact back h₃
    | brk => exact h₃
    | ret v => exact h₃
  · have hin : i = N := by lia
    subst hin
    refine Wk.done s _ _ hst fun h' tk hk => wpAny_execs_nil ?_
    exact fin l led _ hJ (S.dropMod (fun b x hb e => hk b x (fun hm => hb (hwr b hm)) e) tk)
theorem r_eqNil {B : Addr} {k : Nat} (S : St g L W l news s₀ s) (h1 : (D, listOf ([] : List Value).toArray n) ∈ news) (h2 : (B, listOf ([] : List Value).toArray k) ∈ news) (hu : A.units + 64 < cLine) (h : Q (.bool true) s) : wpAny (model pgm w) A (compareOp .Eq (.ref D) (.ref B)) Q E s :=
  r_eqInts S h1 .nil h2 .nil hu h
theorem r_neNil {B : Addr} {k : Nat} (S : St g L W l news s₀ s) (h1 : (D, listOf ([] : List Value).toArray n) ∈ news) (h2 : (B, listOf ([] : List Value).toArray k) ∈ news) (hu : A.units + 64 < cLine) (h : Q (.bool false) s) : wpAny (model pgm w) A (compareOp .NotEq (.ref D) (.ref B)) Q E s :=
  r_neInts S h1 .nil h2 .nil hu h
structure ItemsItT (w : World) (A : Around) (I D : Addr) (vs : List Value) (It : Nat → Heap → Prop) : Prop where
  walks : Walks pgm w A I [I, D] [I] vs.length (fun i v => vs[i]? = some v) It
  some : ∀ i h, It i h → ∃ o, h.get? I = some o
  go : ∀ elts x1 pos i T (s : Shared) (Q : Unit → Shared → Prop) (E : Value → Shared → Prop), It i s.heap → Q () s → wpAny (model pgm w) A (letOwnedTupleGo (.Tuple elts x1 pos) (.ref I) (.ref T)) Q E s
theorem r_listItT (S : St g L W l news s₀ s) (hm : (D, listOf vs.toArray n) ∈ news) (hh : A.handled = none)
    (h : ∀ I oI It s', ItemsItT w A I D vs It → It 0 s'.heap → St g L W l ((I, oI) :: news) s₀ s' → Q (.ref I) s') : wpAny (model pgm w) A (pyIter (.ref D)) Q E s := by
  refine wpAny_pyIter_list (S.lst hm) ?_
  have hne : D ≠ s.heap.objs.size := Nat.ne_of_lt (S.fresh _ hm)
  have Wk := Walks.list (prog := pgm) (w := w) (A := A) hh s.heap.objs.size D hne vs.toArray
  refine h _ _ _ _ ⟨⟨Wk.sub, Wk.frame, fun i s Q E hi st hQ => Wk.item i s Q E (by simpa using hi) st fun v h' tk hP => hQ v h' tk ?_, fun s Q E st hQ => Wk.done s Q E (by simpa using st) hQ, Wk.self⟩, fun i h' hI => ?_, fun elts x1 pos i T s Q E hI hQ => wpAny_letOwnedTupleGo_listiter hI.1 hQ⟩ ?_ (S.push { cls := .type "list_iterator", data := .fields #[.ref D, .int 0 0] })
  · simpa using hP
  · exact isListIter_some hI.1
  · exact ⟨⟨_, Heap.get?_push_size _ rfl, rfl, rfl⟩, (S.lst hm).push _⟩
end
-- Rules12
section
variable {w : World} {p : Program} {loose : List Str} {mean : ExcName → Option Value} {mg mb : Str → Option Value} {hb g : Heap} {L : Addr} {W : List Addr} {l : Loc} {news led : Led} {s₀ s : Shared}
  {A : Around} {E : Value → Shared → Prop} {Q : Value → Shared → Prop} {env : Env} {D : Addr} {vs : List Value} {n : Nat} {x : Str} {v : Value}
theorem r_storeCell {Q : Unit → Shared → Prop} {c : Addr} {o : Obj} {v₀ : Option Value} {fl : Obj → Led} (S : St g L W l news s₀ s) (U : At c o news fl) (hc : env.cells.lookup x = some c) (hdt : o.data = .cell v₀)
    (h : ∀ o' s', o'.data = .cell (some v) → St g L W l (fl o') s₀ s' → Q () s') (hk : env.scope.kind = .function := by rfl) (hx : env.kindOf x = some .cell := by rfl) : wpAny (model pgm w) A (storeName env x v) Q E s := by
  refine wpAny_storeName_cell hk hx hc ⟨o, S.at U.mem, hdt⟩ fun h' hc' hs => ?_
  obtain ⟨o', ho', hd'⟩ := hc'
  exact h o' _ hd' (S.put U hs ho' s.toks)
theorem r_range3 {a b c : Int} {t u v : Tok} (S : St g L W l news s₀ s) (hc : 0 < c) (hc2 : c < 1073741824) (h : ∀ r t u v s', St g L W l ((r, { cls := .type "range", data := .fields #[.int a t, .int b u, .int c v] }) :: news) s₀ s' → Q (.ref r) s') :
    wpAny (model pgm w) A (call (.type "range") [.int a t, .int b u, .int c v]) Q E s := call_range_3 (by lia) (h _ _ _ _ _ ((S.push _).tok s.toks)) (.inl (PyProof.noPylong_small (by omega)))
end
section
variable {w : World} {A : Around} {E : Value → Shared → Prop} {env : Env} {elt target iter : Expr} {ifs : List Expr} {scope : Scope} {cl : List (Str × Addr)} {pos : Pos} {Q : Value → Shared → Prop} {g : Heap} {L : Addr} {W : List Addr} {l : Loc} {news led fx : Led} {s₀ s : Shared} {a b c : Int}
theorem r_compS {N : Nat} {r : Addr} {t1 t2 t3 : Tok} (hc : 0 < c) (hN : (Builtin.Range.rangeSize a b c).toNat = N) (hh : A.handled = none)
    (S : St g L W l ((r, { cls := .type "range", data := .fields #[.int a t1, .int b t2, .int c t3] }) :: news) s₀ s)
    (J : Nat → List Value → Led → Prop) (hJ : J 0 [] news) (hlen : ∀ i ys led, J i ys led → ys.length ≤ sizeLine)
    (hcell : ∀ y ∈ scope.names, y.2 ≠ .cell) (hkind : scope.kind = .function)
    (turn : ∀ (C D : Addr) oL (i : Nat) (t : Tok) (I : Addr) oI ys n led s E' W', i < N → J i ys led → St g C W' [] ((L, oL) :: (D, listOf ys.toArray n) :: (I, oI) :: led) s₀ s →
      wpAny (model pgm w) A (assign target (compEnvC scope cl C env) (.int (a + i * c) t)) (fun _ s₂ =>
        wpAny (model pgm w) A (forIn ifs true fun c r => if r = true then do let ok ← isTrue c (compEnvC scope cl C env) (eval c (compEnvC scope cl C env)); pure (ForInStep.yield ok) else pure (ForInStep.yield r)) (fun ok s₃ =>
          if ok = true then wpAny (model pgm w) A (eval elt (compEnvC scope cl C env)) (fun y s₄ => ∃ l' led', J (i + 1) (ys ++ [y]) led' ∧ St g C W' l' ((L, oL) :: (D, listOf ys.toArray n) :: (I, oI) :: led') s₀ s₄) E' s₃
          else ∃ l' led', J (i + 1) ys led' ∧ St g C W' l' ((L, oL) :: (D, listOf ys.toArray n) :: (I, oI) :: led') s₀ s₃) E' s₂) E' s)
    (fin : ∀ D ys n led s, J N ys led → St g L W l ((D, listOf ys.toArray n) :: led) s₀ s → Q (.ref D) s)
    (ht : ∀ x v, letOwnedTupleGo target x v = pure () := by intro _ _; rfl) :
    wpAny (model pgm w) A (pyIter (.ref r)) (fun it s₂ => CompGo w A E env elt target iter ifs scope cl pos Q it s₂) E s := by
  refine r_rangeIt S hh hc fun I o It s' K h0 S' => ?_
  obtain ⟨Wk, hI⟩ := K
  rw [hN] at Wk
  refine r_compW (fx := []) Wk (by simp) (by simp) hI J (o₀ := o) (led := news) S' h0 hJ hlen hcell hkind (fun C D oL i v oI ys n led s E' W' hi hP hJ S => ?_) (fun D ys n led s hJ S => fin D ys n led s hJ S) (fun v => ht _ _)
  obtain ⟨t, rfl⟩ := hP
  exact turn C D oL i t I oI ys n led s E' W' hi hJ S
end
-- Plain8
theorem blk_bytesAt (ms : List (Int × Int)) (a : Int) {n j k : Nat} (h : j + k ≤ n) : blk (bytesAt ms a n) j k = bytesAt ms (a + (j : Int)) k := by
  apply List.ext_getElem?
  intro i
  rw [blk_get]
  simp only [bytesAt, List.getElem?_map]
  by_cases hi : i < k
  · rw [if_pos hi, List.getElem?_range (by lia), List.getElem?_range hi]
    simp only [Option.map_some]
    congr 3
    push_cast; lia
  · rw [if_neg hi, List.getElem?_eq_none (by simp; lia)]; rfl
noncomputable def hits (p : Nat → Bool) (i : Nat) : List Int := ((List.range i).filter p).map fun (j : Nat) => (j : Int)
theorem hits_succ (p : Nat → Bool) (i : Nat) : hits p (i + 1) = hits p i ++ (if p i = true then [(i : Int)] else []) := by
  unfold hits
  rw [List.range_succ, List.filter_append, List.map_append]
  cases h : p i <;> simp [h]
theorem hits_len (p : Nat → Bool) (i : Nat) : (hits p i).length ≤ i := by
  unfold hits
  rw [List.length_map]
  exact Nat.le_trans (List.length_filter_le _ _) (Nat.le_of_eq (List.length_range ..))
theorem hits_first {p : Nat → Bool} {n i : Nat} (hi : i < n) (hp : p i = true) (hno : ∀ j, j < i → p j = false) : ∃ r, hits p n = (i : Int) :: r := by
  have e : List.range n = List.range i ++ (i :: (List.range (n - i - 1)).map (fun x => i + 1 + x)) := by
    apply List.ext_getElem?
    intro k
    by_cases h1 : k < i
    · rw [List.getElem?_append_left (by simpa using h1), List.getElem?_range (by lia), List.getElem?_range h1]
    · rw [List.getElem?_append_right (by simpa using h1), List.length_range]
      by_cases h2 : k = i
      · subst h2; simp [hi]
      · obtain ⟨m, hm⟩ : ∃ m, k - i = m + 1 := ⟨k - i - 1, by lia⟩
        rw [hm, List.getElem?_cons_succ]
        by_cases h3 : k < n
        · rw [List.getElem?_range h3, List.getElem?_map, List.getElem?_range (by omega)]
          simp; lia
        · rw [List.getElem?_eq_none (by simp; lia), List.getElem?_eq_none (by simp; omega)]
  refine ⟨((((List.range (n - i - 1)).map (fun x => i + 1 + x)).filter p).map fun (j : Nat) => (j : Int)), ?_⟩
  unfold hits
  rw [e, List.filter_append, List.filter_cons, if_pos hp]
  have h0 : (List.range i).filter p = [] := List.filter_eq_nil_iff.mpr fun j hj => by rw [hno j (List.mem_range.mp hj)]; decide
  rw [h0]
  rfl
theorem least_of {p : Nat → Bool} {n i : Nat} (hi : i < n) (hp : p i = true) : ∃ j, j < n ∧ p j = true ∧ ∀ k, k < j → p k = false := by
  induction i using Nat.strongRecOn with
  | _ i ih =>
    by_cases h : ∃ k, k < i ∧ p k = true
    · obtain ⟨k, h1, h2⟩ := h
      exact ih k h1 (by lia) h2
    · refine ⟨i, hi, hp, fun k hk => ?_⟩
      cases e : p k with
      | false => rfl
      | true => exact absurd ⟨k, hk, e⟩ h
theorem num_one (ms : List (Int × Int)) (a : Int) : num (bytesAt ms a 1) = look ms (a % 2 ^ 64) := by
  simp [bytesAt, num]
theorem runF_get : ∀ {b : Int} {r : List Int} {i : Nat} {x : Int}, r[i]? = some x → (runF b r)[i]? = some (b + (i : Int), x)
  | _, [], _, _, h => by simp at h
  | b, y :: r, 0, x, h => by simp at h; simp [runF, h]
  | b, y :: r, i + 1, x, h => by
    rw [List.getElem?_cons_succ] at h
    rw [runF, List.getElem?_cons_succ, runF_get h]
    congr 2
    push_cast; lia
theorem runF_len : ∀ (b : Int) (r : List Int), (runF b r).length = r.length
  | _, [] => rfl
  | b, y :: r => by rw [runF, List.length_cons, runF_len, List.length_cons]
theorem byte_get {r : List Int} (h : Oct r) {i : Nat} {c : UInt8} (e : (byteArr r)[i]? = some c) : r[i]? = some (c.toNat : Int) := by
  have e' : (byteArr r).toList[i]? = some c := by rw [Array.getElem?_toList]; exact e
  simp only [byteArr, List.getElem?_map] at e'
  cases hx : r[i]? with
  | none => rw [hx] at e'; simp at e'
  | some x =>
    rw [hx] at e'
    simp at e'
    have hb := h x (List.mem_of_getElem? hx)
    rw [← e']
    congr 1
    simp only [UInt8.toNat_ofNat']
    lia
theorem flat_len : ∀ {F : List (Int × List Int)} {f : Int × List Int}, f ∈ F → f.2.length ≤ (flatS F).length
  | [], _, h => by simp at h
  | g :: F, f, h => by
    have e : (flatS (g :: F)).length = g.2.length + (flatS F).length := by simp [flatS, runF_len]
    rw [e]
    rcases List.mem_cons.mp h with rfl | h
    · lia
    · have := flat_len h; lia
theorem flat_take {F : List (Int × List Int)} {i : Nat} {f : Int × List Int} (h : F[i]? = some f) : flatS (F.take (i + 1)) = flatS (F.take i) ++ runF f.1 f.2 := by
  rw [take_snoc h, flatS_snoc]
-- B5
section
variable {w : World} {C : Cx w} {l : Loc} {led news : Led} {env : Env} {pos p1 : Pos} {D B : Addr} {vs : List Value} {n k N U : Nat}
theorem c_forLT {elts : List Expr} {x1 : Nat} {body : List Stmt} {Q : Flow → Loc → Led → Prop} (hT : ∀ v ∈ vs, ∃ T, v = Value.ref T) (J : Nat → Loc → Led → Prop) (hJ : J 0 l news)
    (turn : ∀ (i : Nat) (v : Value) (I : Addr) (oI : Obj) (l : Loc) (led : Led), i < vs.length → vs[i]? = some v → J i l led → let Q' : Unit → Loc → Led → Prop := kBody2 C env body (I, oI) (D, listOf vs.toArray n) (J (i + 1)) Q; let led' : Led := (I, oI) :: (D, listOf vs.toArray n) :: led; Wp C (assign (.Tuple elts x1 pos) env v) Q' l led')
    (fin : ∀ l led, J vs.length l led → let led' : Led := (D, listOf vs.toArray n) :: led; Q .next l led') : ForW C env (.Tuple elts x1 pos) body Q (.ref D) l ((D, listOf vs.toArray n) :: news) := fun s S => by
  refine r_listItT S (.head _) C.hh fun I oI It s' K h0 S' => ?_
  refine r_forWT (fx := [(D, listOf vs.toArray n)]) (led := news) (o₀ := oI) (Q := fun f s' => ∃ l' led', C.S l' led' s' ∧ Q f l' led') K.walks (by simp) (by simp) K.some ?_ J S' h0 hJ (fun i v oI l led s E' hi hP hj S => ?_) (fun l led s hj S => ⟨_, _, S, fin l led hj⟩)
  · intro i v s Q E hP hI hQ
    obtain ⟨T, rfl⟩ := hT v (List.mem_of_getElem? hP)
    exact K.go _ _ _ _ _ _ _ _ hI hQ
  · exact Wp.use (turn i v I oI l led hi hP hj) S fun _ l1 led1 s1 S1 q => Wp.use q S1 fun f l2 led2 s2 S2 q2 => by
      cases f with
      | next => obtain ⟨t, hs, t', rfl, j⟩ := q2; exact ⟨l2, t', j, hs.st S2⟩
      | cont => obtain ⟨t, hs, t', rfl, j⟩ := q2; exact ⟨l2, t', j, hs.st S2⟩
      | brk => exact ⟨_, _, S2, q2⟩
      | ret v => exact ⟨_, _, S2, q2⟩
theorem c_eqNil {Q : Value → Loc → Led → Prop} (h1 : (D, listOf ([] : List Value).toArray n) ∈ led) (h2 : (B, listOf ([] : List Value).toArray k) ∈ led) (hR : Room C N U) (hle : (Nat.ble 0 N && Nat.ble 64 U) = true) (h : Q (.bool true) l led) : Wp C (compareOp .Eq (.ref D) (.ref B)) Q l led := fun s S =>
  r_eqNil S h1 h2 (hR.le hle).u ⟨_, _, S, h⟩
theorem c_neNil {Q : Value → Loc → Led → Prop} (h1 : (D, listOf ([] : List Value).toArray n) ∈ led) (h2 : (B, listOf ([] : List Value).toArray k) ∈ led) (hR : Room C N U) (hle : (Nat.ble 0 N && Nat.ble 64 U) = true) (h : Q (.bool false) l led) : Wp C (compareOp .NotEq (.ref D) (.ref B)) Q l led := fun s S =>
  r_neNil S h1 h2 (hR.le hle).u ⟨_, _, S, h⟩
end
section
variable {w : World} {C : Cx w} {l l' : Loc} {led news : Led} {env : Env} {pos p1 : Pos} {elt target iter : Expr} {ifs : List Expr} {scope : Scope} {cl : List (Str × Addr)} {x : Str} {v : Value} {a b c : Int} {t u : Tok}
theorem c_storeCell {Q : Unit → Loc → Led → Prop} {cc : Addr} {o : Obj} {v₀ : Option Value} {fl : Obj → Led} (he : EnvOk C env) (U : At cc o led fl) (hc : env.cells.lookup x = some cc) (hdt : o.data = .cell v₀)
    (h : ∀ o', o'.data = .cell (some v) → let led' : Led := fl o'; Q () l led') (hx : env.kindOf x = some .cell := by with_unfolding_all rfl) : Wp C (storeName env x v) Q l led := fun s S =>
  r_storeCell S U hc hdt (fun o' s' hd S' => ⟨_, _, S', h o' hd⟩) he.k hx
theorem c_range3 {t v : Tok} {Q : Value → Loc → Led → Prop} (hc : 0 < c) (hc2 : c < 1073741824) (h : ∀ r t u v, let led' : Led := (r, { cls := .type "range", data := .fields #[.int a t, .int b u, .int c v] }) :: led; Q (.ref r) l led') : Wp C (call (.type "range") [.int a t, .int b u, .int c v]) Q l led := fun s S =>
  r_range3 S hc hc2 fun r t u v s' S' => ⟨_, _, S', h r t u v⟩
theorem c_compS {Q : Value → Loc → Led → Prop} {m : Nat} {r : Addr} {t1 t2 t3 : Tok} (hc : 0 < c) (hm : (Builtin.Range.rangeSize a b c).toNat = m) (he : EnvOk C env) (J : Nat → List Value → Led → Prop) (hJ : J 0 [] news) (hlen : ∀ i ys led, J i ys led → ys.length ≤ sizeLine)
    (turn : ∀ (i : Nat) (t : Tok), i < m → Item C env elt target ifs scope cl [] (J i) (J (i + 1)) (.int (a + i * c) t))
    (fin : ∀ D ys n led, J m ys led → let led' : Led := (D, listOf ys.toArray n) :: led; Q (.ref D) l led')
    (hcell : ∀ y ∈ scope.names, y.2 ≠ .cell := by decide) (hkind : scope.kind = .function := by with_unfolding_all rfl) (ht : ∀ x v, letOwnedTupleGo target x v = Pure.pure () := by intro _ _; with_unfolding_all rfl) :
    CompW C env elt target iter ifs scope cl pos Q (.ref r) l ((r, { cls := .type "range", data := .fields #[.int a t1, .int b t2, .int c t3] }) :: news) := fun s S =>
  r_compS hc hm C.hh S J hJ hlen hcell hkind (fun L' D oL i t I oI ys n led s E' W' hi hj S => item_st he hkind (turn i t hi) hj S) (fun D ys n led s hj S => ⟨_, _, S, fin D ys n led hj⟩) ht
end
-- F28
section
variable {w : World} {p : Program} {loose : List Str} {mean : ExcName → Option Value} {mg mb : Str → Option Value} {hb : Heap}
theorem spn_sub {ml e led : Led} {FO : Addr} {nf : Nat} {F : List SpnO} {sp : SpnO} (h : SubL ((FO, listOf (F.map SpnO.val ++ [sp.val]).toArray nf) :: (ml ++ (sp.ent :: (F.reverse.map SpnO.ent ++ e)))) led) :
    SubL ((FO, listOf ((F ++ [sp]).map SpnO.val).toArray nf) :: (ml ++ (F ++ [sp]).reverse.map SpnO.ent)) led := by
  refine SubL.trans ?_ h
  rw [List.map_append, List.reverse_append]
  show SubL ((FO, _) :: (ml ++ (sp.ent :: F.reverse.map SpnO.ent))) _
  rw [← List.cons_append (as := F.reverse.map SpnO.ent), ← List.append_assoc, ← List.cons_append]
  exact .left
theorem spn_sub0 {ml e led : Led} {q : Addr × Obj} {F : List SpnO} (h : SubL (q :: (ml ++ (F.reverse.map SpnO.ent ++ e))) led) : SubL (q :: (ml ++ F.reverse.map SpnO.ent)) led := by
  refine SubL.trans ?_ h
  rw [← List.append_assoc, ← List.cons_append]
  exact .left
theorem val_of {qs : List PrO} {i : Nat} {v : Value} (h : (qs.map PrO.val)[i]? = some v) {Z : Prop} (k : ∀ p', qs[i]? = some p' → v = p'.val → Z) : Z := by
  rw [List.getElem?_map] at h
  cases e : qs[i]? with
  | none => rw [e] at h; simp at h
  | some p' => rw [e] at h; simp at h; exact k p' e h.symm
inductive SpJ (w : World) (m : MemO) (qs : List PrO) (i : Nat) (l : Loc) (led : Led) : Prop
  | mk (FO R : Addr) (nf nr : Nat) (F : List SpnO) (b : Int) (tb : Tok) (vs : List Value) (r : List Int) (hl : LocIn [(Str.ofString "found", .ref FO), (Str.ofString "begin", .int b tb), (Str.ofString "row", .ref R)] l) (hv : IntsAre vs r) (hI : SpInv (qs.map PrO.kv) (F.map SpnO.pr) b r i)
    (hF : F.length ≤ i) (hr : r.length ≤ i) (e : led = (FO, listOf (F.map SpnO.val).toArray nf) :: (R, listOf vs.toArray nr) :: (m.led w ++ (F.reverse.map SpnO.ent ++ qs.map PrO.ent)))
theorem spans_does (G : G0 w p loose mean mg mb hb) {m : MemO} {ms : List (Int × Int)} (hm : m.Is w ms) (ho : OctM ms) (hz : ms.length ≤ 100000) :
    Does w hb 3 120 335 [.ref m.x] [] (m.led w) (fun v b => ∃ (FO : Addr) (nf : Nat) (F : List SpnO) (qs : List PrO), v = .ref FO ∧ PairsOf ms qs ∧ SpansOf (qs.map PrO.kv) (F.map SpnO.pr) ∧ F.length ≤ 100001 ∧
      b = (FO, listOf (F.map SpnO.val).toArray nf) :: (m.led w ++ F.reverse.map SpnO.ent)) := by
  refine' enterB (binds := [(Str.ofString "self", .ref m.x)]) (by assumption) ?k6 ?k7 ?k9 ?kB [(Str.ofString "self", .ref m.x)] rfl ?_ ?c2 ?c3 ?c4 ?c5
  case k6 => k_is
  case k7 => k_is
  case k9 => (intro s hs; first | exact BindsTo.of_eq rfl | exact binds_K (Frag.In.keeps (G0.X (by assumption)) hs) rfl (by k_is) rfl rfl rfl)
  case c5 => decide
  case kB => exact locs rfl
  case c2 => exact rfl
  case c3 => exact rfl
  case c4 => exact rfl
  intro C Q hR fini finn perm env l led he
  refine c_seq ?_
  intro _
  refine Wp.cut (fun f l' led' => f = Flow.next ∧ ∃ FO RO tb, LocIn [(Str.ofString "found", .ref FO), (Str.ofString "begin", .int 0 tb), (Str.ofString "row", .ref RO), (Str.ofString "self", .ref m.x)] l' ∧ SubL ((FO, listOf ([] : List Value).toArray 0) :: (RO, listOf ([] : List Value).toArray 0) :: m.led w) led') ?a1 ?_
  case a1 =>
    repeat (walk_at "m ev")
    refine' ⟨rfl, _, _, _, ⟨rfl, rfl, rfl, rfl, trivial⟩, ?ss⟩
    case ss => walk_at "m pk"
  rintro _ _ _ ⟨rfl, FO0, RO0, tb0, hl0, hs0⟩
  refine Wp.sub hs0 ?_
  refine Wp.named ?_
  intro led
  refine Wp.pick hl0 ?_
  intro l
  repeat (walk_at "m ev")
  refine' c_written hR rfl hm hz ?sl ?_
  case sl => kpt_turns
  intro B n qs hq _
  have hl := hq.len
  have hlt2 := hq.kvLt
  have hoct := hq.oct ho
  have hkl : (qs.map PrO.kv).length = qs.length := List.length_map ..
  refine' Wp.subF (t := (B, listOf (qs.map PrO.val).toArray n) :: (FO0, listOf (([] : List SpnO).map SpnO.val).toArray 0) :: (RO0, listOf ([] : List Value).toArray 0) :: (m.led w ++ (([] : List SpnO).reverse.map SpnO.ent ++ qs.map PrO.ent))) ?ss0 ?_
  case ss0 => walk_at "m pkt"
  refine' c_forLT ?hT (SpJ w m qs) ?hJ ?turn ?fin
  case hT =>
    intro v hv
    obtain ⟨p', _, rfl⟩ := List.mem_map.mp hv
    exact ⟨_, rfl⟩
  case hJ => exact ⟨FO0, RO0, 0, 0, [], 0, tb0, [], [], ⟨rfl, rfl, rfl, trivial⟩, .nil, .start _, Nat.le_refl _, Nat.le_refl _, rfl⟩
  case turn =>
    rintro i v I oI l _ hi hP ⟨FO, R, nf, nr, F, b, tb, vs, r, hl, hv, hI, hF, hr, rfl⟩ Q' led
    refine Wp.pick hl ?_
    intro l
    refine val_of hP fun p' hp' e => ?_
    subst e
    have hpm : p' ∈ qs := List.mem_of_getElem? hp'
    have hpk : (qs.map PrO.kv)[i]? = some (p'.k, p'.v) := by rw [List.getElem?_map, hp']; rfl
    have hpo := hoct p' hpm
    have hv' := hv.length
    rw [List.length_map] at hi
    refine' c_asgT (n := 0) (vs := [Value.int p'.k p'.t, .int p'.v p'.u]) he ?hm ?hx ?hn ?_ ?hl
    case hm => exact .tail _ (.tail _ (.tail _ (.tail _ (List.mem_append_right _ (List.mem_append_right _ (List.mem_map_of_mem (f := PrO.ent) hpm))))))
    case hx => exact rfl
    case hn => exact rfl
    case hl => exact rfl
    intro l
    cases r with
    | nil =>
      have hv0 : vs = [] := List.length_eq_zero_iff.mp hv'
      subst hv0
      repeat (walk_at "m ev")
      refine c_neNil (by lcg_off) (by lcg_off) hR rfl ?_
      repeat (walk_at "m ev")
      refine c_eqNil (by lcg_off) (by lcg_off) hR rfl ?_
      repeat (walk_at "m ev")
      refine' c_append (vs := []) ?U (Nat.zero_le _) ?_
      case U => lcg_src
      intro _
      repeat (walk_at "m ev")
      refine' Turn.sub2 (t := (FO, listOf (F.map SpnO.val).toArray nf) :: (R, listOf (([] : List Value) ++ [Value.int p'.v p'.u]).toArray (nr + 1)) :: (m.led w ++ (F.reverse.map SpnO.ent ++ qs.map PrO.ent))) ?ss ⟨FO, R, nf, nr + 1, F, p'.k, p'.t, _, [p'.v], ⟨rfl, rfl, rfl, trivial⟩, ints_snoc hv, hI.first hpk hpo, by lia, by simp, rfl⟩
      case ss => walk_at "m pkt"
    | cons r0 rr =>
      have hne : vs.length ≠ ([] : List Value).length := by rw [hv']; simp
      have hvl : vs.length ≤ 16777216 := by lia
      repeat (walk_at "m ev")
      refine c_neLen (vs := vs) (us := []) (by lcg_off) (by lcg_off) hne hR ?_
      repeat (walk_at "m ev")
      rw [hv']
      refine r_iteN (fun hpl => ?_) fun hpl => ?_
      ·
        have hr256 := (hI.sp (List.cons_ne_nil r0 rr)).oct (b, r0 :: rr) (by simp)
        repeat (walk_at "m ev")
        refine' c_bytes ?hm2 hv hr256 (by rw [hv.length, sizeLine_eq]; lia) ?_
        case hm2 => lcg_off
        intro tb
        repeat (walk_at "m ev")
        refine' c_append (vs := F.map SpnO.val) ?U (by rw [List.length_map, sizeLine_eq]; lia) ?_
        case U => lcg_src
        intro _
        repeat (walk_at "m ev")
        refine c_eqNil (by lcg_off) (by lcg_off) hR rfl ?_
        repeat (walk_at "m ev")
        refine' c_append (vs := []) ?U (Nat.zero_le _) ?_
        case U => lcg_src
        intro _
        repeat (walk_at "m ev")
        refine' Turn.sub2 (t := (FO, listOf (F.map SpnO.val ++ [SpnO.val ⟨_, b, r0 :: rr, _, _⟩]).toArray (nf + 1)) :: (_, listOf (([] : List Value) ++ [Value.int p'.v p'.u]).toArray 1) :: (m.led w ++ (SpnO.ent ⟨_, b, r0 :: rr, _, _⟩ :: (F.reverse.map SpnO.ent ++ qs.map PrO.ent)))) ?ss ⟨FO, _, nf + 1, 1, F ++ [⟨_, b, r0 :: rr, _, _⟩], p'.k, p'.t, [Value.int p'.v p'.u], [p'.v], ⟨rfl, rfl, rfl, trivial⟩, .cons _ _ .nil, ?g1, ?g2, ?g3, ?g4⟩
        case ss => walk_at "m pkt"
        case g1 =>
          rw [List.map_append]
          exact hI.next (List.cons_ne_nil _ _) hpk hpo hpl hlt2
        case g2 => rw [List.length_append]; simp; lia
        case g3 => simp
        case g4 => rw [List.map_append, List.reverse_append]; rfl
      ·
        repeat (walk_at "m ev")
        refine c_eqLen (vs := vs) (us := []) (by lcg_off) (by lcg_off) hne hR ?_
        repeat (walk_at "m ev")
        refine' c_append (vs := vs) ?U (by rw [sizeLine_eq]; lia) ?_
        case U => lcg_src
        intro _
        repeat (walk_at "m ev")
        refine' Turn.sub2 (t := (FO, listOf (F.map SpnO.val).toArray nf) :: (R, listOf (vs ++ [Value.int p'.v p'.u]).toArray (nr + 1)) :: (m.led w ++ (F.reverse.map SpnO.ent ++ qs.map PrO.ent))) ?ss ⟨FO, R, nf, nr + 1, F, b, _, _, r0 :: rr ++ [p'.v], ⟨rfl, rfl, rfl, trivial⟩, ints_snoc hv, hI.grow (List.cons_ne_nil _ _) hpk hpo hpl, by lia, by simp at hr ⊢; lia, rfl⟩
        case ss => walk_at "m pkt"
  case fin =>
    rintro l _ ⟨FO, R, nf, nr, F, b, tb, vs, r, hl, hv, hI, hF, hr, rfl⟩ led
    refine Wp.pick hl ?_
    intro l
    have hv' := hv.length
    rw [List.length_map] at hI hF hr
    rw [← hkl] at hI
    cases r with
    | nil =>
      have hv0 : vs = [] := List.length_eq_zero_iff.mp hv'
      subst hv0
      repeat (walk_at "m ev")
      refine c_neNil (by lcg_off) (by lcg_off) hR rfl ?_
      repeat (walk_at "m ev")
      refine' perm (t := (FO, listOf (F.map SpnO.val).toArray nf) :: (m.led w ++ F.reverse.map SpnO.ent)) ?fs (fini ⟨FO, nf, F, qs, rfl, hq, hI.done0, by lia, rfl⟩)
      case fs =>
        refine' spn_sub0 (e := qs.map PrO.ent) ?s2
        case s2 => walk_at "m pkt"
    | cons r0 rr =>
      have hne : vs.length ≠ ([] : List Value).length := by rw [hv']; simp
      have hvl : vs.length ≤ 16777216 := by lia
      repeat (walk_at "m ev")
      refine c_neLen (vs := vs) (us := []) (by lcg_off) (by lcg_off) hne hR ?_
      repeat (walk_at "m ev")
      have hr256 := (hI.sp (List.cons_ne_nil r0 rr)).oct (b, r0 :: rr) (by simp)
      repeat (walk_at "m ev")
      refine' c_bytes ?hm2 hv hr256 (by rw [hv.length, sizeLine_eq]; lia) ?_
      case hm2 => lcg_off
      intro tb
      repeat (walk_at "m ev")
      refine' c_append (vs := F.map SpnO.val) ?U (by rw [List.length_map, sizeLine_eq]; lia) ?_
      case U => lcg_src
      intro _
      repeat (walk_at "m ev")
      refine' perm ?fs (fini ⟨FO, nf + 1, F ++ [(⟨_, b, r0 :: rr, _, _⟩ : SpnO)], qs, rfl, hq, ?f1, ?f2, rfl⟩)
      case fs =>
        refine' spn_sub (e := qs.map PrO.ent) ?s2
        case s2 => walk_at "m pkt"
      case f1 =>
        rw [List.map_append]
        exact hI.done (List.cons_ne_nil _ _)
      case f2 => rw [List.length_append]; simp; lia
end
-- F29
section
variable {w : World} {p : Program} {loose : List Str} {mean : ExcName → Option Value} {mg mb : Str → Option Value} {hb : Heap}
local macro_rules | `(tactic| walk_at "m call") => `(tactic| ((with_reducible refine' c_range3 ?MZ0 ?MZ1 ?_); (case MZ0 => decide); (case MZ1 => decide); intro _ _ _ _ _))
theorem CompW.named {C : Cx w} {l : Loc} {env : Env} {elt target iter : Expr} {ifs : List Expr} {scope : Scope} {cl : List (Str × Addr)} {pos : Pos} {Q : Value → Loc → Led → Prop} {v : Value} {q : Addr × Obj} {t : Led} (h : let led' : Led := t; CompW C env elt target iter ifs scope cl pos Q v l (q :: led')) :
    CompW C env elt target iter ifs scope cl pos Q v l (q :: t) := h
theorem regsOf_take {cs : List Int} {k i : Nat} (h : i < 16) : (regsOf cs k).take (i + 1) = (regsOf cs k).take i ++ [num (blk cs (k * i) k)] := by
  rw [List.take_add_one]
  congr 1
  simp [regsOf, h]
theorem regs_step {cs : List Int} {k i : Nat} {ys : List Value} {t : Tok} (h : i < 16) (hy : IntsAre ys ((regsOf cs k).take i)) : IntsAre (ys ++ [.int (num (blk cs (k * i) k)) t]) ((regsOf cs k).take (i + 1)) := by
  rw [regsOf_take h]; exact ints_snoc hy
theorem regs_len {cs : List Int} {k i : Nat} {ys : List Value} (h : IntsAre ys ((regsOf cs k).take i)) : ys.length ≤ sizeLine := by
  have := h.length
  rw [List.length_take, regsOf_len] at this
  rw [sizeLine_eq]; lia
theorem blk_at {cs : List Int} {k : Int} {K i : Nat} (hk : k = (K : Int)) (h : K * i + K ≤ cs.length) : ((List.drop (0 + (i : Int) * k).toNat cs).take (min (0 + (i : Int) * k + k).toNat cs.length - (0 + (i : Int) * k).toNat)) = blk cs (K * i) K := by
  subst hk
  have e : (0 + (i : Int) * (K : Int)).toNat = K * i := by rw [Int.zero_add, Int.mul_comm]; exact Int.toNat_natCast (K * i)
  have e2 : (0 + (i : Int) * (K : Int) + (K : Int)).toNat = K * i + K := by rw [Int.zero_add, Int.mul_comm]; exact Int.toNat_natCast (K * i + K)
  rw [e, e2, Nat.min_eq_left h, Nat.add_sub_cancel_left]
theorem blk_le (cs : List Int) (i k : Nat) : (blk cs i k).length ≤ k := by simp [blk]; lia
theorem sorted_pre {ms : List (Int × Int)} {kvs : List (Int × Value)} {ps : List PrO} (hd2 : Held kvs ms) (nd : (kvs.map (·.1)).Nodup) (hz : ms.length ≤ 100000) (e : ps.map PrO.kv = ms.filter (fun p => p.2 ≠ 0)) : (ps.map PrO.k).Nodup ∧ ps.length ≤ 100000 := by
  have nd2 : (ms.map (·.1)).Nodup := by rw [← hd2.keys]; exact nd
  constructor
  · have e2 : ps.map PrO.k = (ms.filter fun p => p.2 ≠ 0).map (·.1) := by rw [← e, List.map_map]; rfl
    rw [e2]
    exact List.Nodup.sublist (List.filter_sublist.map _) nd2
  · have e3 := congrArg List.length e
    have e4 := List.length_filter_le (fun p : Int × Int => decide (p.2 ≠ 0)) ms
    rw [List.length_map] at e3
    lia
theorem pairs_len {ms : List (Int × Int)} {ps : List PrO} {i : Nat} (hz : ms.length ≤ 100000) (e : ps.map PrO.kv = (ms.take i).filter (fun p => p.2 ≠ 0)) : (ps.map PrO.val).length ≤ sizeLine := by
  have := congrArg List.length e
  have h2 := List.length_filter_le (fun p : Int × Int => decide (p.2 ≠ 0)) (ms.take i)
  rw [List.length_map] at this ⊢
  rw [List.length_take] at h2
  rw [sizeLine_eq]; lia
theorem SubL.skip1 {a b : Addr × Obj} {r : Led} : SubL (a :: r) (a :: b :: r) := .of (r := [b]) (List.Perm.cons _ (List.perm_append_comm (l₁ := [b])))
theorem rev_all {q : Addr × Obj} {b : Led} {ps : List PrO} : SubL (q :: (ps.map PrO.ent ++ b)) (q :: (b ++ ps.reverse.map PrO.ent)) := by
  refine .of (r := []) ?_
  rw [List.append_nil]
  exact List.Perm.cons _ ((((List.reverse_perm ps).map PrO.ent).append_left b).trans List.perm_append_comm)
theorem c_sortedR {C : Cx w} {l : Loc} {rest : Led} {Q : Value → Loc → Led → Prop} {D : Addr} {n : Nat} {ps : List PrO} (hk : (ps.map PrO.k).Nodup) (hz : ps.length ≤ 1000000)
    (h : ∀ (B : Addr) (k : Nat) (qs : List PrO), qs.Perm ps → qs.Pairwise (fun x y => x.k ≤ y.k) → let led' : Led := (B, listOf (qs.map PrO.val).toArray k) :: (rest ++ qs.map PrO.ent); Q (.ref B) l led') :
    Wp C (call (.builtin "sorted") [.ref D]) Q l ((D, listOf (ps.map PrO.val).toArray n) :: (ps.map PrO.ent ++ rest)) := fun s S => r_sorted S hk hz fun B k qs s' h1 h2 S' =>
      ⟨_, _, (SubL.of (r := []) (by rw [List.append_nil]; exact List.Perm.cons _ List.perm_append_comm)).st S', h B k qs h1 h2⟩
theorem due_end {ω : WorldO} {y : WState} {cs xs : List Int} {qs ps : List PrO} {T a b c d f : Addr} {rv xv : List Value} {t1 t2 t3 u1 u2 u3 u4 u5 u6 u7 : Tok} {led : Led}
    (h1 : IntsAre rv cs) (h2 : IntsAre xv xs) (e : ps.map PrO.kv = y.mem.filter (fun p => p.2 ≠ 0)) (nd : (ps.map PrO.k).Nodup) (a1 : qs.Perm ps) (a2 : qs.Pairwise (fun x y => x.k ≤ y.k))
    (hl : led = TellO.led ⟨T, a, b, c, d, f, rv, xv, [.int 0 u1, .int 0 u2, .int 0 u3, .int 0 u4, .int 0 u5, .int 0 u6, .int 0 u7], qs, y.rip, y.fs, y.gs, t1, t2, t3⟩ ++ ω.led w) :
    ∃ o : TellO, Value.ref T = .ref o.T ∧ o.Is ⟨cs, xs, y.mem, y.rip, y.fs, y.gs⟩ ∧ led = o.led ++ ω.led w :=
  ⟨_, rfl, ⟨h1, h2, .cons _ _ (.cons _ _ (.cons _ _ (.cons _ _ (.cons _ _ (.cons _ _ (.cons _ _ .nil)))))), ⟨by rw [← e]; exact a1.map PrO.kv, a2, (a1.map PrO.k).nodup_iff.mpr nd⟩, rfl, rfl, rfl⟩, hl⟩
theorem law_due_does (G : G0 w p loose mean mg mb hb) {ω : WorldO} {y : WState} (hω : ω.Is w y) (hy : y.Ok) (hz : y.mem.length ≤ 100000) :
    Does w hb 4 200 769 [.ref ω.wd] [] (ω.led w) (fun v b => ∃ o : TellO, v = .ref o.T ∧ o.Is ⟨regsOf y.cells 8, regsOf y.xcells 16, y.mem, y.rip, y.fs, y.gs⟩ ∧ b = o.led ++ ω.led w) := by
  have hc := hω.cells
  have hx := hω.xcells
  obtain ⟨kvs, hd1, hd2⟩ := hω.mem
  have hlo := hω.lo
  have nd := dict_nodup hd1
  have hlen := hd2.length
  have lc := hy.cells
  have lx := hy.xcells
  have vc := hc.length
  have vx := hx.length
  refine' enterCB (binds := [(Str.ofString "world", .ref ω.wd)]) ?kL (by assumption) ?k6 ?k7 ?k9 ?kB ?kN ?kl ?_ ?c2 ?c3 ?c4
  case k6 => k_is
  case k7 => k_is
  case k9 => (intro s hs; exact BindsTo.of_eq rfl)
  case kB => exact kindsX rfl
  case kN => decide +kernel
  case kl => intro _; exact rfl
  case c2 => exact rfl
  case c3 => exact rfl
  case c4 => exact rfl
  intro C Q cells hR fini finn perm hcells env l he
  obtain ⟨o1, o2, rfl, hc1, hc2⟩ := CellsAre.two hcells
  have hc1 : o1.data = .cell none := hc1
  have hc2 : o2.data = .cell (some (.ref ω.wd)) := hc2
  clear hcells
  refine Wp.named ?_
  intro led
  refine c_seq ?_
  intro _
  refine Wp.cut (fun f l' led' => f = .next ∧ ∃ T1 ys1, IntsAre ys1 (regsOf y.cells 8) ∧ LocIn [(Str.ofString "regs", .ref T1)] l' ∧ SubL ((T1, tupOf ys1.toArray 0) :: ([(C.L + 1 + 1, o1), (C.L + 1, o2)] ++ ω.led w)) led') ?s1 ?_
  case s1 =>
    repeat (walk_at "m ev")
    refine CompW.named ?_
    intro L0
    refine' c_compS (a := 0) (c := 8) (m := 16) ?c1 ?c2 he (fun i ys led => IntsAre ys ((regsOf y.cells 8).take i) ∧ led = L0) ?cJ ?clen ?cturn ?cfin
    case c1 => decide
    case c2 => decide
    case cJ => exact ⟨.nil, rfl⟩
    case clen =>
      rintro i ys led ⟨h, rfl⟩
      exact regs_len h
    case cturn =>
      rintro i t' hi C' D I oL oI ys n' _ hR' ⟨hys, rfl⟩ env' he' led Q'
      have hR1 := hR' hR
      repeat (walk_at "m ev")
      refine' c_slAB ?hm2 hc (by lia) (by lia) (by rw [sizeLine_eq]; lia) ?_
      case hm2 => lcg_off
      intro B ws hw _
      rw [blk_at (k := 8) (K := 8) rfl (by lia)] at hw
      have hz1 := blk_le y.cells (8 * i) 8
      repeat (walk_at "m ev")
      refine' Turn3.sub (t := L0) ?ss ⟨regs_step hi hys, rfl⟩
      case ss => walk_at "m pk"
    case cfin =>
      rintro D ys n' _ ⟨hys, rfl⟩ led
      rw [List.take_of_length_le (by rw [regsOf_len]; exact Nat.le_refl _)] at hys
      have l1 := hys.length
      rw [regsOf_len] at l1
      repeat (walk_at "m ev")
      refine' c_tupleList (vs := ys) ?hm3 (by rw [sizeLine_eq]; lia) ?_
      case hm3 => lcg_off
      intro T1 _
      repeat (walk_at "m ev")
      exact ⟨rfl, T1, ys, hys, ⟨rfl, trivial⟩, .skip1⟩
  rintro _ _ _ ⟨rfl, T1, ys1, hys1, hl1, hs1⟩
  refine Wp.sub hs1 ?_
  refine Wp.named ?_
  intro led
  refine Wp.pick hl1 ?_
  intro l
  refine c_seq ?_
  intro _
  refine Wp.cut (fun f l' led' => f = .next ∧ ∃ T2 ys2, IntsAre ys2 (regsOf y.xcells 16) ∧ LocIn [(Str.ofString "regs", .ref T1), (Str.ofString "xmms", .ref T2)] l' ∧ SubL ((T2, tupOf ys2.toArray 0) :: (T1, tupOf ys1.toArray 0) :: ([(C.L + 1 + 1, o1), (C.L + 1, o2)] ++ ω.led w)) led') ?s2 ?_
  case s2 =>
    repeat (walk_at "m ev")
    refine CompW.named ?_
    intro L0
    refine' c_compS (a := 0) (c := 16) (m := 16) ?c1 ?c2 he (fun i ys led => IntsAre ys ((regsOf y.xcells 16).take i) ∧ led = L0) ?cJ ?clen ?cturn ?cfin
    case c1 => decide
    case c2 => decide
    case cJ => exact ⟨.nil, rfl⟩
    case clen =>
      rintro i ys led ⟨h, rfl⟩
      exact regs_len h
    case cturn =>
      rintro i t' hi C' D I oL oI ys n' _ hR' ⟨hys, rfl⟩ env' he' led Q'
      have hR1 := hR' hR
      repeat (walk_at "m ev")
      refine' c_slAB ?hm2 hx (by lia) (by lia) (by rw [sizeLine_eq]; lia) ?_
      case hm2 => lcg_off
      intro B ws hw _
      rw [blk_at (k := 16) (K := 16) rfl (by lia)] at hw
      have hz1 := blk_le y.xcells (16 * i) 16
      repeat (walk_at "m ev")
      refine' Turn3.sub (t := L0) ?ss ⟨regs_step hi hys, rfl⟩
      case ss => walk_at "m pk"
    case cfin =>
      rintro D ys n' _ ⟨hys, rfl⟩ led
      rw [List.take_of_length_le (by rw [regsOf_len]; exact Nat.le_refl _)] at hys
      have l1 := hys.length
      rw [regsOf_len] at l1
      repeat (walk_at "m ev")
      refine' c_tupleList (vs := ys) ?hm3 (by rw [sizeLine_eq]; lia) ?_
      case hm3 => lcg_off
      intro T1 _
      repeat (walk_at "m ev")
      exact ⟨rfl, T1, ys, hys, ⟨rfl, rfl, trivial⟩, .skip1⟩
  rintro _ _ _ ⟨rfl, T2, ys2, hys2, hl2, hs2⟩
  refine Wp.sub hs2 ?_
  refine Wp.named ?_
  intro led
  refine Wp.pick hl2 ?_
  intro l
  repeat (walk_at "m ev")
  refine' c_storeCell he ?U rfl hc1 ?_
  case U => lcg_src
  intro o1' hc1' _
  repeat (walk_at "m ev")
  refine' CompW.sub (t := (ω.wm, ω.mo) :: ([(T2, tupOf ys2.toArray 0), (T1, tupOf ys1.toArray 0), (C.L + 1 + 1, o1'), (C.L + 1, o2), (ω.wd, ω.wo), (ω.rc, listOf ω.cvs.toArray ω.nr), (ω.xc, listOf ω.xvs.toArray ω.nx)] ++ ([] : List PrO).reverse.map PrO.ent)) ?ss ?_
  case ss => walk_at "m pk"
  refine' c_compD hd1 hlo he (fun i ys led => ∃ ps : List PrO, ys = ps.map PrO.val ∧ ps.map PrO.kv = (y.mem.take i).filter (fun p => p.2 ≠ 0) ∧ led = [(T2, tupOf ys2.toArray 0), (T1, tupOf ys1.toArray 0), (C.L + 1 + 1, o1'), (C.L + 1, o2), (ω.wd, ω.wo), (ω.rc, listOf ω.cvs.toArray ω.nr), (ω.xc, listOf ω.xvs.toArray ω.nx)] ++ ps.reverse.map PrO.ent) ?hJ ?hlen ?turn ?fin
  case hJ => exact ⟨[], rfl, rfl, rfl⟩
  case hlen =>
    rintro i ys led ⟨ps, rfl, e, rfl⟩
    exact pairs_len hz e
  case turn =>
    rintro i k x t hi hget C' D I oL oI ys n' _ hR' ⟨ps, rfl, e, rfl⟩ env' he' led Q'
    obtain ⟨n, tn, rfl, hmi⟩ := hd2.get hget
    have hft := filter_take y.mem i (k, n) hmi
    repeat (walk_at "m ev")
    refine c_hitem (by lcg_off) hd1 hget ?_
    repeat (walk_at "m ev")
    refine r_iteN (fun hne => ?_) fun heq => ?_
    ·
      repeat (walk_at "m ev")
      refine c_hitem (by lcg_off) hd1 hget ?_
      repeat (walk_at "m ev")
      refine' Turn3.sub (t := [(T2, tupOf ys2.toArray 0), (T1, tupOf ys1.toArray 0), (C.L + 1 + 1, o1'), (C.L + 1, o2), (ω.wd, ω.wo), (ω.rc, listOf ω.cvs.toArray ω.nr), (ω.xc, listOf ω.xvs.toArray ω.nx)] ++ (PrO.ent ⟨_, k, n, _, _⟩ :: ps.reverse.map PrO.ent)) ?ss ⟨ps ++ [⟨_, k, n, _, _⟩], ?g1, ?g2, ?g3⟩
      case ss => walk_at "m pkt"
      case g1 => rw [List.map_append]; rfl
      case g2 => rw [hft, if_pos hne, List.map_append, e]; rfl
      case g3 => rw [List.reverse_append]; rfl
    ·
      repeat (walk_at "m ev")
      refine Turn3.sub (t := [(T2, tupOf ys2.toArray 0), (T1, tupOf ys1.toArray 0), (C.L + 1 + 1, o1'), (C.L + 1, o2), (ω.wd, ω.wo), (ω.rc, listOf ω.cvs.toArray ω.nr), (ω.xc, listOf ω.xvs.toArray ω.nx)] ++ ps.reverse.map PrO.ent) (.refl _) ⟨ps, rfl, ?_, rfl⟩
      rw [hft, if_neg (fun h => h heq), List.append_nil]; exact e
  case fin =>
    rintro D ys n' _ ⟨ps, rfl, e, rfl⟩ led
    rw [hlen, List.take_length] at e
    have hpre := sorted_pre hd2 nd hz e
    repeat (walk_at "m ev")
    refine Wp.sub (t := (D, listOf (ps.map PrO.val).toArray n') :: (ps.map PrO.ent ++ [(ω.wm, ω.mo), (T2, tupOf ys2.toArray 0), (T1, tupOf ys1.toArray 0), (C.L + 1 + 1, o1'), (C.L + 1, o2), (ω.wd, ω.wo), (ω.rc, listOf ω.cvs.toArray ω.nr), (ω.xc, listOf ω.xvs.toArray ω.nx)])) rev_all ?_
    refine c_sortedR hpre.1 (by lia) fun B k qs a1 a2 => ?_
    intro led
    have hl := a1.length_eq
    repeat (walk_at "m ev")
    refine' c_tupleList (vs := qs.map PrO.val) ?hm4 (by rw [List.length_map, sizeLine_eq]; lia) ?_
    case hm4 => lcg_off
    intro T4 _
    repeat (walk_at "m ev")
    refine' perm (.trans .mid ?ss) (fini (due_end hys1 hys2 e hpre.1 a1 a2 rfl))
    case ss => walk_at "m pkt"
end
-- F30a
section
variable {w : World} {p : Program} {loose : List Str} {mean : ExcName → Option Value} {mg mb : Str → Option Value} {hb : Heap}
theorem Does.mono {n u : Nat} {f : Addr} {args : List Value} {kw : List (Str × Value)} {led : Led} {R R' : Value → Led → Prop} (D : Does w hb n u f args kw led R) (h : ∀ v l, R v l → R' v l) : Does w hb n u f args kw led R' := by
  intro A s h1 h2 h3 h4 h5 h6
  refine codeAny_mono (D A s h1 h2 h3 h4 h5 h6) fun r s' hr => ?_
  obtain ⟨v, led', a, b, c, d, e, q⟩ := hr
  exact ⟨v, led', a, b, c, d, e, h v led' q⟩
noncomputable abbrev immLed (w : World) (x dx : Addr) (a' b c d e f : Tok) (a : Int) : Led := [(x, instObj 587 dx), (dx, dictOf [dE w "kind" a' (.str (Str.ofString "imm") b), dE w "worth" c (.int a d), dE w "name" e (.str (Str.ofString "") f)] 3)]
section
variable {C : Cx w} {l : Loc} {led : Led} {Q : Value → Loc → Led → Prop} {F U : Nat} {fl : Led → Led → Led} {fl1 : Led → Led} {σ : Mac} {z : MState}
theorem c_readImm {x dx st : Addr} {a' b c d e f : Tok} {a n : Int} {t : Tok} (hR : Room C F U) (hle : (Nat.ble 7 F && Nat.ble 200 U) = true) (h0 : 0 ≤ n) (h1 : n ≤ 128) (hst : σ.st = st) (sl : Slot2 (immLed w x dx a' b c d e f a) (σ.led w) led fl)
    (k : ∀ t, let led' : Led := fl (immLed w x dx a' b c d e f a) (σ.led w); Q (.int (a % 2 ^ n.toNat) t) l led') : Wp C (call (.ref 438) [.ref st, .ref x, .int n t]) Q l led := by
  subst hst
  exact c_does2 (R := fun v b => (∃ t, v = .int (a % 2 ^ n.toNat) t) ∧ b = σ.led w) ((read_imm_does C.G₀ h0 h1).mono (by rintro v _ ⟨h, rfl⟩; exact ⟨_, _, rfl, ⟨h, rfl⟩, rfl⟩)) sl hR hle (by rintro _ _ ⟨⟨t, rfl⟩, rfl⟩; exact k t)
theorem c_readMem {o : MemOp} {q : Spot} {n : Int} {t : Tok} {N : Nat} {st : Addr} (hR : Room C F U) (hle : (Nat.ble 7 F && Nat.ble 200 U) = true) (hσ : σ.Is w z) (hz : z.Ok) (ho : o.Is q) (hn : n = 8 ∨ n = 16 ∨ n = 32 ∨ n = 64 ∨ n = 128) (hN : n = 8 * (N : Int)) (hst : σ.st = st)
    (sl : Slot2 (o.led w) (σ.led w) led fl) (k : ∀ t, let led' : Led := fl (o.led w) (σ.led w); Q (.int (num (bytesAt z.mem (placeZ z q) N)) t) l led') : Wp C (call (.ref 438) [.ref st, .ref o.x, .int n t]) Q l led := by
  subst hst
  exact c_does2 (read_mem_does C.G₀ hσ hz ho hn hN) sl hR hle (by rintro _ _ ⟨⟨t, rfl⟩, rfl⟩; exact k t)
theorem c_find {m : MemO} {ms : List (Int × Int)} {a b : Int} {ds : List Int} {t u v : Tok} {N : Nat} (hR : Room C F U) (hle : (Nat.ble 5 F && Nat.ble 120 U) = true) (hm : m.Is w ms) (ho : OctM ms) (hds : Oct ds) (hK : ds.length ≤ 16) (hN : b - ds.length + 1 - a = (N : Int)) (sl : Slot (m.led w) led fl1)
    (k : ∀ v, ((∃ i : Nat, i < N ∧ (∃ t, v = .int (a + i) t) ∧ bytesAt ms (a + i) ds.length = ds ∧ ∀ j : Nat, j < i → bytesAt ms (a + j) ds.length ≠ ds) ∨
      ((∃ t, v = .int (-1) t) ∧ ∀ j : Nat, j < N → bytesAt ms (a + j) ds.length ≠ ds)) → let led' : Led := fl1 (m.led w); Q v l led') : Wp C (call (.ref 342) [.ref m.x, .bytes (byteArr ds) t, .int a u, .int b v]) Q l led :=
  c_does (find_does C.G₀ hm ho hds hK hN) sl hR hle (by rintro v _ ⟨rfl, h⟩; exact k v h)
theorem c_findAt {m : MemO} {ms : List (Int × Int)} {a b : Int} {ds es : List Int} {t u v : Tok} {i0 : Nat} (hR : Room C F U) (hle : (Nat.ble 5 F && Nat.ble 120 U) = true) (hm : m.Is w ms) (ho : OctM ms) (hds : Oct ds) (e : es = blk ds 2 2) (hl : ds.length = 5) (hb : b = a + 5) (he : bytesAt ms a 5 = ds)
    (hi : i0 < 4) (hpi : blk ds i0 2 = blk ds 2 2) (hno : ∀ j, j < i0 → blk ds j 2 ≠ blk ds 2 2) (sl : Slot (m.led w) led fl1)
    (k : ∀ t, let led' : Led := fl1 (m.led w); Q (.int (a + i0) t) l led') : Wp C (call (.ref 342) [.ref m.x, .bytes (byteArr es) t, .int a u, .int b v]) Q l led := by
  subst e hb
  have hl2 : (blk ds 2 2).length = 2 := by simp [blk]; lia
  have eqb : ∀ j : Nat, j < 4 → bytesAt ms (a + (j : Int)) (blk ds 2 2).length = blk ds j 2 := fun j hj => by rw [hl2, ← he, blk_bytesAt _ _ (by lia)]
  refine c_find (N := 4) hR hle hm ho (blk_oct hds 2 2) (by lia) (by rw [hl2]; lia) sl fun v hv => ?_
  rcases hv with ⟨i, hi', ⟨t8, rfl⟩, h1, hno'⟩ | ⟨_, hno'⟩
  · have hii : i = i0 := by
      rw [eqb i hi'] at h1
      rcases Nat.lt_trichotomy i i0 with h | h | h
      · exact absurd h1 (hno i h)
      · exact h
      · have := hno' i0 h
        rw [eqb i0 hi] at this
        exact absurd hpi this
    subst hii
    exact k t8
  · have := hno' 2 (by decide)
    rw [eqb 2 (by decide)] at this
    exact absurd rfl this
end
theorem CellsAre.three' {cm : Str → Option Value} {x y z : Str} {a b c : Addr} {cells : Led} (h : CellsAre cm [(x, a), (y, b), (z, c)] cells) : ∃ o1 o2 o3, cells = [(a, o1), (b, o2), (c, o3)] ∧ o1.data = .cell (cm x) ∧ o2.data = .cell (cm y) ∧ o3.data = .cell (cm z) := by
  cases h with
  | cons h1 h2 =>
    cases h2 with
    | cons h3 h4 =>
      cases h4 with
      | cons h5 h6 => cases h6; exact ⟨_, _, _, rfl, h1, h3, h5⟩
theorem size5 {x : Int} (h0 : 0 ≤ x) (h1 : x < 5) : (([8, 16, 32, 64, 128] : List Int).getD x.toNat 0 = 8 ∨ ([8, 16, 32, 64, 128] : List Int).getD x.toNat 0 = 16 ∨ ([8, 16, 32, 64, 128] : List Int).getD x.toNat 0 = 32 ∨ ([8, 16, 32, 64, 128] : List Int).getD x.toNat 0 = 64 ∨ ([8, 16, 32, 64, 128] : List Int).getD x.toNat 0 = 128) := by
  have : x = 0 ∨ x = 1 ∨ x = 2 ∨ x = 3 ∨ x = 4 := by lia
  rcases this with rfl | rfl | rfl | rfl | rfl <;> decide
theorem size5_use {x : Int} {Z : Prop} (h : 0 ≤ x ∧ x < 5) (k : ∀ (n : Int) (N : Nat), ([8, 16, 32, 64, 128] : List Int).getD x.toNat 0 = n → (n = 8 ∨ n = 16 ∨ n = 32 ∨ n = 64 ∨ n = 128) → n / 8 = (N : Int) → N ≤ 16 → n = 8 * (N : Int) → Z) : Z := by
  have hs5 := size5 h.1 h.2
  obtain ⟨_, N, hN8, hN16, hN⟩ := div8 hs5
  exact k _ N rfl hs5 hN8 hN16 hN
theorem SubL.perm {t led : Led} (h : led.Perm t) : SubL t led := .of (r := []) (by rw [List.append_nil]; exact h)
theorem sub_last {a b c d : Led} : SubL (a ++ (c ++ (d ++ b))) (a ++ (b ++ (c ++ d))) := .perm (List.Perm.append_left a (List.perm_append_comm.trans (by rw [List.append_assoc])))
theorem sub_back {a b c d : Led} : SubL (a ++ (b ++ (c ++ d))) (a ++ (c ++ (d ++ b))) := .perm (List.Perm.append_left a (by rw [← List.append_assoc]; exact List.perm_append_comm))
theorem SubL.pre {a t led : Led} (h : led.Perm t) : SubL (a ++ t) (a ++ led) := .perm (h.append_left a)
theorem sub_lastC {q a b c d : Led} : SubL (q ++ (a ++ (c ++ (d ++ b)))) (q ++ (a ++ (b ++ (c ++ d)))) := .pre (List.Perm.append_left a (List.perm_append_comm.trans (by rw [List.append_assoc])))
noncomputable def DeedR (w : World) (P : PenO) (O : OldsO) (ω : WorldO) (σ : Mac) (z : MState) (m : Nat) : Value → Led → Prop := fun v led' => v = .bool true ∧ ∃ (P' : PenO) (O' : OldsO) (ω' : WorldO) (σ' : Mac) (z' : MState) (y' : WState), P'.pn = P.pn ∧ P'.Ok ∧ O'.oa = O.oa ∧ O'.Ok (m + 1) ∧ ω'.wd = ω.wd ∧ σ'.st = σ.st ∧ σ'.Is w z' ∧ ω'.Is w y' ∧ Rel z' y' ∧
  z'.mem.length ≤ z.mem.length + 16 ∧ led' = P'.led w ++ (O'.led ++ (ω'.led w ++ σ'.led w))
end
-- F30b
local macro_rules | `(tactic| lcg_src) => `(tactic| first
  | with_reducible exact At.here | ((with_reducible refine' At.skip ?NZ0); (case NZ0 => lcg_src))
  | ((with_reducible refine' At.left ?NZ0); (case NZ0 => lcg_src)) | ((with_reducible refine' At.right ?NZ0); (case NZ0 => lcg_src)))
local macro_rules | `(tactic| walk_at "m tl") => `(tactic| first | exact ptl 14 | exact ptl 15 | exact ptl 16 | exact ptl 17 | exact ptl 18 | exact ptl 19 | exact ptl 20 | exact ptl 21 | exact ptl 22 | exact ptl 23 | exact ptl 24 | exact ptl 25 | exact ptl 26 | exact ptl 27 | exact ptl 28 | exact ptl 29 | exact ptl 30 | exact ptl 31 | exact ptl 32 | exact ptl 33 | exact ptl 34 | exact ptl 35 | exact ptl 36 | exact ptl 37 | exact ptl 38 | exact ptl 39 | exact ptl 40 | exact ptl 41 | exact ptl 42 | exact ptl 43 | exact ptl 44 | exact ptl 45 | exact ptl 46 | exact ptl 47 | exact ptl 48 | exact ptl 49)
local macro_rules | `(tactic| lcg_sub) => `(tactic| first | exact ixn 0 | exact ixn 1 | exact ixn 2 | exact ixn 3 | exact ixn 4 | exact ixn 5 | exact ixn 6 | exact ixn 7 | exact ixn 8 | exact ixn 9 | exact ixn 10 | exact ixn 11 | exact ixn 12 | exact ixn 13 | exact ixn 14 | exact ixn 15 | exact ixn 16 | exact ixn 17 | exact ixn 18 | exact ixn 19 | exact ixn 20 | exact ixn 21 | exact ixn 22 | exact ixn 23 | exact ixn 24 | exact ixn 25 | exact ixn 26 | exact ixn 27 | exact ixn 28 | exact ixn 29 | exact ixn 30 | exact ixn 31 | exact ixn 32 | exact ixn 33 | exact ixn 34 | exact ixn 35 | exact ixn 36 | exact ixn 37 | exact ixn 38 | exact ixn 39 | exact ixn 40 | exact ixn 41 | exact ixn 42 | exact ixn 43 | exact ixn 44 | exact ixn 45 | exact ixn 46 | exact ixn 47 | exact ixn 48 | exact ixn 49)
section
variable {w : World} {p : Program} {loose : List Str} {mean : ExcName → Option Value} {mg mb : Str → Option Value} {hb : Heap}
theorem c_asgLC {C : Cx w} {l : Loc} {led : Led} {Q : Unit → Loc → Led → Prop} {env : Env} {a c : Str} {u v : Value} {o : Obj} {fl : Obj → Led} {cc T : Addr} {n m : Nat} {p1 p2 pos : Pos} {v₀ : Option Value} (he : EnvOk C env) (hm : (T, tupOf [u, v].toArray n) ∈ led) (U : At cc o led fl)
    (hc : env.cells.lookup c = some cc) (hdt : o.data = .cell v₀) (h : ∀ o', o'.data = .cell (some v) → let l' : Loc := (a, u) :: l; let led' : Led := fl o'; Q () l' led') (hl : env.kindOf a = some .local := by with_unfolding_all rfl) (hx : env.kindOf c = some .cell := by with_unfolding_all rfl) :
    Wp C (assign (.Tuple [.Name a p1, .Name c p2] m pos) env (.ref T)) Q l led := fun s S => by
  refine r_assignTup (vs := [u, v]) S hm C.hh rfl rfl fun s' S' => assignInOrder_cons (Wp.use (c_assignNm (c_storeRaw (Q := fun _ l' led' => l' = (a, u) :: l ∧ led' = led) he ⟨rfl, rfl⟩ hl)) S' fun _ l' led' s2 S2 q => ?_)
  obtain ⟨rfl, rfl⟩ := q
  exact assignInOrder_cons (Wp.use (c_assignNm (c_storeCell (Q := Q) he U hc hdt h hx)) S2 fun _ l3 led3 s3 S3 q => assignInOrder_nil ⟨_, _, S3, q⟩)
theorem c_lmemR {C : Cx w} {l : Loc} {led : Led} {Q : Value → Loc → Led → Prop} {N U : Nat} {fl : Led → Led} {sp : SpO} {n : Int} {t : Tok} (hR : Room C N U) (hle : (Nat.ble 5 N && Nat.ble 200 U) = true) (hq : sp.q.Ok) (sl : Slot [sp.ent] led fl)
    (k : ∀ o : MemOp, o.Is sp.q → let led' : Led := fl ([sp.ent] ++ o.led w); Q (.ref o.x) l led') : Wp C (call (.ref 731) [.ref sp.T, .int n t]) Q l led := fun s S => by
  obtain ⟨rest, p1, p2⟩ := sl.perm
  have r := hR.le hle
  exact use (law_mem_does C.G₀ hq) C.G (S.perm p1) .here C.hh r.d r.u fun v led' s' r S' => by
    obtain ⟨o, rfl, h1, rfl⟩ := r
    refine ⟨_, _, S'.perm ?_, k o h1⟩
    refine List.Perm.trans ?_ (p2 _)
    exact List.Perm.append_right rest List.perm_append_comm
theorem hits_at {ds : List Int} : ∃ (i0 : Nat) (r : List Int), i0 < 4 ∧ blk ds i0 2 = blk ds 2 2 ∧ (∀ j, j < i0 → blk ds j 2 ≠ blk ds 2 2) ∧ hits (fun j => decide (blk ds j 2 = blk ds 2 2)) 4 = (i0 : Int) :: r := by
  obtain ⟨i0, hi0, hpi, hno⟩ : ∃ i0, i0 < 4 ∧ (fun j => decide (blk ds j 2 = blk ds 2 2)) i0 = true ∧ ∀ j, j < i0 → (fun j => decide (blk ds j 2 = blk ds 2 2)) j = false := least_of (n := 4) (i := 2) (by decide) (by simp)
  obtain ⟨r, hr'⟩ := hits_first hi0 hpi hno
  exact ⟨i0, r, hi0, by simpa using hpi, fun j hj => by simpa using hno j hj, hr'⟩
theorem hits_use {ds ns : List Int} {Z : Prop} (e : ns = hits (fun j => decide (blk ds j 2 = blk ds 2 2)) 4) (k : ∀ (i0 : Nat) (r : List Int), i0 < 4 → blk ds i0 2 = blk ds 2 2 → (∀ j, j < i0 → blk ds j 2 ≠ blk ds 2 2) → ns = (i0 : Int) :: r → Z) : Z :=
  let ⟨i0, r, a, b, c, d⟩ := hits_at (ds := ds)
  k i0 r a b c (e.trans d)
theorem sl_two {ds : List Int} {vs : List Value} {a b : Int} {i : Nat} (hds : ds.length = 5) (ha : a = (i : Int)) (hb : b = (i : Int) + 2) (hi : i < 4) (h : IntsAre vs ((ds.drop a.toNat).take (min b.toNat ds.length - a.toNat))) : IntsAre vs (blk ds i 2) := by
  have e : (List.drop a.toNat ds).take (min b.toNat ds.length - a.toNat) = blk ds i 2 := by
    have hb' : b.toNat = i + 2 := by rw [hb]; exact Int.toNat_natCast (i + 2)
    rw [show a.toNat = i by rw [ha]; exact Int.toNat_natCast i, hb', hds, Nat.min_eq_left (Nat.add_le_add_right (Nat.le_of_lt_succ hi) 2), Nat.add_sub_cancel_left]
  rw [← e]; exact h
theorem ds_use {ms : List (Int × Int)} {a : Int} {ys : List Value} {Z : Prop} (ho : OctM ms) (h : IntsAre ys (bytesAt ms a 5)) (k : ∀ ds, bytesAt ms a 5 = ds → Oct ds → ds.length = 5 → IntsAre ys ds → Z) : Z := k _ rfl (bytesAt_oct ho _ _) (bytesAt_length ..) h
theorem five_le {ds : List Int} {ys : List Value} (h : IntsAre ys ds) (l : ds.length = 5) : ys.length ≤ sizeLine := by rw [h.length, l, sizeLine_eq]; decide
theorem two_le {ds : List Int} {ys : List Value} {i : Nat} (h : IntsAre ys (blk ds i 2)) : ys.length ≤ sizeLine := by
  have := blk_le ds i 2
  rw [h.length, sizeLine_eq]; lia
theorem hits_le {p : Nat → Bool} {ys : List Value} {i : Nat} (h : IntsAre ys (hits p i)) (h4 : i ≤ 4) : ys.length ≤ sizeLine := by
  have := h.length
  have h2 := hits_len p i
  rw [sizeLine_eq]; lia
theorem hits_yes {ds : List Int} {ys : List Value} {i : Nat} {t : Tok} (h : blk ds i 2 = blk ds 2 2) (hy : IntsAre ys (hits (fun j => decide (blk ds j 2 = blk ds 2 2)) i)) : IntsAre (ys ++ [.int (0 + (i : Int)) t]) (hits (fun j => decide (blk ds j 2 = blk ds 2 2)) (i + 1)) := by
  rw [hits_succ, if_pos (by simpa using h), Int.zero_add]
  exact ints_snoc hy
theorem hits_no {ds : List Int} {ys : List Value} {i : Nat} (h : blk ds i 2 ≠ blk ds 2 2) (hy : IntsAre ys (hits (fun j => decide (blk ds j 2 = blk ds 2 2)) i)) : IntsAre ys (hits (fun j => decide (blk ds j 2 = blk ds 2 2)) (i + 1)) := by
  rw [hits_succ, if_neg (by simpa using h), List.append_nil]
  exact hy
theorem sub_dropb {a c d b all : Led} {q e : Addr × Obj} : SubL (a ++ (c ++ (d ++ (q :: e :: all)))) (a ++ (c ++ (d ++ (q :: (([e] ++ b) ++ all))))) := by
  refine .of (r := b) ?_
  simp only [List.append_assoc, List.cons_append, List.nil_append]
  exact ((((List.perm_append_comm.cons e).cons q).append_left d).append_left c).append_left a
theorem ss_hole {a c d all led : Led} {q e : Addr × Obj} (b : Led) (h : SubL (a ++ (c ++ (d ++ (q :: (([e] ++ b) ++ all))))) led) : SubL (a ++ (c ++ (d ++ (q :: (([e] ++ b) ++ all))))) led := h
theorem deed_end {l : Loc} {led : Led} {QQ : Flow → Loc → Led → Prop} {P P' : PenO} {O O' : OldsO} {ω ω' : WorldO} {σ σ' : Mac} {z z' : MState} {y' : WState} {m : Nat} (fini : ∀ {v : Value} {l' led'}, DeedR w P O ω σ z m v led' → QQ (.ret v) l' led')
    (perm : ∀ {f : Flow} {l' led' t}, SubL t led' → QQ f l' t → QQ f l' led') (hs : SubL (P'.led w ++ (ω'.led w ++ (σ'.led w ++ O'.led))) led) (h1 : P'.pn = P.pn) (h2 : P'.Ok) (h3 : O'.oa = O.oa) (h4 : O'.Ok (m + 1)) (h5 : ω'.wd = ω.wd) (h6 : σ'.st = σ.st) (h7 : σ'.Is w z') (h8 : ω'.Is w y') (h9 : Rel z' y')
    (h10 : z'.mem.length ≤ z.mem.length + 16) : QQ (.ret (.bool true)) l led :=
  perm (sub_back.trans hs) (fini ⟨rfl, P', O', ω', σ', z', y', h1, h2, h3, h4, h5, h6, h7, h8, h9, h10, rfl⟩)
theorem law_looked_does (G : G0 w p loose mean mg mb hb) {P : PenO} {O : OldsO} {ω : WorldO} {σ : Mac} {z : MState} {y : WState} {m : Nat} (hP : P.Ok) (hO : O.Ok m) (hm : m ≤ 1000) (hσ : σ.Is w z) (hω : ω.Is w y) (hr : Rel z y) (hlen : z.mem.length ≤ 100000) :
    Does w hb 8 400 757 [.ref P.pn, .ref ω.wd, .ref σ.st, .ref O.oa] [] (P.led w ++ (O.led ++ (ω.led w ++ σ.led w))) (DeedR w P O ω σ z m) := by
  have hpn : P.pn = P.pn := rfl
  have hwd : ω.wd = ω.wd := rfl
  have hyok := hr.okW
  have hzok := hr.okZ
  have hmem : σ.me.Is w y.mem := by rw [← hr.mem]; exact hσ.mem
  have hoct : OctM y.mem := hr.om
  refine' enterCB (binds := [(Str.ofString "pen", .ref P.pn), (Str.ofString "world", .ref ω.wd), (Str.ofString "state", .ref σ.st), (Str.ofString "olds", .ref O.oa)]) ?kL (by assumption) ?k6 ?k7 ?k9 ?kB ?kN ?kl ?_ ?c2 ?c3 ?c4
  case k6 => k_is
  case k7 => k_is
  case k9 => (intro s hs; exact BindsTo.of_eq rfl)
  case kB => exact kindsX rfl
  case kN => decide +kernel
  case kl => intro _; exact rfl
  case c2 => exact rfl
  case c3 => exact rfl
  case c4 => exact rfl
  intro C Q cells hR fini finn perm hcells env l he
  obtain ⟨o1, o2, o3, rfl, hc1, hc2, hc3⟩ := CellsAre.three' hcells
  have hc1 : o1.data = .cell none := hc1
  have hc2 : o2.data = .cell none := hc2
  have hc3 : o3.data = .cell (some (.ref ω.wd)) := hc3
  clear hcells
  refine Wp.sub (t := [(C.L + 1 + 1 + 1, o1), (C.L + 1 + 1, o2), (C.L + 1, o3)] ++ (P.led w ++ (ω.led w ++ (σ.led w ++ O.led)))) sub_lastC ?_
  refine Wp.named ?_
  intro led
  repeat (walk_at "m ev")
  refine' c_spot hR rfl hP hO hm hpn rfl ?sl ?_
  case sl => walk_at "m slot2"
  intro P1 sp its no hP1 hpn1 hO1 _
  have hspq : sp.q.Ok := hO1.ok sp (.head _)
  refine Wp.sub (t := [(C.L + 1 + 1 + 1, o1), (C.L + 1 + 1, o2), (C.L + 1, o3)] ++ (PenO.led w P1 ++ (ω.led w ++ (σ.led w ++ ((O.oa, listOf (its.map SpO.val).toArray no) :: ([sp.ent] ++ O.all.map SpO.ent)))))) (.refl _) ?_
  refine Wp.named ?_
  intro led
  repeat (walk_at "m ev")
  refine' c_lmemR hR rfl hspq ?sl ?_
  case sl => kpt_turns
  intro o ho _
  repeat (walk_at "m ev")
  refine' c_lplace hR rfl hspq hω hyok rfl ?sl ?_
  case sl => walk_at "m slot2"
  intro tb _
  repeat (walk_at "m ev")
  refine' c_asgLC (u := .ref o.x) (v := .int (placeW y sp.q) tb) (n := 0) he ?hm2 ?U rfl hc2 ?_
  case hm2 => lcg_off
  case U => lcg_src
  intro o2' hc2' _ _
  repeat (walk_at "m ev")
  refine' c_offset hR rfl hσ hzok ho rfl ?sl ?_
  case sl => walk_at "m slot2"
  intro t1 _
  repeat (walk_at "m ev")
  refine' c_loffset hR rfl hspq hω hyok rfl rfl ?sl ?_
  case sl => walk_at "m slot2"
  intro t2 _
  rw [hr.off hspq]
  repeat (walk_at "m ev")
  refine' c_place hR rfl hσ hzok ho rfl ?sl ?_
  case sl => walk_at "m slot2"
  intro t3 _
  rw [hr.place hspq]
  repeat (walk_at "m ev")
  rename 0 ≤ _ ∧ _ < (5 : Int) => hx5
  have hs5 := size5 hx5.1 hx5.2
  refine size5_use hx5 fun n N en hs5' hN8 hN16 hN => ?_
  have hnp : (0 : Int) < 1 * 2 ^ n.toNat := by rw [Int.one_mul]; exact Int.pow_pos (by decide)
  subst en
  refine c_Imm hR rfl ?_
  intro xi dxi i1 i2 i3 i4 i5 i6 _
  repeat (walk_at "m ev")
  refine' c_readImm hR rfl (by lia) (by lia) rfl ?sl ?_
  case sl => walk_at "m slot2"
  intro t4 _
  repeat (walk_at "m ev")
  rw [Int.one_mul]
  repeat (walk_at "m ev")
  rename PenO.Ok _ => hP2
  rename PenO.pn _ = _ => hpn2
  rename PenO => P2
  refine' CompW.sub (t := (_, { cls := .type "range", data := .fields #[.int 0 _, .int 5 _, .int 1 _] }) :: ([(C.L + 1 + 1 + 1, o1), (C.L + 1 + 1, o2'), (C.L + 1, o3)] ++ (σ.led w ++ (PenO.led w P2 ++ (ω.led w ++ ((O.oa, listOf (its.map SpO.val).toArray no) :: (([sp.ent] ++ o.led w) ++ O.all.map SpO.ent))))))) ?ss ?_
  case ss => walk_at "m pkt"
  refine CompW.named ?_
  intro L0
  refine' c_compN (a := 0) (m := 5) ?c1 ?c2 he (fun i ys led => IntsAre ys (bytesAt y.mem (placeW y sp.q - 2) i) ∧ i ≤ 5 ∧ led = L0) ?cJ ?clen ?cturn ?cfin
  case c1 => decide
  case c2 => decide
  case cJ => exact ⟨.nil, by decide, rfl⟩
  case clen =>
    rintro i ys led ⟨h, h2, rfl⟩
    exact bytesAt_len h (by lia)
  case cturn =>
    rintro i t' hi C' D I oL oI ys n' _ hR' ⟨hys, _, rfl⟩ env' he' led Q'
    have hR1 := hR' hR
    repeat (walk_at "m ev")
    refine' c_lload (N := 1) hR1 rfl hω rfl (by decide) rfl ?sl ?_
    case sl => kpt_turns
    intro tl _
    rw [num_one, Int.zero_add]
    refine Turn3.of ⟨?_, hi, rfl⟩
    rw [bytesAt_succ]
    exact ints_snoc hys
  case cfin =>
    rintro D1 ys1 n1 _ ⟨hys1, _, rfl⟩ led
    repeat (walk_at "m ev")
    refine' c_storeCell he ?U rfl hc1 ?_
    case U => lcg_src
    intro o1' hc1' _
    repeat (walk_at "m ev")
    refine' c_octets (N := 5) hR rfl hmem hoct (by decide) (by decide) ?sl ?_
    case sl => kpt_turns
    intro t5 _
    repeat (walk_at "m ev")
    refine' c_bytes ?hm2 hys1 (bytesAt_oct hoct _ _) (bytesAt_len hys1 (by decide)) ?_
    case hm2 => lcg_off
    intro t6
    refine c_neB (bytesAt_oct hoct _ _) (bytesAt_oct hoct _ _) ?_
    rw [decide_eq_true (rfl : bytesAt y.mem (placeW y sp.q - 2) 5 = _), Bool.not_true]
    repeat (walk_at "m ev")
    refine ds_use hoct hys1 fun ds hds hd5 ld5 hys1 => ?_
    refine' CompW.sub (t := (_, { cls := .type "range", data := .fields #[.int 0 _, .int 4 _, .int 1 _] }) :: ((D1, listOf ys1.toArray n1) :: ([(C.L + 1 + 1 + 1, o1'), (C.L + 1 + 1, o2'), (C.L + 1, o3)] ++ (σ.led w ++ (PenO.led w P2 ++ (ω.led w ++ ((O.oa, listOf (its.map SpO.val).toArray no) :: (([sp.ent] ++ o.led w) ++ O.all.map SpO.ent)))))))) ?ss ?_
    case ss => walk_at "m pkt"
    refine CompW.named ?_
    intro L9
    refine' c_compN (a := 0) (m := 4) ?c4 ?c5 he (fun i ys led => IntsAre ys (hits (fun j => decide (blk ds j 2 = blk ds 2 2)) i) ∧ i ≤ 4 ∧ led = L9) ?dJ ?dlen ?dturn ?dfin
    case c4 => decide
    case c5 => decide
    case dJ => exact ⟨.nil, by decide, rfl⟩
    case dlen =>
      rintro i ys led ⟨h, h2, rfl⟩
      exact hits_le h h2
    case dturn =>
      rintro i t' hi C' D I oL oI ys n' _ hR' ⟨hys, _, rfl⟩ env' he' led Q'
      have hR1 := hR' hR
      repeat (walk_at "m ev")
      refine' c_slAB ?hm2 hys1 (by lia) (by lia) (five_le hys1 ld5) ?_
      case hm2 => lcg_off
      intro B1 ws1 hw1 _
      have hw1 := sl_two ld5 (by lia) (by lia) hi hw1
      repeat (walk_at "m ev")
      refine' c_slAB ?hm2 hys1 (by lia) (by lia) (five_le hys1 ld5) ?_
      case hm2 => lcg_off
      intro B2 ws2 hw2 _
      have hw2 := sl_two (i := 2) ld5 rfl rfl (by decide) hw2
      repeat (walk_at "m ev")
      refine' c_eqInts ?hm3 hw1 ?hm4 hw2 hR1 rfl ?_
      case hm3 => lcg_off
      case hm4 => lcg_off
      repeat (walk_at "m ev")
      refine r_iteD (fun heq => ?_) fun hne => ?_
      ·
        repeat (walk_at "m ev")
        refine Turn3.sub (t := L9) ?ss ⟨hits_yes heq hys, hi, rfl⟩
        case ss => walk_at "m pkt"
      ·
        repeat (walk_at "m ev")
        refine Turn3.sub (t := L9) ?ss ⟨hits_no hne hys, hi, rfl⟩
        case ss => walk_at "m pkt"
    case dfin =>
      rintro D2 ys2 n2 _ ⟨hys2, _, rfl⟩ led
      refine hits_use (ds := ds) rfl fun i0 r hi0 hpi hno e0 => ?_
      rw [e0] at hys2
      walk_at "m ev"
      refine' c_iget ?hm5 hys2 (by decide) (by simp) (by decide) ?_
      case hm5 => lcg_off
      intro tg
      rw [show ((i0 : Int) :: r).getD (0 : Int).toNat 0 = (i0 : Int) from rfl]
      repeat (walk_at "m ev")
      refine' c_slAB ?hm2 hys1 (by lia) (by lia) (five_le hys1 ld5) ?_
      case hm2 => lcg_off
      intro B3 ws3 hw3 _
      have hw3 := sl_two (i := 2) ld5 rfl rfl (by decide) hw3
      repeat (walk_at "m ev")
      refine' c_bytes ?hm2 hw3 (blk_oct hd5 2 2) (two_le hw3) ?_
      case hm2 => lcg_off
      intro t7
      repeat (walk_at "m ev")
      refine' c_findAt (i0 := i0) hR rfl hmem hoct hd5 rfl ld5 ?hb hds hi0 hpi hno ?sl ?_
      case hb => lia
      case sl => kpt_turns
      intro t8 _
      repeat (walk_at "m ev")
      refine' c_readMem hR rfl hσ hzok ho hs5 hN rfl ?sl ?_
      case sl => walk_at "m slot2"
      intro t9 _
      repeat (walk_at "m ev")
      refine' c_lload (N := N) hR rfl hω hN8 hN16 rfl ?sl ?_
      case sl => kpt_turns
      intro t10 _
      repeat (walk_at "m ev")
      rw [hr.place hspq, hr.mem, beq_self_eq_true]
      refine' deed_end (P' := P2) (O' := ⟨O.oa, no, its, sp :: O.all⟩) (ω' := ω) (σ' := σ) fini perm (sub_dropb.trans ?ss) hpn2 hP2 rfl hO1 rfl rfl hσ hω hr (Nat.le_add_right _ _)
      case ss => exact ss_hole (o.led w) (by walk_at "m pkt")
end
-- F31
section
variable {w : World} {p : Program} {loose : List Str} {mean : ExcName → Option Value} {mg mb : Str → Option Value} {hb : Heap}
section
variable {C : Cx w} {l : Loc} {led : Led} {Q : Value → Loc → Led → Prop} {F U : Nat} {fl : Led → Led → Led} {fl1 : Led → Led} {σ : Mac} {z : MState} {P : PenO}
theorem c_register {pn : Addr} (hR : Room C F U) (hle : (Nat.ble 4 F && Nat.ble 150 U) = true) (hP : P.Ok) (e : P.pn = pn) (sl : Slot (P.led w) led fl1)
    (k : ∀ (P' : PenO) (r : RegO) (ρ : Rg), P'.Ok → P'.pn = pn → r.Is ρ → ρ.Ok → let led' : Led := r.led w ++ fl1 (P'.led w); Q (.ref r.x) l led') : Wp C (call (.ref 677) [.ref pn]) Q l led := fun s S => by
  subst e
  obtain ⟨rest, p1, p2⟩ := sl.perm
  have r := hR.le hle
  exact use (register_does C.G₀ hP) C.G (S.perm p1) .here C.hh r.d r.u fun v led' s' r S' => by
    obtain ⟨P', r, ρ, h1, h2, h3, h4, rfl, rfl⟩ := r
    refine ⟨_, _, S'.perm ?_, k P' r ρ h2 h1 h3 h4⟩
    rw [List.append_assoc]
    exact (p2 _).append_left _
theorem c_writeReg {r : RegO} {ρ : Rg} {rest : Led} {x dx : Addr} {a b c : Tok} {n v : Int} {t u : Tok} {st : Addr} (hR : Room C F U) (hle : (Nat.ble 7 F && Nat.ble 200 U) = true) (hσ : σ.Is w z) (hz : z.Ok) (hr : r.Is ρ) (ok : ρ.Ok) (hn : n = 8 ∨ n = 16 ∨ n = 32 ∨ n = 64 ∨ n = 128) (hst : σ.st = st)
    (k : ∀ (σ' : Mac), σ'.st = st → σ'.Is w (putLowZ z ρ n v) → let led' : Led := (r.led w ++ σ'.led w) ++ rest; Q .none l led') :
    Wp C (call (.ref 445) [.ref st, .ref x, .int n t, .int v u]) Q l (([(x, instObj 553 dx), (dx, dictOf [dE w "kind" a (.str (Str.ofString "reg") b), dE w "register" c (.ref r.x)] 2)] ++ (r.led w ++ σ.led w)) ++ rest) := by
  subst hst
  exact c_does (write_reg_does C.G₀ hσ hz hr ok hn) .here hR hle (by rintro _ _ ⟨rfl, σ', e1, e4, rfl⟩; exact k σ' e1 e4)
theorem c_writeMem {o : MemOp} {q : Spot} {n x : Int} {t u : Tok} {N : Nat} {st : Addr} (hR : Room C F U) (hle : (Nat.ble 7 F && Nat.ble 200 U) = true) (hσ : σ.Is w z) (hz : z.Ok) (hlen : z.mem.length ≤ 1000000) (ho : o.Is q) (hn : n = 8 ∨ n = 16 ∨ n = 32 ∨ n = 64 ∨ n = 128) (hN : n = 8 * (N : Int)) (hst : σ.st = st)
    (sl : Slot2 (o.led w) (σ.led w) led fl) (k : ∀ (σ' : Mac), σ'.st = st → σ'.Is w { z with mem := storeN z.mem (placeZ z q) x N } → let led' : Led := fl (o.led w) (σ'.led w); Q .none l led') : Wp C (call (.ref 445) [.ref st, .ref o.x, .int n t, .int x u]) Q l led := by
  subst hst
  exact c_does2 (write_mem_does C.G₀ hσ hz hlen ho hn hN) sl hR hle (by rintro _ _ ⟨rfl, σ', e1, e4, rfl⟩; exact k σ' e1 e4)
theorem c_stack {b : Bool} {rest : Led} {ω : WorldO} {y : WState} {pn : Addr} (hR : Room C F U) (hle : (Nat.ble 8 F && Nat.ble 300 U) = true) (hP : P.Ok) (hσ : σ.Is w z) (hω : ω.Is w y) (hr : Rel z y) (hlen : z.mem.length ≤ 100000) (e : P.pn = pn)
    (k : ∀ v led', StackR w P ω σ z v led' → let led'' : Led := led' ++ rest; Q v l led'') : Wp C (call (.ref 752) [.ref pn, .ref ω.wd, .ref σ.st, .bool b]) Q l ((P.led w ++ (ω.led w ++ σ.led w)) ++ rest) := by
  subst e
  exact c_does (law_stack_does C.G₀ hP hσ hω hr hlen) .here hR hle k
theorem c_looked {O : OldsO} {m : Nat} {ω : WorldO} {y : WState} {pn : Addr} (hR : Room C F U) (hle : (Nat.ble 8 F && Nat.ble 400 U) = true) (hP : P.Ok) (hO : O.Ok m) (hm : m ≤ 1000) (hσ : σ.Is w z) (hω : ω.Is w y) (hr : Rel z y) (hlen : z.mem.length ≤ 100000) (e : P.pn = pn)
    (k : ∀ v led', DeedR w P O ω σ z m v led' → Q v l led') : Wp C (call (.ref 757) [.ref pn, .ref ω.wd, .ref σ.st, .ref O.oa]) Q l (P.led w ++ (O.led ++ (ω.led w ++ σ.led w))) := by
  subst e
  exact c_does (law_looked_does C.G₀ hP hO hm hσ hω hr hlen) .all hR hle k
end
local macro_rules | `(tactic| walk_at "m cmp") => `(tactic| with_reducible refine c_neS ?_)
theorem div8_use {n : Int} {Z : Prop} (h : n = 8 ∨ n = 16 ∨ n = 32 ∨ n = 64 ∨ n = 128) (k : ∀ N : Nat, n = 8 * (N : Int) → Z) : Z :=
  let ⟨_, N, _, _, hN⟩ := div8 h
  k N hN
theorem rg_bytes {ρ : Rg} (h : ρ.Ok) : ∃ N : Nat, ρ.z = 8 * (N : Int) := by
  cases h with
  | gpr _ _ hz =>
    rcases hz with rfl | rfl | rfl | rfl
    · exact ⟨1, rfl⟩
    · exact ⟨2, rfl⟩
    · exact ⟨4, rfl⟩
    · exact ⟨8, rfl⟩
  | high _ _ => exact ⟨1, rfl⟩
  | xmm _ _ => exact ⟨16, rfl⟩
theorem rg_use {ρ : Rg} {sz : Int} {Z : Prop} (h : ρ.Ok) (hs : sz = ρ.z) (k : ∀ N : Nat, ρ.z = 8 * (N : Int) → sz = 8 * (N : Int) → Z) : Z :=
  let ⟨N, hN⟩ := rg_bytes h
  k N hN (hs.trans hN)
theorem rg_xmm {ρ : Rg} (h : ρ.Ok) (hx : ρ.k = .xmm) : ρ.z = 128 := by
  cases h with
  | gpr _ _ _ => exact absurd hx (fun h => nomatch h)
  | high _ _ => exact absurd hx (fun h => nomatch h)
  | xmm _ _ => rfl
theorem rg_fit {ρ : Rg} {y : WState} {n : Int} {N : Nat} (h : ρ.Ok) (hy : y.Ok) (hn : n = 8 * (N : Int)) (h1 : ρ.k ≠ .xmm → n = ρ.z) (h2 : ρ.k = .xmm → n = 32 ∨ n = 64 ∨ n = 128) : beginZ ρ + N ≤ (cellsOf y ρ.k).length := by
  cases h with
  | gpr a b hz =>
    have := h1 (fun h => nomatch h)
    dsimp only at this
    dsimp only
    rw [cells_gpr (by decide), hy.cells]
    simp only [beginZ]; lia
  | high a b =>
    have := h1 (fun h => nomatch h)
    dsimp only at this
    dsimp only
    rw [cells_gpr (by decide), hy.cells]
    simp only [beginZ]; lia
  | xmm a b =>
    have := h2 rfl
    dsimp only
    rw [cells_xmm, hy.xcells]
    simp only [beginZ]; lia
theorem rg_gpr {ρ : Rg} (h : ρ.Ok) (hk : ρ.k = .gpr) : beginZ ρ + 8 ≤ 128 := by
  cases h with
  | gpr a b hz => simp only [beginZ]; lia
  | high _ _ => exact absurd hk (fun h => nomatch h)
  | xmm _ _ => exact absurd hk (fun h => nomatch h)
theorem rg_size {ρ : Rg} (h : ρ.Ok) : ρ.z = 8 ∨ ρ.z = 16 ∨ ρ.z = 32 ∨ ρ.z = 64 ∨ ρ.z = 128 := by
  cases h with
  | gpr _ _ hz => dsimp only; lia
  | high _ _ => dsimp only; lia
  | xmm _ _ => dsimp only; omega
theorem size3 {x : Int} (h0 : 0 ≤ x) (h1 : x < 3) : (([32, 64, 128] : List Int).getD x.toNat 0 = 32 ∨ ([32, 64, 128] : List Int).getD x.toNat 0 = 64 ∨ ([32, 64, 128] : List Int).getD x.toNat 0 = 128) := by
  have : x = 0 ∨ x = 1 ∨ x = 2 := by lia
  rcases this with rfl | rfl | rfl <;> decide
theorem size3_use {x : Int} {Z : Prop} (h : 0 ≤ x ∧ x < 3) (k : ∀ (n : Int), ([32, 64, 128] : List Int).getD x.toNat 0 = n → (n = 32 ∨ n = 64 ∨ n = 128) → (n = 8 ∨ n = 16 ∨ n = 32 ∨ n = 64 ∨ n = 128) → Z) : Z :=
  have h3 := size3 h.1 h.2
  k _ rfl h3 (by lia)
theorem rel_sz {z : MState} {y : WState} {ρ : Rg} {a b x : Int} {N : Nat} (e : a = b) (h : Rel z (putW y ρ b x N)) : Rel z (putW y ρ a x N) := by rw [e]; exact h
theorem putZ_mem (z : MState) (ρ : Rg) (x : Int) : (putZ z ρ x).mem = z.mem := by unfold putZ; split <;> rfl
theorem putLowZ_mem (z : MState) (ρ : Rg) (n x : Int) : (putLowZ z ρ n x).mem = z.mem := by
  unfold putLowZ; split
  · rfl
  · exact putZ_mem z ρ x
theorem OldsO.Ok.mono {O : OldsO} {m : Nat} (h : O.Ok m) : O.Ok (m + 1) := ⟨h.sub, h.ok, Nat.le_succ_of_le h.len⟩
theorem sub_p0' {a b c d : Led} : SubL (a ++ (b ++ (c ++ d))) ((a ++ (b ++ c)) ++ d) := .perm (by rw [List.append_assoc, List.append_assoc])
theorem r_iteOr {a b c : Int} {X Y : Prop} (h1 : (a = c ∨ b = c) → X) (h2 : ¬ (a = c ∨ b = c) → Y) : if (a == c || b == c) = true then X else Y := by
  by_cases h : a = c ∨ b = c
  · rw [if_pos (by simpa using h)]; exact h1 h
  · rw [if_neg (by simpa using h)]; exact h2 h
theorem le16 {z' z : MState} (e : z'.mem = z.mem) : z'.mem.length ≤ z.mem.length + 16 := by rw [e]; exact Nat.le_add_right _ _
theorem store16 {ms : List (Int × Int)} {a x : Int} {N : Nat} (h : N ≤ 16) : (storeN ms a x N).length ≤ ms.length + 16 := Nat.le_trans (storeN_length _ _ _ _) (Nat.add_le_add_left h _)
theorem r_iteKd {r : RegO} {ρ : Rg} {X Y : Prop} (hr : r.Is ρ) (h1 : ρ.k ≠ .xmm → X) (h2 : ρ.k = .xmm → Y) : if (r.kd != Str.ofString "xmm") = true then X else Y := by
  by_cases hx : ρ.k = .xmm
  · have e3 : (r.kd != Str.ofString "xmm") = false := by rw [hr.kd, hx]; decide +kernel
    exact r_iteC0 e3 (h2 hx)
  · have e3 : (r.kd != Str.ofString "xmm") = true := by rw [hr.kd, bne, RK.not_xmm _ hx]; rfl
    exact r_iteC1 e3 (h1 hx)
theorem law_deed_does (G : G0 w p loose mean mg mb hb) {P : PenO} {O : OldsO} {ω : WorldO} {σ : Mac} {z : MState} {y : WState} {m : Nat} (hP : P.Ok) (hO : O.Ok m) (hm : m ≤ 1000) (hσ : σ.Is w z) (hω : ω.Is w y) (hr : Rel z y) (hlen : z.mem.length ≤ 99000) :
    Does w hb 9 500 764 [.ref P.pn, .ref ω.wd, .ref σ.st, .ref O.oa] [] (P.led w ++ (O.led ++ (ω.led w ++ σ.led w))) (DeedR w P O ω σ z m) := by
  have hpn : P.pn = P.pn := rfl
  have hyok := hr.okW
  have hzok := hr.okZ
  refine' enterB (binds := [(Str.ofString "pen", .ref P.pn), (Str.ofString "world", .ref ω.wd), (Str.ofString "state", .ref σ.st), (Str.ofString "olds", .ref O.oa)]) (by assumption) ?k6 ?k7 ?k9 ?kB [(Str.ofString "olds", .ref O.oa), (Str.ofString "state", .ref σ.st), (Str.ofString "world", .ref ω.wd), (Str.ofString "pen", .ref P.pn)] rfl ?_ ?c2 ?c3 ?c4 ?c5
  case k6 => k_is
  case k7 => k_is
  case k9 => (intro s hs; first | exact BindsTo.of_eq rfl | exact binds_K (Frag.In.keeps (G0.X (by assumption)) hs) rfl (by k_is) rfl rfl rfl)
  case c5 => decide
  case kB => exact locs rfl
  case c2 => exact rfl
  case c3 => exact rfl
  case c4 => exact rfl
  intro C Q hR fini finn perm env l led he
  refine Wp.sub (t := P.led w ++ (ω.led w ++ (σ.led w ++ O.led))) sub_last ?_
  refine Wp.named ?_
  intro led
  repeat (walk_at "m ev")
  rename PenO.Ok _ => hP1
  rename PenO.pn _ = _ => hpn1
  rename PenO => P1
  rename 0 ≤ _ ∧ _ < (8 : Int) => hx8
  rename Int => x8
  refine' c_inTup2 ?hm2 ?_
  case hm2 => lcg_off
  repeat (walk_at "m ev")
  refine r_iteOr (fun _ => ?_) fun _ => ?_
  ·
    repeat (walk_at "m ev")
    refine' Wp.sub (t := (P1.led w ++ (ω.led w ++ σ.led w)) ++ O.led) ?ss ?_
    case ss => walk_at "m pkt"
    refine c_stack hR rfl hP1 hσ hω hr (by lia) hpn1 ?_
    rintro _ _ ⟨rfl, P', ω', σ', z', y', q1, q2, q3, q4, q5, q6, q7, q8, rfl⟩ _
    repeat (walk_at "m ev")
    exact deed_end (P' := P') (ω' := ω') (σ' := σ') fini perm (O' := O) sub_p0' (q1.trans hpn1) q2 rfl hO.mono q3 q4 q5 q6 q7 q8
  ·
    repeat (walk_at "m ev")
    refine r_iteE (fun h4 => ?_) fun h4 => ?_
    ·
      repeat (walk_at "m ev")
      refine' Wp.sub (t := P1.led w ++ (O.led ++ (ω.led w ++ σ.led w))) ?ss ?_
      case ss => exact sub_back.trans (by walk_at "m pkt")
      refine c_looked hR rfl hP1 hO hm hσ hω hr (by lia) hpn1 ?_
      rintro _ _ ⟨rfl, P', O', ω', σ', z', y', q1, q2, qa, qb, q3, q4, q5, q6, q7, q8, rfl⟩
      repeat (walk_at "m ev")
      exact fini ⟨rfl, P', O', ω', σ', z', y', q1.trans hpn1, q2, qa, qb, q3, q4, q5, q6, q7, q8, rfl⟩
    ·
      repeat (walk_at "m ev")
      refine r_iteD (fun h5 => ?_) fun h5 => ?_
      ·
        repeat (walk_at "m ev")
        rename PenO.Ok _ => hP2'
        rename PenO.pn _ = _ => hpn2'
        refine' c_register hR rfl hP2' hpn2' ?sl ?_
        case sl => kpt_turns
        intro P3 r ρ hP3 hpn3 hrρ hρ _
        repeat (walk_at "m ev")
        rename Int => x2
        have hsz := hrρ.sz
        refine r_iteE (fun hput => ?_) fun hput => ?_
        ·
          repeat (walk_at "m ev")
          refine' c_put hR rfl hσ hzok hrρ hρ rfl ?sl ?_
          case sl => walk_at "m slot2"
          intro σ' hst' _ _ hσ' _
          repeat (walk_at "m ev")
          refine rg_use hρ hsz fun N hN0 hN => ?_
          refine' c_lput (N := N) hR rfl hω hyok hrρ hρ hN (rg_fit hρ hyok hN (fun _ => hsz) fun hx => .inr (.inr (hsz.trans (rg_xmm hρ hx)))) (rg_gpr hρ) rfl ?sl ?_
          case sl => walk_at "m slot2"
          intro ω' hwd' hω' _
          repeat (walk_at "m ev")
          rename PenO.Ok _ => hP5
          rename PenO.pn _ = _ => hpn5
          rename PenO => P5
          refine' deed_end (P' := P5) (ω' := ω') (σ' := σ') fini perm (O' := O) ?ss hpn5 hP5 rfl hO.mono hwd' hst' hσ' hω' (rel_sz hsz (hr.put hρ hN0)) (le16 (putZ_mem ..))
          case ss => walk_at "m pkt"
        ·
          repeat (walk_at "m ev")
          refine r_iteKd hrρ (fun hx => ?_) fun hx => ?_
          ·
            repeat (walk_at "m ev")
            have hs5 : r.sz = 8 ∨ r.sz = 16 ∨ r.sz = 32 ∨ r.sz = 64 ∨ r.sz = 128 := by rw [hsz]; exact rg_size hρ
            refine' c_Reg hR rfl ?sl ?_
            case sl => kpt_turns
            intro xo dxo k1 k2 k3 _
            repeat (walk_at "m ev")
            refine div8_use hs5 fun N hN => ?_
            rename PenO => P6
            refine' Wp.sub (t := ([(xo, instObj 553 dxo), (dxo, dictOf [dE w "kind" k1 (.str (Str.ofString "reg") k2), dE w "register" k3 (.ref r.x)] 2)] ++ (r.led w ++ σ.led w)) ++ (P6.led w ++ (ω.led w ++ O.led))) ?ss ?_
            case ss => walk_at "m pkt"
            refine c_writeReg hR rfl hσ hzok hrρ hρ hs5 rfl ?_
            intro σ' hst' hσ' _
            repeat (walk_at "m ev")
            refine' c_lput (N := N) hR rfl hω hyok hrρ hρ hN (rg_fit hρ hyok hN (fun _ => hsz) (fun h => absurd h hx)) (rg_gpr hρ) rfl ?sl ?_
            case sl => walk_at "m slot2"
            intro ω' hwd' hω' _
            repeat (walk_at "m ev")
            rename PenO.Ok _ => hP5
            rename PenO.pn _ = _ => hpn5
            rename PenO => P5
            refine' deed_end (P' := P5) (ω' := ω') (σ' := σ') fini perm (O' := O) ?ss hpn5 hP5 rfl hO.mono hwd' hst' hσ' hω' (hr.putLow hρ hN (fun _ => hsz) (fun h => absurd h hx)) (le16 (putLowZ_mem ..))
            case ss => walk_at "m pkt"
          ·
            repeat (walk_at "m ev")
            rename 0 ≤ _ ∧ _ < (3 : Int) => hx3
            refine size3_use hx3 fun n en hs3 hs5 => ?_
            subst en
            refine' c_Reg hR rfl ?sl ?_
            case sl => kpt_turns
            intro xo dxo k1 k2 k3 _
            repeat (walk_at "m ev")
            refine div8_use hs5 fun N hN => ?_
            rename PenO => P6
            refine' Wp.sub (t := ([(xo, instObj 553 dxo), (dxo, dictOf [dE w "kind" k1 (.str (Str.ofString "reg") k2), dE w "register" k3 (.ref r.x)] 2)] ++ (r.led w ++ σ.led w)) ++ (P6.led w ++ (ω.led w ++ O.led))) ?ss ?_
            case ss => walk_at "m pkt"
            refine c_writeReg hR rfl hσ hzok hrρ hρ hs5 rfl ?_
            intro σ' hst' hσ' _
            repeat (walk_at "m ev")
            refine' c_lput (N := N) hR rfl hω hyok hrρ hρ hN (rg_fit hρ hyok hN (fun h => absurd hx h) (fun _ => hs3)) (rg_gpr hρ) rfl ?sl ?_
            case sl => walk_at "m slot2"
            intro ω' hwd' hω' _
            repeat (walk_at "m ev")
            rename PenO.Ok _ => hP5
            rename PenO.pn _ = _ => hpn5
            rename PenO => P5
            refine' deed_end (P' := P5) (ω' := ω') (σ' := σ') fini perm (O' := O) ?ss hpn5 hP5 rfl hO.mono hwd' hst' hσ' hω' (hr.putLow hρ hN (fun h => absurd hx h) (fun _ => hs3)) (le16 (putLowZ_mem ..))
            case ss => walk_at "m pkt"
      ·
        repeat (walk_at "m ev")
        refine' c_spot hR rfl hP1 hO hm hpn1 rfl ?sl ?_
        case sl => walk_at "m slot2"
        intro P4 sp its no hP4 hpn4 hO1 _
        have hspq : sp.q.Ok := hO1.ok sp (.head _)
        refine' Wp.sub (t := PenO.led w P4 ++ (ω.led w ++ (σ.led w ++ ((O.oa, listOf (its.map SpO.val).toArray no) :: ([sp.ent] ++ O.all.map SpO.ent))))) ?ss ?_
        case ss => walk_at "m pkt"
        refine Wp.named ?_
        intro led
        repeat (walk_at "m ev")
        refine' c_lplace hR rfl hspq hω hyok rfl ?sl ?_
        case sl => walk_at "m slot2"
        intro tb _
        repeat (walk_at "m ev")
        rename 0 ≤ _ ∧ _ < (5 : Int) => hx5
        refine size5_use hx5 fun n N en hs5 hN8 hN16 hN => ?_
        subst en
        refine' c_lmemR hR rfl hspq ?sl ?_
        case sl => kpt_turns
        intro o ho _
        repeat (walk_at "m ev")
        refine' c_writeMem hR rfl hσ hzok (by lia) ho hs5 hN rfl ?sl ?_
        case sl => walk_at "m slot2"
        intro σ' hst' hσ' _
        repeat (walk_at "m ev")
        have hym : y.mem.length ≤ 1000000 := by rw [← hr.mem]; lia
        refine' c_lstore (N := N) hR rfl hω hym hN8 hN16 rfl ?sl ?_
        case sl => kpt_turns
        intro ω' hwd' hω' _
        repeat (walk_at "m ev")
        rename PenO.Ok _ => hP5
        rename PenO.pn _ = _ => hpn5
        rename PenO => P5
        refine' deed_end (P' := P5) (O' := ⟨O.oa, no, its, sp :: O.all⟩) (ω' := ω') (σ' := σ') fini perm (sub_dropb.trans ?ss) hpn5 hP5 rfl hO1 hwd' hst' hσ' hω' (hr.store (by rw [hr.mem, hr.place hspq])) (store16 hN16)
        case ss => exact ss_hole (o.led w) (by walk_at "m pkt")
end
-- Rules13
section
variable {prog : Program} {w : World} {A : Around} {E : Value → Shared → Prop} {s : Shared} {b : Array UInt8} {t : Tok}
theorem nextOf_bytes_item {it : Addr} {i : Nat} {c : UInt8} {Q : Value → Shared → Prop} (hit : KBw.IsBytesIter s.heap it b t i) (hx : b[i]? = some c)
    (hQ : ∀ h', KBw.IsBytesIter h' it b t (i + 1) → Heap.SameBut it s.heap h' → Q (.int (c.toNat : Int) s.toks) { s with heap := h', toks := s.toks + 1 }) : wpAny (model prog w) A (Builtin.SmallTypes.nextOf (.ref it)) Q E s := by
  obtain ⟨o, ho, hc, hd⟩ := id hit
  unfold Builtin.SmallTypes.nextOf
  refine wpAny_bind (wpAny_callSpecial?_slot (name := PySem.Str.ofString "__next__") (KBw.iter_typeIs hit) KBw.slot_next
    (wpAny_call_entry KBw.slot_next (KBw.iter_typeIs hit) KBw.entry_next ?_ (KBw.args_next _)))
  show wpAny _ _ (field (.ref it) 0 >>= _) _ _ s
  refine wpAny_bind (wpAny_field ho hd (x := .bytes b t) rfl ?_)
  show wpAny _ _ (if (Value.bytes b t == Value.none) = true then _ else _) _ _ s
  rw [if_neg (show ¬ ((Value.bytes b t == Value.none) = true) from Bool.false_ne_true)]
  show wpAny _ _ (field (.ref it) 1 >>= _) _ _ s
  refine wpAny_bind (wpAny_field ho hd (x := .int i 0) rfl ?_)
  refine wpAny_bind (wpAny_of_eq (a := b) rfl ?_)
  simp only [Int.toNat_natCast, hx]
  refine wpAny_bind (wpAny_setField ho hd (by simp) (wpAny_bind (wpAny_mkInt (wpAny_pure ⟨_, rfl, wpAny_pure (hQ _ ?_ (Heap.SameBut.update ..))⟩))))
  exact ⟨_, Heap.get?_update_self _ ho (Obj.isFreed_of_fields (Obj.data_mapFields hd _)), (Obj.cls_mapFields ..).trans hc, by
    rw [Obj.data_mapFields hd]; simp [rawInt]⟩
theorem nextOf_bytes_end {it : Addr} {i : Nat} {Q : Value → Shared → Prop} (hh : A.handled = none) (hit : KBw.IsBytesIter s.heap it b t i) (hx : b[i]? = none)
    (hE : ∀ h' e, Heap.ExtBut it s.heap h' → (∃ o, h'.get? e = some o ∧ o.cls = .type "StopIteration") → E (.ref e) { s with heap := h' }) : wpAny (model prog w) A (Builtin.SmallTypes.nextOf (.ref it)) Q E s := by
  obtain ⟨o, ho, hc, hd⟩ := id hit
  unfold Builtin.SmallTypes.nextOf
  refine wpAny_bind (wpAny_callSpecial?_slot (name := PySem.Str.ofString "__next__") (KBw.iter_typeIs hit) KBw.slot_next
    (wpAny_call_entry KBw.slot_next (KBw.iter_typeIs hit) KBw.entry_next ?_ (KBw.args_next _)))
  show wpAny _ _ (field (.ref it) 0 >>= _) _ _ s
  refine wpAny_bind (wpAny_field ho hd (x := .bytes b t) rfl ?_)
  show wpAny _ _ (if (Value.bytes b t == Value.none) = true then _ else _) _ _ s
  rw [if_neg (show ¬ ((Value.bytes b t == Value.none) = true) from Bool.false_ne_true)]
  show wpAny _ _ (field (.ref it) 1 >>= _) _ _ s
  refine wpAny_bind (wpAny_field ho hd (x := .int i 0) rfl ?_)
  refine wpAny_bind (wpAny_of_eq (a := b) rfl ?_)
  simp only [Int.toNat_natCast, hx]
  refine wpAny_bind (wpAny_rule (wpAny_bind (wpAny_setField ho hd (by simp) ?_)))
  show wpAny _ _ (newExc (.type "StopIteration") [] >>= _) _ _ _
  refine wpAny_bind ?_
  simp only [newExc, newTuple]
  refine wpAny_bind (wpAny_newObj_type ?_ (by size_fits))
  refine wpAny_bind (m := firstArgMember _ _) (wpAny_of_eq (a := Value.none) (by first | rfl | (simp only [firstArgMember]; rfl)) ?_)
  refine wpAny_newObj_type ?_ (by size_fits)
  simp only [raiseNew]
  refine wpAny_bind (wpAny_handled ?_)
  first | rw [show A.in1.handled = none from hh] | rw [hh]
  refine wpAny_bind (wpAny_pure (wpAny_throw ?_))
  exact hE _ _ (((Heap.SameBut.update ..).extBut.push _).push _) ⟨_, Heap.get?_push_size _ rfl, rfl⟩
theorem Draws_bytes (hh : A.handled = none) (it : Addr) (b : Array UInt8) (t : Tok) :
    Draws prog w A it [it] b.size (fun i v => ∃ c u, b[i]? = some c ∧ v = .int (c.toNat : Int) u) (fun i h => KBw.IsBytesIter h it b t i) where
  live := fun _ _ st => let ⟨o, ho, _⟩ := st; ⟨o, ho⟩
  frame := fun _ _ _ st hk => let ⟨o, ho, r⟩ := st; ⟨o, hk it (by simp) o ho, r⟩
  item := fun i s Q E hi st hQ => by
    refine nextOf_bytes_item st (c := b[i]) (by simp [hi]) fun h' hit' hs' => ?_
    exact hQ _ h' (s.toks + 1) ⟨_, _, by simp [hi], rfl⟩ hit' hs'
  done := fun s Q E st hE => nextOf_bytes_end hh st (by simp) hE
set_option maxHeartbeats 1000000 in
theorem meets_enumerate_newB (b : Array UInt8) (t : Tok) :
    Meets (Builtin.«enumerate.__new__» ⟨[.type "enumerate", .bytes b t], []⟩) (fun _ R s =>
      R (.ok (.ret (.ref (s.heap.push { cls := .type "bytes_iterator", data := .fields #[.bytes b t, .int 0 0] }).objs.size)))
        { s with heap := (s.heap.push { cls := .type "bytes_iterator", data := .fields #[.bytes b t, .int 0 0] }).push { cls := .type "enumerate", data := .fields #[.none, .bool false, .ref s.heap.objs.size, rawInt 0, .none, .none] } }) :=
  .of_wp fun prog w A R s h => by
    obtain ⟨hp, g, d, tk, os⟩ := s
    have hsub := sub_enumerate
    wp_walk
    refine wpAny_stack_any fun st => wpAny_pure ?_
    split
    · rename_i c _ _ _ _ _
      cases (c == Value.type "enumerate")
      · wp_walk using KBw.pyIter_bytes
        exact ⟨_, rfl, h⟩
      · wp_walk using KBw.pyIter_bytes
        exact ⟨_, rfl, h⟩
    · wp_walk using KBw.pyIter_bytes
      exact ⟨_, rfl, h⟩
end
section
variable {g : Heap} {L : Addr} {W : List Addr} {l : Loc} {news : Led} {s₀ s : Shared}
theorem St.mod2 {e it : Addr} {oe oit oe' oit' : Obj} {R : Led} (S : St g L W l ((e, oe) :: (it, oit) :: R) s₀ s) {h' : Heap} (hk : ∀ b x, b ≠ e → b ≠ it → s.heap.get? b = some x → h'.get? b = some x) (he : h'.get? e = some oe') (hi : h'.get? it = some oit') (t : Nat) :
    St g L W l ((e, oe') :: (it, oit') :: R) s₀ { s with heap := h', toks := t } := by
  obtain ⟨m, F, em⟩ := S.ns
  have De := S.N (e, oe) (.head _)
  have Di := S.N (it, oit) (.tail _ (.head _))
  have nd := S.nd
  rw [List.map_cons, List.nodup_cons, List.map_cons, List.nodup_cons] at nd
  obtain ⟨oL, es, ep, hL, r⟩ := F.ns
  refine ⟨⟨m, ⟨⟨oL, es, ep, hk L oL (Ne.symm De.2.1) (Ne.symm Di.2.1) hL, r⟩, fun b x q => hk b x (fun z => by rw [z, De.2.2] at q; cases q) (fun z => by rw [z, Di.2.2] at q; cases q) (F.keep b x q), F.above⟩, em⟩, fun q hq => ?_, S.same, ?_⟩
  · rcases List.mem_cons.mp hq with rfl | hq
    · exact ⟨he, De.2⟩
    · rcases List.mem_cons.mp hq with rfl | hq
      · exact ⟨hi, Di.2⟩
      · have P := S.N q (.tail _ (.tail _ hq))
        have hm := List.mem_map_of_mem (f := fun x : Addr × Obj => x.1) hq
        exact ⟨hk _ _ (fun z => nd.1 (List.mem_cons_of_mem _ (z ▸ hm))) (fun z => nd.2.1 (z ▸ hm)) P.1, P.2⟩
  · rw [List.map_cons, List.nodup_cons, List.map_cons, List.nodup_cons]
    exact nd
theorem St.dropMod2 {e it : Addr} {oe oit : Obj} {R : Led} (S : St g L W l ((e, oe) :: (it, oit) :: R) s₀ s) {h' : Heap} (hk : ∀ b x, b ≠ e → b ≠ it → s.heap.get? b = some x → h'.get? b = some x) (t : Nat) :
    St g L W l R s₀ { s with heap := h', toks := t } := by
  obtain ⟨m, F, em⟩ := S.ns
  have De := S.N (e, oe) (.head _)
  have Di := S.N (it, oit) (.tail _ (.head _))
  have nd := S.nd
  rw [List.map_cons, List.nodup_cons, List.map_cons, List.nodup_cons] at nd
  obtain ⟨oL, es, ep, hL, r⟩ := F.ns
  refine ⟨⟨m, ⟨⟨oL, es, ep, hk L oL (Ne.symm De.2.1) (Ne.symm Di.2.1) hL, r⟩, fun b x q => hk b x (fun z => by rw [z, De.2.2] at q; cases q) (fun z => by rw [z, Di.2.2] at q; cases q) (F.keep b x q), F.above⟩, em⟩, fun q hq => ?_, S.same, nd.2.2⟩
  have P := S.N q (.tail _ (.tail _ hq))
  have hm := List.mem_map_of_mem (f := fun x : Addr × Obj => x.1) hq
  exact ⟨hk _ _ (fun z => nd.1 (List.mem_cons_of_mem _ (z ▸ hm))) (fun z => nd.2.1 (z ▸ hm)) P.1, P.2⟩
end
section
variable {w : World} {A : Around} {E : Value → Shared → Prop} {env : Env} {Q : Value → Shared → Prop} {g : Heap} {L : Addr} {W : List Addr} {l : Loc} {news led : Led} {s₀ s : Shared}
theorem r_enumB {b : Array UInt8} {t : Tok} (S : St g L W l news s₀ s)
    (h : ∀ (e it : Addr) oe oit s', e ≠ it → IsEnum s'.heap e it 0 .none → KBw.IsBytesIter s'.heap it b t 0 → St g L W l ((e, oe) :: (it, oit) :: news) s₀ s' → Q (.ref e) s') :
    wpAny (model pgm w) A (call (.type "enumerate") [.bytes b t]) Q E s := by
  refine callType_new F.called_enumerate (by decide) (F.typeCall_enumerate_1 _) (F.newCall_enumerate_1 _) (fun obj => F.args_object_init_2 obj _) F.entry_enumerate_new (meets_enumerate_newB b t) ?_
  have hz : (s.heap.push { cls := .type "bytes_iterator", data := .fields #[.bytes b t, .int 0 0] }).objs.size = s.heap.objs.size + 1 := Heap.size_push ..
  show _ ∧ _
  have S1 := S.push { cls := .type "bytes_iterator", data := .fields #[.bytes b t, .int 0 0] }
  have S2 := S1.push { cls := .type "enumerate", data := .fields #[.none, .bool false, .ref s.heap.objs.size, rawInt 0, .none, .none] }
  dsimp only at S2
  have he : IsEnum ((s.heap.push { cls := .type "bytes_iterator", data := .fields #[.bytes b t, .int 0 0] }).push
      { cls := .type "enumerate", data := .fields #[.none, .bool false, .ref s.heap.objs.size, rawInt 0, .none, .none] }) (s.heap.push { cls := .type "bytes_iterator", data := .fields #[.bytes b t, .int 0 0] }).objs.size s.heap.objs.size 0 .none :=
    Heap.get?_push_size (s.heap.push { cls := .type "bytes_iterator", data := .fields #[.bytes b t, .int 0 0] }) (o := { cls := .type "enumerate", data := .fields #[.none, .bool false, .ref s.heap.objs.size, rawInt 0, .none, .none] }) rfl
  refine ⟨⟨_, he, rfl⟩, h _ s.heap.objs.size _ _ _ (by rw [hz]; exact Nat.ne_of_gt (Nat.lt_succ_self _)) he ⟨_, Heap.get?_push_of_some _ (Heap.get?_push_size _ rfl), rfl, rfl⟩ S2⟩
end
-- Rules14
theorem perm22 {a b c d : Addr × Obj} {r : Led} : (a :: b :: c :: d :: r).Perm (c :: d :: a :: b :: r) := by
  have h1 : (a :: b :: c :: d :: r).Perm (a :: c :: b :: d :: r) := (List.Perm.swap _ _ _).cons _
  have h2 : (a :: c :: b :: d :: r).Perm (c :: a :: b :: d :: r) := List.Perm.swap _ _ _
  have h3 : (c :: a :: b :: d :: r).Perm (c :: a :: d :: b :: r) := ((List.Perm.swap _ _ _).cons _).cons _
  have h4 : (c :: a :: d :: b :: r).Perm (c :: d :: a :: b :: r) := (List.Perm.swap _ _ _).cons _
  exact ((h1.trans h2).trans h3).trans h4
section
variable {w : World} {A : Around} {E : Value → Shared → Prop} {env : Env} {elt iter : Expr} {elts : List Expr} {x1 : Nat} {tp : Pos} {scope : Scope} {cl : List (Str × Addr)} {pos : Pos} {Q : Value → Shared → Prop} {g : Heap} {L : Addr} {W : List Addr} {l : Loc} {news led : Led} {s₀ s : Shared}
inductive CInv2 (g : Heap) (C L D e it : Addr) (WW : List Addr) (oL : Obj) (s₀ : Shared) (N : Nat) (J : Nat → List Value → Led → Prop) (It : Nat → Heap → Prop) (k : Nat) (s' : Shared) : Prop
  | mk (i : Nat) (oe' oit' : Obj) (ys : List Value) (n : Nat) (l' : Loc) (led' : Led) (hk : k = N + 1 - i) (hi : i ≤ N) (hJ : J i ys led') (hst : It i s'.heap) (S : St g C WW l' ((L, oL) :: (D, listOf ys.toArray n) :: (e, oe') :: (it, oit') :: led') s₀ s')
theorem r_compE {e it : Addr} {oe oit : Obj} {N : Nat} {Pt : Nat → Array Value → Prop} {It : Nat → Heap → Prop} {Mid : Nat → Addr → Heap → Prop}
    (Wk : WalksT pgm w A e [e, it] [e, it] N Pt It Mid) (hI : ∀ i h, It i h → (∃ o, h.get? e = some o) ∧ ∃ o, h.get? it = some o) (hh : A.handled = none)
    (J : Nat → List Value → Led → Prop) (S : St g L W l ((e, oe) :: (it, oit) :: led) s₀ s) (hst : It 0 s.heap) (hJ : J 0 [] led) (hlen : ∀ i ys led, J i ys led → ys.length ≤ sizeLine)
    (hcell : ∀ y ∈ scope.names, y.2 ≠ .cell) (hkind : scope.kind = .function) (hn : ∀ i vals C, Pt i vals → (assignEach elts (compEnvC scope cl C env)).length = vals.size) (hstar : ∀ C, (assignEach elts (compEnvC scope cl C env)).findIdx? (·.1) = none)
    (turn : ∀ C D oL i vals oe oit ys n led s E' W', i < N → Pt i vals → J i ys led → St g C W' [] ((L, oL) :: (D, listOf ys.toArray n) :: (e, oe) :: (it, oit) :: led) s₀ s →
      wpAny (model pgm w) A (assignInOrder ((assignEach elts (compEnvC scope cl C env)).map (·.2)) vals.toList) (fun _ s₂ => wpAny (model pgm w) A (eval elt (compEnvC scope cl C env)) (fun y s₄ => ∃ l' led', J (i + 1) (ys ++ [y]) led' ∧ St g C W' l' ((L, oL) :: (D, listOf ys.toArray n) :: (e, oe) :: (it, oit) :: led') s₀ s₄) E' s₂) E' s)
    (fin : ∀ D ys n led s, J N ys led → St g L W l ((D, listOf ys.toArray n) :: led) s₀ s → Q (.ref D) s) :
    CompGo w A E env elt (.Tuple elts x1 tp) iter [] scope cl pos Q (.ref e) s := by
  unfold CompGo
  refine wpAny_newObj_type (wpAny_newFunctionEnv hcell (by intro y hy; simp at hy) (fun h₁ hns₁ hsb₁ => ?_) hkind)
  have S1 := S.push { cls := .type "list", dict := none, data := .seq ([] : List Value).toArray }
  dsimp only at hns₁ hsb₁ ⊢
  obtain ⟨oL, m, hm, em, S2⟩ := S1.inner (tk := s.toks + ([] : List (Str × Value)).length) hns₁ hsb₁
  have hab : g.objs.size ≤ L := let ⟨_, F, _⟩ := S.ns; F.above
  have hLC : L < (s.heap.push { cls := .type "list", dict := none, data := .seq ([] : List Value).toArray }).objs.size := S1.ltL
  dsimp only at S2 hLC
  generalize (s.heap.push { cls := .type "list", dict := none, data := .seq ([] : List Value).toArray }).objs.size = C at *
  generalize s.heap.objs.size = D at *
  have two : ∀ {i : Nat} {h h' : Heap} {oe oit : Obj}, It i h → h.get? e = some oe → h.get? it = some oit → h'.get? e = some oe → h'.get? it = some oit → It i h' := by
    intro i h h' oe oit st a1 a2 b1 b2
    refine Wk.frame _ _ _ st fun b hb o eb => ?_
    rcases List.mem_cons.mp hb with rfl | hb
    · rw [← Option.some.inj (a1.symm.trans eb)]; exact b1
    · rw [List.mem_singleton.mp hb] at eb ⊢
      rw [← Option.some.inj (a2.symm.trans eb)]; exact b2
  have hst₁ : It 0 h₁ := two hst (S.at (.head _)) (S.at (.tail _ (.head _))) (S2.at (.tail _ (.tail _ (.head _)))) (S2.at (.tail _ (.tail _ (.tail _ (.head _)))))
  have loop : ∀ s₃ : Shared, s₃ = { s with heap := h₁, toks := s.toks + ([] : List (Str × Value)).length } →
      codeAny (model pgm w) A (.compLoop (.ListComp elt [⟨.Tuple elts x1 tp, iter, [], 0⟩] scope pos) 0 (.ref e) (.ref D) (compEnvC scope cl C env)) (compPost (model pgm w) A E none Q (.ref D) C) s₃ := by
    rintro s₃ rfl
    refine LCp.codeAny_compLoop_pair (CInv2 g C L D e it (L :: ((D, { cls := .type "list", dict := none, data := .seq ([] : List Value).toArray }) :: (e, oe) :: (it, oit) :: led).map (·.1)) oL s₀ N J It) ?_ (N + 1)
      ⟨0, oe, oit, [], 0, [], led, rfl, Nat.zero_le _, hJ, hst₁, S2⟩
    rintro k s' ⟨i, oe', oit', ys, n, l', led', rfl, hi, hJ', hst', S'⟩
    have S3 := S'.perm (news' := (e, oe') :: (it, oit') :: (L, oL) :: (D, listOf ys.toArray n) :: led') perm22
    by_cases hlt : i < N
    · refine Wk.item i s' _ _ hlt hst' fun T vals h' tk hP hT hTup hMid hk => ?_
      refine Wk.go _ _ _ _ _ _ _ _ hMid fun h'' hst'' hk2 => ?_
      have hTwr := Wk.apart _ _ _ hMid
      have hTup2 : IsTup h'' T vals := by
        obtain ⟨o, ho, r⟩ := hTup
        exact ⟨o, hk2 T o hTwr ho, r⟩
      obtain ⟨⟨oe2, he2⟩, ⟨oit2, hi2⟩⟩ := hI _ _ hst''
      have S4 := S3.mod2 (h' := h'') (fun b x h1 h2 q => hk2 b x (by simp [h1, h2]) (hk b x (by simp [h1, h2]) q)) he2 hi2 tk
      refine assign_Tuple_tuple hh hTup2 (hn _ _ _ hP) (hstar _) fun h5 hx => ?_
      have S5 := grow_of S4 hx
      have hst5 : It (i + 1) h5 := two hst'' he2 hi2 (S5.at (.head _)) (S5.at (.tail _ (.head _)))
      have S6 := (S5.perm (news' := (L, oL) :: (D, listOf ys.toArray n) :: (e, oe2) :: (it, oit2) :: led') perm22).loc (l' := []) (fun x v q => by simp at q)
      refine wpAny_mono (turn C D oL i vals oe2 oit2 ys n led' _ _ _ hlt hP hJ' S6) (fun _ s₂ h₂ => wpAny_mono h₂ (fun y s₄ h₄ => ?_) fun _ _ e => e) fun _ _ e => e
      obtain ⟨l₁, led₁, hJ₁, S₄⟩ := h₄
      refine r_append (vs := ys) S₄ (.skip .here) (hlen _ _ _ hJ') fun s₅ S₅ => ?_
      refine ⟨N + 1 - (i + 1), by lia, i + 1, oe2, oit2, ys ++ [y], n + 1, l₁, led₁, rfl, hlt, hJ₁, ?_, S₅⟩
      exact two hst'' he2 hi2 (S₅.at (.tail _ (.tail _ (.head _)))) (S₅.at (.tail _ (.tail _ (.tail _ (.head _)))))
    · have hin : i = N := by lia
      subst hin
      refine Wk.done s' _ _ hst' fun h' tk hk => ?_
      have S4 := S3.dropMod2 (h' := h') (fun b x h1 h2 q => hk b x (by simp [h1, h2]) q) tk
      obtain ⟨mC, FC, _⟩ := S4.ns
      refine ⟨mC, FC.ns, fun h'' hs'' => ?_⟩
      exact fin D ys n led' _ hJ' (St.outer hm em hab hLC S4 hs'' (tk := tk))
  exact codeAny_compStart_list (loop _ rfl) (Wk.self 0 _ _ _ hst₁ (loop _ rfl))
end
-- Rules15
section
variable {w : World} {A : Around} {E : Value → Shared → Prop} {Q : Value → Shared → Prop} {g : Heap} {L : Addr} {W : List Addr} {l : Loc} {news : Led} {s₀ s : Shared} {D B : Addr} {vs us : List Value} {n k : Nat}
theorem r_m_extend {pl : Sem Bool} {Q : Value × List Value → Shared → Prop} (S : St g L W l news s₀ s) (hm : (D, listOf vs.toArray n) ∈ news) (h : Q (.builtin "list.extend", [.ref D]) s) :
    wpAny (model pgm w) A (getMethod (.ref D) "extend" pl) Q E s :=
  getMethod_builtin ⟨_, (S.N _ hm).1, rfl⟩ PySem.F.plainAttrs_list PySem.F.slot_list_extend PySem.F.type_list_extend (fun a e => by cases e; exact ⟨_, (S.N _ hm).1, rfl⟩) h
theorem r_extend {fl : Obj → Led} (S : St g L W l news s₀ s) (U : At D (listOf vs.toArray n) news fl) (hb : (B, listOf us.toArray k) ∈ news) (hz : vs.length + us.length ≤ 1000000)
    (h : ∀ n' s', St g L W l (fl (listOf (vs ++ us).toArray n')) s₀ s' → Q .none s') : wpAny (model pgm w) A (call (.builtin "list.extend") [.ref D, .ref B]) Q E s := by
  have z := S.N _ U.mem
  have hsl := sizeLine_eq
  refine call_meets PySem.F.slot_list_extend ⟨_, z.1, rfl⟩ PySem.F.entry_list_extend (PySem.F.args_list_extend_2 _ _) (PySem.AutoSeq1.list_extend_list_list_0 D vs.toArray n B us.toArray k ?_ (by simp; lia) (by simp; lia)) ⟨z.1, (S.N _ hb).1, ?_⟩
  · have : Builtin.List.listTooLong (vs.toArray.size + us.toArray.size) = false := by
      unfold Builtin.List.listTooLong
      simp; lia
    rw [this, Bool.and_false]; decide
  · obtain ⟨n', hn'⟩ : ∃ n', (s.heap.update D (Obj.mapSeq fun x => x ++ us.toArray)).get? D = some (listOf (vs ++ us).toArray n') := by
      have e := get?_update_seq (c := "list") z.1 (fun x => x ++ us.toArray)
      rw [show vs.toArray ++ us.toArray = (vs ++ us).toArray by simp] at e
      exact ⟨_, e⟩
    exact h n' _ (S.put U (Heap.SameBut.update ..) hn' s.toks)
end
section
variable {A : Around} {s : Shared} {a b : Addr} {vs us : List Value} {n k : Nat}
theorem eqT_tup (h1 : s.heap.get? a = some (tupOf vs.toArray n)) (h2 : s.heap.get? b = some (tupOf us.toArray k)) (hl : vs.length = us.length) (he : ∀ (j : Nat) (x y : Value), vs[j]? = some x → us[j]? = some y → SeqAt.EqAt A.in1 s x y true) (hu : A.units < cLine) :
    SeqAt.EqAt A s (.ref a) (.ref b) true := by
  by_cases e : a = b
  · subst e; exact SeqAt.EqAt.same _
  · have hr := SeqAt.RcAt.tuples (A := A) (l := a) (b := b) (items := vs.toArray) (items2 := us.toArray) (e := fun _ => true) ⟨_, h1, rfl, n, rfl⟩ ⟨_, h2, rfl, k, rfl⟩ hu fun j h1 h2 => he j _ _ (by simpa using List.getElem?_eq_getElem (by simpa using h1)) (by simpa using List.getElem?_eq_getElem (by simpa using h2))
    have : ((List.range (min vs.toArray.size us.toArray.size)).all (fun _ => true) && vs.toArray.size == us.toArray.size) = true := by simp [hl]
    rw [this] at hr
    exact SeqAt.EqAt.of_refs e hr
theorem eqT_ints {ns : List Int} (h1 : IntsAre vs ns) (h2 : IntsAre us ns) : ∀ (j : Nat) (x y : Value), vs[j]? = some x → us[j]? = some y → SeqAt.EqAt A s x y true := by
  intro j x y hx hy
  obtain ⟨t, rfl⟩ := ints_at h1 hx
  obtain ⟨u, rfl⟩ := ints_at h2 hy
  have := SeqAt.EqAt.int_int (A := A) (s := s) (ns.getD j 0) t (ns.getD j 0) u
  rwa [beq_self_eq_true] at this
theorem eqT_pair {p q : PrO} (h1 : s.heap.get? p.T = some p.obj) (h2 : s.heap.get? q.T = some q.obj) (e : p.kv = q.kv) (hu : A.units < cLine) : SeqAt.EqAt A s p.val q.val true := by
  have e1 : p.k = q.k := congrArg Prod.fst e
  have e2 : p.v = q.v := congrArg Prod.snd e
  refine eqT_tup h1 h2 rfl (eqT_ints (ns := [p.k, p.v]) (.cons _ _ (.cons _ _ .nil)) ?_) hu
  rw [e1, e2]
  exact .cons _ _ (.cons _ _ .nil)
theorem eqT_pairs {ps qs : List PrO} (h1 : ∀ p ∈ ps, s.heap.get? p.T = some p.obj) (h2 : ∀ q ∈ qs, s.heap.get? q.T = some q.obj) (e : ps.map PrO.kv = qs.map PrO.kv) (hu : A.units < cLine) :
    ∀ (j : Nat) (x y : Value), (ps.map PrO.val)[j]? = some x → (qs.map PrO.val)[j]? = some y → SeqAt.EqAt A s x y true := by
  intro j x y hx hy
  rw [List.getElem?_map] at hx hy
  cases hp : ps[j]? with
  | none => rw [hp] at hx; cases hx
  | some p =>
    cases hq : qs[j]? with
    | none => rw [hq] at hy; cases hy
    | some q =>
      rw [hp] at hx; rw [hq] at hy
      cases hx; cases hy
      have := congrArg (·[j]?) e
      simp only [List.getElem?_map, hp, hq, Option.map_some, Option.some.injEq] at this
      exact eqT_pair (h1 _ (List.mem_of_getElem? hp)) (h2 _ (List.mem_of_getElem? hq)) this hu
end
section
variable {w : World} {A : Around} {E : Value → Shared → Prop} {Q : Value → Shared → Prop} {s : Shared} {a b : Addr} {vs us : List Value} {n k : Nat}
theorem r_eqTup (h1 : s.heap.get? a = some (tupOf vs.toArray n)) (h2 : s.heap.get? b = some (tupOf us.toArray k)) (hl : vs.length = us.length) (he : ∀ (j : Nat) (x y : Value), vs[j]? = some x → us[j]? = some y → SeqAt.EqAt A.in1 s x y true) (hu : A.units < cLine)
    (h : Q (.bool true) s) : wpAny (model pgm w) A (compareOp .Eq (.ref a) (.ref b)) Q E s := by
  refine SeqAt.eq_tupleAt (l := a) (b := b) (items := vs.toArray) (items2 := us.toArray) (e := fun _ => true) ⟨_, h1, rfl, n, rfl⟩ ⟨_, h2, rfl, k, rfl⟩ hu (fun j h1 h2 => he j _ _ (by simpa using List.getElem?_eq_getElem (by simpa using h1)) (by simpa using List.getElem?_eq_getElem (by simpa using h2))) ?_
  have : ((List.range (min vs.toArray.size us.toArray.size)).all (fun _ => true) && vs.toArray.size == us.toArray.size) = true := by simp [hl]
  rw [this]; exact h
end
theorem pairs_eq {ms : List (Int × Int)} {ps qs : List PrO} (h1 : PairsOf ms ps) (h2 : PairsOf ms qs) : ps.map PrO.kv = qs.map PrO.kv := by
  refine List.Perm.eq_of_pairwise (le := fun x y : Int × Int => x.1 < y.1) (fun a b _ _ h h' => ?_) h1.kvLt h2.kvLt (h1.perm.trans h2.perm.symm)
  have h : a.1 < b.1 := h
  have h' : b.1 < a.1 := h'
  lia
-- B6
section
variable {w : World} {C : Cx w} {l l' : Loc} {led news : Led} {env : Env} {pos p1 tp : Pos} {elt iter : Expr} {elts : List Expr} {scope : Scope} {cl : List (Str × Addr)} {x1 : Nat} {t : Tok} {b : Array UInt8} {vs us : List Value} {D B : Addr} {n k N U : Nat} {Q : Value → Loc → Led → Prop} {pl : Sem Bool}
theorem c_m_extend {Q : Value × List Value → Loc → Led → Prop} (hm : (D, listOf vs.toArray n) ∈ led) (h : Q (.builtin "list.extend", [.ref D]) l led) : Wp C (getMethod (.ref D) "extend" pl) Q l led := fun s S => r_m_extend S hm ⟨_, _, S, h⟩
theorem c_extend {fl : Obj → Led} (U : At D (listOf vs.toArray n) led fl) (hb : (B, listOf us.toArray k) ∈ led) (hz : vs.length + us.length ≤ 1000000) (h : ∀ n', let led' : Led := fl (listOf (vs ++ us).toArray n'); Q .none l led') :
    Wp C (call (.builtin "list.extend") [.ref D, .ref B]) Q l led := fun s S => r_extend S U hb hz fun n' s' S' => ⟨_, _, S', h n'⟩
theorem c_eqPairs {ps qs : List PrO} (h1 : (D, tupOf (ps.map PrO.val).toArray n) ∈ led) (h2 : (B, tupOf (qs.map PrO.val).toArray k) ∈ led) (hp : ∀ q ∈ ps, q.ent ∈ led) (hq : ∀ q ∈ qs, q.ent ∈ led) (e : ps.map PrO.kv = qs.map PrO.kv) (hR : Room C N U) (hle : (Nat.ble 0 N && Nat.ble 64 U) = true)
    (h : Q (.bool true) l led) : Wp C (compareOp .Eq (.ref D) (.ref B)) Q l led := fun s S => by
  have r := hR.le hle
  have hl := congrArg List.length e
  rw [List.length_map, List.length_map] at hl
  have hu : C.A.units + 1 < cLine := Nat.lt_of_le_of_lt (Nat.add_le_add_left (by decide) _) r.u
  refine r_eqTup (S.at h1) (S.at h2) (by rw [List.length_map, List.length_map]; exact hl) (eqT_pairs (fun q hq' => S.at (hp q hq')) (fun q hq' => S.at (hq q hq')) e hu) (Nat.lt_of_succ_lt hu) ⟨_, _, S, h⟩
theorem c_enumComp {xs : List Str} {Q' : Value → Loc → Led → Prop} (eQ : Q' = CompW C env elt (.Tuple elts x1 tp) iter [] scope cl pos Q) (hx : namesOf elts = some xs) (hn : xs.length = 2) (he : EnvOk C env) (J : Nat → List Value → Led → Prop) (hJ : J 0 [] news) (hlen : ∀ i ys led, J i ys led → ys.length ≤ sizeLine)
    (turn : ∀ (j : Nat) (t : Tok) (c : UInt8) (u : Tok), b[j]? = some c → ∀ (C' : Cx w) (D e it : Addr) (oL oe oit : Obj) (ys : List Value) (n : Nat) (led : Led), (∀ {N U}, Room C N U → Room C' N U) → J j ys led → let env' : Env := compEnvC scope cl C'.L env; EnvOk C' env' →
      let led' : Led := (C.L, oL) :: (D, listOf ys.toArray n) :: (e, oe) :: (it, oit) :: led; let l' : Loc := bindAll xs [.int (j : Int) t, .int (c.toNat : Int) u] []; Wp C' (eval elt env') (fun y l led => Turn3 [(C.L, oL), (D, listOf ys.toArray n), (e, oe), (it, oit)] (J (j + 1) (ys ++ [y])) l led) l' led')
    (fin : ∀ D ys n led, J b.size ys led → let led' : Led := (D, listOf ys.toArray n) :: led; Q (.ref D) l led')
    (hl : ∀ L, allLoc (compEnvC scope cl L env) xs = true := by intro _; with_unfolding_all rfl) (hcell : ∀ y ∈ scope.names, y.2 ≠ .cell := by decide) (hkind : scope.kind = .function := by with_unfolding_all rfl) :
    Wp C (call (.type "enumerate") [.bytes b t]) Q' l news := fun s S => by
  subst eQ
  refine r_enumB S fun e it oe oit s' hne he' hit S' => ⟨_, _, S', ?_⟩
  intro s2 S2
  have h1 : IsEnum s2.heap e it 0 .none := by
    have e1 := S'.at (.head _)
    have e2 := S2.at (.head _)
    unfold IsEnum at he' ⊢
    rw [e2, ← e1]; exact he'
  have h2 : KBw.IsBytesIter s2.heap it b t 0 := by
    obtain ⟨o, ho, r⟩ := hit
    have e1 := S'.at (.tail _ (.head _))
    have e2 := S2.at (.tail _ (.head _))
    exact ⟨o, by rw [e2, ← e1]; exact ho, r⟩
  refine wpAny_pyIter_enum h1 ?_
  have hne1 : e ∉ [it] := fun h => hne (List.mem_singleton.mp h)
  have Wk := WalksT.enumerateD (Draws_bytes (prog := pgm) (w := w) (A := C.A.in1) C.hh it b t) e hne hne1 (List.mem_singleton.mpr rfl)
  refine r_compE Wk (fun i h st => ⟨⟨_, st.1.choose_spec⟩, let ⟨o, ho, _⟩ := st.2; ⟨o, ho⟩⟩) C.hh J S2 ⟨⟨_, h1⟩, h2⟩ hJ hlen hcell hkind ?cn ?cstar ?cturn fun D ys n led s hj S => ⟨_, _, S, fin D ys n led hj⟩
  case cn =>
    rintro i vals C ⟨t, x, _, rfl⟩
    exact (names_each hx).1.trans hn
  case cstar => intro C; exact (names_each hx).2
  case cturn =>
    rintro L' D oL j vals oe oit ys n' led s E'' W' hj ⟨t, x, ⟨c, u, hc, rfl⟩, rfl⟩ hJ S
    refine Wp.use (C := { C with L := L', W := W' }) (asgNames (env := compEnvC scope cl L' env) (vs := [.int (j : Int) t, .int (c.toNat : Int) u]) (l := []) (Q := fun _ l' led' => l' = bindAll xs [.int (j : Int) t, .int (c.toNat : Int) u] [] ∧ led' = (C.L, oL) :: (D, listOf ys.toArray n') :: (e, oe) :: (it, oit) :: led) ⟨hkind, rfl, he.g, he.b⟩ hx hn (hl _) ⟨rfl, rfl⟩) S fun _ l1 led1 s1 S1 q => ?_
    obtain ⟨rfl, rfl⟩ := q
    refine Wp.use (C := { C with L := L', W := W' }) (turn j t c u hc { C with L := L', W := W' } D e it oL oe oit ys n' led (fun r => ⟨r.d, r.u⟩) hJ ⟨hkind, rfl, he.g, he.b⟩) S1 fun y l3 led3 s3 S3 q3 => ?_
    obtain ⟨t, hs, j⟩ := q3
    exact ⟨_, t, j, hs.st S3⟩
theorem c_asgCL {Q : Unit → Loc → Led → Prop} {a c : Str} {u v : Value} {o : Obj} {fl : Obj → Led} {cc T : Addr} {m : Nat} {p2 : Pos} {v₀ : Option Value} (he : EnvOk C env) (hm : (T, tupOf [u, v].toArray n) ∈ led) (U : At cc o led fl)
    (hc : env.cells.lookup c = some cc) (hdt : o.data = .cell v₀) (h : ∀ o', o'.data = .cell (some u) → let l' : Loc := (a, v) :: l; let led' : Led := fl o'; Q () l' led') (hl : env.kindOf a = some .local := by with_unfolding_all rfl) (hx : env.kindOf c = some .cell := by with_unfolding_all rfl) :
    Wp C (assign (.Tuple [.Name c p1, .Name a p2] m pos) env (.ref T)) Q l led := fun s S => by
  refine r_assignTup (vs := [u, v]) S hm C.hh rfl rfl fun s' S' => assignInOrder_cons (Wp.use (c_assignNm (c_storeCell (Q := fun _ l' led' => l' = l ∧ ∃ o', o'.data = .cell (some u) ∧ led' = fl o') he U hc hdt (fun o' h => ⟨rfl, o', h, rfl⟩) hx)) S' fun _ l' led' s2 S2 q => ?_)
  obtain ⟨rfl, o', ho, rfl⟩ := q
  exact assignInOrder_cons (Wp.use (c_assignNm (c_storeRaw (Q := Q) he (h o' ho) hl)) S2 fun _ l3 led3 s3 S3 q => assignInOrder_nil ⟨_, _, S3, q⟩)
end
-- F32
section
variable {w : World} {p : Program} {loose : List Str} {mean : ExcName → Option Value} {mg mb : Str → Option Value} {hb : Heap}
section
variable {C : Cx w} {l : Loc} {led : Led} {Q : Value → Loc → Led → Prop} {N U : Nat} {fl : Led → Led}
theorem c_spans {m : MemO} {ms : List (Int × Int)} (hR : Room C N U) (hle : (Nat.ble 3 N && Nat.ble 120 U) = true) (hm : m.Is w ms) (ho : OctM ms) (hz : ms.length ≤ 100000) (sl : Slot (m.led w) led fl)
    (k : ∀ (FO : Addr) (nf : Nat) (F : List SpnO) (qs : List PrO), PairsOf ms qs → SpansOf (qs.map PrO.kv) (F.map SpnO.pr) → F.length ≤ 100001 → let led' : Led := (FO, listOf (F.map SpnO.val).toArray nf) :: (fl (m.led w) ++ F.reverse.map SpnO.ent); Q (.ref FO) l led') :
    Wp C (call (.ref 335) [.ref m.x]) Q l led := fun s S => by
  obtain ⟨rest, p1, p2⟩ := sl.perm
  have r := hR.le hle
  exact use (spans_does C.G₀ hm ho hz) C.G (S.perm p1) .here C.hh r.d r.u fun v led' s' r S' => by
    obtain ⟨FO, nf, F, qs, rfl, h1, h2, h3, rfl⟩ := r
    refine ⟨_, _, S'.perm (List.Perm.cons _ (List.Perm.trans ?_ ((p2 (m.led w)).append_right (F.reverse.map SpnO.ent)))), k FO nf F qs h1 h2 h3⟩
    show ((m.led w ++ F.reverse.map SpnO.ent) ++ rest).Perm _
    rw [List.append_assoc, List.append_assoc]
    exact List.perm_append_comm.append_left _
end
local macro_rules | `(tactic| walk_at "m meth1") => `(tactic| ((with_reducible refine' c_m_extend ?OZ0 ?_); (case OZ0 => lcg_off)))
theorem gt_enumerate {w : World} : GBi w "enumerate" (.type "enumerate") := ⟨by k_is, by boot_by_name, by decide, by decide⟩
local macro_rules | `(tactic| walk_at "m gt") => `(tactic| with_reducible exact gt_enumerate)
theorem flat_take_le {F : List (Int × List Int)} {i : Nat} : (flatS (F.take i)).length ≤ (flatS F).length := by
  have e : flatS F = flatS (F.take i) ++ flatS (F.drop i) := by
    conv => lhs; rw [← List.take_append_drop i F]
    simp only [flatS, List.map_append, List.flatten_append]
  rw [e, List.length_append]
  lia
theorem byteArr_size' (r : List Int) : (byteArr r).size = r.length := by simp [byteArr]
theorem sub_nil {q1 q2 q3 q4 : Addr × Obj} {a b c X : Led} (h : SubL (q1 :: q2 :: q3 :: q4 :: (a ++ (b ++ c))) X) : SubL (q1 :: q2 :: q3 :: q4 :: (a ++ (b ++ (c ++ ([] : List PrO).map PrO.ent)))) X := by
  rw [List.map_nil, List.append_nil]; exact h
theorem run_len {b : Int} {r : List Int} {i : Nat} {ps2 : List PrO} (hr : r.length ≤ 100000) (h : ps2.map PrO.kv = (runF b r).take i) : (ps2.map PrO.val).length ≤ sizeLine := by
  have := congrArg List.length h
  rw [List.length_map, List.length_take, runF_len] at this
  rw [List.length_map, sizeLine_eq]; lia
theorem span_val {F : List SpnO} {i : Nat} {v : Value} {Z : Prop} (h : (F.map SpnO.val)[i]? = some v) (k : ∀ p', F[i]? = some p' → v = p'.val → Z) : Z := by
  rw [List.getElem?_map] at h
  cases e : F[i]? with
  | none => rw [e] at h; simp at h
  | some p' => rw [e] at h; simp at h; exact k p' e h.symm
theorem span_facts {ms : List (Int × Int)} {ps : List PrO} {F : List SpnO} {i : Nat} {p' : SpnO} {lastv : Int} {Z : Prop} (hz : ms.length ≤ 100000) (hps : PairsOf ms ps) (hsp : SpansOf (ps.map PrO.kv) (F.map SpnO.pr)) (hp' : F[i]? = some p')
    (hl0 : i = 0 → lastv = -1) (hl1 : ∀ k f, i = k + 1 → (F.map SpnO.pr)[k]? = some f → lastv = f.1 + (f.2.length : Int) - 1)
    (kk : p' ∈ F → (F.map SpnO.pr)[i]? = some (p'.b, p'.r) → Oct p'.r → (0 : Int) < p'.r.length → (lastv < 0 ∨ lastv + 1 < p'.b) → p'.r.length ≤ 100000 → Z) : Z := by
  have hpm : p' ∈ F := List.mem_of_getElem? hp'
  have hpk : (F.map SpnO.pr)[i]? = some (p'.b, p'.r) := by rw [List.getElem?_map, hp']; rfl
  have hoct : Oct p'.r := hsp.oct _ (List.mem_of_getElem? hpk)
  have hne : p'.r ≠ [] := hsp.ne _ (List.mem_of_getElem? hpk)
  have hrl : (0 : Int) < p'.r.length := by
    have := List.length_pos_iff.mpr hne
    lia
  have hi : i < (F.map SpnO.pr).length := (List.getElem?_eq_some_iff.mp hpk).1
  have hlast : lastv < 0 ∨ lastv + 1 < p'.b := by
    cases i with
    | zero => left; rw [hl0 rfl]; decide
    | succ k =>
      right
      have hk : k < (F.map SpnO.pr).length := by lia
      have h1 := hl1 k _ rfl (List.getElem?_eq_getElem hk)
      have h2 := List.pairwise_iff_getElem.mp hsp.sep k (k + 1) hk hi (by lia)
      have h3 : (F.map SpnO.pr)[k + 1]'hi = (p'.b, p'.r) := Option.some.inj ((List.getElem?_eq_getElem hi).symm.trans hpk)
      rw [h3] at h2
      dsimp only at h2
      lia
  have hpl : (ps.map PrO.kv).length ≤ 100000 := by rw [List.length_map]; exact Nat.le_trans hps.len hz
  have hlen3 : p'.r.length ≤ 100000 := by
    have := flat_len (List.mem_of_getElem? hpk)
    rw [hsp.flat] at this
    exact Nat.le_trans this hpl
  exact kk hpm hpk hoct hrl hlast hlen3
theorem enum_turn {T3 : Addr} {hd pre : Led} {ps2 : List PrO} {k v : Int} {t u : Tok} {b : Int} {r : List Int} {j : Nat} {l : Loc} (hk2 : ps2.map PrO.kv = (runF b r).take j) (hcr : (runF b r)[j]? = some (k, v)) :
    Turn3 hd (fun led => ∃ ps' : List PrO, (ps2.map PrO.val ++ [.ref T3]) = ps'.map PrO.val ∧ ps'.map PrO.kv = (runF b r).take (j + 1) ∧ led = pre ++ ps'.map PrO.ent) l ((T3, tupOf [Value.int k t, .int v u].toArray 0) :: (hd ++ (pre ++ ps2.map PrO.ent))) := by
  refine Turn3.sub (t := pre ++ (ps2 ++ [(⟨T3, k, v, t, u⟩ : PrO)]).map PrO.ent) ?_ ⟨ps2 ++ [⟨T3, k, v, t, u⟩], by rw [List.map_append]; rfl, ?_, rfl⟩
  · refine .of (r := []) ?_
    have e : hd ++ (pre ++ (ps2 ++ [(⟨T3, k, v, t, u⟩ : PrO)]).map PrO.ent) = (hd ++ (pre ++ ps2.map PrO.ent)) ++ [PrO.ent ⟨T3, k, v, t, u⟩] := by simp only [List.map_append, List.append_assoc, List.map_cons, List.map_nil]
    rw [List.append_nil, e]
    exact List.perm_append_comm (l₁ := [_])
  · rw [take_snoc hcr, List.map_append, hk2]; rfl
theorem last_at {F : List (Int × List Int)} {i : Nat} {b : Int} {r : List Int} (h : F[i]? = some (b, r)) : ∀ k f, i + 1 = k + 1 → F[k]? = some f → b + (r.length : Int) - 1 = f.1 + (f.2.length : Int) - 1 := by
  intro k f hk hf
  cases Nat.succ.inj hk
  rw [h] at hf
  cases hf
  rfl
theorem ext_len {ms : List (Int × Int)} {ps qs1 ps2 : List PrO} {F : List SpnO} {i : Nat} {b : Int} {r : List Int} (hz : ms.length ≤ 100000) (hps : PairsOf ms ps) (hsp : SpansOf (ps.map PrO.kv) (F.map SpnO.pr)) (hr : r.length ≤ 100000) (hkv : qs1.map PrO.kv = flatS ((F.map SpnO.pr).take i)) (hk2 : ps2.map PrO.kv = runF b r) :
    (qs1.map PrO.val).length + (ps2.map PrO.val).length ≤ 1000000 := by
  have h1 := congrArg List.length hkv
  have h2 : ((flatS ((F.map SpnO.pr).take i))).length ≤ (flatS (F.map SpnO.pr)).length := flat_take_le
  rw [hsp.flat] at h2
  have h3 := congrArg List.length hk2
  have h4 := hps.len
  rw [List.length_map] at h1 h2 h3
  rw [runF_len] at h3
  rw [List.length_map, List.length_map]
  lia
theorem tup_len {ms : List (Int × Int)} {qs qs1 : List PrO} (hz : ms.length ≤ 100000) (hq : PairsOf ms qs) (hkv : qs1.map PrO.kv = qs.map PrO.kv) : (qs1.map PrO.val).length ≤ sizeLine := by
  have h1 := congrArg List.length hkv
  have h4 := hq.len
  rw [List.length_map, List.length_map] at h1
  rw [List.length_map, sizeLine_eq]
  lia
inductive SrJ (w : World) (σ : Mac) (T L : Addr) (nf : Nat) (F : List SpnO) (qs : List PrO) (i : Nat) (l : Loc) (led : Led) : Prop
  | mk (o1' : Obj) (v0 : Option Value) (FL : Addr) (nfl : Nat) (ps : List PrO) (lastv : Int) (tl : Tok) (hc : o1'.data = .cell v0) (hl : LocIn [(Str.ofString "flat", .ref FL), (Str.ofString "last", .int lastv tl), (Str.ofString "octets", .ref T)] l) (hkv : ps.map PrO.kv = flatS ((F.map SpnO.pr).take i))
    (h0 : i = 0 → lastv = -1) (h1 : ∀ k f, i = k + 1 → (F.map SpnO.pr)[k]? = some f → lastv = f.1 + (f.2.length : Int) - 1) (e : led = (FL, listOf (ps.map PrO.val).toArray nfl) :: (L + 1, o1') :: (T, tupOf (qs.map PrO.val).toArray 0) :: (σ.led w ++ (qs.map PrO.ent ++ (F.reverse.map SpnO.ent ++ ps.map PrO.ent))))
theorem spans_right_does (G : G0 w p loose mean mg mb hb) {σ : Mac} {z : MState} {T : Addr} {qs : List PrO} (hσ : σ.Is w z) (ho : OctM z.mem) (hz : z.mem.length ≤ 100000) (hq : PairsOf z.mem qs) :
    Does w hb 5 300 774 [.ref σ.st, .ref T] [] ((T, tupOf (qs.map PrO.val).toArray 0) :: (σ.led w ++ qs.map PrO.ent)) (fun v b => v = .bool true ∧ b = σ.led w) := by
  have hmem := hσ.mem
  refine' enterCB (binds := [(Str.ofString "state", .ref σ.st), (Str.ofString "octets", .ref T)]) ?kL (by assumption) ?k6 ?k7 ?k9 ?kB ?kN ?kl ?_ ?c2 ?c3 ?c4
  case k6 => k_is
  case k7 => k_is
  case k9 => (intro s hs; exact BindsTo.of_eq rfl)
  case kB => exact kindsX rfl
  case kN => decide +kernel
  case kl => intro _; exact rfl
  case c2 => exact rfl
  case c3 => exact rfl
  case c4 => exact rfl
  intro C Q cells hR fini finn perm hcells env l he
  obtain ⟨o1, rfl, hc1⟩ := CellsAre.one' hcells
  have hc1 : o1.data = .cell none := hc1
  clear hcells
  refine c_seq ?_
  intro _
  refine Wp.cut (fun f l' led' => f = Flow.next ∧ ∃ FL tl, LocIn [(Str.ofString "flat", .ref FL), (Str.ofString "last", .int (-1) tl), (Str.ofString "octets", .ref T), (Str.ofString "state", .ref σ.st)] l' ∧ SubL ((FL, listOf ([] : List Value).toArray 0) :: (C.L + 1, o1) :: (T, tupOf (qs.map PrO.val).toArray 0) :: (σ.led w ++ qs.map PrO.ent)) led') ?a1 ?_
  case a1 =>
    repeat (walk_at "m ev")
    refine' ⟨rfl, _, _, ⟨rfl, rfl, rfl, rfl, trivial⟩, ?ss⟩
    case ss => walk_at "m pkt"
  rintro _ _ _ ⟨rfl, FL0, tl0, hl0, hs0⟩
  refine Wp.sub hs0 ?_
  refine Wp.named ?_
  intro led
  refine Wp.pick hl0 ?_
  intro l
  repeat (walk_at "m ev")
  refine' c_spans hR rfl hmem ho hz ?sl ?_
  case sl => kpt_turns
  intro FO nf F ps hps hsp hF _
  have hFl : (F.map SpnO.pr).length = F.length := List.length_map ..
  refine' Wp.subF (t := (FO, listOf (F.map SpnO.val).toArray nf) :: (FL0, listOf (([] : List PrO).map PrO.val).toArray 0) :: (C.L + 1, o1) :: (T, tupOf (qs.map PrO.val).toArray 0) :: (σ.led w ++ (qs.map PrO.ent ++ (F.reverse.map SpnO.ent ++ ([] : List PrO).map PrO.ent)))) ?ss0 ?_
  case ss0 => exact sub_nil (by walk_at "m pkt")
  refine' c_forLT ?hT (SrJ w σ T C.L nf F qs) ?hJ ?turn ?fin
  case hT =>
    intro v hv
    obtain ⟨p', _, rfl⟩ := List.mem_map.mp hv
    exact ⟨_, rfl⟩
  case hJ => exact ⟨o1, _, FL0, 0, [], -1, tl0, hc1, ⟨rfl, rfl, rfl, trivial⟩, rfl, fun _ => rfl, fun k f h => absurd h (by lia), rfl⟩
  case turn =>
    rintro i v I oI l _ hi hP ⟨o1', v0, FL, nfl, qs1, lastv, tl, hcell, hl, hkv, hl0, hl1, rfl⟩ Q' led
    refine Wp.pick hl ?_
    intro l
    refine span_val hP fun p' hp' e => ?_
    subst e
    refine span_facts hz hps hsp hp' hl0 hl1 fun hpm hpk hoct hrl hlast hlen3 => ?_
    have hlen2 : p'.r.length ≤ 16777216 := Nat.le_trans hlen3 (by decide)
    refine' c_asgCL (n := 0) (u := .int p'.b p'.t) (v := .bytes (byteArr p'.r) p'.u) he ?hm ?U rfl hcell ?_
    case hm => exact .tail _ (.tail _ (.tail _ (.tail _ (.tail _ (List.mem_append_right _ (List.mem_append_right _ (List.mem_append_left _ (List.mem_map_of_mem (f := SpnO.ent) (List.mem_reverse.mpr hpm)))))))))
    case U => lcg_src
    intro o2 hc2 l led
    refine c_seq ?_
    intro _
    refine Wp.cut (fun f l' led' => f = Flow.next ∧ l' = l ∧ led' = led) ?tst ?_
    case tst =>
      by_cases hbl : p'.b ≤ lastv + 1
      · have hl : lastv < 0 := by lia
        repeat (walk_at "m ev")
        refine c_lenB hlen2 ?_
        intro tlb
        repeat (walk_at "m ev")
        exact ⟨rfl, rfl, rfl⟩
      · repeat (walk_at "m ev")
        refine c_lenB hlen2 ?_
        intro tlb
        repeat (walk_at "m ev")
        exact ⟨rfl, rfl, rfl⟩
    rintro _ _ _ ⟨rfl, rfl, rfl⟩
    repeat (walk_at "m ev")
    refine' c_enumComp (xs := [Str.ofString "at", Str.ofString "octet"]) rfl rfl rfl he (fun j ys led => ∃ ps2 : List PrO, ys = ps2.map PrO.val ∧ ps2.map PrO.kv = (runF p'.b p'.r).take j ∧ led = ((I, oI) :: (FO, listOf (F.map SpnO.val).toArray nf) :: (FL, listOf (qs1.map PrO.val).toArray nfl) :: (C.L + 1, o2) :: (T, tupOf (qs.map PrO.val).toArray 0) :: (σ.led w ++ (qs.map PrO.ent ++ (F.reverse.map SpnO.ent ++ qs1.map PrO.ent)))) ++ ps2.map PrO.ent) ?hJ2 ?hlen2 ?turn2 ?fin2
    case hJ2 => exact ⟨[], rfl, rfl, (List.append_nil _).symm⟩
    case hlen2 =>
      rintro i ys led ⟨ps2, rfl, h, rfl⟩
      exact run_len hlen3 h
    case turn2 =>
      intro j t c u hc C' D e it oL oe oit ys n' _ hR' ⟨ps2, e1, hk2, e2⟩ env' he'
      subst e1 e2
      intro led' l'
      repeat (walk_at "m ev")
      exact enum_turn hk2 (runF_get (byte_get hoct hc))
    case fin2 =>
      rintro D ys n' _ ⟨ps2, rfl, hk2, rfl⟩ led
      rw [byteArr_size', List.take_of_length_le (Nat.le_of_eq (runF_len ..))] at hk2
      repeat (walk_at "m ev")
      refine' c_extend ?U2 ?hb2 (ext_len hz hps hsp hlen3 hkv hk2) ?_
      case U2 => lcg_src
      case hb2 => lcg_off
      intro n2 _
      repeat (walk_at "m ev")
      refine c_lenB hlen2 ?_
      intro tlb
      repeat (walk_at "m ev")
      refine' Turn.sub2 (t := (FL, listOf (qs1.map PrO.val ++ ps2.map PrO.val).toArray n2) :: (C.L + 1, o2) :: (T, tupOf (qs.map PrO.val).toArray 0) :: (σ.led w ++ ((qs.map PrO.ent ++ (F.reverse.map SpnO.ent ++ qs1.map PrO.ent)) ++ ps2.map PrO.ent))) ?ss ⟨o2, _, FL, n2, qs1 ++ ps2, _, _, hc2, ⟨rfl, rfl, rfl, trivial⟩, ?ja, fun h => absurd h (Nat.succ_ne_zero _), last_at hpk, ?jb⟩
      case ss => walk_at "m pkt"
      case ja => rw [List.map_append, hkv, hk2, flat_take hpk]
      case jb => simp only [List.map_append, List.append_assoc]
  case fin =>
    rintro l _ ⟨o1', v0, FL, nfl, qs1, lastv, tl, hcell, hl, hkv, hl0, hl1, rfl⟩ led
    refine Wp.pick hl ?_
    intro l
    rw [List.length_map, ← hFl, List.take_length, hsp.flat, pairs_eq hps hq] at hkv
    repeat (walk_at "m ev")
    refine' c_tupleList ?hm3 (tup_len hz hq hkv) ?_
    case hm3 => lcg_off
    intro T2 _
    repeat (walk_at "m ev")
    refine' c_eqPairs ?h1 ?h2 ?h3 ?h4 hkv hR rfl ?_
    case h1 => lcg_off
    case h2 => lcg_off
    case h3 => exact fun q hq => .tail _ (.tail _ (.tail _ (.tail _ (.tail _ (List.mem_append_right _ (List.mem_append_right _ (List.mem_append_right _ (List.mem_map_of_mem (f := PrO.ent) hq))))))))
    case h4 => exact fun q hq => .tail _ (.tail _ (.tail _ (.tail _ (.tail _ (List.mem_append_right _ (List.mem_append_left _ (List.mem_map_of_mem (f := PrO.ent) hq)))))))
    repeat (walk_at "m ev")
    refine' perm (t := σ.led w) ?ss (fini ⟨rfl, rfl⟩)
    case ss => walk_at "m pk"
end
-- F33a
section
variable {w : World} {p : Program} {loose : List Str} {mean : ExcName → Option Value} {mg mb : Str → Option Value} {hb : Heap}
section
variable {M : Model} {A : Around} {E : Value → Shared → Prop} {s : Shared} {env : Env}
theorem assign_sub {o i : Expr} {pos : Pos} {v : Value} {Q : Unit → Shared → Prop}
    (h : wpAny M A (eval o env) (fun ov s₂ => wpAny M A (eval i env) (fun iv s₃ => wpAny M A (setItem ov iv v) Q E s₃) E s₂) E s) : wpAny M A (assign (.Subscript o i pos) env v) Q E s := by
  rw [assign_Subscript]
  refine wpAny_bind (wpAny_holding (wpAny_mono h (fun ov s₂ h₂ => ?_) fun _ _ x => x))
  refine wpAny_bind (wpAny_holding (wpAny_mono h₂ (fun iv s₃ h₃ => ?_) fun _ _ x => x))
  refine wpAny_bind (wpAny_standAt ?_)
  refine wpAny_bind (wpAny_holding (wpAny_mono h₃ (fun _ s₄ h₄ => ?_) fun _ _ x => x))
  exact wpAny_release h₄
end
theorem tell_at {o q : TellO} {z : MState} {A : Around} {s : Shared} (ho : o.Is z) (hq : q.Is z) (h1 : ∀ e ∈ o.led, s.heap.get? e.1 = some e.2) (h2 : ∀ e ∈ q.led, s.heap.get? e.1 = some e.2) (hu : A.units < cLine) (hu1 : A.in1.units < cLine) :
    ∀ (j : Nat) (x y : Value), ([Value.ref o.a, .ref o.b, .ref o.c, .ref o.d, .int o.rip o.t1, .ref o.f, .bool false] : List Value)[j]? = some x → ([Value.ref q.a, .ref q.b, .ref q.c, .ref q.d, .int q.rip q.t1, .ref q.f, .bool false] : List Value)[j]? = some y → SeqAt.EqAt A s x y true := by
  have m1 : ∀ e ∈ o.hd, s.heap.get? e.1 = some e.2 := fun e he => h1 e (List.mem_append_left _ he)
  have m2 : ∀ e ∈ q.hd, s.heap.get? e.1 = some e.2 := fun e he => h2 e (List.mem_append_left _ he)
  have p1 : ∀ e ∈ o.qs, s.heap.get? e.T = some e.obj := fun e he => h1 _ (List.mem_append_right _ (List.mem_map_of_mem (f := PrO.ent) he))
  have p2 : ∀ e ∈ q.qs, s.heap.get? e.T = some e.obj := fun e he => h2 _ (List.mem_append_right _ (List.mem_map_of_mem (f := PrO.ent) he))
  have hps := pairs_eq ho.mem hq.mem
  have hpl := congrArg List.length hps
  rw [List.length_map, List.length_map] at hpl
  intro j x y hx hy
  match j with
  | 0 => cases hx; cases hy; exact eqT_tup (m1 _ (.tail _ (.head _))) (m2 _ (.tail _ (.head _))) (by rw [ho.regs.length, hq.regs.length]) (eqT_ints ho.regs hq.regs) hu
  | 1 => cases hx; cases hy; exact eqT_tup (m1 _ (.tail _ (.tail _ (.head _)))) (m2 _ (.tail _ (.tail _ (.head _)))) (by rw [ho.xmm.length, hq.xmm.length]) (eqT_ints ho.xmm hq.xmm) hu
  | 2 => cases hx; cases hy; exact eqT_tup (m1 _ (.tail _ (.tail _ (.tail _ (.head _))))) (m2 _ (.tail _ (.tail _ (.tail _ (.head _))))) (by rw [ho.flags.length, hq.flags.length]) (eqT_ints ho.flags hq.flags) hu
  | 3 => cases hx; cases hy; exact eqT_tup (m1 _ (.tail _ (.tail _ (.tail _ (.tail _ (.head _)))))) (m2 _ (.tail _ (.tail _ (.tail _ (.tail _ (.head _)))))) (by rw [List.length_map, List.length_map, hpl]) (eqT_pairs p1 p2 hps hu1) hu
  | 4 =>
    cases hx; cases hy
    have := SeqAt.EqAt.int_int (A := A) (s := s) o.rip o.t1 q.rip q.t1
    have e : o.rip = q.rip := ho.rip.trans hq.rip.symm
    rw [e, beq_self_eq_true] at this
    rw [e]; exact this
  | 5 =>
    cases hx; cases hy
    refine eqT_tup (m1 _ (.tail _ (.tail _ (.tail _ (.tail _ (.tail _ (.head _))))))) (m2 _ (.tail _ (.tail _ (.tail _ (.tail _ (.tail _ (.head _))))))) rfl (eqT_ints (ns := [z.fs, z.gs]) ?_ ?_) hu
    · rw [← ho.fs, ← ho.gs]; exact .cons _ _ (.cons _ _ .nil)
    · rw [← hq.fs, ← hq.gs]; exact .cons _ _ (.cons _ _ .nil)
  | 6 => cases hx; cases hy; exact SeqAt.EqAt.same _
  | j + 7 => cases hx
theorem SubL.app {a a' b b' : Led} (h : SubL a a') (k : SubL b b') : SubL (a ++ b) (a' ++ b') := ⟨fun q hq => by
  rcases List.mem_append.mp hq with hq | hq
  · exact List.mem_append_left _ (h.mem q hq)
  · exact List.mem_append_right _ (k.mem q hq), fun n => by
  rw [List.map_append, List.nodup_append] at n ⊢
  refine ⟨h.nd n.1, k.nd n.2.1, fun x hx y hy => ?_⟩
  obtain ⟨q, hq, rfl⟩ := List.mem_map.mp hx
  obtain ⟨r, hr, rfl⟩ := List.mem_map.mp hy
  exact n.2.2 _ (List.mem_map_of_mem (h.mem q hq)) _ (List.mem_map_of_mem (k.mem r hr))⟩
theorem SubL.one {q : Addr × Obj} {l : Led} (h : q ∈ l) : SubL [q] l := ⟨fun x hx => by rw [List.mem_singleton] at hx; subst hx; exact h, fun _ => by simp⟩
open Classical in
theorem sub_deed {q : Addr × Obj} {a b c d x t : Led} : SubL ((a ++ (d ++ (b ++ c))) ++ (q :: (x ++ t))) (q :: (a ++ (b ++ (c ++ (x ++ (d ++ t)))))) := .perm (by
  rw [List.perm_iff_count]; intro e
  simp only [List.count_append, List.count_cons]; lia)
open Classical in
theorem sub_deed' {q : Addr × Obj} {a b c d x t : Led} : SubL (q :: (a ++ (b ++ (c ++ (x ++ (d ++ t)))))) ((a ++ (d ++ (b ++ c))) ++ (q :: (x ++ t))) := .perm (by
  rw [List.perm_iff_count]; intro e
  simp only [List.count_append, List.count_cons]; lia)
theorem sub_nil6 {r : Led} {q : Addr × Obj} {a b c d x t : Led} (h : x = [] ∧ t = []) : SubL (q :: (a ++ (b ++ (c ++ d)))) (r ++ (q :: (a ++ (b ++ (c ++ (x ++ (d ++ t))))))) := by
  rw [h.1, h.2, List.append_nil, List.nil_append]; exact .right
section
variable {C : Cx w} {l : Loc} {led : Led} {N U : Nat} {fl : Led → Led} {env : Env}
@[reducible] noncomputable def kSubA2 (C : Cx w) (v ov : Value) (Q : Unit → Loc → Led → Prop) : Value → Loc → Led → Prop := fun iv l led => Wp C (setItem ov iv v) Q l led
@[reducible] noncomputable def kSubA (C : Cx w) (env : Env) (i : Expr) (v : Value) (Q : Unit → Loc → Led → Prop) : Value → Loc → Led → Prop := fun ov l led => Wp C (eval i env) (kSubA2 C v ov Q) l led
theorem c_assignSub {o i : Expr} {pos : Pos} {v : Value} {Q : Unit → Loc → Led → Prop} (h : let Q' : Value → Loc → Led → Prop := kSubA C env i v Q; Wp C (eval o env) Q' l led) : Wp C (assign (.Subscript o i pos) env v) Q l led := fun s S =>
  assign_sub (Wp.use h S fun ov l1 led1 s1 S1 q => Wp.use q S1 fun iv l2 led2 s2 S2 q2 => q2 s2 S2)
@[reducible] noncomputable def kAsg2 (C : Cx w) (env : Env) (e : Expr) (v : Value) (Q : Unit → Loc → Led → Prop) : Unit → Loc → Led → Prop := fun _ l led => Wp C (assign e env v) Q l led
theorem c_asgSS {o1 i1 o2 i2 : Expr} {p1 p2 pos : Pos} {T : Addr} {u v : Value} {n m : Nat} {Q : Unit → Loc → Led → Prop} (hm : (T, tupOf [u, v].toArray n) ∈ led) (h : let Q' : Unit → Loc → Led → Prop := kAsg2 C env (.Subscript o2 i2 p2) v Q; Wp C (assign (.Subscript o1 i1 p1) env u) Q' l led) :
    Wp C (assign (.Tuple [.Subscript o1 i1 p1, .Subscript o2 i2 p2] m pos) env (.ref T)) Q l led := fun s S =>
  r_assignTup (vs := [u, v]) S hm C.hh rfl rfl fun s' S' => assignInOrder_cons (Wp.use h S' fun _ l1 led1 s1 S1 q => assignInOrder_cons (Wp.use q S1 fun _ l2 led2 s2 S2 q2 => assignInOrder_nil ⟨_, _, S2, q2⟩))
@[reducible] noncomputable def kBAnd2 (C : Cx w) (env : Env) (e : Expr) (es : List Expr) (pos : Pos) (v : Value) (Q : Value → Loc → Led → Prop) : Bool → Loc → Led → Prop := fun c l led => if c = true then Wp C (eval (.BoolOp .And (e :: es) pos) env) Q l led else Q v l led
@[reducible] noncomputable def kBAnd (C : Cx w) (env : Env) (e : Expr) (es : List Expr) (pos : Pos) (Q : Value → Loc → Led → Prop) : Value → Loc → Led → Prop := fun v l led => Wp C (truthy v) (kBAnd2 C env e es pos v Q) l led
theorem c_bAnd {e₁ e₂ : Expr} {es : List Expr} {pos : Pos} {Q : Value → Loc → Led → Prop} (h : let Q' : Value → Loc → Led → Prop := kBAnd C env e₂ es pos Q; Wp C (eval e₁ env) Q' l led) : Wp C (eval (.BoolOp .And (e₁ :: e₂ :: es) pos) env) Q l led := fun s S =>
  BoolOp_and (Wp.use h S fun v l1 led1 s1 S1 q => Wp.use q S1 fun c l2 led2 s2 S2 q2 => by
    cases c with
    | true => exact (iteT q2) s2 S2
    | false => exact ⟨_, _, S2, iteF q2⟩)
theorem c_bOne {op : BoolOp} {e : Expr} {pos : Pos} {Q : Value → Loc → Led → Prop} (h : Wp C (eval e env) Q l led) : Wp C (eval (.BoolOp op [e] pos) env) Q l led := h
theorem c_tellEq {o q : TellO} {z : MState} {Q : Value → Loc → Led → Prop} (hR : Room C N U) (hle : (Nat.ble 0 N && Nat.ble 64 U) = true) (ho : o.Is z) (hq : q.Is z) (h1 : ∀ e ∈ o.led, e ∈ led) (h2 : ∀ e ∈ q.led, e ∈ led) (h : Q (.bool true) l led) : Wp C (compareOp .Eq (.ref o.T) (.ref q.T)) Q l led := fun s S => by
  have r := hR.le hle
  have m1 : ∀ e ∈ o.led, s.heap.get? e.1 = some e.2 := fun e he => S.at (h1 e he)
  have m2 : ∀ e ∈ q.led, s.heap.get? e.1 = some e.2 := fun e he => S.at (h2 e he)
  have hu2 : C.A.units + 2 < cLine := Nat.lt_of_le_of_lt (Nat.add_le_add_left (by decide) _) r.u
  have hu1 : C.A.units + 1 < cLine := Nat.lt_of_succ_lt hu2
  exact r_eqTup (m1 _ (.head _)) (m2 _ (.head _)) rfl (tell_at ho hq m1 m2 hu1 hu2) (Nat.lt_of_succ_lt hu1) ⟨_, _, S, h⟩
theorem c_sum {D : Addr} {vs : List Value} {ns : List Int} {n : Nat} {Q : Value → Loc → Led → Prop} (hm : (D, listOf vs.toArray n) ∈ led) (hi : IntsAre vs ns) (h : ∀ t, Q (.int ns.sum t) l led) : Wp C (call (.builtin "sum") [.ref D]) Q l led := fun s S => by
  obtain ⟨xs, hx⟩ := hi.allInts.items
  have hl := S.lst hm
  rw [hx] at hl
  have e : (numsOf (intItems xs).toList) = ns := by rw [← hx]; exact hi.numsOf
  rw [nums_intItems] at e
  refine sum_intListG C.hh hl fun h' tk t' hk => ?_
  rw [preSum_eq, List.take_of_length_le (by simp), e]
  exact ⟨_, _, S.grow hk tk, h _⟩
theorem c_slToX {value : Expr} {lo up : Option Expr} {p1 : Pos} {X : Addr} {vs : List Value} {ns : List Int} {b : Int} {u : Tok} {Q : Value → Loc → Led → Prop} (hX : C.hb.IsList X vs.toArray) (hi : IntsAre vs ns) (h1 : 0 ≤ b) (hz : vs.length ≤ sizeLine)
    (h : ∀ (B : Addr) (ws : List Value), IntsAre ws (ns.take b.toNat) → let led' : Led := (B, listOf ws.toArray 0) :: led; Q (.ref B) l led') : SlW C value (.Slice lo up none p1) (.ref X) .none (.int b u) .none Q l led := fun s S => by
  have hX2 : s.heap.IsList X vs.toArray := by
    obtain ⟨o, ho, r⟩ := hX
    exact ⟨o, S.keep _ _ (C.G.S _ _ ho), r⟩
  exact slName (r_sliceTo S hX2 hi h1 hz (fun B ws s' _ hw S' => ⟨_, _, S', h B ws hw⟩) rfl (fun _ => rfl))
theorem c_scopy {Q : Value → Loc → Led → Prop} {σ : Mac} {z : MState} {st : Addr} (hR : Room C N U) (hle : (Nat.ble 5 N && Nat.ble 160 U) = true) (hσ : σ.Is w z) (hz : z.Ok) (hlen : z.mem.length ≤ 100000) (hst : σ.st = st) (sl : Slot (σ.led w) led fl)
    (k : ∀ (σk : Mac), σk.Is w z → let led' : Led := σk.led w ++ fl (σ.led w); Q (.ref σk.st) l led') : Wp C (call (.ref 473) [.ref st]) Q l led := fun s S => by
  subst hst
  obtain ⟨rest, p1, p2⟩ := sl.perm
  have r := hR.le hle
  exact use (State_copy C.G₀ hσ hz hlen) C.G (S.perm p1) .here C.hh r.d r.u fun v led' s' r S' => by
    obtain ⟨σk, rfl, h1, rfl⟩ := r
    refine ⟨_, _, S'.perm ?_, k σk h1⟩
    rw [List.append_assoc]
    exact (p2 _).append_left _
open Classical in
theorem perm_tell {h q m r x : Led} (p : (m ++ r).Perm x) : (((h ++ q) ++ m) ++ r).Perm (h ++ (x ++ q)) := by
  rw [List.perm_iff_count] at p ⊢
  intro e
  have := p e
  simp only [List.count_append] at this ⊢
  lia
theorem c_due {Q : Value → Loc → Led → Prop} {ω : WorldO} {y : WState} {wd : Addr} (hR : Room C N U) (hle : (Nat.ble 4 N && Nat.ble 200 U) = true) (hω : ω.Is w y) (hy : y.Ok) (hz : y.mem.length ≤ 100000) (hwd : ω.wd = wd) (sl : Slot (ω.led w) led fl)
    (k : ∀ (o : TellO), o.Is ⟨regsOf y.cells 8, regsOf y.xcells 16, y.mem, y.rip, y.fs, y.gs⟩ → let led' : Led := o.hd ++ (fl (ω.led w) ++ o.qs.map PrO.ent); Q (.ref o.T) l led') : Wp C (call (.ref 769) [.ref wd]) Q l led := fun s S => by
  subst hwd
  obtain ⟨rest, p1, p2⟩ := sl.perm
  have r := hR.le hle
  exact use (law_due_does C.G₀ hω hy hz) C.G (S.perm p1) .here C.hh r.d r.u fun v led' s' r S' => by
    obtain ⟨o, rfl, h1, rfl⟩ := r
    exact ⟨_, _, S'.perm (perm_tell (p2 _)), k o h1⟩
theorem c_told {Q : Value → Loc → Led → Prop} {σ : Mac} {z : MState} {st : Addr} (hR : Room C N U) (hle : (Nat.ble 4 N && Nat.ble 160 U) = true) (hσ : σ.Is w z) (hz : z.Ok) (hlen : z.mem.length ≤ 100000) (hst : σ.st = st) (sl : Slot (σ.led w) led fl)
    (k : ∀ (o : TellO), o.Is z → let led' : Led := o.hd ++ (fl (σ.led w) ++ o.qs.map PrO.ent); Q (.ref o.T) l led') : Wp C (call (.ref 466) [.ref st]) Q l led := fun s S => by
  subst hst
  obtain ⟨rest, p1, p2⟩ := sl.perm
  have r := hR.le hle
  exact use (State_told C.G₀ hσ hz hlen) C.G (S.perm p1) .here C.hh r.d r.u fun v led' s' r S' => by
    obtain ⟨o, rfl, h1, rfl⟩ := r
    exact ⟨_, _, S'.perm (perm_tell (p2 _)), k o h1⟩
theorem c_deed {Q : Value → Loc → Led → Prop} {P : PenO} {O : OldsO} {ω : WorldO} {σ : Mac} {z : MState} {y : WState} {m : Nat} {rest : Led} (hR : Room C N U) (hle : (Nat.ble 9 N && Nat.ble 500 U) = true) (hP : P.Ok) (hO : O.Ok m) (hm : m ≤ 1000) (hσ : σ.Is w z) (hω : ω.Is w y) (hr : Rel z y) (hlen : z.mem.length ≤ 99000)
    (k : ∀ (P' : PenO) (O' : OldsO) (ω' : WorldO) (σ' : Mac) (z' : MState) (y' : WState), P'.pn = P.pn → P'.Ok → O'.oa = O.oa → O'.Ok (m + 1) → ω'.wd = ω.wd → σ'.st = σ.st → σ'.Is w z' → ω'.Is w y' → Rel z' y' → z'.mem.length ≤ z.mem.length + 16 →
      let led' : Led := (P'.led w ++ (O'.led ++ (ω'.led w ++ σ'.led w))) ++ rest; Q (.bool true) l led') : Wp C (call (.ref 764) [.ref P.pn, .ref ω.wd, .ref σ.st, .ref O.oa]) Q l ((P.led w ++ (O.led ++ (ω.led w ++ σ.led w))) ++ rest) :=
  c_does (law_deed_does C.G₀ hP hO hm hσ hω hr hlen) .here hR hle (by rintro _ _ ⟨rfl, P', O', ω', σ', z', y', q1, q2, q3, q4, q5, q6, q7, q8, q9, q10, rfl⟩; exact k P' O' ω' σ' z' y' q1 q2 q3 q4 q5 q6 q7 q8 q9 q10)
theorem c_spansR {Q : Value → Loc → Led → Prop} {σ : Mac} {z : MState} {T : Addr} {qs : List PrO} (hR : Room C N U) (hle : (Nat.ble 5 N && Nat.ble 300 U) = true) (hσ : σ.Is w z) (ho : OctM z.mem) (hz : z.mem.length ≤ 100000) (hq : PairsOf z.mem qs)
    (h : let led' : Led := σ.led w; Q (.bool true) l led') : Wp C (call (.ref 774) [.ref σ.st, .ref T]) Q l ((T, tupOf (qs.map PrO.val).toArray 0) :: (σ.led w ++ qs.map PrO.ent)) :=
  c_does (spans_right_does C.G₀ hσ ho hz hq) .all hR hle (by rintro _ _ ⟨rfl, rfl⟩; exact h)
end
theorem mk_eq {a a' b b' : List Int} {c c' : List (Int × Int)} {d d' e e' f f' : Int} (h1 : a = a') (h2 : b = b') (h3 : c = c') (h4 : d = d') (h5 : e = e') (h6 : f = f') : MState.mk a b c d e f = MState.mk a' b' c' d' e' f' := by subst h1 h2 h3 h4 h5 h6; rfl
theorem Rel.same {z : MState} {y : WState} (r : Rel z y) : (⟨regsOf y.cells 8, regsOf y.xcells 16, y.mem, y.rip, y.fs, y.gs⟩ : MState) = z := by
  cases z
  exact mk_eq r.regs.symm r.xmm.symm r.mem.symm r.rip.symm r.fs.symm r.gs.symm
structure LawInv (w : World) (P : PenO) (O : OldsO) (ω : WorldO) (σ : Mac) (z : MState) (y : WState) (i : Nat) : Prop where
  pen : P.Ok
  olds : O.Ok i
  mac : σ.Is w z
  wor : ω.Is w y
  rel : Rel z y
  len : z.mem.length ≤ 16 * i
noncomputable def KD (w : World) (i : Nat) (kv dv : Value) (Xh Xt : Led) : Prop := (i ≤ 6 ∧ kv = .none ∧ dv = .none ∧ Xh = [] ∧ Xt = []) ∨ (6 < i ∧ ∃ (σk : Mac) (zk : MState) (o : TellO), kv = .ref σk.st ∧ dv = .ref o.T ∧ σk.Is w zk ∧ zk.Ok ∧ zk.mem.length ≤ 1000 ∧ o.Is zk ∧ Xh = σk.led w ++ o.hd ∧ Xt = o.qs.map PrO.ent)
theorem KD.next {w : World} {i : Nat} {kv dv : Value} {Xh Xt : Led} (h : KD w i kv dv Xh Xt) (hi : i ≠ 6) : KD w (i + 1) kv dv Xh Xt := by
  rcases h with ⟨h, r⟩ | ⟨h, r⟩
  · exact .inl ⟨by lia, r⟩
  · exact .inr ⟨by lia, r⟩
theorem KD.six {w : World} {i : Nat} {kv dv : Value} {Xh Xt : Led} (h : KD w i kv dv Xh Xt) (hi : i = 6) : Xh = [] ∧ Xt = [] := by
  rcases h with ⟨_, _, _, r⟩ | ⟨h, _⟩
  · exact r
  · lia
noncomputable abbrev lawL (P : PenO) (O : OldsO) (ω : WorldO) (σ : Mac) (kv dv : Value) : Loc := [(Str.ofString "pen", .ref P.pn), (Str.ofString "world", .ref ω.wd), (Str.ofString "state", .ref σ.st), (Str.ofString "olds", .ref O.oa), (Str.ofString "kept", kv), (Str.ofString "due", dv)]
noncomputable abbrev LawLed (w : World) (P : PenO) (O : OldsO) (ω : WorldO) (σ : Mac) (Xh Xt : Led) : Led := P.led w ++ (ω.led w ++ (σ.led w ++ (Xh ++ (O.led ++ Xt))))
noncomputable def LawJ (w : World) (i : Nat) (l : Loc) (led : Led) : Prop := ∃ P O ω σ z y kv dv Xh Xt, LawInv w P O ω σ z y i ∧ KD w i kv dv Xh Xt ∧ LocIn (lawL P O ω σ kv dv) l ∧ led = LawLed w P O ω σ Xh Xt
theorem LawJ.use {i : Nat} {l : Loc} {led : Led} {Z : Loc → Led → Prop} (h : LawJ w i l led) (k : ∀ P O ω σ z y kv dv Xh Xt, LawInv w P O ω σ z y i → KD w i kv dv Xh Xt → LocIn (lawL P O ω σ kv dv) l → Z l (LawLed w P O ω σ Xh Xt)) : Z l led := by
  obtain ⟨P, O, ω, σ, z, y, kv, dv, Xh, Xt, h1, h2, h3, rfl⟩ := h
  exact k P O ω σ z y kv dv Xh Xt h1 h2 h3
theorem LawJ.fin {l : Loc} {led : Led} {Z : Loc → Led → Prop} (h : LawJ w 14 l led) (k : ∀ P O ω σ z y (σk : Mac) (zk : MState) (o : TellO), LawInv w P O ω σ z y 14 → σk.Is w zk → zk.Ok → zk.mem.length ≤ 1000 → o.Is zk → LocIn (lawL P O ω σ (.ref σk.st) (.ref o.T)) l →
    Z l (LawLed w P O ω σ (σk.led w ++ o.hd) (o.qs.map PrO.ent))) : Z l led := by
  obtain ⟨P, O, ω, σ, z, y, kv, dv, Xh, Xt, h1, h2, h3, rfl⟩ := h
  obtain ⟨h, _⟩ | ⟨_, σk, zk, o, rfl, rfl, hσk, hzk, hlk, ho, rfl, rfl⟩ := h2
  · omega
  · exact k P O ω σ z y σk zk o h1 hσk hzk hlk ho h3
theorem law_pack {pn oa wd rc xc wm st sd rg xm sg : Addr} {no nr nx : Nat} {cvs xvs rvs yvs : List Value} {wo mo sgo : Obj} {rip fs gs : Int} {fl : FlgO} {me : MemO} {a b c d e f t h i j k : Tok} {P : PenO} {Z : Loc → Led → Prop}
    (hP : P.Ok) (hpn : P.pn = pn) (hW : ∃ t1 t2 t3, wo.IsDictOf (PySem.strKind pgm w) [(Str.ofString "regs", .ref rc), (Str.ofString "xmms", .ref xc), (Str.ofString "memory", .ref wm), (Str.ofString "rip", .int rip t1), (Str.ofString "fs", .int fs t2), (Str.ofString "gs", .int gs t3)])
    (hcv : IntsAre cvs (List.replicate 128 0)) (hxv : IntsAre xvs (List.replicate 256 0)) (hd0 : mo.IsDictOf (intKind pgm w) []) (lo : (wm == sysModules) = false)
    (h1 : IntsAre rvs z0.regs) (h2 : IntsAre yvs z0.xmm) (h3 : me.Is w z0.mem) (h5 : ∃ t u, sgo.IsDictOf (PySem.strKind pgm w) [(Str.ofString "fs", .int fs t), (Str.ofString "gs", .int gs u)])
    (kk : ∀ P O ω σ z y, LawInv w P O ω σ z y 0 → Z (lawL P O ω σ .none .none) (LawLed w P O ω σ [] [])) :
    Z [(Str.ofString "pen", .ref pn), (Str.ofString "world", .ref wd), (Str.ofString "state", .ref st), (Str.ofString "olds", .ref oa), (Str.ofString "kept", .none), (Str.ofString "due", .none)]
      (P.led w ++ ([(wd, wo), (rc, listOf cvs.toArray 0), (xc, listOf xvs.toArray 0), (wm, mo)] ++ (macRaw w st sd rg xm sg no nx rvs yvs sgo rip fl me a b c d e f t h i j k ++ [(oa, listOf ([] : List Value).toArray nr)]))) := by
  obtain ⟨σ1, e1, e2, _, e3⟩ := macRaw_is (w := w) (st := st) (sd := sd) (rg := rg) (xm := xm) (sg := sg) (nr := no) (nx := nx) (rvs := rvs) (xvs := yvs) (sgo := sgo) (rip := rip) (fl := fl) (me := me) (a := a) (b := b) (c := c) (d := d) (e := e) (f := f) (g := t) (h := h) (i := i) (j := j) (k := k) (z := ⟨z0.regs, z0.xmm, z0.mem, rip, fs, gs⟩) h1 h2 h3 rfl h5
  subst hpn
  have := kk P ⟨oa, nr, [], []⟩ ⟨wd, rc, xc, wm, 0, 0, cvs, xvs, wo, mo⟩ σ1 _ ⟨List.replicate 128 0, List.replicate 256 0, [], rip, fs, gs⟩ ⟨hP, ⟨by simp, by simp, by simp⟩, e2, ⟨hW, hcv, hxv, ⟨[], hd0, .nil⟩, lo⟩, ⟨?_, ?_, rfl, rfl, rfl, rfl, by simp, by simp, ?_, ?_, ?_⟩, by simp⟩
  · rw [e3, ← e1]
    exact this
  · show z0.regs = regsOf (List.replicate 128 0) 8
    decide +kernel
  · show z0.xmm = regsOf (List.replicate 256 0) 16
    decide +kernel
  · intro x hx; have := List.eq_of_mem_replicate hx; omega
  · intro x hx; have := List.eq_of_mem_replicate hx; omega
  · intro x hx; cases hx
end
-- F33
section
variable {w : World} {p : Program} {loose : List Str} {mean : ExcName → Option Value} {mg mb : Str → Option Value} {hb : Heap}
theorem gb_sum {w : World} : GBi w "sum" (.builtin "sum") := ⟨by k_is, by boot_by_name, by decide, by decide⟩
local macro_rules | `(tactic| walk_at "m gb") => `(tactic| with_reducible exact gb_sum)
theorem take_line {ns : List Int} {vs : List Value} (h : IntsAre vs ns) (l : ns.length ≤ 48) : vs.length ≤ sizeLine := by rw [h.length, sizeLine_eq]; lia
theorem mem_tell {o : TellO} {x : Led} {e : Addr × Obj} (h : e ∈ o.led) : e ∈ o.hd ++ (x ++ o.qs.map PrO.ent) := by
  rcases List.mem_append.mp h with h | h
  · exact List.mem_append_left _ h
  · exact List.mem_append_right _ (List.mem_append_right _ h)
theorem mem_tell2 {o : TellO} {x y z : Led} {e : Addr × Obj} (h : e ∈ o.led) : e ∈ o.hd ++ (x ++ (y ++ (z ++ o.qs.map PrO.ent))) := by
  rcases List.mem_append.mp h with h | h
  · exact List.mem_append_left _ h
  · exact List.mem_append_right _ (List.mem_append_right _ (List.mem_append_right _ (List.mem_append_right _ h)))
open Classical in
theorem sub_fin {a b c h k d q h2 q2 h3 q3 : Led} : SubL (k ++ (h ++ (h2 ++ (c ++ (q2 ++ q))))) (h3 ++ ((h2 ++ ((a ++ (b ++ (c ++ ((k ++ h) ++ (d ++ q))))) ++ q2)) ++ q3)) := .of (r := h3 ++ (a ++ (b ++ (d ++ q3)))) (by
  rw [List.perm_iff_count]; intro e
  simp only [List.count_append]; lia)
open Classical in
theorem sub_six {x q : Addr × Obj} {a b c h k d t : Led} : SubL (q :: (a ++ (b ++ (c ++ ((k ++ h) ++ (d ++ t)))))) (x :: (h ++ ((k ++ (q :: (a ++ (b ++ (c ++ d))))) ++ t))) := .of (r := [x]) (by
  rw [List.perm_iff_count]; intro e
  simp only [List.count_append, List.count_cons, List.count_nil]; lia)
open Classical in
theorem sub_fin2 {c h k q h2 q2 h4 q4 : Led} : SubL (h2 ++ (c ++ q2)) (h4 ++ ((k ++ (h ++ (h2 ++ (c ++ (q2 ++ q))))) ++ q4)) := .of (r := h4 ++ (k ++ (h ++ (q ++ q4)))) (by
  rw [List.perm_iff_count]; intro e
  simp only [List.count_append]; lia)
theorem if_nt {X Y : Prop} (h : Y) : if (!true) = true then X else Y := h
theorem ForW.pick {C : Cx w} {env : Env} {target : Expr} {body : List Stmt} {Q : Flow → Loc → Led → Prop} {v : Value} {l l' : Loc} {led : Led} (hl : LocIn l' l) (h : ForW C env target body Q v l' led) : ForW C env target body Q v l led := fun s S => h s (S.pick hl)
theorem law_walk {C : Cx w} {fa : Addr} {cv : Value} {X : Addr} {svs : List Value} {ns : List Int} (hX : C.hb.IsList X svs.toArray) (hI : IntsAre svs ns) (hl : ns.length ≤ 63) (hbits : ∀ n ∈ ns, Builtin.Int.intBits n ≤ 2 ^ 20) (hR : Room C 19 990) :
    Wp C (execs lawD.body (envOf lawD.name lawD.scope C.L fa cv)) (fun fl _ _ => fl = .ret (.bool true)) [(Str.ofString "script", .ref X)] [] := by
  have hvl := hI.length
  have hz : svs.length ≤ sizeLine := by rw [sizeLine_eq]; lia
  have h48 : (ns.take 48).length ≤ 48 := by rw [List.length_take]; exact Nat.min_le_left _ _
  show let env := envOf lawD.name lawD.scope C.L fa cv; let Q : Flow → Loc → Led → Prop := (fun fl _ _ => fl = .ret (.bool true)); Wp C (execs lawD.body env) Q _ _
  intro env Q
  have he : EnvOk C env := ⟨rfl, rfl, rfl, rfl⟩
  refine c_seq ?_
  intro _
  refine Wp.cut (fun f l' led' => f = Flow.next ∧ ∃ P : PenO, P.Ok ∧ LocIn [(Str.ofString "pen", .ref P.pn)] l' ∧ SubL (P.led w) led') ?s1 ?_
  case s1 =>
    repeat (walk_at "m ev")
    refine' c_slToX hX hI (by decide) hz ?_
    intro B1 ws1 hI1 _
    repeat (walk_at "m ev")
    refine' c_listCopy ?hm ?hz ?_
    case hm => lcg_off
    case hz => exact take_line hI1 h48
    intro B2 k2 _
    repeat (walk_at "m ev")
    refine' c_slToX hX hI (by decide) hz ?_
    intro B3 ws3 hI3 _
    repeat (walk_at "m ev")
    refine' c_sum ?hm hI3 ?_
    case hm => lcg_off
    intro t
    repeat (walk_at "m ev")
    refine' ⟨rfl, ⟨_, B2, 0, _, _, _, 0, k2, ws1, ns.take 48⟩, ⟨hI1, h48, Int.le_refl _, fun n hn => hbits n (List.mem_of_mem_take hn)⟩, ⟨rfl, trivial⟩, ?ss⟩
    case ss => walk_at "m pk"
  rintro _ _ _ ⟨rfl, P, hP, hl0, hs0⟩
  refine Wp.sub hs0 ?_
  refine Wp.named ?_
  intro led
  refine Wp.pick hl0 ?_
  intro l
  have hpn : P.pn = P.pn := rfl
  repeat (walk_at "m ev")
  refine c_State hR rfl ?_
  intro σ hσ _
  obtain ⟨u1, u2, hseg⟩ := hσ.seg
  repeat (walk_at "m ev")
  refine' c_times (m := 128) ?hm rfl (by decide) ?_
  case hm => lcg_off
  intro RC cvs hcv _
  repeat (walk_at "m ev")
  refine' c_times (m := 256) ?hm rfl (by decide) ?_
  case hm => lcg_off
  intro XC xvs hxv _
  repeat (walk_at "m ev")
  intro WM wmo lo hd0 _ _
  repeat (walk_at "m ev")
  rename Obj.IsDictOf (PySem.strKind pgm w) _ (strPairs _) => hdW
  refine' c_asgSS ?hm ?_
  case hm => lcg_off
  intro _
  refine c_assignSub ?_
  intro _
  repeat (walk_at "m ev")
  refine' c_sset ?U hdW (Nat.le_of_ble_eq_true rfl) rfl ?_
  case U => lcg_src
  intro oW2 hdW2 _
  refine c_assignSub ?_
  intro _
  repeat (walk_at "m ev")
  refine' c_sset ?U hdW2 (Nat.le_of_ble_eq_true rfl) rfl ?_
  case U => lcg_src
  intro oW3 hdW3 _
  repeat (walk_at "m ev")
  refine' c_sset ?U hseg (Nat.le_of_ble_eq_true rfl) rfl ?_
  case U => lcg_src
  intro oG2 hdG2 _
  repeat (walk_at "m ev")
  refine' c_sset ?U hdG2 (Nat.le_of_ble_eq_true rfl) rfl ?_
  case U => lcg_src
  intro oG3 hdG3 _
  repeat (walk_at "m ev")
  rename PenO.Ok _ => hP1
  rename PenO.pn _ = _ => hpn1
  rename PenO => P1
  refine' Wp.subF (t := (_, _) :: (P1.led w ++ ([(_, oW3), (RC, PySem.W.listOf cvs.toArray 0), (XC, PySem.W.listOf xvs.toArray 0), (WM, wmo)] ++ (macRaw w σ.st σ.sd σ.rg σ.xm σ.sg σ.nr σ.nx σ.rvs σ.xvs oG3 _ σ.fl σ.me (σ.τ 0) (σ.τ 1) (σ.τ 2) (σ.τ 3) (σ.τ 4) (σ.τ 5) _ (σ.τ 7) (σ.τ 8) (σ.τ 9) (σ.τ 10) ++ [(_, PySem.W.listOf ([] : List Value).toArray 0)])))) ?ss ?_
  case ss => walk_at "m pk"
  refine ForW.pick (l' := [(Str.ofString "pen", .ref P.pn), (Str.ofString "world", .ref _), (Str.ofString "state", .ref σ.st), (Str.ofString "olds", .ref _), (Str.ofString "kept", .none), (Str.ofString "due", .none)]) ⟨rfl, rfl, rfl, rfl, rfl, rfl, trivial⟩ ?_
  refine law_pack (Z := fun l led => ForW _ _ _ _ _ _ l (_ :: led)) hP1 hpn1 ⟨_, _, _, hdW3⟩ hcv hxv hd0 lo hσ.regs hσ.xmm hσ.mem ⟨_, _, hdG3⟩ fun P O ω σ z y hinv => ?_
  clear hdW hdW2 hdW3 hdG2 hdG3 hseg hcv hxv hd0 lo
  refine c_forN0 (m := 14) rfl (LawJ w) ⟨P, O, ω, σ, z, y, .none, .none, [], [], hinv, .inl ⟨Nat.zero_le _, rfl, rfl, rfl, rfl⟩, ⟨rfl, rfl, rfl, rfl, rfl, rfl, trivial⟩, rfl⟩ ?turn ?fin
  case turn =>
    clear hinv hP hP1 hpn1 hl0 hs0 hσ
    intro i t I oI l led hi hJ Q' _
    refine LawJ.use (Z := fun l led => Wp C _ Q' l ((I, oI) :: led)) hJ fun P O ω σ z y kv dv Xh Xt hI hK hl => ?_
    refine Wp.pick hl ?_
    intro l
    refine Wp.named ?_
    intro led
    have hP := hI.pen
    have hlen := hI.len
    repeat (walk_at "m ev")
    refine Wp.sub (t := (P.led w ++ (O.led ++ (ω.led w ++ σ.led w))) ++ ((I, oI) :: (Xh ++ Xt))) sub_deed ?_
    refine c_deed hR rfl hP hI.olds (by lia) hI.mac hI.wor hI.rel (by lia) ?_
    intro P1 O1 ω1 σ1 z1 y1 hpn1 hP1 hoa1 hO1 hwd1 hst1 hσ1 hω1 hr1 hlen1 _
    repeat (walk_at "m ev")
    refine if_nt ?_
    refine Wp.sub (t := (I, oI) :: LawLed w P1 O1 ω1 σ1 Xh Xt) sub_deed' ?_
    refine Wp.named ?_
    intro led
    refine Wp.pick (l' := (Str.ofString "turn", .int (i : Int) t) :: lawL P1 O1 ω1 σ1 kv dv) ⟨rfl, by rw [hpn1]; rfl, by rw [hwd1]; rfl, by rw [hst1]; rfl, by rw [hoa1]; rfl, rfl, rfl, trivial⟩ ?_
    intro l
    repeat (walk_at "m ev")
    refine' c_register hR rfl hP1 rfl ?sl ?_
    case sl => kpt_turns
    intro P2 r ρ hP2 hpn2 hrρ hρ _
    repeat (walk_at "m ev")
    refine' c_get hR rfl hσ1 hr1.okZ hrρ (.inl hρ) rfl ?sl ?_
    case sl => walk_at "m slot2"
    intro t1 _
    repeat (walk_at "m ev")
    refine rg_use hρ hrρ.sz fun N hN0 hN => ?_
    refine' c_lget (N := N) hR rfl hω1 hr1.okW hrρ hρ hN (rg_fit hρ hr1.okW hN (fun _ => hrρ.sz) fun hx => .inr (.inr (hrρ.sz.trans (rg_xmm hρ hx)))) rfl ?sl ?_
    case sl => walk_at "m slot2"
    intro t2 _
    rw [hr1.get hρ hN0]
    repeat (walk_at "m ev")
    refine r_iteE (fun h6 => ?_) fun h6 => ?_
    ·
      refine Wp.sub (t := (I, oI) :: (P2.led w ++ (ω1.led w ++ (σ1.led w ++ O1.led)))) (sub_nil6 (r := r.led w) (hK.six (by lia))) ?_
      refine Wp.named ?_
      intro led
      have hym1 : y1.mem.length ≤ 100000 := by rw [← hr1.mem]; lia
      repeat (walk_at "m ev")
      refine' c_scopy hR rfl hσ1 hr1.okZ (by lia) rfl ?sl ?_
      case sl => kpt_turns
      intro σk hσk _
      repeat (walk_at "m ev")
      refine' c_due hR rfl hω1 hr1.okW hym1 rfl ?sl ?_
      case sl => kpt_turns
      intro o ho _
      rw [hr1.same] at ho
      repeat (walk_at "m ev")
      refine' Turn.sub (t := P2.led w ++ (ω1.led w ++ (σ1.led w ++ ((σk.led w ++ o.hd) ++ (O1.led ++ o.qs.map PrO.ent))))) ?ss ⟨P2, O1, ω1, σ1, z1, y1, _, _, σk.led w ++ o.hd, o.qs.map PrO.ent, ⟨hP2, hO1, hσ1, hω1, hr1, by lia⟩, .inr ⟨by lia, σk, z1, o, rfl, rfl, hσk, hr1.okZ, by lia, ho, rfl, rfl⟩, ⟨?lp, rfl, rfl, rfl, rfl, rfl, trivial⟩, rfl⟩
      case ss => exact sub_six
      case lp => rw [hpn2]; rfl
    ·
      repeat (walk_at "m ev")
      refine' Turn.sub (t := LawLed w P2 O1 ω1 σ1 Xh Xt) .right ⟨P2, O1, ω1, σ1, z1, y1, _, _, Xh, Xt, ⟨hP2, hO1, hσ1, hω1, hr1, by lia⟩, hK.next (by lia), ⟨?lp, rfl, rfl, rfl, rfl, rfl, trivial⟩, rfl⟩
      case lp => rw [hpn2]; rfl
  case fin =>
    intro l led hJ
    refine' LawJ.fin (Z := fun l led => (_ : Flow → Loc → Led → Prop) .next l led) hJ fun P O ω σ z y σk zk o hI hσk hzk hlk ho hl => ?_
    refine Wp.pick hl ?_
    intro l
    refine Wp.named ?_
    intro led
    have hσ := hI.mac
    have hr := hI.rel
    have hlen := hI.len
    have hym : y.mem.length ≤ 100000 := by rw [← hr.mem]; lia
    repeat (walk_at "m ev")
    refine' c_due hR rfl hI.wor hr.okW hym rfl ?sl ?_
    case sl => kpt_turns
    intro o2 ho2 _
    rw [hr.same] at ho2
    repeat (walk_at "m ev")
    refine c_bAnd ?_
    intro _
    repeat (walk_at "m ev")
    refine' c_told hR rfl hσ hr.okZ (by lia) rfl ?sl ?_
    case sl => kpt_turns
    intro o3 ho3 _
    repeat (walk_at "m ev")
    refine c_tellEq hR rfl ho3 ho2 (fun e he => mem_tell he) (fun e he => List.mem_append_right _ (List.mem_append_left _ (mem_tell he))) ?_
    repeat (walk_at "m ev")
    refine c_bAnd ?_
    intro _
    refine Wp.sub (t := σk.led w ++ (o.hd ++ (o2.hd ++ (σ.led w ++ (o2.qs.map PrO.ent ++ o.qs.map PrO.ent))))) sub_fin ?_
    refine Wp.named ?_
    intro led
    repeat (walk_at "m ev")
    refine' c_told hR rfl hσk hzk (Nat.le_trans hlk (by decide)) rfl ?sl ?_
    case sl => exact .here
    intro o4 ho4 _
    repeat (walk_at "m ev")
    refine c_tellEq hR rfl ho4 ho (fun e he => mem_tell he) (fun e he => List.mem_append_right _ (List.mem_append_left _ (List.mem_append_right _ (mem_tell2 he)))) ?_
    repeat (walk_at "m ev")
    refine c_bOne ?_
    refine Wp.sub (t := o2.hd ++ (σ.led w ++ o2.qs.map PrO.ent)) sub_fin2 ?_
    refine Wp.named ?_
    intro led
    iterate 7 (walk_at "m ev")
    refine' c_titem (vs := [Value.ref o2.a, .ref o2.b, .ref o2.c, .ref o2.d, .int o2.rip o2.t1, .ref o2.f, .bool false]) ?hm (by decide) (by decide) rfl ?_
    case hm => lcg_off
    repeat (walk_at "m ev")
    refine Wp.sub (t := (o2.d, tupOf (o2.qs.map PrO.val).toArray 0) :: (σ.led w ++ o2.qs.map PrO.ent)) (SubL.app (a := [_]) (SubL.one (.tail _ (.tail _ (.tail _ (.tail _ (.head _)))))) (.refl _)) ?_
    refine c_spansR hR rfl hσ (by rw [hr.mem]; exact hr.om) (by lia) ho2.mem ?_
    intro _
    repeat (walk_at "m ev")
    exact rfl
end
end
theorem law_begin {α : Type} {M : Model} {A : Around} {m : Sem α} {Q : α → Shared → Prop} {E : Value → Shared → Prop} {g : Heap} {L : Addr} {mm : Str → Option Value} {l : Loc} {s₀ s : Shared} (F : Fr g L s.heap mm) (N : News g L s.heap [])
    (e1 : s.gens = s₀.gens) (e2 : s.drawn = s₀.drawn) (e3 : s.os = s₀.os) (hl : ∀ x v, l.lookup x = some v → mm x = some v) (k : St g L [] l [] s₀ s → wpAny M A m Q E s) : wpAny M A m Q E s := k ⟨⟨mm, F, hl⟩, N, ⟨e1, e2, e3⟩, List.nodup_nil⟩
theorem deeper_le {A : Around} {env : Env} : (A.deeper env).units ≤ A.units + 10 := by
  show A.units + 3 ≤ A.units + 10
  omega
end Mine
set_option maxRecDepth 100000 in
set_option maxHeartbeats 8000000 in
theorem PySem.Challenge.cw_nn0057_01_holds : PySem.Challenge.rw_nn0057_01.Holds := by
  refine Mine.hd ?hd
  generalize Mine.vw = V
  generalize Mine.lo = Lo
  k_go0; all_goals try k_fold
  rename_i w s0 s1 mg mb G Y fa o pm cd doc kV ho hcd hg KX XM VV T B D TE TW w7 w6 M ns hs hlay hL1 hr1 hl2 w4 w3 X svs w5 hL ra w1 r0 hI hr hc hc2 K0 hD h1 F N0
  clear G Y hcd hD K0
  refine PySem.wpAny_mono (Q := fun fl s' => Mine.Fini s1.heap s1.heap.objs.size [] s1 (fun v b => v = .bool true) (match fl with | .ret v => v | _ => .none) s') (E := fun _ _ => False) ?walk0 ?post0 (fun _ _ e => e.elim)
  case post0 =>
    rintro fl s' ⟨l', led', S, hv⟩
    have hfl : fl = .ret (.bool true) := by
      cases fl with
      | ret v => exact congrArg _ hv
      | _ => cases hv
    subst hfl
    refine ⟨.inl ⟨_, .bool true, [], rfl, ?a1, ?a2, ?a3, ?a4⟩, fun b o e => S.keep b o e, S.same.2.2, S.same.1.trans hg⟩
    case a1 => exact raisesW_false (by wrow_none_raised)
    case a2 => exact ReadsW.bool _
    case a3 => wrow_post
    case a4 => exact fun _ => ⟨List.nodup_nil, fun _ h => nomatch h⟩
  case walk0 =>
    clear XM VV B D TE TW M ra w1 r0 hr hr1 hl2 hlay hs hc2 ho w7 w6
    have hbits : ∀ n ∈ ns, Builtin.Int.intBits n ≤ 2 ^ 20 := fun n hn => by
      have h := PyData.weight_item_of_list hL1 (List.mem_map_of_mem (f := PyData.int) hn)
      exact h
    have hl : ns.length ≤ 63 := by omega
    have G₀ : Mine.G0 w _ _ _ mg mb s1.heap := ⟨KX, T⟩
    have Gg : Mine.Gr w _ _ _ mg mb s1.heap s1.heap := ⟨fun _ _ h => h, KX, T⟩
    clear KX T hL1 hc
    obtain ⟨A, hA⟩ : ∃ A, A = callerA := ⟨_, rfl⟩
    rw [← hA]
    have hh : A.handled = none := by rw [hA]; rfl
    have hdep : A.depth + 20 < recursionLimit := by rw [hA]; decide
    have hu : A.units + 1000 < cLine := by rw [hA]; decide
    clear hA
    refine Mine.law_begin (s₀ := s1) (l := [(Str.ofString "script", .ref X)]) F N0 rfl rfl rfl (fun x v e => e) fun S => ?_
    clear F N0
    refine Mine.Wp.use (C := ⟨s1.heap, _, _, _, mg, mb, s1.heap, s1.heap.objs.size, [], s1, A.deeper (envOf Mine.lawD.name Mine.lawD.scope s1.heap.objs.size fa cd), G₀, Gg, hh⟩) (Mine.law_walk hL hI hl hbits ⟨?r1, ?r2⟩) S fun fl l' led' s' S' q => ?_
    case r1 =>
      show A.depth + 1 + 19 < recursionLimit
      omega
    case r2 =>
      have e : (A.deeper (envOf Mine.lawD.name Mine.lawD.scope s1.heap.objs.size fa cd)).units ≤ A.units + 10 := Mine.deeper_le
      show (A.deeper (envOf Mine.lawD.name Mine.lawD.scope s1.heap.objs.size fa cd)).units + 990 < cLine
      omega
    subst q
    exact ⟨l', led', S', rfl⟩
