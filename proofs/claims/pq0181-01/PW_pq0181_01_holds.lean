import PyProof.Rows.All
import Wide.All
import OpenK.AllK
import Wide.FinOn
import PySem.Challenge.RW_pq0181_01
set_option Elab.async false
set_option linter.unusedVariables false
set_option linter.unusedSimpArgs false
set_option genSizeOf false
set_option genInjectivity false
section
open PySem PySem.W PyProof.Rows
set_option maxRecDepth 100000
set_option linter.unusedVariables false
namespace Mine
noncomputable abbrev pw := PySem.Challenge.pw_pq0181_01
noncomputable abbrev S (s : String) : Str := Str.ofString s
noncomputable abbrev de (P : Params) (k : String) (t : Tok) (v : Value) : DictEntry := ⟨PyData.keyHash P (Str.ofString k), .str (Str.ofString k) t, v⟩
noncomputable def noStm : Stmt := .Pass ⟨0, 0, 0, 0⟩
noncomputable def stm (i : Nat) : Stmt := (pw.main.body[i]?).getD noStm
noncomputable def cstm (i j : Nat) : Stmt := match stm i with
  | .ClassDef _ _ _ b _ _ _ _ _ _ _ => (b[j]?).getD noStm
  | _ => noStm
noncomputable def noArgs : Arguments := { posonlyargs := [], args := [], vararg := none, kwonlyargs := [], kw_defaults := [], kwarg := none, defaults := [] }
noncomputable def noScope : Scope := { kind := .function, names := [], isGenerator := false, isCoroutine := false, more := [] }
noncomputable def sArgs : Stmt → Arguments
  | .FunctionDef _ a _ _ _ _ _ _ _ _ => a
  | _ => noArgs
noncomputable def sBody : Stmt → List Stmt
  | .FunctionDef _ _ b _ _ _ _ _ _ _ => b
  | _ => []
noncomputable def sScope : Stmt → Scope
  | .FunctionDef _ _ _ _ _ _ s _ _ _ => s
  | _ => noScope
noncomputable abbrev fnD (st : Stmt) (name qual : Str) (globals : Addr) (closure : List (Str × Addr)) (defaults kwdefaults doc pyModule : Value) (annotations : Option Addr) (code closureTuple : Value) (builtins : Addr) : FuncData :=
  { name, qualname := qual, params := sArgs st, body := .stmts (sBody st), scope := sScope st, globals, closure, defaults, kwdefaults, doc, pyModule, annotations, code, closureTuple, builtins }
noncomputable def o0 (P : Params) : Obj := PySem.W.boot_o_0 P
noncomputable def o1 (P : Params) : Obj := PySem.W.boot_o_1 P
noncomputable def o2 (P : Params) : Obj := ⟨.none, none, (.dict (Array.mk [de P "type.__subclasses__.Exception.0" 223 (.int (34) 0), de P "type.__subclasses__.Exception.n" 224 (.int (1) 0)]) 2), (Array.mk [])⟩
noncomputable def o3 (P : Params) : Obj := ⟨(.type "dict"), none, (.dict (Array.mk [de P "__name__" 165 (.str (S "law_pq0181_01") 723), de P "__doc__" 166 .none, de P "__package__" 167 .none, de P "__loader__" 168 (.builtin "__main__.__loader__#opaque"), de P "__spec__" 169 .none, de P "__annotations__" 170 (.ref 6), de P "__builtins__" 171 (.ref 4), de P "__file__" 173 (.str (S "/claim/cut.py") 172), de P "__cached__" 174 .none, de P "MOST_TEXT" 190 (.int (255) 189), de P "MOST_EXPONENT" 192 (.int (99) 191), de P "BasicError" 226 (.ref 34), de P "kind_of" 233 (.ref 44), de P "figures_of" 242 (.ref 51), de P "rounded_by" 253 (.ref 58), de P "made" 265 (.ref 65), de P "whole_near" 275 (.ref 72), de P "fits" 283 (.ref 79), de P "whole_of" 292 (.ref 86), de P "decimal_of" 300 (.ref 93), de P "checked_text" 307 (.ref 100), de P "truth" 314 (.ref 107), de P "ONE" 319 (.ref 108), de P "MOST_POWER" 321 (.int (9999) 320), de P "d_negated" 328 (.ref 115), de P "alike" 337 (.ref 122), de P "d_add" 349 (.ref 129), de P "d_sub" 358 (.ref 136), de P "d_mul" 367 (.ref 143), de P "with_rest" 376 (.ref 150), de P "d_div" 390 (.ref 157), de P "d_compare" 401 (.ref 164), de P "d_power" 413 (.ref 171), de P "square_or_end" 421 (.ref 178), de P "is_whole" 430 (.ref 185), de P "settled" 439 (.ref 192), de P "whole_reckoned" 450 (.ref 199), de P "cut_quotient" 459 (.ref 206), de P "cut_rest" 467 (.ref 213), de P "exponent_of" 474 (.ref 220), de P "whole_power" 484 (.ref 227), de P "raised" 495 (.ref 234), de P "reckoned" 511 (.ref 241), de P "negated" 520 (.ref 248), de P "order_of" 528 (.ref 255), de P "inverted" 536 (.ref 262), de P "logic" 548 (.ref 269), de P "parts_of_tree" 557 (.ref 276), de P "LOGIC" 565 (.ref 277), de P "COMPARISONS" 572 (.ref 278), de P "order_of_texts" 580 (.ref 285), de P "compared" 588 (.ref 292), de P "worth_of_texts" 597 (.ref 299), de P "worth_of_two" 603 (.ref 304), de P "worth_of_one" 613 (.ref 311), de P "worth_of_leaf" 624 (.ref 318), de P "worth_of_tree" 634 (.ref 325), de P "worth" 640 (.ref 330), de P "PlainHooks" 722 (.ref 382), de P "_law_words" 730 (.ref 393), de P "_law_draw" 738 (.ref 400), de P "_law_leaf" 746 (.ref 407), de P "_law_tree" 758 (.ref 414), de P "_law_bits" 772 (.ref 421), de P "_law_two" 784 (.ref 428), de P "_law_asked" 794 (.ref 435), de P "_law_worth" 806 (.ref 442), de P "law" 812 (.ref 447)]) 68), (Array.mk [])⟩
noncomputable def o4 (P : Params) : Obj := PySem.W.boot_o_4 P
noncomputable def o5 (P : Params) : Obj := PySem.W.boot_o_5 P
noncomputable def o6 (P : Params) : Obj := PySem.W.boot_o_6 P
noncomputable def o7 (P : Params) : Obj := PySem.W.boot_o_7 P
noncomputable def o8 (P : Params) : Obj := PySem.W.boot_o_8 P
noncomputable def o9 (P : Params) : Obj := PySem.W.boot_o_9 P
noncomputable def o10 (P : Params) : Obj := PySem.W.boot_o_10 P
noncomputable def o11 (P : Params) : Obj := ⟨(.type "tuple"), none, (.seq (Array.mk []) 0), (Array.mk [])⟩
noncomputable def o12 (P : Params) : Obj := ⟨.none, none, (.fields (Array.mk [(.int (4) 0), (.int (0) 0), (.ref 21), (.int (10) 0), (.int (0) 0), (.ref 43), (.int (14) 0), (.int (0) 0), (.ref 50), (.int (20) 0), (.int (0) 0), (.ref 57), (.int (30) 0), (.int (0) 0), (.ref 64), (.int (45) 0), (.int (0) 0), (.ref 71), (.int (51) 0), (.int (0) 0), (.ref 78), (.int (53) 0), (.int (0) 0), (.ref 85), (.int (60) 0), (.int (0) 0), (.ref 92), (.int (64) 0), (.int (0) 0), (.ref 99), (.int (68) 0), (.int (0) 0), (.ref 106), (.int (73) 0), (.int (0) 0), (.ref 114), (.int (75) 0), (.int (0) 0), (.ref 121), (.int (78) 0), (.int (0) 0), (.ref 128), (.int (81) 0), (.int (0) 0), (.ref 135), (.int (83) 0), (.int (0) 0), (.ref 142), (.int (85) 0), (.int (0) 0), (.ref 149), (.int (87) 0), (.int (0) 0), (.ref 156), (.int (95) 0), (.int (0) 0), (.ref 163), (.int (98) 0), (.int (0) 0), (.ref 170), (.int (112) 0), (.int (0) 0), (.ref 177), (.int (115) 0), (.int (0) 0), (.ref 184), (.int (119) 0), (.int (0) 0), (.ref 191), (.int (121) 0), (.int (0) 0), (.ref 198), (.int (125) 0), (.int (0) 0), (.ref 205), (.int (130) 0), (.int (0) 0), (.ref 212), (.int (132) 0), (.int (0) 0), (.ref 219), (.int (138) 0), (.int (0) 0), (.ref 226), (.int (144) 0), (.int (0) 0), (.ref 233), (.int (149) 0), (.int (0) 0), (.ref 240), (.int (164) 0), (.int (0) 0), (.ref 247), (.int (166) 0), (.int (0) 0), (.ref 254), (.int (172) 0), (.int (0) 0), (.ref 261), (.int (174) 0), (.int (0) 0), (.ref 268), (.int (184) 0), (.int (0) 0), (.ref 275), (.int (193) 0), (.int (0) 0), (.ref 284), (.int (195) 0), (.int (0) 0), (.ref 291), (.int (201) 0), (.int (0) 0), (.ref 298), (.int (207) 0), (.int (0) 0), (.ref 303), (.int (218) 0), (.int (0) 0), (.ref 310), (.int (222) 0), (.int (0) 0), (.ref 317), (.int (227) 0), (.int (0) 0), (.ref 324), (.int (240) 0), (.int (0) 0), (.ref 329), (.int (254) 0), (.int (0) 0), (.ref 336), (.int (284) 0), (.int (0) 0), (.ref 392), (.int (286) 0), (.int (0) 0), (.ref 399), (.int (291) 0), (.int (0) 0), (.ref 406), (.int (298) 0), (.int (0) 0), (.ref 413), (.int (310) 0), (.int (0) 0), (.ref 420), (.int (317) 0), (.int (0) 0), (.ref 427), (.int (336) 0), (.int (0) 0), (.ref 434), (.int (342) 0), (.int (0) 0), (.ref 441), (.int (357) 0), (.int (0) 0), (.ref 446)])), (Array.mk [])⟩
noncomputable def o13 (P : Params) : Obj := ⟨(.type "code"), none, (.fields (Array.mk [(.str (S "<module>") 182), (.str (S "<module>") 183), (.str (S "/claim/cut.py") 184), (.int (1) 0), (.int (0) 0), (.int (0) 0), (.int (0) 0), (.int (0) 0), (.ref 11), (.bool false), (.int (181) 0), (.ref 12), .none, .none, .none, .none, (.int (185) 0), (.int (1) 0), (.str (S "/claim/cut.py") 186)])), (Array.mk [])⟩
noncomputable def o14 (P : Params) : Obj := ⟨(.type "frame"), none, .plain, (Array.mk [(some (.ref 13)), (some (.ref 3)), (some (.ref 3)), none, (some (.str (S "__main__") 164)), none, (some (.ref 0))])⟩
noncomputable def o15 (P : Params) : Obj := ⟨(.type "tuple"), none, (.seq (Array.mk [(.type "Exception")]) 0), (Array.mk [])⟩
noncomputable def o16 (P : Params) : Obj := ⟨(.type "builtin_function_or_method"), none, (.fields (Array.mk [(.builtin "type.__prepare__"), (.type "type")])), (Array.mk [])⟩
noncomputable def o17 (P : Params) : Obj := ⟨(.type "dict"), none, (.dict (Array.mk [de P "__module__" 200 (.str (S "basicplus.values") 187), de P "__qualname__" 202 (.str (S "BasicError") 201), de P "__firstlineno__" 204 (.int (4) 203), de P "__init__" 215 (.ref 31), de P "__static_attributes__" 218 (.ref 32), de P "__classcell__" 219 (.ref 18)]) 6), (Array.mk [])⟩
noncomputable def o18 (P : Params) : Obj := ⟨(.type "cell"), none, (.cell (some (.ref 34))), (Array.mk [])⟩
noncomputable def o19 (P : Params) : Obj := ⟨(.type "tuple"), none, (.seq (Array.mk []) 0), (Array.mk [])⟩
noncomputable def o20 (P : Params) : Obj := ⟨.none, none, (.fields (Array.mk [(.int (6) 0), (.int (4) 0), (.ref 30)])), (Array.mk [])⟩
noncomputable def o21 (P : Params) : Obj := ⟨(.type "code"), none, (.fields (Array.mk [(.str (S "BasicError") 195), (.str (S "BasicError") 196), (.str (S "/claim/cut.py") 197), (.int (4) 0), (.int (0) 0), (.int (0) 0), (.int (0) 0), (.int (0) 0), (.ref 19), (.bool false), (.int (181) 0), (.ref 20), .none, .none, .none, .none, (.int (198) 0), (.int (4) 0), (.str (S "/claim/cut.py") 199)])), (Array.mk [])⟩
noncomputable def o22 (P : Params) : Obj := ⟨(.type "frame"), none, .plain, (Array.mk [(some (.ref 21)), (some (.ref 3)), (some (.ref 17)), none, (some (.str (S "basicplus.values") 187)), none, (some (.ref 0))])⟩
noncomputable def o23 (P : Params) : Obj := ⟨(.type "tuple"), none, (.seq (Array.mk [(.str (S "") 205)]) 0), (Array.mk [])⟩
noncomputable def o24 (P : Params) : Obj := ⟨(.type "tuple"), none, (.seq (Array.mk [(.ref 18)]) 0), (Array.mk [])⟩
noncomputable def o25 (P : Params) : Obj := ⟨(.type "tuple"), none, (.seq (Array.mk [(.str (S "__class__") 209)]) 0), (Array.mk [])⟩
noncomputable def o26 (P : Params) : Obj := ⟨.none, none, (.fields (Array.mk [])), (Array.mk [])⟩
noncomputable def o27 (P : Params) : Obj := ⟨(.type "tuple"), none, (.seq (Array.mk [(.str (S "self") 210), (.str (S "code") 211), (.str (S "told") 212)]) 0), (Array.mk [])⟩
noncomputable def o28 (P : Params) : Obj := ⟨(.type "tuple"), none, (.seq (Array.mk []) 0), (Array.mk [])⟩
noncomputable def o29 (P : Params) : Obj := ⟨.none, none, (.func (fnD (cstm 3 0) (S "__init__") (S "BasicError.__init__") 0 [] .none .none .none .none none .none .none 0)), (Array.mk [])⟩
noncomputable def o30 (P : Params) : Obj := ⟨(.type "code"), none, (.fields (Array.mk [(.str (S "__init__") 206), (.str (S "BasicError.__init__") 207), (.str (S "/claim/cut.py") 208), (.int (6) 0), (.int (3) 0), (.int (0) 0), (.int (0) 0), (.int (3) 0), (.ref 25), (.bool true), (.int (181) 0), (.ref 26), .none, (.ref 27), (.ref 28), (.ref 29), (.int (213) 0), (.int (6) 0), (.str (S "/claim/cut.py") 214)])), (Array.mk [])⟩
noncomputable def o31 (P : Params) : Obj := ⟨(.type "function"), none, (.func (fnD (cstm 3 0) (S "__init__") (S "BasicError.__init__") 3 [((S "__class__"), 18)] (.ref 23) .none .none (.str (S "basicplus.values") 187) none (.ref 30) (.ref 24) 0)), (Array.mk [])⟩
noncomputable def o32 (P : Params) : Obj := ⟨(.type "tuple"), none, (.seq (Array.mk [(.str (S "code") 216), (.str (S "told") 217)]) 0), (Array.mk [])⟩
noncomputable def o33 (P : Params) : Obj := ⟨(.type "dict"), none, (.dict (Array.mk [de P "__module__" 200 (.str (S "basicplus.values") 187), de P "__firstlineno__" 204 (.int (4) 203), de P "__init__" 215 (.ref 31), de P "__static_attributes__" 218 (.ref 32), de P "__weakref__" 221 (.ref 35), de P "__doc__" 222 .none]) 4), (Array.mk [])⟩
noncomputable def o34 (P : Params) : Obj := ⟨(.type "type"), none, (.cls { name := (S "BasicError"), bases := [(.type "Exception")], mro := [(.ref 34), (.type "Exception"), (.type "BaseException"), (.type "object")], ns := 33, qualname := (S "BasicError"), hasDict := true, slotNames := [], subclasses := [], abstract := false, collection := none, hasDel := false }), (Array.mk [(some (.ref 15)), none, (some (.str (S "BasicError") 193)), (some (.str (S "BasicError") 201)), (some (.builtin "Exception.__new__")), (some (.bool true))])⟩
noncomputable def o35 (P : Params) : Obj := ⟨(.type "getset_descriptor"), none, (.fields (Array.mk [(.str (S "__weakref__") 220), (.ref 34), (.builtin "ExceptionGroup.__weakref__"), .none])), (Array.mk [])⟩
noncomputable def o36 (P : Params) : Obj := ⟨(.type "super"), none, (.fields (Array.mk [(.ref 34), (.ref 34), (.ref 34)])), (Array.mk [])⟩
noncomputable def o37 (P : Params) : Obj := ⟨(.type "builtin_function_or_method"), none, (.fields (Array.mk [(.builtin "object.__init_subclass__"), (.ref 34)])), (Array.mk [])⟩
noncomputable def o38 (P : Params) : Obj := ⟨(.type "tuple"), none, (.seq (Array.mk []) 0), (Array.mk [])⟩
noncomputable def o39 (P : Params) : Obj := ⟨.none, none, (.fields (Array.mk [])), (Array.mk [])⟩
noncomputable def o40 (P : Params) : Obj := ⟨(.type "tuple"), none, (.seq (Array.mk [(.str (S "value") 230)]) 0), (Array.mk [])⟩
noncomputable def o41 (P : Params) : Obj := ⟨(.type "tuple"), none, (.seq (Array.mk []) 0), (Array.mk [])⟩
noncomputable def o42 (P : Params) : Obj := ⟨.none, none, (.func (fnD (stm 4) (S "kind_of") (S "kind_of") 0 [] .none .none .none .none none .none .none 0)), (Array.mk [])⟩
noncomputable def o43 (P : Params) : Obj := ⟨(.type "code"), none, (.fields (Array.mk [(.str (S "kind_of") 227), (.str (S "kind_of") 228), (.str (S "/claim/cut.py") 229), (.int (10) 0), (.int (1) 0), (.int (0) 0), (.int (0) 0), (.int (3) 0), (.ref 38), (.bool true), (.int (181) 0), (.ref 39), .none, (.ref 40), (.ref 41), (.ref 42), (.int (231) 0), (.int (10) 0), (.str (S "/claim/cut.py") 232)])), (Array.mk [])⟩
noncomputable def o44 (P : Params) : Obj := ⟨(.type "function"), none, (.func (fnD (stm 4) (S "kind_of") (S "kind_of") 3 [] .none .none .none (.str (S "basicplus.values") 187) none (.ref 43) .none 0)), (Array.mk [])⟩
noncomputable def o45 (P : Params) : Obj := ⟨(.type "tuple"), none, (.seq (Array.mk []) 0), (Array.mk [])⟩
noncomputable def o46 (P : Params) : Obj := ⟨.none, none, (.fields (Array.mk [])), (Array.mk [])⟩
noncomputable def o47 (P : Params) : Obj := ⟨(.type "tuple"), none, (.seq (Array.mk [(.str (S "number") 237), (.str (S "many") 238), (.str (S "bound") 239)]) 0), (Array.mk [])⟩
noncomputable def o48 (P : Params) : Obj := ⟨(.type "tuple"), none, (.seq (Array.mk []) 0), (Array.mk [])⟩
noncomputable def o49 (P : Params) : Obj := ⟨.none, none, (.func (fnD (stm 5) (S "figures_of") (S "figures_of") 0 [] .none .none .none .none none .none .none 0)), (Array.mk [])⟩
noncomputable def o50 (P : Params) : Obj := ⟨(.type "code"), none, (.fields (Array.mk [(.str (S "figures_of") 234), (.str (S "figures_of") 235), (.str (S "/claim/cut.py") 236), (.int (14) 0), (.int (1) 0), (.int (0) 0), (.int (0) 0), (.int (3) 0), (.ref 45), (.bool true), (.int (181) 0), (.ref 46), .none, (.ref 47), (.ref 48), (.ref 49), (.int (240) 0), (.int (14) 0), (.str (S "/claim/cut.py") 241)])), (Array.mk [])⟩
noncomputable def o51 (P : Params) : Obj := ⟨(.type "function"), none, (.func (fnD (stm 5) (S "figures_of") (S "figures_of") 3 [] .none .none .none (.str (S "basicplus.values") 187) none (.ref 50) .none 0)), (Array.mk [])⟩
noncomputable def o52 (P : Params) : Obj := ⟨(.type "tuple"), none, (.seq (Array.mk []) 0), (Array.mk [])⟩
noncomputable def o53 (P : Params) : Obj := ⟨.none, none, (.fields (Array.mk [])), (Array.mk [])⟩
noncomputable def o54 (P : Params) : Obj := ⟨(.type "tuple"), none, (.seq (Array.mk [(.str (S "number") 246), (.str (S "places") 247), (.str (S "unit") 248), (.str (S "found") 249), (.str (S "rest") 250)]) 0), (Array.mk [])⟩
noncomputable def o55 (P : Params) : Obj := ⟨(.type "tuple"), none, (.seq (Array.mk []) 0), (Array.mk [])⟩
noncomputable def o56 (P : Params) : Obj := ⟨.none, none, (.func (fnD (stm 6) (S "rounded_by") (S "rounded_by") 0 [] .none .none .none .none none .none .none 0)), (Array.mk [])⟩
noncomputable def o57 (P : Params) : Obj := ⟨(.type "code"), none, (.fields (Array.mk [(.str (S "rounded_by") 243), (.str (S "rounded_by") 244), (.str (S "/claim/cut.py") 245), (.int (20) 0), (.int (2) 0), (.int (0) 0), (.int (0) 0), (.int (3) 0), (.ref 52), (.bool true), (.int (181) 0), (.ref 53), .none, (.ref 54), (.ref 55), (.ref 56), (.int (251) 0), (.int (20) 0), (.str (S "/claim/cut.py") 252)])), (Array.mk [])⟩
noncomputable def o58 (P : Params) : Obj := ⟨(.type "function"), none, (.func (fnD (stm 6) (S "rounded_by") (S "rounded_by") 3 [] .none .none .none (.str (S "basicplus.values") 187) none (.ref 57) .none 0)), (Array.mk [])⟩
noncomputable def o59 (P : Params) : Obj := ⟨(.type "tuple"), none, (.seq (Array.mk []) 0), (Array.mk [])⟩
noncomputable def o60 (P : Params) : Obj := ⟨.none, none, (.fields (Array.mk [])), (Array.mk [])⟩
noncomputable def o61 (P : Params) : Obj := ⟨(.type "tuple"), none, (.seq (Array.mk [(.str (S "coefficient") 257), (.str (S "exponent") 258), (.str (S "digits") 259), (.str (S "size") 260), (.str (S "more") 261), (.str (S "first") 262)]) 0), (Array.mk [])⟩
noncomputable def o62 (P : Params) : Obj := ⟨(.type "tuple"), none, (.seq (Array.mk []) 0), (Array.mk [])⟩
noncomputable def o63 (P : Params) : Obj := ⟨.none, none, (.func (fnD (stm 7) (S "made") (S "made") 0 [] .none .none .none .none none .none .none 0)), (Array.mk [])⟩
noncomputable def o64 (P : Params) : Obj := ⟨(.type "code"), none, (.fields (Array.mk [(.str (S "made") 254), (.str (S "made") 255), (.str (S "/claim/cut.py") 256), (.int (30) 0), (.int (3) 0), (.int (0) 0), (.int (0) 0), (.int (3) 0), (.ref 59), (.bool true), (.int (181) 0), (.ref 60), .none, (.ref 61), (.ref 62), (.ref 63), (.int (263) 0), (.int (30) 0), (.str (S "/claim/cut.py") 264)])), (Array.mk [])⟩
noncomputable def o65 (P : Params) : Obj := ⟨(.type "function"), none, (.func (fnD (stm 7) (S "made") (S "made") 3 [] .none .none .none (.str (S "basicplus.values") 187) none (.ref 64) .none 0)), (Array.mk [])⟩
noncomputable def o66 (P : Params) : Obj := ⟨(.type "tuple"), none, (.seq (Array.mk []) 0), (Array.mk [])⟩
noncomputable def o67 (P : Params) : Obj := ⟨.none, none, (.fields (Array.mk [])), (Array.mk [])⟩
noncomputable def o68 (P : Params) : Obj := ⟨(.type "tuple"), none, (.seq (Array.mk [(.str (S "value") 269), (.str (S "coefficient") 270), (.str (S "exponent") 271), (.str (S "size") 272)]) 0), (Array.mk [])⟩
noncomputable def o69 (P : Params) : Obj := ⟨(.type "tuple"), none, (.seq (Array.mk []) 0), (Array.mk [])⟩
noncomputable def o70 (P : Params) : Obj := ⟨.none, none, (.func (fnD (stm 8) (S "whole_near") (S "whole_near") 0 [] .none .none .none .none none .none .none 0)), (Array.mk [])⟩
noncomputable def o71 (P : Params) : Obj := ⟨(.type "code"), none, (.fields (Array.mk [(.str (S "whole_near") 266), (.str (S "whole_near") 267), (.str (S "/claim/cut.py") 268), (.int (45) 0), (.int (1) 0), (.int (0) 0), (.int (0) 0), (.int (3) 0), (.ref 66), (.bool true), (.int (181) 0), (.ref 67), .none, (.ref 68), (.ref 69), (.ref 70), (.int (273) 0), (.int (45) 0), (.str (S "/claim/cut.py") 274)])), (Array.mk [])⟩
noncomputable def o72 (P : Params) : Obj := ⟨(.type "function"), none, (.func (fnD (stm 8) (S "whole_near") (S "whole_near") 3 [] .none .none .none (.str (S "basicplus.values") 187) none (.ref 71) .none 0)), (Array.mk [])⟩
noncomputable def o73 (P : Params) : Obj := ⟨(.type "tuple"), none, (.seq (Array.mk []) 0), (Array.mk [])⟩
noncomputable def o74 (P : Params) : Obj := ⟨.none, none, (.fields (Array.mk [])), (Array.mk [])⟩
noncomputable def o75 (P : Params) : Obj := ⟨(.type "tuple"), none, (.seq (Array.mk [(.str (S "number") 279), (.str (S "bits") 280)]) 0), (Array.mk [])⟩
noncomputable def o76 (P : Params) : Obj := ⟨(.type "tuple"), none, (.seq (Array.mk []) 0), (Array.mk [])⟩
noncomputable def o77 (P : Params) : Obj := ⟨.none, none, (.func (fnD (stm 9) (S "fits") (S "fits") 0 [] .none .none .none .none none .none .none 0)), (Array.mk [])⟩
noncomputable def o78 (P : Params) : Obj := ⟨(.type "code"), none, (.fields (Array.mk [(.str (S "fits") 276), (.str (S "fits") 277), (.str (S "/claim/cut.py") 278), (.int (51) 0), (.int (2) 0), (.int (0) 0), (.int (0) 0), (.int (3) 0), (.ref 73), (.bool true), (.int (181) 0), (.ref 74), .none, (.ref 75), (.ref 76), (.ref 77), (.int (281) 0), (.int (51) 0), (.str (S "/claim/cut.py") 282)])), (Array.mk [])⟩
noncomputable def o79 (P : Params) : Obj := ⟨(.type "function"), none, (.func (fnD (stm 9) (S "fits") (S "fits") 3 [] .none .none .none (.str (S "basicplus.values") 187) none (.ref 78) .none 0)), (Array.mk [])⟩
noncomputable def o80 (P : Params) : Obj := ⟨(.type "tuple"), none, (.seq (Array.mk []) 0), (Array.mk [])⟩
noncomputable def o81 (P : Params) : Obj := ⟨.none, none, (.fields (Array.mk [])), (Array.mk [])⟩
noncomputable def o82 (P : Params) : Obj := ⟨(.type "tuple"), none, (.seq (Array.mk [(.str (S "value") 287), (.str (S "bits") 288), (.str (S "number") 289)]) 0), (Array.mk [])⟩
noncomputable def o83 (P : Params) : Obj := ⟨(.type "tuple"), none, (.seq (Array.mk []) 0), (Array.mk [])⟩
noncomputable def o84 (P : Params) : Obj := ⟨.none, none, (.func (fnD (stm 10) (S "whole_of") (S "whole_of") 0 [] .none .none .none .none none .none .none 0)), (Array.mk [])⟩
noncomputable def o85 (P : Params) : Obj := ⟨(.type "code"), none, (.fields (Array.mk [(.str (S "whole_of") 284), (.str (S "whole_of") 285), (.str (S "/claim/cut.py") 286), (.int (53) 0), (.int (2) 0), (.int (0) 0), (.int (0) 0), (.int (3) 0), (.ref 80), (.bool true), (.int (181) 0), (.ref 81), .none, (.ref 82), (.ref 83), (.ref 84), (.int (290) 0), (.int (53) 0), (.str (S "/claim/cut.py") 291)])), (Array.mk [])⟩
noncomputable def o86 (P : Params) : Obj := ⟨(.type "function"), none, (.func (fnD (stm 10) (S "whole_of") (S "whole_of") 3 [] .none .none .none (.str (S "basicplus.values") 187) none (.ref 85) .none 0)), (Array.mk [])⟩
noncomputable def o87 (P : Params) : Obj := ⟨(.type "tuple"), none, (.seq (Array.mk []) 0), (Array.mk [])⟩
noncomputable def o88 (P : Params) : Obj := ⟨.none, none, (.fields (Array.mk [])), (Array.mk [])⟩
noncomputable def o89 (P : Params) : Obj := ⟨(.type "tuple"), none, (.seq (Array.mk [(.str (S "value") 296), (.str (S "digits") 297)]) 0), (Array.mk [])⟩
noncomputable def o90 (P : Params) : Obj := ⟨(.type "tuple"), none, (.seq (Array.mk []) 0), (Array.mk [])⟩
noncomputable def o91 (P : Params) : Obj := ⟨.none, none, (.func (fnD (stm 11) (S "decimal_of") (S "decimal_of") 0 [] .none .none .none .none none .none .none 0)), (Array.mk [])⟩
noncomputable def o92 (P : Params) : Obj := ⟨(.type "code"), none, (.fields (Array.mk [(.str (S "decimal_of") 293), (.str (S "decimal_of") 294), (.str (S "/claim/cut.py") 295), (.int (60) 0), (.int (2) 0), (.int (0) 0), (.int (0) 0), (.int (3) 0), (.ref 87), (.bool true), (.int (181) 0), (.ref 88), .none, (.ref 89), (.ref 90), (.ref 91), (.int (298) 0), (.int (60) 0), (.str (S "/claim/cut.py") 299)])), (Array.mk [])⟩
noncomputable def o93 (P : Params) : Obj := ⟨(.type "function"), none, (.func (fnD (stm 11) (S "decimal_of") (S "decimal_of") 3 [] .none .none .none (.str (S "basicplus.values") 187) none (.ref 92) .none 0)), (Array.mk [])⟩
noncomputable def o94 (P : Params) : Obj := ⟨(.type "tuple"), none, (.seq (Array.mk []) 0), (Array.mk [])⟩
noncomputable def o95 (P : Params) : Obj := ⟨.none, none, (.fields (Array.mk [])), (Array.mk [])⟩
noncomputable def o96 (P : Params) : Obj := ⟨(.type "tuple"), none, (.seq (Array.mk [(.str (S "text") 304)]) 0), (Array.mk [])⟩
noncomputable def o97 (P : Params) : Obj := ⟨(.type "tuple"), none, (.seq (Array.mk []) 0), (Array.mk [])⟩
noncomputable def o98 (P : Params) : Obj := ⟨.none, none, (.func (fnD (stm 12) (S "checked_text") (S "checked_text") 0 [] .none .none .none .none none .none .none 0)), (Array.mk [])⟩
noncomputable def o99 (P : Params) : Obj := ⟨(.type "code"), none, (.fields (Array.mk [(.str (S "checked_text") 301), (.str (S "checked_text") 302), (.str (S "/claim/cut.py") 303), (.int (64) 0), (.int (1) 0), (.int (0) 0), (.int (0) 0), (.int (3) 0), (.ref 94), (.bool true), (.int (181) 0), (.ref 95), .none, (.ref 96), (.ref 97), (.ref 98), (.int (305) 0), (.int (64) 0), (.str (S "/claim/cut.py") 306)])), (Array.mk [])⟩
noncomputable def o100 (P : Params) : Obj := ⟨(.type "function"), none, (.func (fnD (stm 12) (S "checked_text") (S "checked_text") 3 [] .none .none .none (.str (S "basicplus.values") 187) none (.ref 99) .none 0)), (Array.mk [])⟩
noncomputable def o101 (P : Params) : Obj := ⟨(.type "tuple"), none, (.seq (Array.mk []) 0), (Array.mk [])⟩
noncomputable def o102 (P : Params) : Obj := ⟨.none, none, (.fields (Array.mk [])), (Array.mk [])⟩
noncomputable def o103 (P : Params) : Obj := ⟨(.type "tuple"), none, (.seq (Array.mk [(.str (S "is_so") 311)]) 0), (Array.mk [])⟩
noncomputable def o104 (P : Params) : Obj := ⟨(.type "tuple"), none, (.seq (Array.mk []) 0), (Array.mk [])⟩
noncomputable def o105 (P : Params) : Obj := ⟨.none, none, (.func (fnD (stm 13) (S "truth") (S "truth") 0 [] .none .none .none .none none .none .none 0)), (Array.mk [])⟩
noncomputable def o106 (P : Params) : Obj := ⟨(.type "code"), none, (.fields (Array.mk [(.str (S "truth") 308), (.str (S "truth") 309), (.str (S "/claim/cut.py") 310), (.int (68) 0), (.int (1) 0), (.int (0) 0), (.int (0) 0), (.int (3) 0), (.ref 101), (.bool true), (.int (181) 0), (.ref 102), .none, (.ref 103), (.ref 104), (.ref 105), (.int (312) 0), (.int (68) 0), (.str (S "/claim/cut.py") 313)])), (Array.mk [])⟩
noncomputable def o107 (P : Params) : Obj := ⟨(.type "function"), none, (.func (fnD (stm 13) (S "truth") (S "truth") 3 [] .none .none .none (.str (S "basicplus.values") 187) none (.ref 106) .none 0)), (Array.mk [])⟩
noncomputable def o108 (P : Params) : Obj := ⟨(.type "tuple"), none, (.seq (Array.mk [(.int (1) 317), (.int (0) 318)]) 0), (Array.mk [])⟩
noncomputable def o109 (P : Params) : Obj := ⟨(.type "tuple"), none, (.seq (Array.mk []) 0), (Array.mk [])⟩
noncomputable def o110 (P : Params) : Obj := ⟨.none, none, (.fields (Array.mk [])), (Array.mk [])⟩
noncomputable def o111 (P : Params) : Obj := ⟨(.type "tuple"), none, (.seq (Array.mk [(.str (S "a") 325)]) 0), (Array.mk [])⟩
noncomputable def o112 (P : Params) : Obj := ⟨(.type "tuple"), none, (.seq (Array.mk []) 0), (Array.mk [])⟩
noncomputable def o113 (P : Params) : Obj := ⟨.none, none, (.func (fnD (stm 17) (S "d_negated") (S "d_negated") 0 [] .none .none .none .none none .none .none 0)), (Array.mk [])⟩
noncomputable def o114 (P : Params) : Obj := ⟨(.type "code"), none, (.fields (Array.mk [(.str (S "d_negated") 322), (.str (S "d_negated") 323), (.str (S "/claim/cut.py") 324), (.int (73) 0), (.int (1) 0), (.int (0) 0), (.int (0) 0), (.int (3) 0), (.ref 109), (.bool true), (.int (181) 0), (.ref 110), .none, (.ref 111), (.ref 112), (.ref 113), (.int (326) 0), (.int (73) 0), (.str (S "/claim/cut.py") 327)])), (Array.mk [])⟩
noncomputable def o115 (P : Params) : Obj := ⟨(.type "function"), none, (.func (fnD (stm 17) (S "d_negated") (S "d_negated") 3 [] .none .none .none (.str (S "basicplus.decimals") 315) none (.ref 114) .none 0)), (Array.mk [])⟩
noncomputable def o116 (P : Params) : Obj := ⟨(.type "tuple"), none, (.seq (Array.mk []) 0), (Array.mk [])⟩
noncomputable def o117 (P : Params) : Obj := ⟨.none, none, (.fields (Array.mk [])), (Array.mk [])⟩
noncomputable def o118 (P : Params) : Obj := ⟨(.type "tuple"), none, (.seq (Array.mk [(.str (S "a") 332), (.str (S "b") 333), (.str (S "least") 334)]) 0), (Array.mk [])⟩
noncomputable def o119 (P : Params) : Obj := ⟨(.type "tuple"), none, (.seq (Array.mk []) 0), (Array.mk [])⟩
noncomputable def o120 (P : Params) : Obj := ⟨.none, none, (.func (fnD (stm 18) (S "alike") (S "alike") 0 [] .none .none .none .none none .none .none 0)), (Array.mk [])⟩
noncomputable def o121 (P : Params) : Obj := ⟨(.type "code"), none, (.fields (Array.mk [(.str (S "alike") 329), (.str (S "alike") 330), (.str (S "/claim/cut.py") 331), (.int (75) 0), (.int (2) 0), (.int (0) 0), (.int (0) 0), (.int (3) 0), (.ref 116), (.bool true), (.int (181) 0), (.ref 117), .none, (.ref 118), (.ref 119), (.ref 120), (.int (335) 0), (.int (75) 0), (.str (S "/claim/cut.py") 336)])), (Array.mk [])⟩
noncomputable def o122 (P : Params) : Obj := ⟨(.type "function"), none, (.func (fnD (stm 18) (S "alike") (S "alike") 3 [] .none .none .none (.str (S "basicplus.decimals") 315) none (.ref 121) .none 0)), (Array.mk [])⟩
noncomputable def o123 (P : Params) : Obj := ⟨(.type "tuple"), none, (.seq (Array.mk []) 0), (Array.mk [])⟩
noncomputable def o124 (P : Params) : Obj := ⟨.none, none, (.fields (Array.mk [])), (Array.mk [])⟩
noncomputable def o125 (P : Params) : Obj := ⟨(.type "tuple"), none, (.seq (Array.mk [(.str (S "a") 341), (.str (S "b") 342), (.str (S "digits") 343), (.str (S "one") 344), (.str (S "other") 345), (.str (S "exponent") 346)]) 0), (Array.mk [])⟩
noncomputable def o126 (P : Params) : Obj := ⟨(.type "tuple"), none, (.seq (Array.mk []) 0), (Array.mk [])⟩
noncomputable def o127 (P : Params) : Obj := ⟨.none, none, (.func (fnD (stm 19) (S "d_add") (S "d_add") 0 [] .none .none .none .none none .none .none 0)), (Array.mk [])⟩
noncomputable def o128 (P : Params) : Obj := ⟨(.type "code"), none, (.fields (Array.mk [(.str (S "d_add") 338), (.str (S "d_add") 339), (.str (S "/claim/cut.py") 340), (.int (78) 0), (.int (3) 0), (.int (0) 0), (.int (0) 0), (.int (3) 0), (.ref 123), (.bool true), (.int (181) 0), (.ref 124), .none, (.ref 125), (.ref 126), (.ref 127), (.int (347) 0), (.int (78) 0), (.str (S "/claim/cut.py") 348)])), (Array.mk [])⟩
noncomputable def o129 (P : Params) : Obj := ⟨(.type "function"), none, (.func (fnD (stm 19) (S "d_add") (S "d_add") 3 [] .none .none .none (.str (S "basicplus.decimals") 315) none (.ref 128) .none 0)), (Array.mk [])⟩
noncomputable def o130 (P : Params) : Obj := ⟨(.type "tuple"), none, (.seq (Array.mk []) 0), (Array.mk [])⟩
noncomputable def o131 (P : Params) : Obj := ⟨.none, none, (.fields (Array.mk [])), (Array.mk [])⟩
noncomputable def o132 (P : Params) : Obj := ⟨(.type "tuple"), none, (.seq (Array.mk [(.str (S "a") 353), (.str (S "b") 354), (.str (S "digits") 355)]) 0), (Array.mk [])⟩
noncomputable def o133 (P : Params) : Obj := ⟨(.type "tuple"), none, (.seq (Array.mk []) 0), (Array.mk [])⟩
noncomputable def o134 (P : Params) : Obj := ⟨.none, none, (.func (fnD (stm 20) (S "d_sub") (S "d_sub") 0 [] .none .none .none .none none .none .none 0)), (Array.mk [])⟩
noncomputable def o135 (P : Params) : Obj := ⟨(.type "code"), none, (.fields (Array.mk [(.str (S "d_sub") 350), (.str (S "d_sub") 351), (.str (S "/claim/cut.py") 352), (.int (81) 0), (.int (3) 0), (.int (0) 0), (.int (0) 0), (.int (3) 0), (.ref 130), (.bool true), (.int (181) 0), (.ref 131), .none, (.ref 132), (.ref 133), (.ref 134), (.int (356) 0), (.int (81) 0), (.str (S "/claim/cut.py") 357)])), (Array.mk [])⟩
noncomputable def o136 (P : Params) : Obj := ⟨(.type "function"), none, (.func (fnD (stm 20) (S "d_sub") (S "d_sub") 3 [] .none .none .none (.str (S "basicplus.decimals") 315) none (.ref 135) .none 0)), (Array.mk [])⟩
noncomputable def o137 (P : Params) : Obj := ⟨(.type "tuple"), none, (.seq (Array.mk []) 0), (Array.mk [])⟩
noncomputable def o138 (P : Params) : Obj := ⟨.none, none, (.fields (Array.mk [])), (Array.mk [])⟩
noncomputable def o139 (P : Params) : Obj := ⟨(.type "tuple"), none, (.seq (Array.mk [(.str (S "a") 362), (.str (S "b") 363), (.str (S "digits") 364)]) 0), (Array.mk [])⟩
noncomputable def o140 (P : Params) : Obj := ⟨(.type "tuple"), none, (.seq (Array.mk []) 0), (Array.mk [])⟩
noncomputable def o141 (P : Params) : Obj := ⟨.none, none, (.func (fnD (stm 21) (S "d_mul") (S "d_mul") 0 [] .none .none .none .none none .none .none 0)), (Array.mk [])⟩
noncomputable def o142 (P : Params) : Obj := ⟨(.type "code"), none, (.fields (Array.mk [(.str (S "d_mul") 359), (.str (S "d_mul") 360), (.str (S "/claim/cut.py") 361), (.int (83) 0), (.int (3) 0), (.int (0) 0), (.int (0) 0), (.int (3) 0), (.ref 137), (.bool true), (.int (181) 0), (.ref 138), .none, (.ref 139), (.ref 140), (.ref 141), (.int (365) 0), (.int (83) 0), (.str (S "/claim/cut.py") 366)])), (Array.mk [])⟩
noncomputable def o143 (P : Params) : Obj := ⟨(.type "function"), none, (.func (fnD (stm 21) (S "d_mul") (S "d_mul") 3 [] .none .none .none (.str (S "basicplus.decimals") 315) none (.ref 142) .none 0)), (Array.mk [])⟩
noncomputable def o144 (P : Params) : Obj := ⟨(.type "tuple"), none, (.seq (Array.mk []) 0), (Array.mk [])⟩
noncomputable def o145 (P : Params) : Obj := ⟨.none, none, (.fields (Array.mk [])), (Array.mk [])⟩
noncomputable def o146 (P : Params) : Obj := ⟨(.type "tuple"), none, (.seq (Array.mk [(.str (S "whole") 371), (.str (S "rest") 372), (.str (S "exponent") 373)]) 0), (Array.mk [])⟩
noncomputable def o147 (P : Params) : Obj := ⟨(.type "tuple"), none, (.seq (Array.mk []) 0), (Array.mk [])⟩
noncomputable def o148 (P : Params) : Obj := ⟨.none, none, (.func (fnD (stm 22) (S "with_rest") (S "with_rest") 0 [] .none .none .none .none none .none .none 0)), (Array.mk [])⟩
noncomputable def o149 (P : Params) : Obj := ⟨(.type "code"), none, (.fields (Array.mk [(.str (S "with_rest") 368), (.str (S "with_rest") 369), (.str (S "/claim/cut.py") 370), (.int (85) 0), (.int (3) 0), (.int (0) 0), (.int (0) 0), (.int (3) 0), (.ref 144), (.bool true), (.int (181) 0), (.ref 145), .none, (.ref 146), (.ref 147), (.ref 148), (.int (374) 0), (.int (85) 0), (.str (S "/claim/cut.py") 375)])), (Array.mk [])⟩
noncomputable def o150 (P : Params) : Obj := ⟨(.type "function"), none, (.func (fnD (stm 22) (S "with_rest") (S "with_rest") 3 [] .none .none .none (.str (S "basicplus.decimals") 315) none (.ref 149) .none 0)), (Array.mk [])⟩
noncomputable def o151 (P : Params) : Obj := ⟨(.type "tuple"), none, (.seq (Array.mk []) 0), (Array.mk [])⟩
noncomputable def o152 (P : Params) : Obj := ⟨.none, none, (.fields (Array.mk [])), (Array.mk [])⟩
noncomputable def o153 (P : Params) : Obj := ⟨(.type "tuple"), none, (.seq (Array.mk [(.str (S "a") 380), (.str (S "b") 381), (.str (S "digits") 382), (.str (S "size") 383), (.str (S "below") 384), (.str (S "places") 385), (.str (S "whole") 386), (.str (S "exponent") 387)]) 0), (Array.mk [])⟩
noncomputable def o154 (P : Params) : Obj := ⟨(.type "tuple"), none, (.seq (Array.mk []) 0), (Array.mk [])⟩
noncomputable def o155 (P : Params) : Obj := ⟨.none, none, (.func (fnD (stm 23) (S "d_div") (S "d_div") 0 [] .none .none .none .none none .none .none 0)), (Array.mk [])⟩
noncomputable def o156 (P : Params) : Obj := ⟨(.type "code"), none, (.fields (Array.mk [(.str (S "d_div") 377), (.str (S "d_div") 378), (.str (S "/claim/cut.py") 379), (.int (87) 0), (.int (3) 0), (.int (0) 0), (.int (0) 0), (.int (3) 0), (.ref 151), (.bool true), (.int (181) 0), (.ref 152), .none, (.ref 153), (.ref 154), (.ref 155), (.int (388) 0), (.int (87) 0), (.str (S "/claim/cut.py") 389)])), (Array.mk [])⟩
noncomputable def o157 (P : Params) : Obj := ⟨(.type "function"), none, (.func (fnD (stm 23) (S "d_div") (S "d_div") 3 [] .none .none .none (.str (S "basicplus.decimals") 315) none (.ref 156) .none 0)), (Array.mk [])⟩
noncomputable def o158 (P : Params) : Obj := ⟨(.type "tuple"), none, (.seq (Array.mk []) 0), (Array.mk [])⟩
noncomputable def o159 (P : Params) : Obj := ⟨.none, none, (.fields (Array.mk [])), (Array.mk [])⟩
noncomputable def o160 (P : Params) : Obj := ⟨(.type "tuple"), none, (.seq (Array.mk [(.str (S "a") 394), (.str (S "b") 395), (.str (S "one") 396), (.str (S "other") 397), (.str (S "exponent") 398)]) 0), (Array.mk [])⟩
noncomputable def o161 (P : Params) : Obj := ⟨(.type "tuple"), none, (.seq (Array.mk []) 0), (Array.mk [])⟩
noncomputable def o162 (P : Params) : Obj := ⟨.none, none, (.func (fnD (stm 24) (S "d_compare") (S "d_compare") 0 [] .none .none .none .none none .none .none 0)), (Array.mk [])⟩
noncomputable def o163 (P : Params) : Obj := ⟨(.type "code"), none, (.fields (Array.mk [(.str (S "d_compare") 391), (.str (S "d_compare") 392), (.str (S "/claim/cut.py") 393), (.int (95) 0), (.int (2) 0), (.int (0) 0), (.int (0) 0), (.int (3) 0), (.ref 158), (.bool true), (.int (181) 0), (.ref 159), .none, (.ref 160), (.ref 161), (.ref 162), (.int (399) 0), (.int (95) 0), (.str (S "/claim/cut.py") 400)])), (Array.mk [])⟩
noncomputable def o164 (P : Params) : Obj := ⟨(.type "function"), none, (.func (fnD (stm 24) (S "d_compare") (S "d_compare") 3 [] .none .none .none (.str (S "basicplus.decimals") 315) none (.ref 163) .none 0)), (Array.mk [])⟩
noncomputable def o165 (P : Params) : Obj := ⟨(.type "tuple"), none, (.seq (Array.mk []) 0), (Array.mk [])⟩
noncomputable def o166 (P : Params) : Obj := ⟨.none, none, (.fields (Array.mk [])), (Array.mk [])⟩
noncomputable def o167 (P : Params) : Obj := ⟨(.type "tuple"), none, (.seq (Array.mk [(.str (S "a") 405), (.str (S "n") 406), (.str (S "digits") 407), (.str (S "work") 408), (.str (S "found") 409), (.str (S "left") 410)]) 0), (Array.mk [])⟩
noncomputable def o168 (P : Params) : Obj := ⟨(.type "tuple"), none, (.seq (Array.mk []) 0), (Array.mk [])⟩
noncomputable def o169 (P : Params) : Obj := ⟨.none, none, (.func (fnD (stm 25) (S "d_power") (S "d_power") 0 [] .none .none .none .none none .none .none 0)), (Array.mk [])⟩
noncomputable def o170 (P : Params) : Obj := ⟨(.type "code"), none, (.fields (Array.mk [(.str (S "d_power") 402), (.str (S "d_power") 403), (.str (S "/claim/cut.py") 404), (.int (98) 0), (.int (3) 0), (.int (0) 0), (.int (0) 0), (.int (3) 0), (.ref 165), (.bool true), (.int (181) 0), (.ref 166), .none, (.ref 167), (.ref 168), (.ref 169), (.int (411) 0), (.int (98) 0), (.str (S "/claim/cut.py") 412)])), (Array.mk [])⟩
noncomputable def o171 (P : Params) : Obj := ⟨(.type "function"), none, (.func (fnD (stm 25) (S "d_power") (S "d_power") 3 [] .none .none .none (.str (S "basicplus.decimals") 315) none (.ref 170) .none 0)), (Array.mk [])⟩
noncomputable def o172 (P : Params) : Obj := ⟨(.type "tuple"), none, (.seq (Array.mk []) 0), (Array.mk [])⟩
noncomputable def o173 (P : Params) : Obj := ⟨.none, none, (.fields (Array.mk [])), (Array.mk [])⟩
noncomputable def o174 (P : Params) : Obj := ⟨(.type "tuple"), none, (.seq (Array.mk [(.str (S "a") 417), (.str (S "work") 418)]) 0), (Array.mk [])⟩
noncomputable def o175 (P : Params) : Obj := ⟨(.type "tuple"), none, (.seq (Array.mk []) 0), (Array.mk [])⟩
noncomputable def o176 (P : Params) : Obj := ⟨.none, none, (.func (fnD (stm 26) (S "square_or_end") (S "square_or_end") 0 [] .none .none .none .none none .none .none 0)), (Array.mk [])⟩
noncomputable def o177 (P : Params) : Obj := ⟨(.type "code"), none, (.fields (Array.mk [(.str (S "square_or_end") 414), (.str (S "square_or_end") 415), (.str (S "/claim/cut.py") 416), (.int (112) 0), (.int (2) 0), (.int (0) 0), (.int (0) 0), (.int (3) 0), (.ref 172), (.bool true), (.int (181) 0), (.ref 173), .none, (.ref 174), (.ref 175), (.ref 176), (.int (419) 0), (.int (112) 0), (.str (S "/claim/cut.py") 420)])), (Array.mk [])⟩
noncomputable def o178 (P : Params) : Obj := ⟨(.type "function"), none, (.func (fnD (stm 26) (S "square_or_end") (S "square_or_end") 3 [] .none .none .none (.str (S "basicplus.decimals") 315) none (.ref 177) .none 0)), (Array.mk [])⟩
noncomputable def o179 (P : Params) : Obj := ⟨(.type "tuple"), none, (.seq (Array.mk []) 0), (Array.mk [])⟩
noncomputable def o180 (P : Params) : Obj := ⟨.none, none, (.fields (Array.mk [])), (Array.mk [])⟩
noncomputable def o181 (P : Params) : Obj := ⟨(.type "tuple"), none, (.seq (Array.mk [(.str (S "value") 427)]) 0), (Array.mk [])⟩
noncomputable def o182 (P : Params) : Obj := ⟨(.type "tuple"), none, (.seq (Array.mk []) 0), (Array.mk [])⟩
noncomputable def o183 (P : Params) : Obj := ⟨.none, none, (.func (fnD (stm 28) (S "is_whole") (S "is_whole") 0 [] .none .none .none .none none .none .none 0)), (Array.mk [])⟩
noncomputable def o184 (P : Params) : Obj := ⟨(.type "code"), none, (.fields (Array.mk [(.str (S "is_whole") 424), (.str (S "is_whole") 425), (.str (S "/claim/cut.py") 426), (.int (115) 0), (.int (1) 0), (.int (0) 0), (.int (0) 0), (.int (3) 0), (.ref 179), (.bool true), (.int (181) 0), (.ref 180), .none, (.ref 181), (.ref 182), (.ref 183), (.int (428) 0), (.int (115) 0), (.str (S "/claim/cut.py") 429)])), (Array.mk [])⟩
noncomputable def o185 (P : Params) : Obj := ⟨(.type "function"), none, (.func (fnD (stm 28) (S "is_whole") (S "is_whole") 3 [] .none .none .none (.str (S "basicplus.arith") 422) none (.ref 184) .none 0)), (Array.mk [])⟩
noncomputable def o186 (P : Params) : Obj := ⟨(.type "tuple"), none, (.seq (Array.mk []) 0), (Array.mk [])⟩
noncomputable def o187 (P : Params) : Obj := ⟨.none, none, (.fields (Array.mk [])), (Array.mk [])⟩
noncomputable def o188 (P : Params) : Obj := ⟨(.type "tuple"), none, (.seq (Array.mk [(.str (S "number") 434), (.str (S "bits") 435), (.str (S "digits") 436)]) 0), (Array.mk [])⟩
noncomputable def o189 (P : Params) : Obj := ⟨(.type "tuple"), none, (.seq (Array.mk []) 0), (Array.mk [])⟩
noncomputable def o190 (P : Params) : Obj := ⟨.none, none, (.func (fnD (stm 29) (S "settled") (S "settled") 0 [] .none .none .none .none none .none .none 0)), (Array.mk [])⟩
noncomputable def o191 (P : Params) : Obj := ⟨(.type "code"), none, (.fields (Array.mk [(.str (S "settled") 431), (.str (S "settled") 432), (.str (S "/claim/cut.py") 433), (.int (119) 0), (.int (3) 0), (.int (0) 0), (.int (0) 0), (.int (3) 0), (.ref 186), (.bool true), (.int (181) 0), (.ref 187), .none, (.ref 188), (.ref 189), (.ref 190), (.int (437) 0), (.int (119) 0), (.str (S "/claim/cut.py") 438)])), (Array.mk [])⟩
noncomputable def o192 (P : Params) : Obj := ⟨(.type "function"), none, (.func (fnD (stm 29) (S "settled") (S "settled") 3 [] .none .none .none (.str (S "basicplus.arith") 422) none (.ref 191) .none 0)), (Array.mk [])⟩
noncomputable def o193 (P : Params) : Obj := ⟨(.type "tuple"), none, (.seq (Array.mk []) 0), (Array.mk [])⟩
noncomputable def o194 (P : Params) : Obj := ⟨.none, none, (.fields (Array.mk [])), (Array.mk [])⟩
noncomputable def o195 (P : Params) : Obj := ⟨(.type "tuple"), none, (.seq (Array.mk [(.str (S "op") 443), (.str (S "a") 444), (.str (S "b") 445), (.str (S "bits") 446), (.str (S "digits") 447)]) 0), (Array.mk [])⟩
noncomputable def o196 (P : Params) : Obj := ⟨(.type "tuple"), none, (.seq (Array.mk []) 0), (Array.mk [])⟩
noncomputable def o197 (P : Params) : Obj := ⟨.none, none, (.func (fnD (stm 30) (S "whole_reckoned") (S "whole_reckoned") 0 [] .none .none .none .none none .none .none 0)), (Array.mk [])⟩
noncomputable def o198 (P : Params) : Obj := ⟨(.type "code"), none, (.fields (Array.mk [(.str (S "whole_reckoned") 440), (.str (S "whole_reckoned") 441), (.str (S "/claim/cut.py") 442), (.int (121) 0), (.int (5) 0), (.int (0) 0), (.int (0) 0), (.int (3) 0), (.ref 193), (.bool true), (.int (181) 0), (.ref 194), .none, (.ref 195), (.ref 196), (.ref 197), (.int (448) 0), (.int (121) 0), (.str (S "/claim/cut.py") 449)])), (Array.mk [])⟩
noncomputable def o199 (P : Params) : Obj := ⟨(.type "function"), none, (.func (fnD (stm 30) (S "whole_reckoned") (S "whole_reckoned") 3 [] .none .none .none (.str (S "basicplus.arith") 422) none (.ref 198) .none 0)), (Array.mk [])⟩
noncomputable def o200 (P : Params) : Obj := ⟨(.type "tuple"), none, (.seq (Array.mk []) 0), (Array.mk [])⟩
noncomputable def o201 (P : Params) : Obj := ⟨.none, none, (.fields (Array.mk [])), (Array.mk [])⟩
noncomputable def o202 (P : Params) : Obj := ⟨(.type "tuple"), none, (.seq (Array.mk [(.str (S "a") 454), (.str (S "b") 455), (.str (S "found") 456)]) 0), (Array.mk [])⟩
noncomputable def o203 (P : Params) : Obj := ⟨(.type "tuple"), none, (.seq (Array.mk []) 0), (Array.mk [])⟩
noncomputable def o204 (P : Params) : Obj := ⟨.none, none, (.func (fnD (stm 31) (S "cut_quotient") (S "cut_quotient") 0 [] .none .none .none .none none .none .none 0)), (Array.mk [])⟩
noncomputable def o205 (P : Params) : Obj := ⟨(.type "code"), none, (.fields (Array.mk [(.str (S "cut_quotient") 451), (.str (S "cut_quotient") 452), (.str (S "/claim/cut.py") 453), (.int (125) 0), (.int (2) 0), (.int (0) 0), (.int (0) 0), (.int (3) 0), (.ref 200), (.bool true), (.int (181) 0), (.ref 201), .none, (.ref 202), (.ref 203), (.ref 204), (.int (457) 0), (.int (125) 0), (.str (S "/claim/cut.py") 458)])), (Array.mk [])⟩
noncomputable def o206 (P : Params) : Obj := ⟨(.type "function"), none, (.func (fnD (stm 31) (S "cut_quotient") (S "cut_quotient") 3 [] .none .none .none (.str (S "basicplus.arith") 422) none (.ref 205) .none 0)), (Array.mk [])⟩
noncomputable def o207 (P : Params) : Obj := ⟨(.type "tuple"), none, (.seq (Array.mk []) 0), (Array.mk [])⟩
noncomputable def o208 (P : Params) : Obj := ⟨.none, none, (.fields (Array.mk [])), (Array.mk [])⟩
noncomputable def o209 (P : Params) : Obj := ⟨(.type "tuple"), none, (.seq (Array.mk [(.str (S "a") 463), (.str (S "b") 464)]) 0), (Array.mk [])⟩
noncomputable def o210 (P : Params) : Obj := ⟨(.type "tuple"), none, (.seq (Array.mk []) 0), (Array.mk [])⟩
noncomputable def o211 (P : Params) : Obj := ⟨.none, none, (.func (fnD (stm 32) (S "cut_rest") (S "cut_rest") 0 [] .none .none .none .none none .none .none 0)), (Array.mk [])⟩
noncomputable def o212 (P : Params) : Obj := ⟨(.type "code"), none, (.fields (Array.mk [(.str (S "cut_rest") 460), (.str (S "cut_rest") 461), (.str (S "/claim/cut.py") 462), (.int (130) 0), (.int (2) 0), (.int (0) 0), (.int (0) 0), (.int (3) 0), (.ref 207), (.bool true), (.int (181) 0), (.ref 208), .none, (.ref 209), (.ref 210), (.ref 211), (.int (465) 0), (.int (130) 0), (.str (S "/claim/cut.py") 466)])), (Array.mk [])⟩
noncomputable def o213 (P : Params) : Obj := ⟨(.type "function"), none, (.func (fnD (stm 32) (S "cut_rest") (S "cut_rest") 3 [] .none .none .none (.str (S "basicplus.arith") 422) none (.ref 212) .none 0)), (Array.mk [])⟩
noncomputable def o214 (P : Params) : Obj := ⟨(.type "tuple"), none, (.seq (Array.mk []) 0), (Array.mk [])⟩
noncomputable def o215 (P : Params) : Obj := ⟨.none, none, (.fields (Array.mk [])), (Array.mk [])⟩
noncomputable def o216 (P : Params) : Obj := ⟨(.type "tuple"), none, (.seq (Array.mk [(.str (S "value") 471)]) 0), (Array.mk [])⟩
noncomputable def o217 (P : Params) : Obj := ⟨(.type "tuple"), none, (.seq (Array.mk []) 0), (Array.mk [])⟩
noncomputable def o218 (P : Params) : Obj := ⟨.none, none, (.func (fnD (stm 33) (S "exponent_of") (S "exponent_of") 0 [] .none .none .none .none none .none .none 0)), (Array.mk [])⟩
noncomputable def o219 (P : Params) : Obj := ⟨(.type "code"), none, (.fields (Array.mk [(.str (S "exponent_of") 468), (.str (S "exponent_of") 469), (.str (S "/claim/cut.py") 470), (.int (132) 0), (.int (1) 0), (.int (0) 0), (.int (0) 0), (.int (3) 0), (.ref 214), (.bool true), (.int (181) 0), (.ref 215), .none, (.ref 216), (.ref 217), (.ref 218), (.int (472) 0), (.int (132) 0), (.str (S "/claim/cut.py") 473)])), (Array.mk [])⟩
noncomputable def o220 (P : Params) : Obj := ⟨(.type "function"), none, (.func (fnD (stm 33) (S "exponent_of") (S "exponent_of") 3 [] .none .none .none (.str (S "basicplus.arith") 422) none (.ref 219) .none 0)), (Array.mk [])⟩
noncomputable def o221 (P : Params) : Obj := ⟨(.type "tuple"), none, (.seq (Array.mk []) 0), (Array.mk [])⟩
noncomputable def o222 (P : Params) : Obj := ⟨.none, none, (.fields (Array.mk [])), (Array.mk [])⟩
noncomputable def o223 (P : Params) : Obj := ⟨(.type "tuple"), none, (.seq (Array.mk [(.str (S "a") 478), (.str (S "n") 479), (.str (S "bits") 480), (.str (S "digits") 481)]) 0), (Array.mk [])⟩
noncomputable def o224 (P : Params) : Obj := ⟨(.type "tuple"), none, (.seq (Array.mk []) 0), (Array.mk [])⟩
noncomputable def o225 (P : Params) : Obj := ⟨.none, none, (.func (fnD (stm 34) (S "whole_power") (S "whole_power") 0 [] .none .none .none .none none .none .none 0)), (Array.mk [])⟩
noncomputable def o226 (P : Params) : Obj := ⟨(.type "code"), none, (.fields (Array.mk [(.str (S "whole_power") 475), (.str (S "whole_power") 476), (.str (S "/claim/cut.py") 477), (.int (138) 0), (.int (4) 0), (.int (0) 0), (.int (0) 0), (.int (3) 0), (.ref 221), (.bool true), (.int (181) 0), (.ref 222), .none, (.ref 223), (.ref 224), (.ref 225), (.int (482) 0), (.int (138) 0), (.str (S "/claim/cut.py") 483)])), (Array.mk [])⟩
noncomputable def o227 (P : Params) : Obj := ⟨(.type "function"), none, (.func (fnD (stm 34) (S "whole_power") (S "whole_power") 3 [] .none .none .none (.str (S "basicplus.arith") 422) none (.ref 226) .none 0)), (Array.mk [])⟩
noncomputable def o228 (P : Params) : Obj := ⟨(.type "tuple"), none, (.seq (Array.mk []) 0), (Array.mk [])⟩
noncomputable def o229 (P : Params) : Obj := ⟨.none, none, (.fields (Array.mk [])), (Array.mk [])⟩
noncomputable def o230 (P : Params) : Obj := ⟨(.type "tuple"), none, (.seq (Array.mk [(.str (S "a") 488), (.str (S "b") 489), (.str (S "bits") 490), (.str (S "digits") 491), (.str (S "n") 492)]) 0), (Array.mk [])⟩
noncomputable def o231 (P : Params) : Obj := ⟨(.type "tuple"), none, (.seq (Array.mk []) 0), (Array.mk [])⟩
noncomputable def o232 (P : Params) : Obj := ⟨.none, none, (.func (fnD (stm 35) (S "raised") (S "raised") 0 [] .none .none .none .none none .none .none 0)), (Array.mk [])⟩
noncomputable def o233 (P : Params) : Obj := ⟨(.type "code"), none, (.fields (Array.mk [(.str (S "raised") 485), (.str (S "raised") 486), (.str (S "/claim/cut.py") 487), (.int (144) 0), (.int (4) 0), (.int (0) 0), (.int (0) 0), (.int (3) 0), (.ref 228), (.bool true), (.int (181) 0), (.ref 229), .none, (.ref 230), (.ref 231), (.ref 232), (.int (493) 0), (.int (144) 0), (.str (S "/claim/cut.py") 494)])), (Array.mk [])⟩
noncomputable def o234 (P : Params) : Obj := ⟨(.type "function"), none, (.func (fnD (stm 35) (S "raised") (S "raised") 3 [] .none .none .none (.str (S "basicplus.arith") 422) none (.ref 233) .none 0)), (Array.mk [])⟩
noncomputable def o235 (P : Params) : Obj := ⟨(.type "tuple"), none, (.seq (Array.mk []) 0), (Array.mk [])⟩
noncomputable def o236 (P : Params) : Obj := ⟨.none, none, (.fields (Array.mk [])), (Array.mk [])⟩
noncomputable def o237 (P : Params) : Obj := ⟨(.type "tuple"), none, (.seq (Array.mk [(.str (S "op") 499), (.str (S "a") 500), (.str (S "b") 501), (.str (S "bits") 502), (.str (S "digits") 503), (.str (S "is_first") 504), (.str (S "is_second") 505), (.str (S "work") 506), (.str (S "one") 507), (.str (S "other") 508)]) 0), (Array.mk [])⟩
noncomputable def o238 (P : Params) : Obj := ⟨(.type "tuple"), none, (.seq (Array.mk []) 0), (Array.mk [])⟩
noncomputable def o239 (P : Params) : Obj := ⟨.none, none, (.func (fnD (stm 36) (S "reckoned") (S "reckoned") 0 [] .none .none .none .none none .none .none 0)), (Array.mk [])⟩
noncomputable def o240 (P : Params) : Obj := ⟨(.type "code"), none, (.fields (Array.mk [(.str (S "reckoned") 496), (.str (S "reckoned") 497), (.str (S "/claim/cut.py") 498), (.int (149) 0), (.int (5) 0), (.int (0) 0), (.int (0) 0), (.int (3) 0), (.ref 235), (.bool true), (.int (181) 0), (.ref 236), .none, (.ref 237), (.ref 238), (.ref 239), (.int (509) 0), (.int (149) 0), (.str (S "/claim/cut.py") 510)])), (Array.mk [])⟩
noncomputable def o241 (P : Params) : Obj := ⟨(.type "function"), none, (.func (fnD (stm 36) (S "reckoned") (S "reckoned") 3 [] .none .none .none (.str (S "basicplus.arith") 422) none (.ref 240) .none 0)), (Array.mk [])⟩
noncomputable def o242 (P : Params) : Obj := ⟨(.type "tuple"), none, (.seq (Array.mk []) 0), (Array.mk [])⟩
noncomputable def o243 (P : Params) : Obj := ⟨.none, none, (.fields (Array.mk [])), (Array.mk [])⟩
noncomputable def o244 (P : Params) : Obj := ⟨(.type "tuple"), none, (.seq (Array.mk [(.str (S "a") 515), (.str (S "bits") 516), (.str (S "digits") 517)]) 0), (Array.mk [])⟩
noncomputable def o245 (P : Params) : Obj := ⟨(.type "tuple"), none, (.seq (Array.mk []) 0), (Array.mk [])⟩
noncomputable def o246 (P : Params) : Obj := ⟨.none, none, (.func (fnD (stm 37) (S "negated") (S "negated") 0 [] .none .none .none .none none .none .none 0)), (Array.mk [])⟩
noncomputable def o247 (P : Params) : Obj := ⟨(.type "code"), none, (.fields (Array.mk [(.str (S "negated") 512), (.str (S "negated") 513), (.str (S "/claim/cut.py") 514), (.int (164) 0), (.int (3) 0), (.int (0) 0), (.int (0) 0), (.int (3) 0), (.ref 242), (.bool true), (.int (181) 0), (.ref 243), .none, (.ref 244), (.ref 245), (.ref 246), (.int (518) 0), (.int (164) 0), (.str (S "/claim/cut.py") 519)])), (Array.mk [])⟩
noncomputable def o248 (P : Params) : Obj := ⟨(.type "function"), none, (.func (fnD (stm 37) (S "negated") (S "negated") 3 [] .none .none .none (.str (S "basicplus.arith") 422) none (.ref 247) .none 0)), (Array.mk [])⟩
noncomputable def o249 (P : Params) : Obj := ⟨(.type "tuple"), none, (.seq (Array.mk []) 0), (Array.mk [])⟩
noncomputable def o250 (P : Params) : Obj := ⟨.none, none, (.fields (Array.mk [])), (Array.mk [])⟩
noncomputable def o251 (P : Params) : Obj := ⟨(.type "tuple"), none, (.seq (Array.mk [(.str (S "a") 524), (.str (S "b") 525)]) 0), (Array.mk [])⟩
noncomputable def o252 (P : Params) : Obj := ⟨(.type "tuple"), none, (.seq (Array.mk []) 0), (Array.mk [])⟩
noncomputable def o253 (P : Params) : Obj := ⟨.none, none, (.func (fnD (stm 38) (S "order_of") (S "order_of") 0 [] .none .none .none .none none .none .none 0)), (Array.mk [])⟩
noncomputable def o254 (P : Params) : Obj := ⟨(.type "code"), none, (.fields (Array.mk [(.str (S "order_of") 521), (.str (S "order_of") 522), (.str (S "/claim/cut.py") 523), (.int (166) 0), (.int (2) 0), (.int (0) 0), (.int (0) 0), (.int (3) 0), (.ref 249), (.bool true), (.int (181) 0), (.ref 250), .none, (.ref 251), (.ref 252), (.ref 253), (.int (526) 0), (.int (166) 0), (.str (S "/claim/cut.py") 527)])), (Array.mk [])⟩
noncomputable def o255 (P : Params) : Obj := ⟨(.type "function"), none, (.func (fnD (stm 38) (S "order_of") (S "order_of") 3 [] .none .none .none (.str (S "basicplus.arith") 422) none (.ref 254) .none 0)), (Array.mk [])⟩
noncomputable def o256 (P : Params) : Obj := ⟨(.type "tuple"), none, (.seq (Array.mk []) 0), (Array.mk [])⟩
noncomputable def o257 (P : Params) : Obj := ⟨.none, none, (.fields (Array.mk [])), (Array.mk [])⟩
noncomputable def o258 (P : Params) : Obj := ⟨(.type "tuple"), none, (.seq (Array.mk [(.str (S "a") 532), (.str (S "bits") 533)]) 0), (Array.mk [])⟩
noncomputable def o259 (P : Params) : Obj := ⟨(.type "tuple"), none, (.seq (Array.mk []) 0), (Array.mk [])⟩
noncomputable def o260 (P : Params) : Obj := ⟨.none, none, (.func (fnD (stm 39) (S "inverted") (S "inverted") 0 [] .none .none .none .none none .none .none 0)), (Array.mk [])⟩
noncomputable def o261 (P : Params) : Obj := ⟨(.type "code"), none, (.fields (Array.mk [(.str (S "inverted") 529), (.str (S "inverted") 530), (.str (S "/claim/cut.py") 531), (.int (172) 0), (.int (2) 0), (.int (0) 0), (.int (0) 0), (.int (3) 0), (.ref 256), (.bool true), (.int (181) 0), (.ref 257), .none, (.ref 258), (.ref 259), (.ref 260), (.int (534) 0), (.int (172) 0), (.str (S "/claim/cut.py") 535)])), (Array.mk [])⟩
noncomputable def o262 (P : Params) : Obj := ⟨(.type "function"), none, (.func (fnD (stm 39) (S "inverted") (S "inverted") 3 [] .none .none .none (.str (S "basicplus.arith") 422) none (.ref 261) .none 0)), (Array.mk [])⟩
noncomputable def o263 (P : Params) : Obj := ⟨(.type "tuple"), none, (.seq (Array.mk []) 0), (Array.mk [])⟩
noncomputable def o264 (P : Params) : Obj := ⟨.none, none, (.fields (Array.mk [])), (Array.mk [])⟩
noncomputable def o265 (P : Params) : Obj := ⟨(.type "tuple"), none, (.seq (Array.mk [(.str (S "op") 540), (.str (S "a") 541), (.str (S "b") 542), (.str (S "bits") 543), (.str (S "one") 544), (.str (S "other") 545)]) 0), (Array.mk [])⟩
noncomputable def o266 (P : Params) : Obj := ⟨(.type "tuple"), none, (.seq (Array.mk []) 0), (Array.mk [])⟩
noncomputable def o267 (P : Params) : Obj := ⟨.none, none, (.func (fnD (stm 40) (S "logic") (S "logic") 0 [] .none .none .none .none none .none .none 0)), (Array.mk [])⟩
noncomputable def o268 (P : Params) : Obj := ⟨(.type "code"), none, (.fields (Array.mk [(.str (S "logic") 537), (.str (S "logic") 538), (.str (S "/claim/cut.py") 539), (.int (174) 0), (.int (4) 0), (.int (0) 0), (.int (0) 0), (.int (3) 0), (.ref 263), (.bool true), (.int (181) 0), (.ref 264), .none, (.ref 265), (.ref 266), (.ref 267), (.int (546) 0), (.int (174) 0), (.str (S "/claim/cut.py") 547)])), (Array.mk [])⟩
noncomputable def o269 (P : Params) : Obj := ⟨(.type "function"), none, (.func (fnD (stm 40) (S "logic") (S "logic") 3 [] .none .none .none (.str (S "basicplus.arith") 422) none (.ref 268) .none 0)), (Array.mk [])⟩
noncomputable def o270 (P : Params) : Obj := ⟨(.type "tuple"), none, (.seq (Array.mk []) 0), (Array.mk [])⟩
noncomputable def o271 (P : Params) : Obj := ⟨.none, none, (.fields (Array.mk [])), (Array.mk [])⟩
noncomputable def o272 (P : Params) : Obj := ⟨(.type "tuple"), none, (.seq (Array.mk [(.str (S "tree") 554)]) 0), (Array.mk [])⟩
noncomputable def o273 (P : Params) : Obj := ⟨(.type "tuple"), none, (.seq (Array.mk []) 0), (Array.mk [])⟩
noncomputable def o274 (P : Params) : Obj := ⟨.none, none, (.func (fnD (stm 42) (S "parts_of_tree") (S "parts_of_tree") 0 [] .none .none .none .none none .none .none 0)), (Array.mk [])⟩
noncomputable def o275 (P : Params) : Obj := ⟨(.type "code"), none, (.fields (Array.mk [(.str (S "parts_of_tree") 551), (.str (S "parts_of_tree") 552), (.str (S "/claim/cut.py") 553), (.int (184) 0), (.int (1) 0), (.int (0) 0), (.int (0) 0), (.int (3) 0), (.ref 270), (.bool true), (.int (181) 0), (.ref 271), .none, (.ref 272), (.ref 273), (.ref 274), (.int (555) 0), (.int (184) 0), (.str (S "/claim/cut.py") 556)])), (Array.mk [])⟩
noncomputable def o276 (P : Params) : Obj := ⟨(.type "function"), none, (.func (fnD (stm 42) (S "parts_of_tree") (S "parts_of_tree") 3 [] .none .none .none (.str (S "basicplus.exprread") 549) none (.ref 275) .none 0)), (Array.mk [])⟩
noncomputable def o277 (P : Params) : Obj := ⟨(.type "tuple"), none, (.seq (Array.mk [(.str (S "AND") 560), (.str (S "OR") 561), (.str (S "XOR") 562), (.str (S "EQV") 563), (.str (S "IMP") 564)]) 0), (Array.mk [])⟩
noncomputable def o278 (P : Params) : Obj := ⟨(.type "tuple"), none, (.seq (Array.mk [(.str (S "=") 566), (.str (S "<>") 567), (.str (S "<") 568), (.str (S ">") 569), (.str (S "<=") 570), (.str (S ">=") 571)]) 0), (Array.mk [])⟩
noncomputable def o279 (P : Params) : Obj := ⟨(.type "tuple"), none, (.seq (Array.mk []) 0), (Array.mk [])⟩
noncomputable def o280 (P : Params) : Obj := ⟨.none, none, (.fields (Array.mk [])), (Array.mk [])⟩
noncomputable def o281 (P : Params) : Obj := ⟨(.type "tuple"), none, (.seq (Array.mk [(.str (S "one") 576), (.str (S "other") 577)]) 0), (Array.mk [])⟩
noncomputable def o282 (P : Params) : Obj := ⟨(.type "tuple"), none, (.seq (Array.mk []) 0), (Array.mk [])⟩
noncomputable def o283 (P : Params) : Obj := ⟨.none, none, (.func (fnD (stm 46) (S "order_of_texts") (S "order_of_texts") 0 [] .none .none .none .none none .none .none 0)), (Array.mk [])⟩
noncomputable def o284 (P : Params) : Obj := ⟨(.type "code"), none, (.fields (Array.mk [(.str (S "order_of_texts") 573), (.str (S "order_of_texts") 574), (.str (S "/claim/cut.py") 575), (.int (193) 0), (.int (2) 0), (.int (0) 0), (.int (0) 0), (.int (3) 0), (.ref 279), (.bool true), (.int (181) 0), (.ref 280), .none, (.ref 281), (.ref 282), (.ref 283), (.int (578) 0), (.int (193) 0), (.str (S "/claim/cut.py") 579)])), (Array.mk [])⟩
noncomputable def o285 (P : Params) : Obj := ⟨(.type "function"), none, (.func (fnD (stm 46) (S "order_of_texts") (S "order_of_texts") 3 [] .none .none .none (.str (S "basicplus.worth") 558) none (.ref 284) .none 0)), (Array.mk [])⟩
noncomputable def o286 (P : Params) : Obj := ⟨(.type "tuple"), none, (.seq (Array.mk []) 0), (Array.mk [])⟩
noncomputable def o287 (P : Params) : Obj := ⟨.none, none, (.fields (Array.mk [])), (Array.mk [])⟩
noncomputable def o288 (P : Params) : Obj := ⟨(.type "tuple"), none, (.seq (Array.mk [(.str (S "op") 584), (.str (S "order") 585)]) 0), (Array.mk [])⟩
noncomputable def o289 (P : Params) : Obj := ⟨(.type "tuple"), none, (.seq (Array.mk []) 0), (Array.mk [])⟩
noncomputable def o290 (P : Params) : Obj := ⟨.none, none, (.func (fnD (stm 47) (S "compared") (S "compared") 0 [] .none .none .none .none none .none .none 0)), (Array.mk [])⟩
noncomputable def o291 (P : Params) : Obj := ⟨(.type "code"), none, (.fields (Array.mk [(.str (S "compared") 581), (.str (S "compared") 582), (.str (S "/claim/cut.py") 583), (.int (195) 0), (.int (2) 0), (.int (0) 0), (.int (0) 0), (.int (3) 0), (.ref 286), (.bool true), (.int (181) 0), (.ref 287), .none, (.ref 288), (.ref 289), (.ref 290), (.int (586) 0), (.int (195) 0), (.str (S "/claim/cut.py") 587)])), (Array.mk [])⟩
noncomputable def o292 (P : Params) : Obj := ⟨(.type "function"), none, (.func (fnD (stm 47) (S "compared") (S "compared") 3 [] .none .none .none (.str (S "basicplus.worth") 558) none (.ref 291) .none 0)), (Array.mk [])⟩
noncomputable def o293 (P : Params) : Obj := ⟨(.type "tuple"), none, (.seq (Array.mk []) 0), (Array.mk [])⟩
noncomputable def o294 (P : Params) : Obj := ⟨.none, none, (.fields (Array.mk [])), (Array.mk [])⟩
noncomputable def o295 (P : Params) : Obj := ⟨(.type "tuple"), none, (.seq (Array.mk [(.str (S "op") 592), (.str (S "one") 593), (.str (S "other") 594)]) 0), (Array.mk [])⟩
noncomputable def o296 (P : Params) : Obj := ⟨(.type "tuple"), none, (.seq (Array.mk []) 0), (Array.mk [])⟩
noncomputable def o297 (P : Params) : Obj := ⟨.none, none, (.func (fnD (stm 48) (S "worth_of_texts") (S "worth_of_texts") 0 [] .none .none .none .none none .none .none 0)), (Array.mk [])⟩
noncomputable def o298 (P : Params) : Obj := ⟨(.type "code"), none, (.fields (Array.mk [(.str (S "worth_of_texts") 589), (.str (S "worth_of_texts") 590), (.str (S "/claim/cut.py") 591), (.int (201) 0), (.int (3) 0), (.int (0) 0), (.int (0) 0), (.int (3) 0), (.ref 293), (.bool true), (.int (181) 0), (.ref 294), .none, (.ref 295), (.ref 296), (.ref 297), (.int (595) 0), (.int (201) 0), (.str (S "/claim/cut.py") 596)])), (Array.mk [])⟩
noncomputable def o299 (P : Params) : Obj := ⟨(.type "function"), none, (.func (fnD (stm 48) (S "worth_of_texts") (S "worth_of_texts") 3 [] .none .none .none (.str (S "basicplus.worth") 558) none (.ref 298) .none 0)), (Array.mk [])⟩
noncomputable def o300 (P : Params) : Obj := ⟨(.type "tuple"), none, (.seq (Array.mk []) 0), (Array.mk [])⟩
noncomputable def o301 (P : Params) : Obj := ⟨.none, none, (.fields (Array.mk [])), (Array.mk [])⟩
noncomputable def o302 (P : Params) : Obj := ⟨.none, none, (.func (fnD (stm 49) (S "worth_of_two") (S "worth_of_two") 0 [] .none .none .none .none none .none .none 0)), (Array.mk [])⟩
noncomputable def o303 (P : Params) : Obj := ⟨(.type "code"), none, (.fields (Array.mk [(.str (S "worth_of_two") 598), (.str (S "worth_of_two") 599), (.str (S "/claim/cut.py") 600), (.int (207) 0), (.int (5) 0), (.int (0) 0), (.int (0) 0), (.int (3) 0), (.ref 300), (.bool true), (.int (181) 0), (.ref 301), .none, .none, .none, (.ref 302), (.int (601) 0), (.int (207) 0), (.str (S "/claim/cut.py") 602)])), (Array.mk [])⟩
noncomputable def o304 (P : Params) : Obj := ⟨(.type "function"), none, (.func (fnD (stm 49) (S "worth_of_two") (S "worth_of_two") 3 [] .none .none .none (.str (S "basicplus.worth") 558) none (.ref 303) .none 0)), (Array.mk [])⟩
noncomputable def o305 (P : Params) : Obj := ⟨(.type "tuple"), none, (.seq (Array.mk []) 0), (Array.mk [])⟩
noncomputable def o306 (P : Params) : Obj := ⟨.none, none, (.fields (Array.mk [])), (Array.mk [])⟩
noncomputable def o307 (P : Params) : Obj := ⟨(.type "tuple"), none, (.seq (Array.mk [(.str (S "op") 607), (.str (S "value") 608), (.str (S "bits") 609), (.str (S "digits") 610)]) 0), (Array.mk [])⟩
noncomputable def o308 (P : Params) : Obj := ⟨(.type "tuple"), none, (.seq (Array.mk []) 0), (Array.mk [])⟩
noncomputable def o309 (P : Params) : Obj := ⟨.none, none, (.func (fnD (stm 50) (S "worth_of_one") (S "worth_of_one") 0 [] .none .none .none .none none .none .none 0)), (Array.mk [])⟩
noncomputable def o310 (P : Params) : Obj := ⟨(.type "code"), none, (.fields (Array.mk [(.str (S "worth_of_one") 604), (.str (S "worth_of_one") 605), (.str (S "/claim/cut.py") 606), (.int (218) 0), (.int (4) 0), (.int (0) 0), (.int (0) 0), (.int (3) 0), (.ref 305), (.bool true), (.int (181) 0), (.ref 306), .none, (.ref 307), (.ref 308), (.ref 309), (.int (611) 0), (.int (218) 0), (.str (S "/claim/cut.py") 612)])), (Array.mk [])⟩
noncomputable def o311 (P : Params) : Obj := ⟨(.type "function"), none, (.func (fnD (stm 50) (S "worth_of_one") (S "worth_of_one") 3 [] .none .none .none (.str (S "basicplus.worth") 558) none (.ref 310) .none 0)), (Array.mk [])⟩
noncomputable def o312 (P : Params) : Obj := ⟨(.type "tuple"), none, (.seq (Array.mk []) 0), (Array.mk [])⟩
noncomputable def o313 (P : Params) : Obj := ⟨.none, none, (.fields (Array.mk [])), (Array.mk [])⟩
noncomputable def o314 (P : Params) : Obj := ⟨(.type "tuple"), none, (.seq (Array.mk [(.str (S "tree") 617), (.str (S "bits") 618), (.str (S "digits") 619), (.str (S "kind") 620), (.str (S "value") 621)]) 0), (Array.mk [])⟩
noncomputable def o315 (P : Params) : Obj := ⟨(.type "tuple"), none, (.seq (Array.mk []) 0), (Array.mk [])⟩
noncomputable def o316 (P : Params) : Obj := ⟨.none, none, (.func (fnD (stm 51) (S "worth_of_leaf") (S "worth_of_leaf") 0 [] .none .none .none .none none .none .none 0)), (Array.mk [])⟩
noncomputable def o317 (P : Params) : Obj := ⟨(.type "code"), none, (.fields (Array.mk [(.str (S "worth_of_leaf") 614), (.str (S "worth_of_leaf") 615), (.str (S "/claim/cut.py") 616), (.int (222) 0), (.int (3) 0), (.int (0) 0), (.int (0) 0), (.int (3) 0), (.ref 312), (.bool true), (.int (181) 0), (.ref 313), .none, (.ref 314), (.ref 315), (.ref 316), (.int (622) 0), (.int (222) 0), (.str (S "/claim/cut.py") 623)])), (Array.mk [])⟩
noncomputable def o318 (P : Params) : Obj := ⟨(.type "function"), none, (.func (fnD (stm 51) (S "worth_of_leaf") (S "worth_of_leaf") 3 [] .none .none .none (.str (S "basicplus.worth") 558) none (.ref 317) .none 0)), (Array.mk [])⟩
noncomputable def o319 (P : Params) : Obj := ⟨(.type "tuple"), none, (.seq (Array.mk []) 0), (Array.mk [])⟩
noncomputable def o320 (P : Params) : Obj := ⟨.none, none, (.fields (Array.mk [])), (Array.mk [])⟩
noncomputable def o321 (P : Params) : Obj := ⟨(.type "tuple"), none, (.seq (Array.mk [(.str (S "tree") 628), (.str (S "parts") 629), (.str (S "hooks") 630), (.str (S "kind") 631)]) 0), (Array.mk [])⟩
noncomputable def o322 (P : Params) : Obj := ⟨(.type "tuple"), none, (.seq (Array.mk []) 0), (Array.mk [])⟩
noncomputable def o323 (P : Params) : Obj := ⟨.none, none, (.func (fnD (stm 52) (S "worth_of_tree") (S "worth_of_tree") 0 [] .none .none .none .none none .none .none 0)), (Array.mk [])⟩
noncomputable def o324 (P : Params) : Obj := ⟨(.type "code"), none, (.fields (Array.mk [(.str (S "worth_of_tree") 625), (.str (S "worth_of_tree") 626), (.str (S "/claim/cut.py") 627), (.int (227) 0), (.int (3) 0), (.int (0) 0), (.int (0) 0), (.int (3) 0), (.ref 319), (.bool true), (.int (181) 0), (.ref 320), .none, (.ref 321), (.ref 322), (.ref 323), (.int (632) 0), (.int (227) 0), (.str (S "/claim/cut.py") 633)])), (Array.mk [])⟩
noncomputable def o325 (P : Params) : Obj := ⟨(.type "function"), none, (.func (fnD (stm 52) (S "worth_of_tree") (S "worth_of_tree") 3 [] .none .none .none (.str (S "basicplus.worth") 558) none (.ref 324) .none 0)), (Array.mk [])⟩
noncomputable def o326 (P : Params) : Obj := ⟨(.type "tuple"), none, (.seq (Array.mk []) 0), (Array.mk [])⟩
noncomputable def o327 (P : Params) : Obj := ⟨.none, none, (.fields (Array.mk [])), (Array.mk [])⟩
noncomputable def o328 (P : Params) : Obj := ⟨.none, none, (.func (fnD (stm 53) (S "worth") (S "worth") 0 [] .none .none .none .none none .none .none 0)), (Array.mk [])⟩
noncomputable def o329 (P : Params) : Obj := ⟨(.type "code"), none, (.fields (Array.mk [(.str (S "worth") 635), (.str (S "worth") 636), (.str (S "/claim/cut.py") 637), (.int (240) 0), (.int (2) 0), (.int (0) 0), (.int (0) 0), (.int (3) 0), (.ref 326), (.bool true), (.int (181) 0), (.ref 327), .none, .none, .none, (.ref 328), (.int (638) 0), (.int (240) 0), (.str (S "/claim/cut.py") 639)])), (Array.mk [])⟩
noncomputable def o330 (P : Params) : Obj := ⟨(.type "function"), none, (.func (fnD (stm 53) (S "worth") (S "worth") 3 [] .none .none .none (.str (S "basicplus.worth") 558) none (.ref 329) .none 0)), (Array.mk [])⟩
noncomputable def o331 (P : Params) : Obj := ⟨(.type "tuple"), none, (.seq (Array.mk []) 0), (Array.mk [])⟩
noncomputable def o332 (P : Params) : Obj := ⟨(.type "builtin_function_or_method"), none, (.fields (Array.mk [(.builtin "type.__prepare__"), (.type "type")])), (Array.mk [])⟩
noncomputable def o333 (P : Params) : Obj := ⟨(.type "dict"), none, (.dict (Array.mk [de P "__module__" 650 (.str (S "basicplus.hooks") 641), de P "__qualname__" 652 (.str (S "PlainHooks") 651), de P "__firstlineno__" 654 (.int (254) 653), de P "__init__" 664 (.ref 344), de P "value_of_name" 672 (.ref 351), de P "told" 683 (.ref 358), de P "item_of" 692 (.ref 365), de P "call" 701 (.ref 372), de P "fn" 710 (.ref 379), de P "__static_attributes__" 715 (.ref 380)]) 10), (Array.mk [])⟩
noncomputable def o334 (P : Params) : Obj := ⟨(.type "tuple"), none, (.seq (Array.mk []) 0), (Array.mk [])⟩
noncomputable def o335 (P : Params) : Obj := ⟨.none, none, (.fields (Array.mk [(.int (256) 0), (.int (4) 0), (.ref 343), (.int (262) 0), (.int (4) 0), (.ref 350), (.int (268) 0), (.int (4) 0), (.ref 357), (.int (275) 0), (.int (4) 0), (.ref 364), (.int (278) 0), (.int (4) 0), (.ref 371), (.int (281) 0), (.int (4) 0), (.ref 378)])), (Array.mk [])⟩
noncomputable def o336 (P : Params) : Obj := ⟨(.type "code"), none, (.fields (Array.mk [(.str (S "PlainHooks") 645), (.str (S "PlainHooks") 646), (.str (S "/claim/cut.py") 647), (.int (254) 0), (.int (0) 0), (.int (0) 0), (.int (0) 0), (.int (0) 0), (.ref 334), (.bool false), (.int (181) 0), (.ref 335), .none, .none, .none, .none, (.int (648) 0), (.int (254) 0), (.str (S "/claim/cut.py") 649)])), (Array.mk [])⟩
noncomputable def o337 (P : Params) : Obj := ⟨(.type "frame"), none, .plain, (Array.mk [(some (.ref 336)), (some (.ref 3)), (some (.ref 333)), none, (some (.str (S "basicplus.hooks") 641)), none, (some (.ref 0))])⟩
noncomputable def o338 (P : Params) : Obj := ⟨(.type "tuple"), none, (.seq (Array.mk []) 0), (Array.mk [])⟩
noncomputable def o339 (P : Params) : Obj := ⟨.none, none, (.fields (Array.mk [])), (Array.mk [])⟩
noncomputable def o340 (P : Params) : Obj := ⟨(.type "tuple"), none, (.seq (Array.mk [(.str (S "self") 658), (.str (S "values") 659), (.str (S "bits") 660), (.str (S "digits") 661)]) 0), (Array.mk [])⟩
noncomputable def o341 (P : Params) : Obj := ⟨(.type "tuple"), none, (.seq (Array.mk []) 0), (Array.mk [])⟩
noncomputable def o342 (P : Params) : Obj := ⟨.none, none, (.func (fnD (cstm 55 0) (S "__init__") (S "PlainHooks.__init__") 0 [] .none .none .none .none none .none .none 0)), (Array.mk [])⟩
noncomputable def o343 (P : Params) : Obj := ⟨(.type "code"), none, (.fields (Array.mk [(.str (S "__init__") 655), (.str (S "PlainHooks.__init__") 656), (.str (S "/claim/cut.py") 657), (.int (256) 0), (.int (4) 0), (.int (0) 0), (.int (0) 0), (.int (3) 0), (.ref 338), (.bool true), (.int (181) 0), (.ref 339), .none, (.ref 340), (.ref 341), (.ref 342), (.int (662) 0), (.int (256) 0), (.str (S "/claim/cut.py") 663)])), (Array.mk [])⟩
noncomputable def o344 (P : Params) : Obj := ⟨(.type "function"), none, (.func (fnD (cstm 55 0) (S "__init__") (S "PlainHooks.__init__") 3 [] .none .none .none (.str (S "basicplus.hooks") 641) none (.ref 343) .none 0)), (Array.mk [])⟩
noncomputable def o345 (P : Params) : Obj := ⟨(.type "tuple"), none, (.seq (Array.mk []) 0), (Array.mk [])⟩
noncomputable def o346 (P : Params) : Obj := ⟨.none, none, (.fields (Array.mk [])), (Array.mk [])⟩
noncomputable def o347 (P : Params) : Obj := ⟨(.type "tuple"), none, (.seq (Array.mk [(.str (S "self") 668), (.str (S "word") 669)]) 0), (Array.mk [])⟩
noncomputable def o348 (P : Params) : Obj := ⟨(.type "tuple"), none, (.seq (Array.mk []) 0), (Array.mk [])⟩
noncomputable def o349 (P : Params) : Obj := ⟨.none, none, (.func (fnD (cstm 55 1) (S "value_of_name") (S "PlainHooks.value_of_name") 0 [] .none .none .none .none none .none .none 0)), (Array.mk [])⟩
noncomputable def o350 (P : Params) : Obj := ⟨(.type "code"), none, (.fields (Array.mk [(.str (S "value_of_name") 665), (.str (S "PlainHooks.value_of_name") 666), (.str (S "/claim/cut.py") 667), (.int (262) 0), (.int (2) 0), (.int (0) 0), (.int (0) 0), (.int (3) 0), (.ref 345), (.bool true), (.int (181) 0), (.ref 346), .none, (.ref 347), (.ref 348), (.ref 349), (.int (670) 0), (.int (262) 0), (.str (S "/claim/cut.py") 671)])), (Array.mk [])⟩
noncomputable def o351 (P : Params) : Obj := ⟨(.type "function"), none, (.func (fnD (cstm 55 1) (S "value_of_name") (S "PlainHooks.value_of_name") 3 [] .none .none .none (.str (S "basicplus.hooks") 641) none (.ref 350) .none 0)), (Array.mk [])⟩
noncomputable def o352 (P : Params) : Obj := ⟨(.type "tuple"), none, (.seq (Array.mk []) 0), (Array.mk [])⟩
noncomputable def o353 (P : Params) : Obj := ⟨.none, none, (.fields (Array.mk [])), (Array.mk [])⟩
noncomputable def o354 (P : Params) : Obj := ⟨(.type "tuple"), none, (.seq (Array.mk [(.str (S "self") 676), (.str (S "word") 677), (.str (S "args") 678), (.str (S "code") 679), (.str (S "key") 680)]) 0), (Array.mk [])⟩
noncomputable def o355 (P : Params) : Obj := ⟨(.type "tuple"), none, (.seq (Array.mk []) 0), (Array.mk [])⟩
noncomputable def o356 (P : Params) : Obj := ⟨.none, none, (.func (fnD (cstm 55 2) (S "told") (S "PlainHooks.told") 0 [] .none .none .none .none none .none .none 0)), (Array.mk [])⟩
noncomputable def o357 (P : Params) : Obj := ⟨(.type "code"), none, (.fields (Array.mk [(.str (S "told") 673), (.str (S "PlainHooks.told") 674), (.str (S "/claim/cut.py") 675), (.int (268) 0), (.int (4) 0), (.int (0) 0), (.int (0) 0), (.int (3) 0), (.ref 352), (.bool true), (.int (181) 0), (.ref 353), .none, (.ref 354), (.ref 355), (.ref 356), (.int (681) 0), (.int (268) 0), (.str (S "/claim/cut.py") 682)])), (Array.mk [])⟩
noncomputable def o358 (P : Params) : Obj := ⟨(.type "function"), none, (.func (fnD (cstm 55 2) (S "told") (S "PlainHooks.told") 3 [] .none .none .none (.str (S "basicplus.hooks") 641) none (.ref 357) .none 0)), (Array.mk [])⟩
noncomputable def o359 (P : Params) : Obj := ⟨(.type "tuple"), none, (.seq (Array.mk []) 0), (Array.mk [])⟩
noncomputable def o360 (P : Params) : Obj := ⟨.none, none, (.fields (Array.mk [])), (Array.mk [])⟩
noncomputable def o361 (P : Params) : Obj := ⟨(.type "tuple"), none, (.seq (Array.mk [(.str (S "self") 687), (.str (S "word") 688), (.str (S "subs") 689)]) 0), (Array.mk [])⟩
noncomputable def o362 (P : Params) : Obj := ⟨(.type "tuple"), none, (.seq (Array.mk []) 0), (Array.mk [])⟩
noncomputable def o363 (P : Params) : Obj := ⟨.none, none, (.func (fnD (cstm 55 3) (S "item_of") (S "PlainHooks.item_of") 0 [] .none .none .none .none none .none .none 0)), (Array.mk [])⟩
noncomputable def o364 (P : Params) : Obj := ⟨(.type "code"), none, (.fields (Array.mk [(.str (S "item_of") 684), (.str (S "PlainHooks.item_of") 685), (.str (S "/claim/cut.py") 686), (.int (275) 0), (.int (3) 0), (.int (0) 0), (.int (0) 0), (.int (3) 0), (.ref 359), (.bool true), (.int (181) 0), (.ref 360), .none, (.ref 361), (.ref 362), (.ref 363), (.int (690) 0), (.int (275) 0), (.str (S "/claim/cut.py") 691)])), (Array.mk [])⟩
noncomputable def o365 (P : Params) : Obj := ⟨(.type "function"), none, (.func (fnD (cstm 55 3) (S "item_of") (S "PlainHooks.item_of") 3 [] .none .none .none (.str (S "basicplus.hooks") 641) none (.ref 364) .none 0)), (Array.mk [])⟩
noncomputable def o366 (P : Params) : Obj := ⟨(.type "tuple"), none, (.seq (Array.mk []) 0), (Array.mk [])⟩
noncomputable def o367 (P : Params) : Obj := ⟨.none, none, (.fields (Array.mk [])), (Array.mk [])⟩
noncomputable def o368 (P : Params) : Obj := ⟨(.type "tuple"), none, (.seq (Array.mk [(.str (S "self") 696), (.str (S "word") 697), (.str (S "args") 698)]) 0), (Array.mk [])⟩
noncomputable def o369 (P : Params) : Obj := ⟨(.type "tuple"), none, (.seq (Array.mk []) 0), (Array.mk [])⟩
noncomputable def o370 (P : Params) : Obj := ⟨.none, none, (.func (fnD (cstm 55 4) (S "call") (S "PlainHooks.call") 0 [] .none .none .none .none none .none .none 0)), (Array.mk [])⟩
noncomputable def o371 (P : Params) : Obj := ⟨(.type "code"), none, (.fields (Array.mk [(.str (S "call") 693), (.str (S "PlainHooks.call") 694), (.str (S "/claim/cut.py") 695), (.int (278) 0), (.int (3) 0), (.int (0) 0), (.int (0) 0), (.int (3) 0), (.ref 366), (.bool true), (.int (181) 0), (.ref 367), .none, (.ref 368), (.ref 369), (.ref 370), (.int (699) 0), (.int (278) 0), (.str (S "/claim/cut.py") 700)])), (Array.mk [])⟩
noncomputable def o372 (P : Params) : Obj := ⟨(.type "function"), none, (.func (fnD (cstm 55 4) (S "call") (S "PlainHooks.call") 3 [] .none .none .none (.str (S "basicplus.hooks") 641) none (.ref 371) .none 0)), (Array.mk [])⟩
noncomputable def o373 (P : Params) : Obj := ⟨(.type "tuple"), none, (.seq (Array.mk []) 0), (Array.mk [])⟩
noncomputable def o374 (P : Params) : Obj := ⟨.none, none, (.fields (Array.mk [])), (Array.mk [])⟩
noncomputable def o375 (P : Params) : Obj := ⟨(.type "tuple"), none, (.seq (Array.mk [(.str (S "self") 705), (.str (S "word") 706), (.str (S "args") 707)]) 0), (Array.mk [])⟩
noncomputable def o376 (P : Params) : Obj := ⟨(.type "tuple"), none, (.seq (Array.mk []) 0), (Array.mk [])⟩
noncomputable def o377 (P : Params) : Obj := ⟨.none, none, (.func (fnD (cstm 55 5) (S "fn") (S "PlainHooks.fn") 0 [] .none .none .none .none none .none .none 0)), (Array.mk [])⟩
noncomputable def o378 (P : Params) : Obj := ⟨(.type "code"), none, (.fields (Array.mk [(.str (S "fn") 702), (.str (S "PlainHooks.fn") 703), (.str (S "/claim/cut.py") 704), (.int (281) 0), (.int (3) 0), (.int (0) 0), (.int (0) 0), (.int (3) 0), (.ref 373), (.bool true), (.int (181) 0), (.ref 374), .none, (.ref 375), (.ref 376), (.ref 377), (.int (708) 0), (.int (281) 0), (.str (S "/claim/cut.py") 709)])), (Array.mk [])⟩
noncomputable def o379 (P : Params) : Obj := ⟨(.type "function"), none, (.func (fnD (cstm 55 5) (S "fn") (S "PlainHooks.fn") 3 [] .none .none .none (.str (S "basicplus.hooks") 641) none (.ref 378) .none 0)), (Array.mk [])⟩
noncomputable def o380 (P : Params) : Obj := ⟨(.type "tuple"), none, (.seq (Array.mk [(.str (S "asked") 711), (.str (S "bits") 712), (.str (S "digits") 713), (.str (S "values") 714)]) 0), (Array.mk [])⟩
noncomputable def o381 (P : Params) : Obj := ⟨(.type "dict"), none, (.dict (Array.mk [de P "__module__" 650 (.str (S "basicplus.hooks") 641), de P "__firstlineno__" 654 (.int (254) 653), de P "__init__" 664 (.ref 344), de P "value_of_name" 672 (.ref 351), de P "told" 683 (.ref 358), de P "item_of" 692 (.ref 365), de P "call" 701 (.ref 372), de P "fn" 710 (.ref 379), de P "__static_attributes__" 715 (.ref 380), de P "__dict__" 717 (.ref 383), de P "__weakref__" 719 (.ref 384), de P "__doc__" 720 .none]) 4), (Array.mk [])⟩
noncomputable def o382 (P : Params) : Obj := ⟨(.type "type"), none, (.cls { name := (S "PlainHooks"), bases := [(.type "object")], mro := [(.ref 382), (.type "object")], ns := 381, qualname := (S "PlainHooks"), hasDict := true, slotNames := [], subclasses := [], abstract := false, collection := none, hasDel := false }), (Array.mk [none, none, (some (.str (S "PlainHooks") 643)), (some (.str (S "PlainHooks") 651)), (some (.builtin "object.__new__")), (some (.bool true))])⟩
noncomputable def o383 (P : Params) : Obj := ⟨(.type "getset_descriptor"), none, (.fields (Array.mk [(.str (S "__dict__") 716), (.ref 382), (.builtin "function.__dict__"), (.builtin "function.__dict__#set")])), (Array.mk [])⟩
noncomputable def o384 (P : Params) : Obj := ⟨(.type "getset_descriptor"), none, (.fields (Array.mk [(.str (S "__weakref__") 718), (.ref 382), (.builtin "ExceptionGroup.__weakref__"), .none])), (Array.mk [])⟩
noncomputable def o385 (P : Params) : Obj := ⟨(.type "super"), none, (.fields (Array.mk [(.ref 382), (.ref 382), (.ref 382)])), (Array.mk [])⟩
noncomputable def o386 (P : Params) : Obj := ⟨(.type "builtin_function_or_method"), none, (.fields (Array.mk [(.builtin "object.__init_subclass__"), (.ref 382)])), (Array.mk [])⟩
noncomputable def o387 (P : Params) : Obj := ⟨(.type "tuple"), none, (.seq (Array.mk []) 0), (Array.mk [])⟩
noncomputable def o388 (P : Params) : Obj := ⟨.none, none, (.fields (Array.mk [])), (Array.mk [])⟩
noncomputable def o389 (P : Params) : Obj := ⟨(.type "tuple"), none, (.seq (Array.mk []) 0), (Array.mk [])⟩
noncomputable def o390 (P : Params) : Obj := ⟨(.type "tuple"), none, (.seq (Array.mk []) 0), (Array.mk [])⟩
noncomputable def o391 (P : Params) : Obj := ⟨.none, none, (.func (fnD (stm 57) (S "_law_words") (S "_law_words") 0 [] .none .none .none .none none .none .none 0)), (Array.mk [])⟩
noncomputable def o392 (P : Params) : Obj := ⟨(.type "code"), none, (.fields (Array.mk [(.str (S "_law_words") 725), (.str (S "_law_words") 726), (.str (S "/claim/cut.py") 727), (.int (284) 0), (.int (0) 0), (.int (0) 0), (.int (0) 0), (.int (3) 0), (.ref 387), (.bool true), (.int (181) 0), (.ref 388), .none, (.ref 389), (.ref 390), (.ref 391), (.int (728) 0), (.int (284) 0), (.str (S "/claim/cut.py") 729)])), (Array.mk [])⟩
noncomputable def o393 (P : Params) : Obj := ⟨(.type "function"), none, (.func (fnD (stm 57) (S "_law_words") (S "_law_words") 3 [] .none .none .none (.str (S "law_pq0181_01") 723) none (.ref 392) .none 0)), (Array.mk [])⟩
noncomputable def o394 (P : Params) : Obj := ⟨(.type "tuple"), none, (.seq (Array.mk []) 0), (Array.mk [])⟩
noncomputable def o395 (P : Params) : Obj := ⟨.none, none, (.fields (Array.mk [])), (Array.mk [])⟩
noncomputable def o396 (P : Params) : Obj := ⟨(.type "tuple"), none, (.seq (Array.mk [(.str (S "box") 734), (.str (S "many") 735)]) 0), (Array.mk [])⟩
noncomputable def o397 (P : Params) : Obj := ⟨(.type "tuple"), none, (.seq (Array.mk []) 0), (Array.mk [])⟩
noncomputable def o398 (P : Params) : Obj := ⟨.none, none, (.func (fnD (stm 58) (S "_law_draw") (S "_law_draw") 0 [] .none .none .none .none none .none .none 0)), (Array.mk [])⟩
noncomputable def o399 (P : Params) : Obj := ⟨(.type "code"), none, (.fields (Array.mk [(.str (S "_law_draw") 731), (.str (S "_law_draw") 732), (.str (S "/claim/cut.py") 733), (.int (286) 0), (.int (2) 0), (.int (0) 0), (.int (0) 0), (.int (3) 0), (.ref 394), (.bool true), (.int (181) 0), (.ref 395), .none, (.ref 396), (.ref 397), (.ref 398), (.int (736) 0), (.int (286) 0), (.str (S "/claim/cut.py") 737)])), (Array.mk [])⟩
noncomputable def o400 (P : Params) : Obj := ⟨(.type "function"), none, (.func (fnD (stm 58) (S "_law_draw") (S "_law_draw") 3 [] .none .none .none (.str (S "law_pq0181_01") 723) none (.ref 399) .none 0)), (Array.mk [])⟩
noncomputable def o401 (P : Params) : Obj := ⟨(.type "tuple"), none, (.seq (Array.mk []) 0), (Array.mk [])⟩
noncomputable def o402 (P : Params) : Obj := ⟨.none, none, (.fields (Array.mk [])), (Array.mk [])⟩
noncomputable def o403 (P : Params) : Obj := ⟨(.type "tuple"), none, (.seq (Array.mk [(.str (S "box") 742), (.str (S "form") 743)]) 0), (Array.mk [])⟩
noncomputable def o404 (P : Params) : Obj := ⟨(.type "tuple"), none, (.seq (Array.mk []) 0), (Array.mk [])⟩
noncomputable def o405 (P : Params) : Obj := ⟨.none, none, (.func (fnD (stm 59) (S "_law_leaf") (S "_law_leaf") 0 [] .none .none .none .none none .none .none 0)), (Array.mk [])⟩
noncomputable def o406 (P : Params) : Obj := ⟨(.type "code"), none, (.fields (Array.mk [(.str (S "_law_leaf") 739), (.str (S "_law_leaf") 740), (.str (S "/claim/cut.py") 741), (.int (291) 0), (.int (1) 0), (.int (0) 0), (.int (0) 0), (.int (3) 0), (.ref 401), (.bool true), (.int (181) 0), (.ref 402), .none, (.ref 403), (.ref 404), (.ref 405), (.int (744) 0), (.int (291) 0), (.str (S "/claim/cut.py") 745)])), (Array.mk [])⟩
noncomputable def o407 (P : Params) : Obj := ⟨(.type "function"), none, (.func (fnD (stm 59) (S "_law_leaf") (S "_law_leaf") 3 [] .none .none .none (.str (S "law_pq0181_01") 723) none (.ref 406) .none 0)), (Array.mk [])⟩
noncomputable def o408 (P : Params) : Obj := ⟨(.type "tuple"), none, (.seq (Array.mk []) 0), (Array.mk [])⟩
noncomputable def o409 (P : Params) : Obj := ⟨.none, none, (.fields (Array.mk [])), (Array.mk [])⟩
noncomputable def o410 (P : Params) : Obj := ⟨(.type "tuple"), none, (.seq (Array.mk [(.str (S "box") 750), (.str (S "deep") 751), (.str (S "form") 752), (.str (S "part") 753), (.str (S "word") 754), (.str (S "one_side") 755)]) 0), (Array.mk [])⟩
noncomputable def o411 (P : Params) : Obj := ⟨(.type "tuple"), none, (.seq (Array.mk []) 0), (Array.mk [])⟩
noncomputable def o412 (P : Params) : Obj := ⟨.none, none, (.func (fnD (stm 60) (S "_law_tree") (S "_law_tree") 0 [] .none .none .none .none none .none .none 0)), (Array.mk [])⟩
noncomputable def o413 (P : Params) : Obj := ⟨(.type "code"), none, (.fields (Array.mk [(.str (S "_law_tree") 747), (.str (S "_law_tree") 748), (.str (S "/claim/cut.py") 749), (.int (298) 0), (.int (2) 0), (.int (0) 0), (.int (0) 0), (.int (3) 0), (.ref 408), (.bool true), (.int (181) 0), (.ref 409), .none, (.ref 410), (.ref 411), (.ref 412), (.int (756) 0), (.int (298) 0), (.str (S "/claim/cut.py") 757)])), (Array.mk [])⟩
noncomputable def o414 (P : Params) : Obj := ⟨(.type "function"), none, (.func (fnD (stm 60) (S "_law_tree") (S "_law_tree") 3 [] .none .none .none (.str (S "law_pq0181_01") 723) none (.ref 413) .none 0)), (Array.mk [])⟩
noncomputable def o415 (P : Params) : Obj := ⟨(.type "tuple"), none, (.seq (Array.mk []) 0), (Array.mk [])⟩
noncomputable def o416 (P : Params) : Obj := ⟨.none, none, (.fields (Array.mk [])), (Array.mk [])⟩
noncomputable def o417 (P : Params) : Obj := ⟨(.type "tuple"), none, (.seq (Array.mk [(.str (S "word") 762), (.str (S "one") 763), (.str (S "other") 764), (.str (S "found") 765), (.str (S "at") 766), (.str (S "here") 767), (.str (S "there") 768), (.str (S "told") 769)]) 0), (Array.mk [])⟩
noncomputable def o418 (P : Params) : Obj := ⟨(.type "tuple"), none, (.seq (Array.mk []) 0), (Array.mk [])⟩
noncomputable def o419 (P : Params) : Obj := ⟨.none, none, (.func (fnD (stm 61) (S "_law_bits") (S "_law_bits") 0 [] .none .none .none .none none .none .none 0)), (Array.mk [])⟩
noncomputable def o420 (P : Params) : Obj := ⟨(.type "code"), none, (.fields (Array.mk [(.str (S "_law_bits") 759), (.str (S "_law_bits") 760), (.str (S "/claim/cut.py") 761), (.int (310) 0), (.int (3) 0), (.int (0) 0), (.int (0) 0), (.int (3) 0), (.ref 415), (.bool true), (.int (181) 0), (.ref 416), .none, (.ref 417), (.ref 418), (.ref 419), (.int (770) 0), (.int (310) 0), (.str (S "/claim/cut.py") 771)])), (Array.mk [])⟩
noncomputable def o421 (P : Params) : Obj := ⟨(.type "function"), none, (.func (fnD (stm 61) (S "_law_bits") (S "_law_bits") 3 [] .none .none .none (.str (S "law_pq0181_01") 723) none (.ref 420) .none 0)), (Array.mk [])⟩
noncomputable def o422 (P : Params) : Obj := ⟨(.type "tuple"), none, (.seq (Array.mk []) 0), (Array.mk [])⟩
noncomputable def o423 (P : Params) : Obj := ⟨.none, none, (.fields (Array.mk [])), (Array.mk [])⟩
noncomputable def o424 (P : Params) : Obj := ⟨(.type "tuple"), none, (.seq (Array.mk [(.str (S "word") 776), (.str (S "one") 777), (.str (S "other") 778), (.str (S "order") 779), (.str (S "met") 780), (.str (S "whole") 781)]) 0), (Array.mk [])⟩
noncomputable def o425 (P : Params) : Obj := ⟨(.type "tuple"), none, (.seq (Array.mk []) 0), (Array.mk [])⟩
noncomputable def o426 (P : Params) : Obj := ⟨.none, none, (.func (fnD (stm 62) (S "_law_two") (S "_law_two") 0 [] .none .none .none .none none .none .none 0)), (Array.mk [])⟩
noncomputable def o427 (P : Params) : Obj := ⟨(.type "code"), none, (.fields (Array.mk [(.str (S "_law_two") 773), (.str (S "_law_two") 774), (.str (S "/claim/cut.py") 775), (.int (317) 0), (.int (3) 0), (.int (0) 0), (.int (0) 0), (.int (3) 0), (.ref 422), (.bool true), (.int (181) 0), (.ref 423), .none, (.ref 424), (.ref 425), (.ref 426), (.int (782) 0), (.int (317) 0), (.str (S "/claim/cut.py") 783)])), (Array.mk [])⟩
noncomputable def o428 (P : Params) : Obj := ⟨(.type "function"), none, (.func (fnD (stm 62) (S "_law_two") (S "_law_two") 3 [] .none .none .none (.str (S "law_pq0181_01") 723) none (.ref 427) .none 0)), (Array.mk [])⟩
noncomputable def o429 (P : Params) : Obj := ⟨(.type "tuple"), none, (.seq (Array.mk []) 0), (Array.mk [])⟩
noncomputable def o430 (P : Params) : Obj := ⟨.none, none, (.fields (Array.mk [])), (Array.mk [])⟩
noncomputable def o431 (P : Params) : Obj := ⟨(.type "tuple"), none, (.seq (Array.mk [(.str (S "tree") 788), (.str (S "book") 789), (.str (S "asked") 790), (.str (S "key") 791)]) 0), (Array.mk [])⟩
noncomputable def o432 (P : Params) : Obj := ⟨(.type "tuple"), none, (.seq (Array.mk []) 0), (Array.mk [])⟩
noncomputable def o433 (P : Params) : Obj := ⟨.none, none, (.func (fnD (stm 63) (S "_law_asked") (S "_law_asked") 0 [] .none .none .none .none none .none .none 0)), (Array.mk [])⟩
noncomputable def o434 (P : Params) : Obj := ⟨(.type "code"), none, (.fields (Array.mk [(.str (S "_law_asked") 785), (.str (S "_law_asked") 786), (.str (S "/claim/cut.py") 787), (.int (336) 0), (.int (3) 0), (.int (0) 0), (.int (0) 0), (.int (3) 0), (.ref 429), (.bool true), (.int (181) 0), (.ref 430), .none, (.ref 431), (.ref 432), (.ref 433), (.int (792) 0), (.int (336) 0), (.str (S "/claim/cut.py") 793)])), (Array.mk [])⟩
noncomputable def o435 (P : Params) : Obj := ⟨(.type "function"), none, (.func (fnD (stm 63) (S "_law_asked") (S "_law_asked") 3 [] .none .none .none (.str (S "law_pq0181_01") 723) none (.ref 434) .none 0)), (Array.mk [])⟩
noncomputable def o436 (P : Params) : Obj := ⟨(.type "tuple"), none, (.seq (Array.mk []) 0), (Array.mk [])⟩
noncomputable def o437 (P : Params) : Obj := ⟨.none, none, (.fields (Array.mk [])), (Array.mk [])⟩
noncomputable def o438 (P : Params) : Obj := ⟨(.type "tuple"), none, (.seq (Array.mk [(.str (S "tree") 798), (.str (S "book") 799), (.str (S "asked") 800), (.str (S "kind") 801), (.str (S "first") 802), (.str (S "last") 803)]) 0), (Array.mk [])⟩
noncomputable def o439 (P : Params) : Obj := ⟨(.type "tuple"), none, (.seq (Array.mk []) 0), (Array.mk [])⟩
noncomputable def o440 (P : Params) : Obj := ⟨.none, none, (.func (fnD (stm 64) (S "_law_worth") (S "_law_worth") 0 [] .none .none .none .none none .none .none 0)), (Array.mk [])⟩
noncomputable def o441 (P : Params) : Obj := ⟨(.type "code"), none, (.fields (Array.mk [(.str (S "_law_worth") 795), (.str (S "_law_worth") 796), (.str (S "/claim/cut.py") 797), (.int (342) 0), (.int (3) 0), (.int (0) 0), (.int (0) 0), (.int (3) 0), (.ref 436), (.bool true), (.int (181) 0), (.ref 437), .none, (.ref 438), (.ref 439), (.ref 440), (.int (804) 0), (.int (342) 0), (.str (S "/claim/cut.py") 805)])), (Array.mk [])⟩
noncomputable def o442 (P : Params) : Obj := ⟨(.type "function"), none, (.func (fnD (stm 64) (S "_law_worth") (S "_law_worth") 3 [] .none .none .none (.str (S "law_pq0181_01") 723) none (.ref 441) .none 0)), (Array.mk [])⟩
noncomputable def o443 (P : Params) : Obj := ⟨(.type "tuple"), none, (.seq (Array.mk []) 0), (Array.mk [])⟩
noncomputable def o444 (P : Params) : Obj := ⟨.none, none, (.fields (Array.mk [])), (Array.mk [])⟩
noncomputable def o445 (P : Params) : Obj := ⟨.none, none, (.func (fnD (stm 65) (S "law") (S "law") 0 [] .none .none .none .none none .none .none 0)), (Array.mk [])⟩
noncomputable def o446 (P : Params) : Obj := ⟨(.type "code"), none, (.fields (Array.mk [(.str (S "law") 807), (.str (S "law") 808), (.str (S "/claim/cut.py") 809), (.int (357) 0), (.int (1) 0), (.int (0) 0), (.int (0) 0), (.int (3) 0), (.ref 443), (.bool true), (.int (181) 0), (.ref 444), .none, .none, .none, (.ref 445), (.int (810) 0), (.int (357) 0), (.str (S "/claim/cut.py") 811)])), (Array.mk [])⟩
noncomputable def o447 (P : Params) : Obj := ⟨(.type "function"), none, (.func (fnD (stm 65) (S "law") (S "law") 3 [] .none .none .none (.str (S "law_pq0181_01") 723) none (.ref 446) .none 0)), (Array.mk [])⟩
noncomputable def H1 (P : Params) : Heap := ⟨Array.mk [o0 P, o1 P, o2 P, o3 P, o4 P, o5 P, o6 P, o7 P, o8 P, o9 P, o10 P, o11 P, o12 P, o13 P, o14 P, o15 P, o16 P, o17 P, o18 P, o19 P, o20 P, o21 P, o22 P, o23 P, o24 P, o25 P, o26 P, o27 P, o28 P, o29 P, o30 P, o31 P, o32 P, o33 P, o34 P, o35 P, o36 P, o37 P, o38 P, o39 P, o40 P, o41 P, o42 P, o43 P, o44 P, o45 P, o46 P, o47 P, o48 P, o49 P, o50 P, o51 P, o52 P, o53 P, o54 P, o55 P, o56 P, o57 P, o58 P, o59 P, o60 P, o61 P, o62 P, o63 P, o64 P, o65 P, o66 P, o67 P, o68 P, o69 P, o70 P, o71 P, o72 P, o73 P, o74 P, o75 P, o76 P, o77 P, o78 P, o79 P, o80 P, o81 P, o82 P, o83 P, o84 P, o85 P, o86 P, o87 P, o88 P, o89 P, o90 P, o91 P, o92 P, o93 P, o94 P, o95 P, o96 P, o97 P, o98 P, o99 P, o100 P, o101 P, o102 P, o103 P, o104 P, o105 P, o106 P, o107 P, o108 P, o109 P, o110 P, o111 P, o112 P, o113 P, o114 P, o115 P, o116 P, o117 P, o118 P, o119 P, o120 P, o121 P, o122 P, o123 P, o124 P, o125 P, o126 P, o127 P, o128 P, o129 P, o130 P, o131 P, o132 P, o133 P, o134 P, o135 P, o136 P, o137 P, o138 P, o139 P, o140 P, o141 P, o142 P, o143 P, o144 P, o145 P, o146 P, o147 P, o148 P, o149 P, o150 P, o151 P, o152 P, o153 P, o154 P, o155 P, o156 P, o157 P, o158 P, o159 P, o160 P, o161 P, o162 P, o163 P, o164 P, o165 P, o166 P, o167 P, o168 P, o169 P, o170 P, o171 P, o172 P, o173 P, o174 P, o175 P, o176 P, o177 P, o178 P, o179 P, o180 P, o181 P, o182 P, o183 P, o184 P, o185 P, o186 P, o187 P, o188 P, o189 P, o190 P, o191 P, o192 P, o193 P, o194 P, o195 P, o196 P, o197 P, o198 P, o199 P, o200 P, o201 P, o202 P, o203 P, o204 P, o205 P, o206 P, o207 P, o208 P, o209 P, o210 P, o211 P, o212 P, o213 P, o214 P, o215 P, o216 P, o217 P, o218 P, o219 P, o220 P, o221 P, o222 P, o223 P, o224 P, o225 P, o226 P, o227 P, o228 P, o229 P, o230 P, o231 P, o232 P, o233 P, o234 P, o235 P, o236 P, o237 P, o238 P, o239 P, o240 P, o241 P, o242 P, o243 P, o244 P, o245 P, o246 P, o247 P, o248 P, o249 P, o250 P, o251 P, o252 P, o253 P, o254 P, o255 P, o256 P, o257 P, o258 P, o259 P, o260 P, o261 P, o262 P, o263 P, o264 P, o265 P, o266 P, o267 P, o268 P, o269 P, o270 P, o271 P, o272 P, o273 P, o274 P, o275 P, o276 P, o277 P, o278 P, o279 P, o280 P, o281 P, o282 P, o283 P, o284 P, o285 P, o286 P, o287 P, o288 P, o289 P, o290 P, o291 P, o292 P, o293 P, o294 P, o295 P, o296 P, o297 P, o298 P, o299 P, o300 P, o301 P, o302 P, o303 P, o304 P, o305 P, o306 P, o307 P, o308 P, o309 P, o310 P, o311 P, o312 P, o313 P, o314 P, o315 P, o316 P, o317 P, o318 P, o319 P, o320 P, o321 P, o322 P, o323 P, o324 P, o325 P, o326 P, o327 P, o328 P, o329 P, o330 P, o331 P, o332 P, o333 P, o334 P, o335 P, o336 P, o337 P, o338 P, o339 P, o340 P, o341 P, o342 P, o343 P, o344 P, o345 P, o346 P, o347 P, o348 P, o349 P, o350 P, o351 P, o352 P, o353 P, o354 P, o355 P, o356 P, o357 P, o358 P, o359 P, o360 P, o361 P, o362 P, o363 P, o364 P, o365 P, o366 P, o367 P, o368 P, o369 P, o370 P, o371 P, o372 P, o373 P, o374 P, o375 P, o376 P, o377 P, o378 P, o379 P, o380 P, o381 P, o382 P, o383 P, o384 P, o385 P, o386 P, o387 P, o388 P, o389 P, o390 P, o391 P, o392 P, o393 P, o394 P, o395 P, o396 P, o397 P, o398 P, o399 P, o400 P, o401 P, o402 P, o403 P, o404 P, o405 P, o406 P, o407 P, o408 P, o409 P, o410 P, o411 P, o412 P, o413 P, o414 P, o415 P, o416 P, o417 P, o418 P, o419 P, o420 P, o421 P, o422 P, o423 P, o424 P, o425 P, o426 P, o427 P, o428 P, o429 P, o430 P, o431 P, o432 P, o433 P, o434 P, o435 P, o436 P, o437 P, o438 P, o439 P, o440 P, o441 P, o442 P, o443 P, o444 P, o445 P, o446 P, o447 P], {}⟩
end Mine
end
section
open PySem PySem.W PyProof.Rows
set_option maxRecDepth 100000
set_option linter.unusedVariables false
namespace Mine
set_option maxHeartbeats 0 in
theorem hrun (w : World) (os : OsState) : topRun treeTable pw w 11 (some (.ref 6)) 4858 ⟨boot_heap w.params, Array.mk [], boot_drawn, boot_toks, os⟩ (topStub pw) = some ⟨H1 w.params, Array.mk [], boot_drawn, 813, os⟩ := by kernel_rfl
end Mine
end
section
open PySem PySem.W PyProof.Rows PySem.Calls PySem.Spec
set_option maxRecDepth 100000
set_option linter.unusedVariables false
namespace Mine
/-! a dict whose keys are texts, and pairs of a text and a tuple of one int -/
inductive MKey (h : Heap) : Dat → Value → Prop
  | str (x : Str) (t : Tok) : MKey h (.str x) (.str x t)
  | tup {a b : Addr} {x : Str} {i : Int} {t u : Tok} {o p : Obj} {n k : Nat} : h.get? a = some o → o.cls = .type "tuple" → o.data = .seq #[.str x t, .ref b] n → h.get? b = some p → p.cls = .type "tuple" → p.data = .seq #[.int i u] k → MKey h (.tuple [.str x, .tuple [.int i]]) (.ref a)
noncomputable def hashM (w : World) : Dat → Int
  | .str x => hashStr w x
  | .tuple [.str x, .tuple [.int i]] => reduceHash (Builtin.Tuple.tupleHashOf [hashStr w x, reduceHash (Builtin.Tuple.tupleHashOf [hashInt i])])
  | _ => 0
/-- the keys that the book is asked for -/
noncomputable def bKey : Dat → Bool
  | .str x => PyData.strOk x
  | .tuple [.str x, .tuple [.int _]] => PyData.strOk x
  | _ => false
theorem MKey.inj {h : Heap} {x y : Dat} {v : Value} (hx : MKey h x v) (hy : MKey h y v) : x = y := by
  cases hx with
  | str => cases hy; rfl
  | tup a1 a2 a3 a4 a5 a6 =>
    cases hy with
    | tup b1 b2 b3 b4 b5 b6 =>
      obtain rfl := Option.some.inj (a1.symm.trans b1)
      rw [a3] at b3
      injection b3 with e _
      injection e with e
      injection e with e1 e
      injection e1 with e1 _
      injection e with e2 _
      injection e2 with e2
      subst e1 e2
      obtain rfl := Option.some.inj (a4.symm.trans b4)
      rw [a6] at b6
      injection b6 with e _
      injection e with e
      injection e with e1 e
      injection e1 with e1 _
      subst e1
      rfl
theorem MKey.keeps {h h' : Heap} {x : Dat} {v : Value} {d : Addr} {o : Obj} {es : Array DictEntry} {ep : Nat} (hx : MKey h x v) (ho : h.get? d = some o) (hd : o.data = .dict es ep) (hs : Heap.SameBut d h h') : MKey h' x v := by
  cases hx with
  | str x t => exact .str x t
  | @tup a b x i t u oa ob n k a1 a2 a3 a4 a5 a6 =>
    have ne : ∀ {c : Addr} {oc : Obj} {its : Array Value} {m : Nat}, h.get? c = some oc → oc.data = .seq its m → c ≠ d := fun h1 h2 e => by
      subst e
      obtain rfl := Option.some.inj (h1.symm.trans ho)
      rw [hd] at h2; cases h2
    exact .tup ((hs.2 a (ne a1 a3)).trans a1) a2 a3 ((hs.2 b (ne a4 a6)).trans a4) a5 a6
theorem MKey.reads {h : Heap} {x : Dat} {v : Value} (hx : MKey h x v) : ∃ as, Reads h v (kqdP x) as := by
  cases hx with
  | str x t => exact ⟨_, Reads.str x t⟩
  | tup a1 a2 a3 a4 a5 a6 =>
    simp only [kqdP, kqdPs]
    exact ⟨_, reads_tuple_at a1 a2 a3 (ReadsAll.cons (Reads.str _ _) (ReadsAll.cons (reads_tuple_at a4 a5 a6 (ReadsAll.cons (Reads.int _ _) ReadsAll.nil)) ReadsAll.nil))⟩
theorem bKey_ok {k : Dat} (h : bKey k = true) : kqdOk 8 k = true := by
  unfold bKey at h
  split at h
  · exact h
  · simp only [kqdOk, List.all_cons, List.all_nil, Bool.and_true]; exact h
  · cases h
section
variable {prog : Program} {w : World} {A : Around} {E : Value → Shared → Prop} {s : Shared}
theorem mkey_hash {k : Dat} {v : Value} {Q : Int → Shared → Prop} (hu : A.units + 8 < cLine) (hk : MKey s.heap k v) (h : ∀ tk, Q (hashM w k) { s with toks := tk }) : wpAny (model prog w) A (pyHash v) Q E s := by
  cases hk with
  | str x t => exact wpAny_pyHash_str (h _)
  | @tup a b x i t u oa ob n k a1 a2 a3 a4 a5 a6 =>
    have hT : s.TypeIs (.ref a) "tuple" := ⟨oa, a1, a2⟩
    unfold pyHash
    first | unfold pyHashByItsType | skip
    first | refine wpAny_bind (wpAny_cRoomFor_or (.inr (by omega)) ?_) | skip
    refine wpAny_bind (wpAny_specialOf hT F.slot_tuple_hash.lookup ?_)
    show wpAny _ _ (if (some (Value.builtin "tuple.__hash__") == some Value.none) = true then _ else _) Q E s
    rw [if_neg (by rw [beq_builtin_none]; exact Bool.false_ne_true)]
    refine wpAny_bind (wpAny_specialOf hT F.slot_tuple_hash.lookup ?_)
    show wpAny _ _ (callSpecialIfBoundUnlessNone? (.ref a) "__hash__" _ >>= _) Q E s
    refine wpAny_bind (wpAny_callSpecialIfBoundUnlessNone?_slot hT F.slot_tuple_hash (wpAny_call_entry F.slot_tuple_hash hT F.entry_tuple_hash ?_ (F.args_tuple_hash_1 _)))
    show wpAny _ _ (Builtin.Tuple.tupleItemsOf (.ref a) >>= _) _ _ s
    refine wpAny_bind (wpAny_tupleItemsOf a1 a3 ?_)
    refine wpAny_bind ?_
    rw [← Array.forIn_toList]
    show wpAny _ _ (forIn [Value.str x t, Value.ref b] _ _) _ _ s
    rw [List.forIn_cons]
    refine wpAny_bind (wpAny_bind (wpAny_pyHash_str ?_))
    first | refine wpAny_pure ?_ | refine wpAny_bind (wpAny_pure (wpAny_pure ?_))
    show wpAny _ _ (forIn [Value.ref b] _ _) _ _ _
    rw [List.forIn_cons]
    refine wpAny_bind (wpAny_bind (wpAny_pyHash_tuple (knd := intKind prog w) (ks := [i]) (by show A.units + 1 < cLine; omega) ⟨ob, _, _, a4, a5, a6, .cons (by show Value.isInt i (.int i u) = true; simp [Value.isInt]) .nil⟩ ?_))
    first | refine wpAny_pure ?_ | refine wpAny_bind (wpAny_pure (wpAny_pure ?_))
    show wpAny _ _ (forIn ([] : List Value) _ _) _ _ _
    rw [List.forIn_nil]
    refine wpAny_pure ?_
    show wpAny _ _ (retInt (Builtin.Tuple.tupleHashOf [hashStr w x, tupleKeyHash (intKind prog w) [i]])) _ _ _
    refine wpAny_ret_mkInt ?_
    have hh : hashM w (.tuple [.str x, .tuple [.int i]]) = reduceHash (Builtin.Tuple.tupleHashOf [hashStr w x, tupleKeyHash (intKind prog w) [i]]) := rfl
    rw [hh] at h
    generalize hz : Builtin.Tuple.tupleHashOf [hashStr w x, tupleKeyHash (intKind prog w) [i]] = z at h ⊢
    show wpAny _ _ (if (decide (-(2 : Int) ^ 63 ≤ z) && decide (z < 2 ^ 63)) = true then _ else _) Q E _
    unfold reduceHash at h
    by_cases hr : (decide (-(2 : Int) ^ 63 ≤ z) && decide (z < 2 ^ 63)) = true
    · rw [if_pos hr]
      rw [if_pos hr] at h
      exact wpAny_pure (h _)
    · rw [if_neg hr]
      rw [if_neg hr] at h
      exact wpAny_bind (wpAny_rule (wpAny_pure (h _)))
open Classical in
theorem mkey_eq {x y : Dat} {u v : Value} {Q : Bool → Shared → Prop} (hu : A.units + 8 < cLine) (hx : MKey s.heap x u) (hy : MKey s.heap y v) (ox : bKey x = true) (oy : bKey y = true) (h : Q (decide (x = y)) s) : wpAny (model prog w) A (eqBool u v) Q E s := by
  obtain ⟨as, ra⟩ := hx.reads
  obtain ⟨bs, rb⟩ := hy.reads
  have la := kqd_lay 8 x (bKey_ok ox)
  have lb := kqd_lay 8 y (bKey_ok oy)
  have e : PyData.eqv (kqdP x) (kqdP y) = decide (x = y) := by
    have q := kqd_eqv 8 x y 8 (bKey_ok ox) (bKey_ok oy)
    by_cases hq : x = y
    · rw [decide_eq_true hq]; exact q.mpr hq
    · rw [decide_eq_false hq]; exact Bool.eq_false_iff.mpr fun x => hq (q.mp x)
  refine SeqAt.eqBoolOverData prog w A E s u v _ _ as bs Q ra rb la.1 lb.1 ?_ (by rw [e]; exact h)
  have := Nat.min_le_left (kqdP x).depth (kqdP y).depth
  omega
theorem quiet_items {n : Nat} {a : Addr} {o : Obj} {its : Array Value} {k : Nat} {M : Model} (hT : s.TypeIs (.ref a) "tuple") (ho : s.heap.get? a = some o) (hd : o.data = .seq its k) {Q : Bool → Shared → Prop}
    (hq : ∀ v ∈ its.toList, ∀ {Q' : Bool → Shared → Prop}, Q' true s → wpAny M A (eqIsQuiet n v) Q' E s) (h : Q true s) : wpAny M A (eqIsQuiet (n + 1) (.ref a)) Q E s := by
  unfold eqIsQuiet
  refine wpAny_bind (wpAny_specialOf hT F.slot_tuple_eq.lookup ?_)
  show wpAny _ _ (isInstance (.ref a) (.type "tuple") >>= _) _ _ s
  refine wpAny_bind (wpAny_isInstance hT isSubtype_tuple_tuple ?_)
  simp only [Bool.not_true, Bool.false_eq_true, if_false]
  refine wpAny_bind (wpAny_seqItems ho hd ?_)
  refine wpAny_bind ?_
  show wpAny _ _ (forIn its _ _) _ _ s
  rw [← Array.forIn_toList]
  refine wpAny_forIn_list _ (fun rest r s' => r.1 = none ∧ s' = s ∧ ∀ v ∈ rest, v ∈ its.toList) _ ?_ ?_ _ _ ⟨rfl, rfl, fun v hv => hv⟩
  · rintro v rest r s' ⟨hr, rfl, hall⟩
    refine wpAny_bind (hq v (hall v List.mem_cons_self) ?_)
    simp only [Bool.not_true, Bool.false_eq_true, if_false]
    exact wpAny_pure ⟨rfl, rfl, fun u hu' => hall u (List.mem_cons_of_mem _ hu')⟩
  · rintro ⟨r1, r2⟩ s' ⟨hr, rfl, _⟩
    simp only at hr
    subst hr
    exact wpAny_pure h
theorem mkey_quiet {M : Model} {k : Dat} {v : Value} {Q : Bool → Shared → Prop} (hk : MKey s.heap k v) (h : Q true s) : wpAny M A (eqIsQuiet 8 v) Q E s := by
  cases hk with
  | str x t => rw [eqIsQuiet_byValue _ rfl]; exact wpAny_pure h
  | @tup a b x i t u oa ob n k a1 a2 a3 a4 a5 a6 =>
    refine quiet_items (n := 7) ⟨oa, a1, a2⟩ a1 a3 (fun v hv Q' hq => ?_) h
    rcases List.mem_cons.mp hv with rfl | hv
    · rw [eqIsQuiet_byValue _ rfl]; exact wpAny_pure hq
    · rw [List.mem_singleton.mp hv]
      refine quiet_items (n := 6) ⟨ob, a4, a5⟩ a4 a6 (fun v hv Q' hq => ?_) hq
      rw [List.mem_singleton.mp hv, eqIsQuiet_byValue _ rfl]; exact wpAny_pure hq
theorem mkey_tell {k : Dat} {v : Value} {stored : List Value} {M : Model} {Q : Bool → Shared → Prop} (hkey : MKey s.heap k v) (hst : ∀ u ∈ stored, ∃ k', MKey s.heap k' u) (h : Q false s) : wpAny M A (tableMayTell v stored) Q E s := by
  unfold tableMayTell
  split
  · exact wpAny_pure h
  · refine wpAny_bind (mkey_quiet hkey ?_)
    simp only [Bool.not_true, Bool.false_eq_true, if_false]
    refine wpAny_bind ?_
    refine wpAny_forIn_list _ (fun rest r s' => s' = s ∧ r = (none, ()) ∧ ∀ v ∈ rest, ∃ k', MKey s.heap k' v) _ ?_ ?_ _ _ ⟨rfl, rfl, hst⟩
    · rintro x rest r s' ⟨rfl, rfl, hr⟩
      obtain ⟨k', hb⟩ := hr x List.mem_cons_self
      refine wpAny_bind (mkey_quiet hb ?_)
      simp only [Bool.not_true, Bool.false_eq_true, if_false]
      exact wpAny_pure ⟨rfl, rfl, fun v hv => hr v (List.mem_cons_of_mem _ hv)⟩
    · rintro r s' ⟨rfl, rfl, _⟩
      exact wpAny_pure h
end
noncomputable abbrev Row3 := Dat × Value × Value
noncomputable def entryM (w : World) (x : Row3) : DictEntry := ⟨hashM w x.1, x.2.1, x.2.2⟩
theorem entryM_at {w : World} {es : Array DictEntry} {xs : List Row3} (he : es.toList = xs.map (entryM w)) (j : Nat) : es[j]? = (xs[j]?).map (entryM w) := by
  rw [← Array.getElem?_toList, he, List.getElem?_map]
theorem sizeM {w : World} {es : Array DictEntry} {xs : List Row3} (he : es.toList = xs.map (entryM w)) : es.size = xs.length := by
  rw [← Array.length_toList, he, List.length_map]
theorem idxM {xs : List Row3} (hn : (xs.map (·.1)).Nodup) : ∀ {i j : Nat} {k : Dat} {p q : Value × Value}, xs[i]? = some (k, p) → xs[j]? = some (k, q) → i = j := by
  intro i j k p q hi hj
  have hi' : (xs.map (·.1))[i]? = some k := by rw [List.getElem?_map, hi]; rfl
  have hj' : (xs.map (·.1))[j]? = some k := by rw [List.getElem?_map, hj]; rfl
  exact (List.getElem?_inj (List.getElem?_eq_some_iff.mp hi').1 hn).mp (hi'.trans hj'.symm)
section
variable {prog : Program} {w : World} {A : Around} {E : Value → Shared → Prop} {s : Shared} {d : Addr} {o : Obj} {es : Array DictEntry} {ep : Nat} {xs : List Row3} {k : Dat} {v : Value}
theorem mkey_isStr {h : Heap} {x : Dat} {u : Value} {y : Str} {t : Tok} (hx : MKey h x u) : u.isStr y = true ↔ x = .str y := by
  cases hx with
  | str x t => simp [Value.isStr]
  | tup => simp [Value.isStr]
theorem ite_bind2 {M : Model} {A : Around} {s : Shared} {α : Type} {cc : Prop} [Decidable cc] {m1 m2 : Sem Bool} {k : Bool → Sem α} {Q : α → Shared → Prop} {E : Value → Shared → Prop} (h : wpAny M A (k false) Q E s)
    (h1 : cc → ∀ Q' : Bool → Shared → Prop, Q' false s → wpAny M A m1 Q' E s) (h2 : ¬cc → ∀ Q' : Bool → Shared → Prop, Q' false s → wpAny M A m2 Q' E s) : wpAny M A (if cc then m1 >>= k else m2 >>= k) Q E s := by
  by_cases c : cc
  · rw [if_pos c]; exact wpAny_bind (h1 c _ h)
  · rw [if_neg c]; exact wpAny_bind (h2 c _ h)
open Classical in
theorem findM {Q : Option Nat → Shared → Prop} (hu : A.units + 8 < cLine) (hkey : MKey s.heap k v) (hok : bKey k = true)
    (ho : s.heap.get? d = some o) (hd : o.data = .dict es ep) (he : es.toList = xs.map (entryM w)) (his : ∀ x ∈ xs, MKey s.heap x.1 x.2.1 ∧ bKey x.1 = true) (hn : (xs.map (·.1)).Nodup)
    (hnone : (∀ (j : Nat) (p : Value × Value), xs[j]? ≠ some (k, p)) → Q none s) (hsome : ∀ (j : Nat) (p : Value × Value), xs[j]? = some (k, p) → Q (some j) s) :
    wpAny (model prog w) A (dictFind d v (hashM w k)) Q E s := by
  have hsz : es.size = xs.length := sizeM he
  have haskey : ∀ (j : Nat) (p : Value × Value), xs[j]? = some (k, p) → ((es[j]?.map (·.hash)) == some (hashM w k)) = true := by
    intro j p hj
    rw [entryM_at he j, hj]
    simp [entryM]
  have hmem : ∀ e ∈ es, ∃ x ∈ xs, e = entryM w x := by
    intro e hin
    have : e ∈ xs.map (entryM w) := he ▸ Array.mem_toList_iff.mpr hin
    obtain ⟨x, hx, rfl⟩ := List.mem_map.mp this
    exact ⟨x, hx, rfl⟩
  have hst : ∀ u ∈ (placesWithHash es.size (fun i => es[i]?.map (·.hash)) (hashM w k)).filterMap (fun i => es[i]?.map (·.key)), ∃ k', MKey s.heap k' u := by
    intro u hv
    obtain ⟨i, _, hi⟩ := List.mem_filterMap.mp hv
    cases hei : es[i]? with
    | none => rw [hei] at hi; cases hi
    | some e =>
      rw [hei] at hi
      obtain rfl : e.key = u := by simpa using hi
      obtain ⟨x, hx, rfl⟩ := hmem e (Array.mem_of_getElem? hei)
      exact ⟨x.1, (his x hx).1⟩
  have hlast : ∀ {i : Nat}, (∀ j, i ≤ j → j < es.size → ((es[j]?.map (·.hash)) == some (hashM w k)) = false) → (∀ (j : Nat) (p : Value × Value), j < i → xs[j]? ≠ some (k, p)) → ∀ (j : Nat) (p : Value × Value), xs[j]? ≠ some (k, p) := by
    intro i hall hno j p hj
    rcases Nat.lt_or_ge j i with h | h
    · exact hno j p h hj
    · have hjl : j < es.size := by
        rw [hsz]
        rcases Nat.lt_or_ge j xs.length with h' | h'
        · exact h'
        · rw [List.getElem?_eq_none h'] at hj; exact nomatch hj
      have := hall j h hjl
      rw [haskey j p hj] at this
      exact absurd this (by decide)
  have hallOf : ∀ {i : Nat}, ([] : List Nat) = (List.range' i (es.size - i)).filter (fun i => (es[i]?.map (·.hash)) == some (hashM w k)) → ∀ j, i ≤ j → j < es.size → ((es[j]?.map (·.hash)) == some (hashM w k)) = false := by
    intro i hr j h1 h2
    have := List.filter_eq_nil_iff.mp hr.symm j (List.mem_range'_1.mpr ⟨h1, by omega⟩)
    simpa using this
  -- where the keys of one hash are walked
  have walk : wpAny (model prog w) A (dictWalkPlain d v (hashM w k) es (placesWithHash es.size (fun i => es[i]?.map (·.hash)) (hashM w k))) Q E s := by
    unfold dictWalkPlain
    refine wpAny_bind ?_
    refine wpAny_forIn_list _
      (fun rest b s' => s' = s ∧ b.1 = none ∧ ∃ i, rest = (List.range' i (es.size - i)).filter (fun i => (es[i]?.map (·.hash)) == some (hashM w k)) ∧ i ≤ es.size ∧ ∀ j p, j < i → xs[j]? ≠ some (k, p)) _ ?_ ?_ _ _
      ⟨rfl, rfl, 0, by rw [placesWithHash, List.range_eq_range', Nat.sub_zero], Nat.zero_le _, fun _ _ h => absurd h (Nat.not_lt_zero _)⟩
    · rintro x rest b s' ⟨rfl, hb, i, hr, hi, hno⟩
      obtain ⟨hix, hxn, hpx, hskip, hrest⟩ := filter_range'_cons _ _ _ _ _ hr.symm
      have hlt : x < es.size := by omega
      have hrest' : rest = (List.range' (x + 1) (es.size - (x + 1))).filter (fun i => (es[i]?.map (·.hash)) == some (hashM w k)) := by rw [hrest]; congr 2; omega
      obtain ⟨⟨k', b', v'⟩, hkv⟩ : ∃ y, xs[x]? = some y := ⟨xs[x]'(by rw [← hsz]; exact hlt), List.getElem?_eq_getElem _⟩
      have hib := his _ (List.mem_of_getElem? hkv)
      have hex : es[x]? = some ⟨hashM w k', b', v'⟩ := by rw [entryM_at he x, hkv]; rfl
      have hno' : ¬ k' = k → ∀ j p, j < x + 1 → xs[j]? ≠ some (k, p) := by
        intro hne j p hjx hj
        rcases Nat.lt_or_ge j i with h | h
        · exact hno j p h hj
        · rcases Nat.lt_or_ge j x with h' | h'
          · have := hskip j h h'
            rw [haskey j p hj] at this
            exact absurd this (by decide)
          · have hjx' : j = x := by omega
            subst hjx'
            rw [hkv] at hj
            injection hj with hj
            injection hj with hj
            exact hne hj
      rw [hex]
      dsimp only
      by_cases hh : (hashM w k' == hashM w k) = true
      · rw [if_pos hh]
        refine wpAny_bind (wpAny_dictEpoch ho hd (wpAny_bind (mkey_eq (x := k') (y := k) hu hib.1 hkey hib.2 hok (wpAny_bind (wpAny_dictEpoch ho hd ?_)))))
        show wpAny _ _ (if (ep != ep) = true then _ else _) _ E _
        rw [if_neg (by simp)]
        by_cases hkk : k' = k
        · rw [decide_eq_true hkk]
          subst hkk
          first | rw [if_pos rfl] | skip
          refine wpAny_bind (wpAny_rule ?_)
          exact wpAny_pure (wpAny_pure (hsome x _ hkv))
        · rw [decide_eq_false hkk]
          simp only [Bool.false_eq_true, if_false]
          refine wpAny_bind (wpAny_rule ?_)
          exact wpAny_pure ⟨rfl, rfl, x + 1, hrest', hlt, hno' hkk⟩
      · rw [if_neg hh]
        refine wpAny_pure ⟨rfl, rfl, x + 1, hrest', hlt, hno' ?_⟩
        intro hkk
        rw [hkk] at hh; simp at hh
    · rintro ⟨b1, b2⟩ s' ⟨rfl, hb, i, hr, hi, hno⟩
      simp only at hb
      subst hb
      exact wpAny_pure (hnone (hlast (hallOf hr) hno))
  unfold dictFind
  try with_reducible refine wpAny_holding ?_
  refine wpAny_bind (wpAny_dictEntries ho hd ?_)
  have hkey' := hkey
  cases hkey' with
  | str x t =>
    dsimp only
    by_cases hall : (es.all fun e => isExactStrKey e.key) = true
    · rw [if_pos hall]
      unfold foundByValue
      cases hf : es.findIdx? (·.key.isStr x) with
      | none =>
        refine wpAny_pure (hnone fun j p hj => ?_)
        have hin : entryM w (.str x, p) ∈ es := Array.mem_of_getElem? (i := j) (by rw [entryM_at he j, hj]; rfl)
        have := Array.findIdx?_eq_none_iff.mp hf _ hin
        have k2 := (mkey_isStr (y := x) (t := t) (his _ (List.mem_of_getElem? hj)).1).mpr rfl
        have this' : p.1.isStr x = false := this
        rw [k2] at this'
        cases this'
      | some i =>
        obtain ⟨hlt, hp, _⟩ := Array.findIdx?_eq_some_iff_getElem.mp hf
        obtain ⟨⟨k', b, v'⟩, hkv⟩ : ∃ y, xs[i]? = some y := ⟨xs[i]'(by rw [← hsz]; exact hlt), List.getElem?_eq_getElem _⟩
        have hib := his _ (List.mem_of_getElem? hkv)
        have hex : es[i]? = some ⟨hashM w k', b, v'⟩ := by rw [entryM_at he i, hkv]; rfl
        have hb : b.isStr x = true := by
          have : es[i] = ⟨hashM w k', b, v'⟩ := by rw [Array.getElem?_eq_getElem hlt] at hex; exact Option.some.inj hex
          rw [this] at hp; exact hp
        have hk' : k' = .str x := (mkey_isStr (t := t) hib.1).mp hb
        dsimp only
        rw [hex]
        dsimp only
        refine wpAny_bind (wpAny_dictEpoch ho hd (wpAny_bind (mkey_eq (x := k') (y := .str x) hu hib.1 hkey hib.2 hok (wpAny_bind (wpAny_dictEpoch ho hd ?_)))))
        rw [if_neg (by simp), decide_eq_true hk']
        subst hk'
        first | rw [if_pos rfl] | skip
        exact wpAny_bind (wpAny_rule (wpAny_pure (hsome i _ hkv)))
    · rw [if_neg hall]
      by_cases hcar : ((Value.str x t :: (placesWithHash es.size (fun i => es[i]?.map (·.hash)) (hashM w (.str x))).filterMap (fun i => es[i]?.map (·.key))).all carriedByValue) = true
      · rw [if_pos hcar]; exact walk
      rw [if_neg hcar]

      refine ite_bind2 ?_ (fun _ _ h => wpAny_pure h) (fun _ _ h => mkey_tell hkey hst h)
      all_goals (
        rw [if_neg (by simp)]
        refine wpAny_bind ?_
        refine wpAny_forIn_list _
          (fun rest b s' => s' = s ∧ ∃ i hit, b = (none, hit) ∧ rest = (List.range' i (es.size - i)).filter (fun i => (es[i]?.map (·.hash)) == some (hashM w (Dat.str x))) ∧ i ≤ es.size ∧
            ((hit = none ∧ ∀ j p, j < i → xs[j]? ≠ some ((Dat.str x), p)) ∨ ∃ j p, hit = some j ∧ j < i ∧ xs[j]? = some ((Dat.str x), p))) _ ?_ ?_ _ _
          ⟨rfl, 0, none, rfl, by rw [placesWithHash, List.range_eq_range', Nat.sub_zero], Nat.zero_le _, .inl ⟨rfl, fun _ _ h => absurd h (Nat.not_lt_zero _)⟩⟩
        · rintro x' rest b s' ⟨rfl, i, hit, rfl, hr, hi, hH⟩
          obtain ⟨hix, hxn, hpx, hskip, hrest⟩ := filter_range'_cons _ _ _ _ _ hr.symm
          have hlt : x' < es.size := by omega
          have hrest' : rest = (List.range' (x' + 1) (es.size - (x' + 1))).filter (fun i => (es[i]?.map (·.hash)) == some (hashM w (Dat.str x))) := by rw [hrest]; congr 2; omega
          obtain ⟨⟨k', b, v'⟩, hkv⟩ : ∃ y, xs[x']? = some y := ⟨xs[x']'(by rw [← hsz]; exact hlt), List.getElem?_eq_getElem _⟩
          have hib := his _ (List.mem_of_getElem? hkv)
          have hex : es[x']? = some ⟨hashM w k', b, v'⟩ := by rw [entryM_at he x', hkv]; rfl
          have hHx : (hit = none ∧ ∀ j p, j < x' → xs[j]? ≠ some ((Dat.str x), p)) ∨ ∃ j p, hit = some j ∧ j < x' ∧ xs[j]? = some ((Dat.str x), p) := by
            rcases hH with ⟨h0, hno⟩ | ⟨j, p, h1, hji, hj⟩
            · refine .inl ⟨h0, fun j p hjx hj => ?_⟩
              rcases Nat.lt_or_ge j i with h | h
              · exact hno j p h hj
              · have := hskip j h hjx
                rw [haskey j p hj] at this
                exact absurd this (by decide)
            · exact .inr ⟨j, p, h1, by omega, hj⟩
          have hstay : ¬ k' = (Dat.str x) → ((hit = none ∧ ∀ j p, j < x' + 1 → xs[j]? ≠ some ((Dat.str x), p)) ∨ ∃ j p, hit = some j ∧ j < x' + 1 ∧ xs[j]? = some ((Dat.str x), p)) := by
            intro hne
            rcases hHx with ⟨h0, hno⟩ | ⟨j, p, h1, hjx, hj⟩
            · refine .inl ⟨h0, fun j p hjx hj => ?_⟩
              rcases Nat.lt_or_ge j x' with h | h
              · exact hno j p h hj
              · have hjx' : j = x' := by omega
                subst hjx'
                rw [hkv] at hj
                injection hj with hj
                injection hj with hj
                exact hne hj
            · exact .inr ⟨j, p, h1, by omega, hj⟩
          rw [hex]
          dsimp only
          by_cases hh : (hashM w k' == hashM w (Dat.str x)) = true
          · rw [if_pos hh]
            refine wpAny_bind (wpAny_dictEpoch ho hd (wpAny_bind (mkey_eq (x := k') (y := (Dat.str x)) hu hib.1 hkey hib.2 hok (wpAny_bind (wpAny_dictEpoch ho hd ?_)))))
            show wpAny _ _ (if (ep != ep) = true then _ else _) _ E _
            rw [if_neg (by simp)]
            by_cases hkk : k' = (Dat.str x)
            · rw [decide_eq_true hkk]
              subst hkk
              rcases hHx with ⟨rfl, _⟩ | ⟨j, p, _, hjx, hj⟩
              · first | rw [if_pos rfl] | skip
                simp only [Option.isSome_none, Bool.false_eq_true, if_false]
                first | refine wpAny_bind (wpAny_pure ?_) | skip
                refine wpAny_bind (wpAny_rule ?_)
                split
                · exact wpAny_pure (wpAny_pure (hsome x' _ hkv))
                · exact wpAny_pure ⟨rfl, x' + 1, some x', rfl, hrest', hlt, .inr ⟨x', _, rfl, Nat.lt_succ_self x', hkv⟩⟩
              · exact absurd (idxM hn hj hkv) (by omega)
            · rw [decide_eq_false hkk]
              simp only [Bool.false_eq_true, if_false]
              refine wpAny_bind (wpAny_rule ?_)
              first | rw [if_neg (by simp)] | skip
              first
                | exact wpAny_pure ⟨rfl, x' + 1, hit, rfl, hrest', hlt, hstay hkk⟩
                | exact wpAny_bind (wpAny_pure (wpAny_pure ⟨rfl, x' + 1, hit, rfl, hrest', hlt, hstay hkk⟩))
          · rw [if_neg hh]
            refine wpAny_pure ⟨rfl, x' + 1, hit, rfl, hrest', hlt, hstay ?_⟩
            intro hkk
            rw [hkk] at hh; simp at hh
        · rintro b s' ⟨rfl, i, hit, rfl, hr, hi, hH⟩
          rcases hH with ⟨rfl, hno⟩ | ⟨j, p, rfl, _, hj⟩
          · exact wpAny_pure (hnone (hlast (hallOf hr) hno))
          · exact wpAny_pure (hsome j p hj))
  | @tup a b x iv t u oa ob n k a1 a2 a3 a4 a5 a6 =>
      have hany : ¬ (es.any fun e => e.key == Value.ref a && e.hash != hashM w (.tuple [.str x, .tuple [.int iv]])) = true := by
        rw [← Array.any_toList, List.any_eq_true]
        rintro ⟨e, hin, hc⟩
        obtain ⟨y, hx, rfl⟩ := hmem e (Array.mem_toList_iff.mp hin)
        simp only [entryM, Bool.and_eq_true, beq_iff_eq, bne_iff_ne, ne_eq] at hc
        obtain ⟨hxa, hne⟩ := hc
        have := (his y hx).1
        rw [hxa] at this
        exact hne (by rw [this.inj hkey])
      dsimp only
      rw [if_neg (show ¬ ((Value.ref a :: (placesWithHash es.size (fun i => es[i]?.map (·.hash)) (hashM w (.tuple [.str x, .tuple [.int iv]]))).filterMap (fun i => es[i]?.map (·.key))).all carriedByValue) = true by simp [carriedByValue])]
      rw [if_neg hany]
      refine ite_bind2 ?_ (fun _ _ h => wpAny_pure h) (fun _ _ h => mkey_tell hkey hst h)
      all_goals (
        rw [if_neg (by simp)]
        refine wpAny_bind ?_
        refine wpAny_forIn_list _
          (fun rest b s' => s' = s ∧ ∃ i hit, b = (none, hit) ∧ rest = (List.range' i (es.size - i)).filter (fun i => (es[i]?.map (·.hash)) == some (hashM w (Dat.tuple [.str x, .tuple [.int iv]]))) ∧ i ≤ es.size ∧
            ((hit = none ∧ ∀ j p, j < i → xs[j]? ≠ some ((Dat.tuple [.str x, .tuple [.int iv]]), p)) ∨ ∃ j p, hit = some j ∧ j < i ∧ xs[j]? = some ((Dat.tuple [.str x, .tuple [.int iv]]), p))) _ ?_ ?_ _ _
          ⟨rfl, 0, none, rfl, by rw [placesWithHash, List.range_eq_range', Nat.sub_zero], Nat.zero_le _, .inl ⟨rfl, fun _ _ h => absurd h (Nat.not_lt_zero _)⟩⟩
        · rintro x' rest b s' ⟨rfl, i, hit, rfl, hr, hi, hH⟩
          obtain ⟨hix, hxn, hpx, hskip, hrest⟩ := filter_range'_cons _ _ _ _ _ hr.symm
          have hlt : x' < es.size := by omega
          have hrest' : rest = (List.range' (x' + 1) (es.size - (x' + 1))).filter (fun i => (es[i]?.map (·.hash)) == some (hashM w (Dat.tuple [.str x, .tuple [.int iv]]))) := by rw [hrest]; congr 2; omega
          obtain ⟨⟨k', b, v'⟩, hkv⟩ : ∃ y, xs[x']? = some y := ⟨xs[x']'(by rw [← hsz]; exact hlt), List.getElem?_eq_getElem _⟩
          have hib := his _ (List.mem_of_getElem? hkv)
          have hex : es[x']? = some ⟨hashM w k', b, v'⟩ := by rw [entryM_at he x', hkv]; rfl
          have hHx : (hit = none ∧ ∀ j p, j < x' → xs[j]? ≠ some ((Dat.tuple [.str x, .tuple [.int iv]]), p)) ∨ ∃ j p, hit = some j ∧ j < x' ∧ xs[j]? = some ((Dat.tuple [.str x, .tuple [.int iv]]), p) := by
            rcases hH with ⟨h0, hno⟩ | ⟨j, p, h1, hji, hj⟩
            · refine .inl ⟨h0, fun j p hjx hj => ?_⟩
              rcases Nat.lt_or_ge j i with h | h
              · exact hno j p h hj
              · have := hskip j h hjx
                rw [haskey j p hj] at this
                exact absurd this (by decide)
            · exact .inr ⟨j, p, h1, by omega, hj⟩
          have hstay : ¬ k' = (Dat.tuple [.str x, .tuple [.int iv]]) → ((hit = none ∧ ∀ j p, j < x' + 1 → xs[j]? ≠ some ((Dat.tuple [.str x, .tuple [.int iv]]), p)) ∨ ∃ j p, hit = some j ∧ j < x' + 1 ∧ xs[j]? = some ((Dat.tuple [.str x, .tuple [.int iv]]), p)) := by
            intro hne
            rcases hHx with ⟨h0, hno⟩ | ⟨j, p, h1, hjx, hj⟩
            · refine .inl ⟨h0, fun j p hjx hj => ?_⟩
              rcases Nat.lt_or_ge j x' with h | h
              · exact hno j p h hj
              · have hjx' : j = x' := by omega
                subst hjx'
                rw [hkv] at hj
                injection hj with hj
                injection hj with hj
                exact hne hj
            · exact .inr ⟨j, p, h1, by omega, hj⟩
          rw [hex]
          dsimp only
          by_cases hh : (hashM w k' == hashM w (Dat.tuple [.str x, .tuple [.int iv]])) = true
          · rw [if_pos hh]
            refine wpAny_bind (wpAny_dictEpoch ho hd (wpAny_bind (mkey_eq (x := k') (y := (Dat.tuple [.str x, .tuple [.int iv]])) hu hib.1 hkey hib.2 hok (wpAny_bind (wpAny_dictEpoch ho hd ?_)))))
            show wpAny _ _ (if (ep != ep) = true then _ else _) _ E _
            rw [if_neg (by simp)]
            by_cases hkk : k' = (Dat.tuple [.str x, .tuple [.int iv]])
            · rw [decide_eq_true hkk]
              subst hkk
              rcases hHx with ⟨rfl, _⟩ | ⟨j, p, _, hjx, hj⟩
              · first | rw [if_pos rfl] | skip
                simp only [Option.isSome_none, Bool.false_eq_true, if_false]
                first | refine wpAny_bind (wpAny_pure ?_) | skip
                refine wpAny_bind (wpAny_rule ?_)
                split
                · exact wpAny_pure (wpAny_pure (hsome x' _ hkv))
                · exact wpAny_pure ⟨rfl, x' + 1, some x', rfl, hrest', hlt, .inr ⟨x', _, rfl, Nat.lt_succ_self x', hkv⟩⟩
              · exact absurd (idxM hn hj hkv) (by omega)
            · rw [decide_eq_false hkk]
              simp only [Bool.false_eq_true, if_false]
              refine wpAny_bind (wpAny_rule ?_)
              first | rw [if_neg (by simp)] | skip
              first
                | exact wpAny_pure ⟨rfl, x' + 1, hit, rfl, hrest', hlt, hstay hkk⟩
                | exact wpAny_bind (wpAny_pure (wpAny_pure ⟨rfl, x' + 1, hit, rfl, hrest', hlt, hstay hkk⟩))
          · rw [if_neg hh]
            refine wpAny_pure ⟨rfl, x' + 1, hit, rfl, hrest', hlt, hstay ?_⟩
            intro hkk
            rw [hkk] at hh; simp at hh
        · rintro b s' ⟨rfl, i, hit, rfl, hr, hi, hH⟩
          rcases hH with ⟨rfl, hno⟩ | ⟨j, p, rfl, _, hj⟩
          · exact wpAny_pure (hnone (hlast (hallOf hr) hno))
          · exact wpAny_pure (hsome j p hj))
end
end Mine
end
section
open PySem PySem.W PyProof.Rows PySem.Calls PySem.Spec
set_option maxRecDepth 100000
set_option linter.unusedVariables false
namespace Mine
/-- a dict that stands: its rows -/
noncomputable def DictM (w : World) (h : Heap) (d : Addr) (xs : List Row3) : Prop :=
  ∃ o es ep, h.get? d = some o ∧ o.ExactDict ∧ o.data = .dict es ep ∧ es.toList = xs.map (entryM w) ∧ (∀ x ∈ xs, MKey h x.1 x.2.1 ∧ bKey x.1 = true) ∧ (xs.map (·.1)).Nodup
open Classical in
noncomputable def rowM (xs : List Row3) (k : Dat) : Option Value := (xs.find? fun x => decide (x.1 = k)).map (·.2.2)
open Classical in
theorem rowM_none {xs : List Row3} {k : Dat} (h : ∀ (j : Nat) (p : Value × Value), xs[j]? ≠ some (k, p)) : rowM xs k = none := by
  have : (xs.find? fun x => decide (x.1 = k)) = none := by
    rw [List.find?_eq_none]
    intro x hx hk
    obtain ⟨j, hj⟩ := List.mem_iff_getElem?.mp hx
    have hk' : x.1 = k := of_decide_eq_true hk
    exact h j x.2 (by rw [hj, ← hk'])
  unfold rowM
  rw [this]; rfl
theorem rowM_get {xs : List Row3} (hn : (xs.map (·.1)).Nodup) {i : Nat} {k : Dat} {p : Value × Value} (hx : xs[i]? = some (k, p)) : rowM xs k = some p.2 := by
  induction xs generalizing i with
  | nil => simp at hx
  | cons x rest ih =>
    rw [List.map_cons, List.nodup_cons] at hn
    cases i with
    | zero =>
      simp only [List.getElem?_cons_zero, Option.some.injEq] at hx
      subst hx; simp [rowM]
    | succ j =>
      simp only [List.getElem?_cons_succ] at hx
      have hmem : k ∈ rest.map (·.1) := List.mem_map.mpr ⟨(k, p), List.mem_of_getElem? hx, rfl⟩
      have hne : ¬ x.1 = k := fun e => hn.1 (e ▸ hmem)
      have := ih hn.2 hx
      simpa [rowM, List.find?_cons, hne] using this
section
variable {prog : Program} {w : World} {A : Around} {E : Value → Shared → Prop} {s : Shared} {d : Addr} {xs : List Row3} {k : Dat} {v : Value}
theorem DictM.typeIs (hm : DictM w s.heap d xs) : s.TypeIs (.ref d) "dict" := let ⟨o, _, _, ho, hc, _⟩ := hm; ⟨o, ho, hc.1⟩
theorem getM {Q : Option Value → Shared → Prop} (hu : A.units + 8 < cLine) (hkey : MKey s.heap k v) (hok : bKey k = true) (hm : DictM w s.heap d xs) (h : ∀ tk, Q (rowM xs k) { s with toks := tk }) : wpAny (model prog w) A (dictGet d v) Q E s := by
  obtain ⟨o, es, ep, ho, _, hd, he, his, hn⟩ := hm
  unfold dictGet
  try with_reducible refine wpAny_holding ?_
  refine wpAny_bind (mkey_hash hu hkey fun tk => wpAny_bind (findM (s := { s with toks := tk }) hu hkey hok ho hd he his hn ?_ ?_))
  · intro hno
    rw [rowM_none hno] at h
    exact wpAny_pure (h _)
  · intro j p hj
    rw [rowM_get hn hj] at h
    refine wpAny_bind (wpAny_dictEntries (s := { s with toks := tk }) ho hd ?_)
    rw [entryM_at he j, hj]
    exact wpAny_pure (h _)
theorem inM {Q : Value → Shared → Prop} (hu : A.units + 9 < cLine) (hkey : MKey s.heap k v) (hok : bKey k = true) (hd : (d == sysModules) = false) (hm : DictM w s.heap d xs)
    (h : ∀ tk, Q (.bool (rowM xs k).isSome) { s with toks := tk }) : wpAny (model prog w) A (compareOp .In v (.ref d)) Q E s := by
  show wpAny _ _ (do return .bool (← contains (.ref d) v)) Q E s
  refine wpAny_bind ?_
  unfold contains
  try with_reducible refine wpAny_holding ?_
  refine wpAny_bind (wpAny_specialOf hm.typeIs slot_dict_contains.lookup ?_)
  show wpAny _ _ (if (some (Value.builtin "dict.__contains__") == some Value.none) = true then _ else _) _ E s
  rw [if_neg (by rw [beq_builtin_none]; exact Bool.false_ne_true)]
  refine wpAny_bind (wpAny_callSpecialUnlessNone?_slot (name := Str.ofString "__contains__") hm.typeIs slot_dict_contains
    (wpAny_call_entry slot_dict_contains hm.typeIs entry_dict_contains ?_ (args_dict_contains _ _)))
  show wpAny _ _ (dictGet d v >>= _) _ _ s
  refine wpAny_bind (getM (by show A.units + 1 + 8 < cLine; omega) hkey hok hm fun tk => ?_)
  cases hf : rowM xs k with
  | some p =>
    rw [hf] at h
    show wpAny _ _ (ret (.bool true)) _ _ _
    exact wpAny_pure ⟨_, rfl, wpAny_truthy_bool (wpAny_pure (h _))⟩
  | none =>
    rw [hf] at h
    show wpAny _ _ (Builtin.Dict.pendingKey? d v >>= _) _ _ _
    exact wpAny_bind (wpAny_pendingKey_other hd (wpAny_pure ⟨_, rfl, wpAny_truthy_bool (wpAny_pure (h _))⟩))
theorem notInM {Q : Value → Shared → Prop} (hu : A.units + 9 < cLine) (hkey : MKey s.heap k v) (hok : bKey k = true) (hd : (d == sysModules) = false) (hm : DictM w s.heap d xs)
    (h : ∀ tk, Q (.bool (!(rowM xs k).isSome)) { s with toks := tk }) : wpAny (model prog w) A (compareOp .NotIn v (.ref d)) Q E s := by
  show wpAny _ _ (do return .bool (!(← contains (.ref d) v))) Q E s
  refine wpAny_bind ?_
  unfold contains
  try with_reducible refine wpAny_holding ?_
  refine wpAny_bind (wpAny_specialOf hm.typeIs slot_dict_contains.lookup ?_)
  show wpAny _ _ (if (some (Value.builtin "dict.__contains__") == some Value.none) = true then _ else _) _ E s
  rw [if_neg (by rw [beq_builtin_none]; exact Bool.false_ne_true)]
  refine wpAny_bind (wpAny_callSpecialUnlessNone?_slot (name := Str.ofString "__contains__") hm.typeIs slot_dict_contains
    (wpAny_call_entry slot_dict_contains hm.typeIs entry_dict_contains ?_ (args_dict_contains _ _)))
  show wpAny _ _ (dictGet d v >>= _) _ _ s
  refine wpAny_bind (getM (by show A.units + 1 + 8 < cLine; omega) hkey hok hm fun tk => ?_)
  cases hf : rowM xs k with
  | some p =>
    rw [hf] at h
    show wpAny _ _ (ret (.bool true)) _ _ _
    exact wpAny_pure ⟨_, rfl, wpAny_truthy_bool (wpAny_pure (h _))⟩
  | none =>
    rw [hf] at h
    show wpAny _ _ (Builtin.Dict.pendingKey? d v >>= _) _ _ _
    exact wpAny_bind (wpAny_pendingKey_other hd (wpAny_pure ⟨_, rfl, wpAny_truthy_bool (wpAny_pure (h _))⟩))
theorem itemM {p : Value} {Q : Value → Shared → Prop} (hu : A.units + 9 < cLine) (hkey : MKey s.heap k v) (hok : bKey k = true) (hm : DictM w s.heap d xs) (hp : rowM xs k = some p)
    (h : ∀ tk, Q p { s with toks := tk }) : wpAny (model prog w) A (getItem (.ref d) v) Q E s := by
  unfold getItem
  try with_reducible refine wpAny_holding ?_
  refine wpAny_bind (wpAny_sequenceKey hm.typeIs (by decide) ?_)
  refine wpAny_bind (wpAny_callSpecial?_slot (name := Str.ofString "__getitem__") hm.typeIs slot_dict_getitem
    (wpAny_call_entry slot_dict_getitem hm.typeIs entry_dict_getitem ?_ (args_dict_getitem _ _)))
  show wpAny _ _ (dictGet d v >>= _) _ _ s
  refine wpAny_bind (getM (by show A.units + 1 + 8 < cLine; omega) hkey hok hm fun tk => ?_)
  rw [hp]
  exact wpAny_pure ⟨p, rfl, wpAny_pure (h _)⟩
/-- a new key is stored -/
theorem setM {v u : Value} {Q : Unit → Shared → Prop} (hu : A.units + 8 < cLine) (hkey : MKey s.heap k v) (hok : bKey k = true) (hm : DictM w s.heap d xs) (hnew : k ∉ xs.map (·.1)) (hsz : xs.length ≤ 64)
    (hQ : ∀ h' tk, DictM w h' d (xs ++ [(k, v, u)]) → Heap.SameBut d s.heap h' → Q () { s with heap := h', toks := tk }) : wpAny (model prog w) A (dictSet d v u) Q E s := by
  obtain ⟨o, es, ep, ho, hc, hd, he, his, hn⟩ := hm
  unfold dictSet
  try with_reducible refine wpAny_holding ?_
  refine wpAny_bind (mkey_hash hu hkey fun tk => ?_)
  unfold dictSetHashed
  try with_reducible refine wpAny_holding ?_
  refine wpAny_bind (findM (s := { s with toks := tk }) hu hkey hok ho hd he his hn ?_ ?_)
  · intro hno
    have hk : ∀ x ∈ xs ++ [(k, v, u)], MKey (Heap.update s.heap d (Obj.mapDictKeys (·.push ⟨hashM w k, v, u⟩))) x.1 x.2.1 ∧ bKey x.1 = true := by
      intro x hx
      rcases List.mem_append.mp hx with hx | hx
      · exact ⟨(his x hx).1.keeps ho hd (Heap.SameBut.update ..), (his x hx).2⟩
      · simp only [List.mem_singleton] at hx
        subst hx
        exact ⟨hkey.keeps ho hd (Heap.SameBut.update ..), hok⟩
    refine wpAny_bind (wpAny_rule (wpAny_updateDictKeys (hz := by have e := sizeM he; have := sizeLine_eq; omega) (s := { s with toks := tk }) ho hd (hQ _ _ ⟨_, _, ep + 1, Heap.get?_update_self _ ho (Obj.isFreed_of_dict (Obj.data_mapDictKeys hd _)),
      hc.mapDictKeys _, Obj.data_mapDictKeys hd _, ?_, hk, ?_⟩ (Heap.SameBut.update ..))))
    · simp [he, entryM]
    · rw [List.map_append, List.nodup_append]
      refine ⟨hn, by simp, ?_⟩
      intro x hx y hy
      simp only [List.map_cons, List.map_nil, List.mem_singleton] at hy
      subst hy
      exact fun e => hnew (e ▸ hx)
  · intro j p hj
    exact absurd (List.mem_map.mpr ⟨_, List.mem_of_getElem? hj, rfl⟩) hnew
/-- a row of new keys -/
theorem storeM : ∀ (new : List Row3) {xs : List Row3} {s : Shared} {Q : PUnit → Shared → Prop}, A.units + 8 < cLine → DictM w s.heap d xs → (∀ x ∈ new, MKey s.heap x.1 x.2.1 ∧ bKey x.1 = true) → ((xs ++ new).map (·.1)).Nodup → (xs ++ new).length ≤ 64 →
    (∀ h' tk, DictM w h' d (xs ++ new) → Heap.SameBut d s.heap h' → Q PUnit.unit { s with heap := h', toks := tk }) → wpAny (model prog w) A (storeAll d (new.map fun x => (x.2.1, x.2.2))) Q E s
  | [], xs, s, Q, hu, hm, hk, hn, hl, hQ => by
    unfold storeAll
    rw [List.map_nil, List.forIn_nil]
    rw [List.append_nil] at hQ
    exact wpAny_pure (hQ s.heap s.toks hm (Heap.SameBut.refl _ _))
  | x :: new, xs, s, Q, hu, hm, hk, hn, hl, hQ => by
    unfold storeAll
    rw [List.map_cons, List.forIn_cons]
    have hx := hk x (.head _)
    have hnew : x.1 ∉ xs.map (·.1) := by
      rw [List.map_append, List.map_cons, List.nodup_append] at hn
      exact fun h => hn.2.2 _ h _ (.head _) rfl
    refine wpAny_bind (wpAny_bind (setM hu hx.1 hx.2 hm hnew (by rw [List.length_append] at hl; omega) fun h' tk hm' hs => wpAny_pure ?_))
    have e : xs ++ x :: new = (xs ++ [(x.1, x.2.1, x.2.2)]) ++ new := by simp
    rw [e] at hn hl hQ
    obtain ⟨o, es, ep, ho, _, hd, _⟩ := id hm
    exact storeM new hu (s := { s with heap := h', toks := tk }) hm' (fun y hy => ⟨(hk y (.tail _ hy)).1.keeps ho hd hs, (hk y (.tail _ hy)).2⟩) hn hl fun h2 tk2 hm2 hs2 => hQ h2 tk2 hm2 (hs.trans hs2)
end
end Mine
end
section
open PySem PySem.W PyProof.Rows PySem.Calls PySem.Spec
set_option maxRecDepth 100000
set_option linter.unusedVariables false
namespace Mine
/-! the abstract machine: values, the store of lists that are changed, oracles, the evaluator -/
inductive V where
  | d (x : Dat)
  | sb (b : Bool)
  | loc (i : Nat)
  | hk (b : Nat) (i : Nat)
  | bk (b : Nat)
  | dc (es : List (Str × Dat))
  | fn (a : Addr)
  | bi (s : String)
  | ty (s : String)
  | kt (a : Addr) (l : List Str)
noncomputable abbrev Loc := List (Str × V)
noncomputable abbrev Sto := List (List Dat)
inductive Rs where
  | ok (v : V)
  | exc (code : Str)
inductive Fl where
  | next
  | ret (v : V)
inductive RsS where
  | ok (f : Fl) (m : Loc)
  | exc (code : Str)
inductive Orc where
  | b (x : Bool)
  | call (r : Rs) (σ : Sto)
  | ex (r : Rs) (σ : Sto)
  | st (r : RsS) (σ : Sto)
noncomputable abbrev Om := List Orc
noncomputable abbrev KE := V → Sto → Om → Prop
noncomputable abbrev KX := Str → Sto → Om → Prop
noncomputable abbrev vi (i : Int) : V := .d (.int i)
noncomputable abbrev vs (x : Str) : V := .d (.str x)
noncomputable def toD : V → Option Dat
  | .d x => some x
  | .sb b => some (.bool b)
  | _ => none
noncomputable def toDs : List V → Option (List Dat)
  | [] => some []
  | v :: r => match toD v, toDs r with
    | some d, some ds => some (d :: ds)
    | _, _ => none
mutual
noncomputable def dEq : Dat → Dat → Bool
  | .none, .none => true
  | .bool a, .bool b => a == b
  | .int a, .int b => a == b
  | .str a, .str b => a == b
  | .tuple a, .tuple b => dEqs a b
  | .list a, .list b => dEqs a b
  | _, _ => false
noncomputable def dEqs : List Dat → List Dat → Bool
  | [], [] => true
  | a :: r, b :: q => dEq a b && dEqs r q
  | _, _ => false
end
noncomputable def dFind (k : Str) : List (Str × Dat) → Option Dat
  | [] => none
  | p :: r => match p.1 == k with
    | true => some p.2
    | false => dFind k r
noncomputable def bFind (k : Dat) : List (Dat × Dat) → Option Dat
  | [] => none
  | p :: r => match dEq p.1 k with
    | true => some p.2
    | false => bFind k r
noncomputable def bookL : List (Dat × Dat) := [(.str (Str.ofString "A"), .int 5), (.str (Str.ofString "B%"), .int (-3)), (.str (Str.ofString "C$"), .str (Str.ofString "ab")),
  (.tuple [.str (Str.ofString "A"), .tuple [.int 0]], .int 7), (.tuple [.str (Str.ofString "A"), .tuple [.int 1]], .str (Str.ofString "t")), (.tuple [.str (Str.ofString "LEN"), .tuple [.int 2]], .int 4), (.tuple [.str (Str.ofString "FNA"), .tuple [.int 3]], .int 0)]
noncomputable def chk (b : Bool) (k : Prop) : Prop := match b with
  | true => k
  | false => False
theorem chk_of {b : Bool} {k : Prop} (e : b = true) (h : k) : chk b k := by subst e; exact h
theorem of_chk {b : Bool} {k : Prop} (h : chk b k) : b = true ∧ k := by cases b with
  | true => exact ⟨rfl, h⟩
  | false => exact h.elim
noncomputable def orB (ω : Om) (b : Bool) (K : Bool → Om → Prop) : Prop := match ω with
  | .b d :: ω' => match b == d with
    | true => K d ω'
    | false => False
  | _ => False
theorem orB_of {ω : Om} {b d : Bool} {K : Bool → Om → Prop} (e : b = d) (k : K d ω) : orB (.b d :: ω) b K := by
  subst e; unfold orB; simp only [BEq.rfl]; exact k
noncomputable def truth (v : V) (ω : Om) (K : Bool → Om → Prop) : Prop := match v with
  | .d (.bool b) => match b with
    | true => K true ω
    | false => K false ω
  | .sb b => orB ω b K
  | _ => False
noncomputable def asB : V → Option (Bool × Bool)
  | .d (.bool b) => some (b, true)
  | .sb b => some (b, false)
  | _ => none
noncomputable def mkB (c : Bool) (b : Bool) : V := match c with | true => .d (.bool b) | false => .sb b
noncomputable def smallInt (i : Int) : Prop := -(2 ^ 62) ≤ i ∧ i ≤ 2 ^ 62
noncomputable def repS (x : Str) : Nat → Str
  | 0 => ⟨#[]⟩
  | n + 1 => x ++ repS x n
noncomputable def bop (op : Operator) (a b : V) (K : V → Prop) : Prop := match op with
  | .Add => match a, b with
    | .d (.int x), .d (.int y) => K (vi (x + y))
    | .d (.list x), .d (.list y) => chk (Nat.ble (x.length + y.length) 4096) (K (.d (.list (x ++ y))))
    | .d (.str x), .d (.str y) => chk (Nat.ble (x.length + y.length) 4096) (K (vs (x ++ y)))
    | _, _ => False
  | .Sub => match a, b with
    | .d (.int x), .d (.int y) => K (vi (x - y))
    | .sb x, .sb y => K (vi (b2i x - b2i y))
    | _, _ => False
  | .Mult => match a, b with
    | .d (.int x), .d (.int y) => chk (Nat.ble x.natAbs 4294967295 && Nat.ble y.natAbs 4294967295) (K (vi (x * y)))
    | .d (.str x), .d (.int y) => chk (y == 200 && Nat.beq x.length 1) (K (vs (Txt.mul x y)))
    | _, _ => False
  | .FloorDiv => match a, b with
    | .d (.int x), .d (.int y) => chk (!(y == 0) && Nat.ble x.natAbs 1073741823 && Nat.ble y.natAbs 1073741823) (K (vi (Int.fdiv x y)))
    | _, _ => False
  | .Mod => match a, b with
    | .d (.int x), .d (.int y) => chk (!(y == 0)) (K (vi (Int.fmod x y)))
    | _, _ => False
  | .Pow => match a, b with
    | .d (.int x), .d (.int y) => chk (x == 2 && decide (0 ≤ y) && decide (y ≤ 63)) (K (vi (x ^ y.toNat)))
    | _, _ => False
  | .LShift => match a, b with
    | .d (.int x), .d (.int y) => chk (x == 1 && decide (0 ≤ y) && decide (y ≤ 63)) (K (vi (x * 2 ^ y.toNat)))
    | _, _ => False
  | .BitAnd => match a, b with
    | .d (.int x), .d (.int y) => K (vi (Builtin.bitAnd x y))
    | _, _ => False
  | .BitOr => match a, b with
    | .d (.int x), .d (.int y) => K (vi (Builtin.bitOr x y))
    | _, _ => False
  | .BitXor => match a, b with
    | .d (.int x), .d (.int y) => K (vi (Builtin.bitXor x y))
    | _, _ => False
  | _ => False
noncomputable def strsOf : List Dat → Option (List Str)
  | [] => some []
  | .str y :: r => match strsOf r with
    | some l => some (y :: l)
    | none => none
  | _ => none
noncomputable def intsOf : List Dat → Option (List Int)
  | [] => some []
  | .int y :: r => match intsOf r with
    | some l => some (y :: l)
    | none => none
  | _ => none
noncomputable def cop (op : CmpOp) (a b : V) (K : V → Prop) : Prop := match op with
  | .Eq => match a with
    | .d (.int x) => match b with
      | .d (.int y) => K (.sb (x == y))
      | _ => False
    | .d (.str x) => match b with
      | .d (.str y) => K (.d (.bool (x == y)))
      | _ => False
    | .d (.bool x) => match b with
      | .d (.bool y) => K (.d (.bool (x == y)))
      | .sb y => K (.sb (x == y))
      | _ => False
    | .sb x => match b with
      | .sb y => K (.sb (x == y))
      | .d (.bool y) => K (.sb (x == y))
      | _ => False
    | _ => False
  | .NotEq => match a with
    | .d (.int x) => match b with
      | .d (.int y) => K (.sb (x != y))
      | _ => False
    | .d (.str x) => match b with
      | .d (.str y) => K (.d (.bool (x != y)))
      | _ => False
    | .d (.bool x) => match b with
      | .d (.bool y) => K (.d (.bool (x != y)))
      | _ => False
    | _ => False
  | .Lt => match a with
    | .d (.int x) => match b with
      | .d (.int y) => K (.sb (decide (x < y)))
      | _ => False
    | .d (.str x) => match b with
      | .d (.str y) => K (.sb (decide (x.cps.toList < y.cps.toList)))
      | _ => False
    | _ => False
  | .LtE => match a with
    | .d (.int x) => match b with
      | .d (.int y) => K (.sb (decide (x ≤ y)))
      | _ => False
    | _ => False
  | .Gt => match a with
    | .d (.int x) => match b with
      | .d (.int y) => K (.sb (decide (y < x)))
      | _ => False
    | .d (.str x) => match b with
      | .d (.str y) => K (.sb (decide (y.cps.toList < x.cps.toList)))
      | _ => False
    | _ => False
  | .GtE => match a with
    | .d (.int x) => match b with
      | .d (.int y) => K (.sb (decide (y ≤ x)))
      | _ => False
    | _ => False
  | .In => match b with
    | .d (.tuple l) => match a with
      | .d (.str x) => match strsOf l with
        | some ys => K (.d (.bool (ys.any fun y => y == x)))
        | none => False
      | _ => False
    | .kt _ l => match a with
      | .d (.str x) => K (.d (.bool (l.any fun y => y == x)))
      | _ => False
    | .d (.list l) => match a with
      | .d (.int x) => match intsOf l with
        | some ys => K (.sb (ys.any fun y => y == x))
        | none => False
      | _ => False
    | .bk 0 => match a with
      | .d k => chk (bKey k) (K (.d (.bool (bFind k bookL).isSome)))
      | _ => False
    | _ => False
  | .NotIn => match b with
    | .bk 0 => match a with
      | .d k => chk (bKey k) (K (.d (.bool !(bFind k bookL).isSome)))
      | _ => False
    | _ => False
  | _ => False

noncomputable def isStr : Dat → Option Bool
  | .str _ => some true
  | .int _ => some false
  | _ => none
noncomputable def isTupD : Dat → Option Bool
  | .str _ => some false
  | .int _ => some false
  | _ => none
/-- a built-in that is called -/
noncomputable def bcall (f : V) (args : List V) (σ : Sto) (K : V → Prop) : Prop := match f with
  | .bi n => match n == "len", args with
    | true, [.d (.str x)] => chk (Nat.ble x.length 4096) (K (vi x.length))
    | true, [.d (.list l)] => chk (Nat.ble l.length 4096) (K (vi l.length))
    | true, [.loc i] => match σ[i]? with
      | some l => chk (Nat.ble l.length 4096) (K (vi l.length))
      | none => False
    | true, _ => False
    | false, _ => match n == "abs", args with
      | true, [.d (.int x)] => K (vi (if x < 0 then -x else x))
      | true, _ => False
      | false, _ => match n == "max", args with
        | true, [.d (.int x), .d (.int y)] => K (vi (if y > x then y else x))
        | true, _ => False
        | false, _ => match n == "isinstance", args with
          | true, [.d x, .ty t] => match t == "str" with
            | true => match isStr x with
              | some b => K (.d (.bool b))
              | none => False
            | false => match t == "tuple", isTupD x with
              | true, some b => K (.d (.bool b))
              | _, _ => False
          | _, _ => False
  | .ty n => match n == "int", args with
    | true, [.sb b] => K (vi (if b then 1 else 0))
    | true, _ => False
    | false, _ => match n == "tuple", args with
      | true, [.d (.list l)] => chk (Nat.ble l.length 64) (K (.d (.tuple l)))
      | _, _ => False
  | _ => False
structure FnI where
  names : List Str
  scope : Scope
  body : List Stmt
noncomputable def fnOfS (st : Stmt) : FnI := ⟨(sArgs st).args.map (·.arg), sScope st, sBody st⟩
/-- the defs, by their addresses -/
noncomputable def defs : List (Addr × Stmt) := [(44, stm 4), (79, stm 9), (86, stm 10), (100, stm 12), (107, stm 13), (185, stm 28), (192, stm 29), (199, stm 30), (206, stm 31), (213, stm 32), (241, stm 36), (248, stm 37), (255, stm 38), (262, stm 39), (269, stm 40), (276, stm 42), (285, stm 46), (292, stm 47), (299, stm 48), (304, stm 49), (311, stm 50), (318, stm 51), (325, stm 52), (330, stm 53), (351, cstm 55 1), (358, cstm 55 2), (365, cstm 55 3), (372, cstm 55 4), (379, cstm 55 5), (393, stm 57), (400, stm 58), (407, stm 59), (414, stm 60), (421, stm 61), (428, stm 62), (435, stm 63), (442, stm 64)]
noncomputable def logicL : List Str := [Str.ofString "AND", Str.ofString "OR", Str.ofString "XOR", Str.ofString "EQV", Str.ofString "IMP"]
noncomputable def compL : List Str := [Str.ofString "=", Str.ofString "<>", Str.ofString "<", Str.ofString ">", Str.ofString "<=", Str.ofString ">="]
noncomputable def globs : List (Str × V) := [(Str.ofString "kind_of", V.fn 44), (Str.ofString "fits", V.fn 79), (Str.ofString "whole_of", V.fn 86), (Str.ofString "checked_text", V.fn 100), (Str.ofString "truth", V.fn 107), (Str.ofString "is_whole", V.fn 185), (Str.ofString "settled", V.fn 192), (Str.ofString "whole_reckoned", V.fn 199), (Str.ofString "cut_quotient", V.fn 206), (Str.ofString "cut_rest", V.fn 213), (Str.ofString "reckoned", V.fn 241), (Str.ofString "negated", V.fn 248), (Str.ofString "order_of", V.fn 255), (Str.ofString "inverted", V.fn 262), (Str.ofString "logic", V.fn 269), (Str.ofString "parts_of_tree", V.fn 276), (Str.ofString "order_of_texts", V.fn 285), (Str.ofString "compared", V.fn 292), (Str.ofString "worth_of_texts", V.fn 299), (Str.ofString "worth_of_two", V.fn 304), (Str.ofString "worth_of_one", V.fn 311), (Str.ofString "worth_of_leaf", V.fn 318), (Str.ofString "worth_of_tree", V.fn 325), (Str.ofString "worth", V.fn 330), (Str.ofString "_law_words", V.fn 393), (Str.ofString "_law_draw", V.fn 400), (Str.ofString "_law_leaf", V.fn 407), (Str.ofString "_law_tree", V.fn 414), (Str.ofString "_law_bits", V.fn 421), (Str.ofString "_law_two", V.fn 428), (Str.ofString "_law_asked", V.fn 435), (Str.ofString "_law_worth", V.fn 442), (Str.ofString "len", V.bi "len"), (Str.ofString "abs", V.bi "abs"), (Str.ofString "max", V.bi "max"), (Str.ofString "isinstance", V.bi "isinstance"), (Str.ofString "str", V.ty "str"), (Str.ofString "tuple", V.ty "tuple"), (Str.ofString "int", V.ty "int"), (Str.ofString "MOST_TEXT", vi 255), (Str.ofString "LOGIC", V.kt 277 logicL), (Str.ofString "COMPARISONS", V.kt 278 compL)]
noncomputable def look {α : Type} (x : Str) : List (Str × α) → Option α
  | [] => none
  | p :: r => match x == p.1 with
    | true => some p.2
    | false => look x r
noncomputable def lookA {α : Type} (x : Addr) : List (Addr × α) → Option α
  | [] => none
  | p :: r => match Nat.beq x p.1 with
    | true => some p.2
    | false => lookA x r
noncomputable def putL (x : Str) (v : V) (m : Loc) : Loc := (x, v) :: m
noncomputable def constV : Const → Option V
  | .int i => some (vi i)
  | .str x => some (vs x)
  | .bool b => some (.d (.bool b))
  | .none => some (.d .none)
  | _ => none
structure EvR where
  e : Scope → Loc → Sto → Om → Expr → KE → KX → Prop
  t : Scope → Loc → Sto → Om → Expr → (Bool → Sto → Om → Prop) → KX → Prop
  c : Addr → List V → Sto → Om → KE → KX → Prop
  s : Scope → Loc → Sto → Om → Stmt → (Fl → Loc → Sto → Om → Prop) → KX → Prop
noncomputable def evL (r : EvR) (sc : Scope) (m : Loc) : List Expr → Sto → Om → (List V → Sto → Om → Prop) → KX → Prop
  | [], σ, ω, K, _ => K [] σ ω
  | x :: xs, σ, ω, K, X => match isStarred x with
    | true => False
    | false => r.e sc m σ ω x (fun v σ ω => evL r sc m xs σ ω (fun vs σ ω => K (v :: vs) σ ω) X) X
noncomputable def evA (r : EvR) (sc : Scope) (m : Loc) (es : List Expr) (σ : Sto) (ω : Om) (K : List V → Sto → Om → Prop) (X : KX) : Prop := match es.any isStarred with
  | true => False
  | false => evL r sc m es σ ω K X
noncomputable def exL (r : EvR) (sc : Scope) : List Stmt → Loc → Sto → Om → (Fl → Loc → Sto → Om → Prop) → KX → Prop
  | [], m, σ, ω, K, _ => K .next m σ ω
  | x :: xs, m, σ, ω, K, X => r.s sc m σ ω x (fun f m σ ω => match f with
      | .next => exL r sc xs m σ ω K X
      | .ret v => K (.ret v) m σ ω) X
noncomputable def tAnd (r : EvR) (sc : Scope) (m : Loc) : List Expr → Sto → Om → (Bool → Sto → Om → Prop) → KX → Prop
  | [], σ, ω, K, _ => K true σ ω
  | x :: xs, σ, ω, K, X => r.t sc m σ ω x (fun b σ ω => match b with
      | true => tAnd r sc m xs σ ω K X
      | false => K false σ ω) X
noncomputable def tOr (r : EvR) (sc : Scope) (m : Loc) : List Expr → Sto → Om → (Bool → Sto → Om → Prop) → KX → Prop
  | [], σ, ω, K, _ => K false σ ω
  | x :: xs, σ, ω, K, X => r.t sc m σ ω x (fun b σ ω => match b with
      | true => K true σ ω
      | false => tOr r sc m xs σ ω K X) X
noncomputable def isName : Expr → Option Str
  | .Name x _ => some x
  | _ => none
noncomputable def isNm : Expr → Bool
  | .Name .. => true
  | _ => false
noncomputable def nodupB : List Str → Bool
  | [] => true
  | x :: r => !(r.any fun y => y == x) && nodupB r
noncomputable def isComp : Expr → Bool
  | .ListComp .. => true
  | .SetComp .. => true
  | .DictComp .. => true
  | _ => false
noncomputable def isNA : Expr → Bool
  | .Name .. => true
  | .Attribute .. => true
  | _ => false
noncomputable def namesOf : List Expr → Option (List Str)
  | [] => some []
  | .Name x _ :: r => (namesOf r).map (x :: ·)
  | _ => none
noncomputable def putAll : List Str → List V → Loc → Loc
  | x :: xs, v :: vs, m => putAll xs vs (putL x v m)
  | _, _, m => m
noncomputable def allLocal (sc : Scope) (xs : List Str) : Bool := xs.all fun x => sc.names.lookup x == some .local
noncomputable def dVs (l : List Dat) : List V := l.map .d
/-- an item: value[slice] -/
noncomputable def item (o i : V) (σ : Sto) (K : V → Prop) : Prop := match o with
  | .d (.tuple l) => match i with
    | .d (.int k) => chk (decide (0 ≤ k) && decide (k ≤ 4096)) (match l[k.toNat]? with
      | some x => K (.d x)
      | none => False)
    | _ => False
  | .d (.list l) => match i with
    | .d (.int k) => chk (decide (0 ≤ k) && decide (k ≤ 4096)) (match l[k.toNat]? with
      | some x => K (.d x)
      | none => False)
    | _ => False
  | .loc a => match i with
    | .d (.int k) => match σ[a]? with
      | some l => chk (decide (0 ≤ k) && decide (k ≤ 4096)) (match l[k.toNat]? with
        | some x => K (.d x)
        | none => False)
      | none => False
    | _ => False
  | .dc es => match i with
    | .d (.str k) => match dFind k es with
      | some x => K (.d x)
      | none => False
    | _ => False
  | .bk 0 => match i with
    | .d k => chk (bKey k) (match bFind k bookL with
      | some x => K (.d x)
      | none => False)
    | _ => False
  | _ => False
noncomputable def evDict (r : EvR) (sc : Scope) (m : Loc) : List (Option Expr) → List Expr → Sto → Om → (List (Str × Dat) → Sto → Om → Prop) → KX → Prop
  | [], [], σ, ω, K, _ => K [] σ ω
  | some (.Constant (.str k) _ _) :: ks, v :: vs, σ, ω, K, X => r.e sc m σ ω v (fun v σ ω => match toD v with
      | some d => evDict r sc m ks vs σ ω (fun es σ ω => K ((k, d) :: es) σ ω) X
      | none => False) X
  | _, _, _, _, _, _ => False

noncomputable def swapMode (env : Env) (ts vs : List Expr) : Option (Option (List Str)) :=
  if (!(ts.length == 2 || ts.length == 3) || vs.length != ts.length || env.blockKind != .function) = true then some none else
  if (vs.any fun | .Starred .. => true | _ => false) = true then some none else
  let line := (ts.head?.map (·.pos.line)).getD 0
  let names := ts.filterMap fun
    | .Name id pos => if env.kindOf id == some .local && pos.line == line then some id else none
    | _ => none
  if (names.length != ts.length || names.eraseDups.length != names.length) = true then some none else
  if vs.all (foldedForSure 8) = true then some none else
  if vs.all (constantsAlone 8) = true then none else some (some names)
noncomputable abbrev dumEnv (sc : Scope) : Env := envOf ⟨#[]⟩ sc 0 0 .none
structure Specs where
  C : Addr → List V → Sto → Rs → Sto → Prop
  E : Scope → Loc → Sto → Expr → Rs → Sto → Prop
  S : Scope → Loc → Sto → Stmt → RsS → Sto → Prop
  orc : Addr → Bool
noncomputable def debugName : Str := "__debug__"
noncomputable def isMut (p : Pos) : Bool := (p.line == 260) || (p.line == 359) || (p.line == 360) || (p.line == 241 && p.col == 23)
noncomputable def lmeth (n : Str) : Bool := n == Str.ofString "append" || n == Str.ofString "extend" || n == Str.ofString "pop"
noncomputable def lid (n : Str) : String := if n == Str.ofString "append" then "list.append" else if n == Str.ofString "extend" then "list.extend" else "list.pop"
noncomputable def meth (ov : V) (n : Str) (args : List V) (σ : Sto) (K : V → Sto → Prop) : Prop := match ov with
  | .loc i => match σ[i]? with
    | some l => match n == Str.ofString "append", args with
      | true, [a] => match toD a with
        | some d => chk (Nat.ble l.length 4096) (K (.d .none) (σ.set i (l ++ [d])))
        | none => False
      | true, _ => False
      | false, _ => match n == Str.ofString "extend", args with
        | true, [.d (.list q)] => chk (Nat.ble (l.length + q.length) 4096) (K (.d .none) (σ.set i (l ++ q)))
        | true, _ => False
        | false, _ => match n == Str.ofString "pop", args with
          | true, [] => match l.getLast? with
            | some d => chk (Nat.ble l.length 4096) (K (.d d) (σ.set i l.dropLast))
            | none => False
          | _, _ => False
    | none => False
  | .dc es => match n == Str.ofString "get", args with
    | true, [.d (.str k), .d x] => K (.d ((dFind k es).getD x)) σ
    | _, _ => False
  | _ => False
noncomputable def hkMeths : List (Str × Addr) := [(Str.ofString "value_of_name", 351), (Str.ofString "told", 358), (Str.ofString "item_of", 365), (Str.ofString "call", 372), (Str.ofString "fn", 379)]
noncomputable def attrV (o : V) (n : Str) : Option V := match o with
  | .hk b i => match n == Str.ofString "bits" with
    | true => some (vi 16)
    | false => match n == Str.ofString "digits" with
      | true => some (vi 9)
      | false => match n == Str.ofString "values" with
        | true => some (.bk b)
        | false => match n == Str.ofString "asked" with
          | true => some (.loc i)
          | false => none
  | _ => none
noncomputable def orE (Sp : Specs) (sc : Scope) (m : Loc) (σ : Sto) (ω : Om) (ex : Expr) (K : KE) (X : KX) : Prop := match ω with
  | .ex r σ' :: ω' => Sp.E sc m σ ex r σ' ∧ (match r with
    | .ok v => K v σ' ω'
    | .exc c => X c σ' ω')
  | _ => False
noncomputable def orS (Sp : Specs) (sc : Scope) (m : Loc) (σ : Sto) (ω : Om) (st : Stmt) (K : Fl → Loc → Sto → Om → Prop) (X : KX) : Prop := match ω with
  | .st r σ' :: ω' => Sp.S sc m σ st r σ' ∧ (match r with
    | .ok f m' => K f m' σ' ω'
    | .exc c => X c σ' ω')
  | _ => False
noncomputable def orC (Sp : Specs) (f : Addr) (args : List V) (σ : Sto) (ω : Om) (K : KE) (X : KX) : Prop := match ω with
  | .call r σ' :: ω' => Sp.C f args σ r σ' ∧ (match r with
    | .ok v => K v σ' ω'
    | .exc c => X c σ' ω')
  | _ => False
noncomputable def nameV (sc : Scope) (m : Loc) (x : Str) : Option V := match x == debugName with
  | true => none
  | false => match sc.names.lookup x with
    | some .local => look x m
    | some .globalImplicit => look x globs
    | _ => none
noncomputable def stepE (Sp : Specs) (r : EvR) (sc : Scope) (m : Loc) (σ : Sto) (ω : Om) (ex : Expr) (K : KE) (X : KX) : Prop := match ex with
  | .Constant c _ _ => match constV c with
    | some v => K v σ ω
    | none => False
  | .Name x _ => match nameV sc m x with
    | some v => K v σ ω
    | none => False
  | .BinOp l op q _ => r.e sc m σ ω l (fun a σ ω => r.e sc m σ ω q (fun b σ ω => bop op a b (fun v => K v σ ω)) X) X
  | .UnaryOp op x _ => match op with
    | .USub => r.e sc m σ ω x (fun v σ ω => match v with
      | .d (.int i) => K (vi (-i)) σ ω
      | _ => False) X
    | .Not => r.e sc m σ ω x (fun v σ ω => match asB v with
      | some (b, c) => K (mkB c (!b)) σ ω
      | none => False) X
    | _ => False
  | .IfExp t b o _ => r.t sc m σ ω t (fun d σ ω => match d with
    | true => r.e sc m σ ω b K X
    | false => r.e sc m σ ω o K X) X
  | .Compare l ops cs _ => match ops, cs with
    | [op], [q] => match behindInMarks op q with
      | true => False
      | false => r.e sc m σ ω l (fun a σ ω => r.e sc m σ ω q (fun b σ ω => cop op a b (fun v => K v σ ω)) X) X
    | [o1, o2], [q1, q2] => match lastMarks [o1, o2] [q1, q2] with
      | true => False
      | false => r.e sc m σ ω l (fun a σ ω => r.e sc m σ ω q1 (fun b σ ω => cop o1 a b (fun v => truth v ω (fun d ω => match d with
        | true => r.e sc m σ ω q2 (fun c σ ω => cop o2 b c (fun v => K v σ ω)) X
        | false => K v σ ω))) X) X
    | _, _ => False
  | .Tuple es _ _ => evL r sc m es σ ω (fun vs σ ω => match toDs vs with
    | some ds => chk (Nat.ble ds.length 4096) (K (.d (.tuple ds)) σ ω)
    | none => False) X
  | .List es pos => evL r sc m es σ ω (fun vs σ ω => match toDs vs with
    | some ds => chk (Nat.ble ds.length 4096) (match isMut pos with
      | true => K (.loc σ.length) (σ ++ [ds]) ω
      | false => K (.d (.list ds)) σ ω)
    | none => False) X
  | .Attribute v n _ => match isNm v with
    | true => r.e sc m σ ω v (fun o σ ω => match attrV o n with
      | some x => K x σ ω
      | none => False) X
    | false => False
  | .Subscript v i _ => match i with
    | .Slice lo hi st _ => match isNm v with
     | true => match lo, hi, st with
      | some lo, none, none => r.e sc m σ ω v (fun o σ ω => r.e sc m σ ω lo (fun b σ ω => match o, b with
        | .d (.list l), .d (.int k) => chk (decide (0 ≤ k) && decide (k ≤ l.length) && Nat.ble l.length 4096) (K (.d (.list (l.drop k.toNat))) σ ω)
        | _, _ => False) X) X
      | none, some hi, none => r.e sc m σ ω v (fun o σ ω => r.e sc m σ ω hi (fun b σ ω => match o, b with
        | .d (.list l), .d (.int k) => chk (decide (0 ≤ k) && decide (k ≤ l.length) && Nat.ble l.length 4096) (K (.d (.list (l.take k.toNat))) σ ω)
        | _, _ => False) X) X
      | _, _, _ => False
     | false => False
    | _ => r.e sc m σ ω v (fun o σ ω => r.e sc m σ ω i (fun b σ ω => item o b σ (fun x => K x σ ω)) X) X
  | .Call f as kws cp => match kws with
    | [] => match f with
      | .Name x _ => match nameV sc m x with
        | some (.fn a) => match lookA a defs with
          | some _ => evA r sc m as σ ω (fun vs σ ω => r.c a vs σ ω K X) X
          | none => False
        | some (.bi b) => evA r sc m as σ ω (fun vs σ ω => bcall (.bi b) vs σ (fun v => K v σ ω)) X
        | some (.ty b) => evA r sc m as σ ω (fun vs σ ω => bcall (.ty b) vs σ (fun v => K v σ ω)) X
        | none => orE Sp sc m σ ω ex K X
        | _ => False
      | .Attribute o n ap => match isNA o && Nat.blt as.length 30 && (ap.endLine == cp.line) with
        | true => match as.any isStarred with
         | true => False
         | false => r.e sc m σ ω o (fun ov σ ω => match ov with
          | .hk b i => match look n hkMeths with
            | some a => evA r sc m as σ ω (fun vs σ ω => r.c a (.hk b i :: vs) σ ω K X) X
            | none => False
          | .loc a => match lmeth n with
            | true => evA r sc m as σ ω (fun vs σ ω => meth (.loc a) n vs σ (fun v σ => K v σ ω)) X
            | false => False
          | .dc es => match n == Str.ofString "get" with
            | true => evA r sc m as σ ω (fun vs σ ω => meth (.dc es) n vs σ (fun v σ => K v σ ω)) X
            | false => False
          | _ => False) X
        | false => False
      | _ => False
    | _ => False
  | .Dict ks vs _ => match ks with
    | [] => False
    | _ :: _ => match ks.all (·.isSome) && Nat.beq ks.length vs.length && Nat.ble ks.length 15 with
      | true => evDict r sc m ks vs σ ω (fun es σ ω => match nodupB (es.map (·.1)) with
        | true => K (.dc es) σ ω
        | false => False) X
      | false => False
  | .ListComp .. => orE Sp sc m σ ω ex K X
  | _ => False
noncomputable def lpair : CmpOp → V → V → Option (Nat × Nat)
  | .NotEq, .loc i, .loc j => some (i, j)
  | _, _, _ => none
/-- two of the lists that are changed, compared -/
noncomputable def lcop (op : CmpOp) (a b : V) (σ : Sto) (K : V → Prop) : Prop := match lpair op a b with
  | some p => match σ[p.1]? with
    | some l => match σ[p.2]? with
      | some q => chk (l.all bKey && q.all bKey) (K (.sb (!dEqs l q)))
      | none => False
    | none => False
  | none => cop op a b K
noncomputable def stepT (Sp : Specs) (r : EvR) (sc : Scope) (m : Loc) (σ : Sto) (ω : Om) (ex : Expr) (K : Bool → Sto → Om → Prop) (X : KX) : Prop := match ex with
  | .UnaryOp op x _ => match op with
    | .Not => r.t sc m σ ω x (fun b σ ω => K (!b) σ ω) X
    | _ => False
  | .BoolOp op es _ => match op with
    | .And => tAnd r sc m es σ ω K X
    | .Or => tOr r sc m es σ ω K X
  | .Compare l ops cs _ => match ops, cs with
    | [op], [q] => match behindInMarks op q with
      | true => False
      | false => r.e sc m σ ω l (fun a σ ω => r.e sc m σ ω q (fun b σ ω => lcop op a b σ (fun v => truth v ω (fun d ω => K d σ ω))) X) X
    | _, _ => False
  | .IfExp .. => False
  | .Name .. => r.e sc m σ ω ex (fun v σ ω => truth v ω (fun d ω => K d σ ω)) X
  | .Call .. => r.e sc m σ ω ex (fun v σ ω => truth v ω (fun d ω => K d σ ω)) X
  | .Subscript .. => r.e sc m σ ω ex (fun v σ ω => truth v ω (fun d ω => K d σ ω)) X
  | _ => False
noncomputable def stepC (Sp : Specs) (r : EvR) (f : Addr) (args : List V) (σ : Sto) (ω : Om) (K : KE) (X : KX) : Prop := match Sp.orc f with
  | true => orC Sp f args σ ω K X
  | false => match lookA f defs with
    | some st => match (fnOfS st).names.length == args.length with
      | true => exL r (fnOfS st).scope (fnOfS st).body (putAll (fnOfS st).names args []) σ ω (fun fl _ σ ω => match fl with
        | .ret v => K v σ ω
        | .next => K (.d .none) σ ω) X
      | false => False
    | none => False
noncomputable def stepS (Sp : Specs) (r : EvR) (sc : Scope) (m : Loc) (σ : Sto) (ω : Om) (st : Stmt) (K : Fl → Loc → Sto → Om → Prop) (X : KX) : Prop := match st with
  | .Expr e _ => match isComp e with
    | true => False
    | false => r.e sc m σ ω e (fun _ σ ω => K .next m σ ω) X
  | .Return e _ => match e with
    | some e => r.e sc m σ ω e (fun v σ ω => K (.ret v) m σ ω) X
    | none => False
  | .If t b o _ => r.t sc m σ ω t (fun d σ ω => match d with
    | true => exL r sc b m σ ω K X
    | false => exL r sc o m σ ω K X) X
  | .Raise ex ca _ => match ex, ca with
    | some (.Call f as kws _), none => match isName f, kws with
      | some x, [] => match x == Str.ofString "BasicError", sc.names.lookup x with
        | true, some .globalImplicit => evA r sc m as σ ω (fun vs σ ω => match vs with
          | [.d (.str c)] => X c σ ω
          | [.d (.str c), .d (.str _)] => X c σ ω
          | _ => False) X
        | _, _ => False
      | _, _ => False
    | _, _ => False
  | .Assign ts e _ => match ts with
    | [.Name x _] => match sc.names.lookup x with
      | some .local => match isComp e with
        | true => orS Sp sc m σ ω st K X
        | false => r.e sc m σ ω e (fun v σ ω => K .next (putL x v m) σ ω) X
      | _ => False
    | [.Tuple ns _ _] => match namesOf ns with
      | some xs => match allLocal sc xs with
        | true => match e with
          | .Tuple es _ _ => match swapMode (dumEnv sc) ns es with
            | none => False
            | some sw => evL r sc m es σ ω (fun vs σ ω => match vs.length == xs.length with
              | true => chk (Nat.ble vs.length 64) (match sw with
                | none => K .next (putAll xs vs m) σ ω
                | some ys => chk (allLocal sc ys && Nat.beq ys.length vs.length) (K .next (putAll ys.reverse vs.reverse m) σ ω))
              | false => False) X
          | .Name .. => r.e sc m σ ω e (fun v σ ω => match v with
            | .d (.tuple ds) => match ds.length == xs.length with
              | true => K .next (putAll xs (dVs ds) m) σ ω
              | false => False
            | _ => False) X
          | .Call .. => r.e sc m σ ω e (fun v σ ω => match v with
            | .d (.tuple ds) => match ds.length == xs.length with
              | true => K .next (putAll xs (dVs ds) m) σ ω
              | false => False
            | _ => False) X
          | _ => False
        | false => False
      | none => False
    | [.Subscript o i _] => match isComp e with
     | true => False
     | false => r.e sc m σ ω e (fun v σ ω => r.e sc m σ ω o (fun ov σ ω => r.e sc m σ ω i (fun iv σ ω => match ov, iv, toD v with
      | .loc a, .d (.int k), some d => match σ[a]? with
        | some l => chk (decide (0 ≤ k) && decide (k < l.length) && Nat.ble l.length 4096) (K .next m (σ.set a (l.set k.toNat d)) ω)
        | none => False
      | _, _, _ => False) X) X) X
    | _ => False
  | _ => orS Sp sc m σ ω st K X
noncomputable def step (Sp : Specs) (r : EvR) : EvR := ⟨stepE Sp r, stepT Sp r, stepC Sp r, stepS Sp r⟩
noncomputable def noEv : EvR := ⟨fun _ _ _ _ _ _ _ => False, fun _ _ _ _ _ _ _ => False, fun _ _ _ _ _ _ => False, fun _ _ _ _ _ _ _ => False⟩
noncomputable def ev (Sp : Specs) : Nat → EvR
  | 0 => noEv
  | n + 1 => step Sp (ev Sp n)
end Mine
end
section
open PySem PySem.W PyProof.Rows PySem.Calls PySem.Spec
set_option maxRecDepth 100000
set_option linter.unusedVariables false
namespace Mine
/-! the concrete side: the ledger and the relation -/
structure Cfg where
  mc : Str → Option Value
  mu : List (Addr × Obj)
  fz : List (Addr × Obj)
  ex : List (Addr × Obj)
noncomputable abbrev Cfg.all (c : Cfg) : List (Addr × Obj) := c.mu ++ (c.fz ++ c.ex)
inductive KvAre (fz : List (Addr × Obj)) : List (Str × Value) → List (Str × Dat) → Prop
  | nil : KvAre fz [] []
  | cons {k : Str} {v : Value} {d : Dat} {kvs : List (Str × Value)} {r : List (Str × Dat)} : DatIn fz v d → KvAre fz kvs r → KvAre fz ((k, v) :: kvs) ((k, d) :: r)
inductive BookAre (w : World) (fz : List (Addr × Obj)) : List DictEntry → List (Dat × Dat) → Prop
  | nil : BookAre w fz [] []
  | cons {kv v : Value} {k d : Dat} {es : List DictEntry} {r : List (Dat × Dat)} : DatIn fz kv k → bKey k = true → DatIn fz v d → BookAre w fz es r → BookAre w fz (⟨hashM w k, kv, v⟩ :: es) ((k, d) :: r)
theorem BookAre.mono {w : World} {fz fz' : List (Addr × Obj)} (hs : ∀ p ∈ fz, p ∈ fz') {es : List DictEntry} {r : List (Dat × Dat)} (h : BookAre w fz es r) : BookAre w fz' es r := by
  induction h with
  | nil => exact .nil
  | cons a b c _ ih => exact .cons (a.mono hs) b (c.mono hs) ih
noncomputable def DcIn (w : World) (fz : List (Addr × Obj)) (es : List (Str × Dat)) (v : Value) : Prop :=
  ∃ a o kvs, v = .ref a ∧ (a, o) ∈ fz ∧ o.IsDictOf (PySem.strKind pw w) kvs ∧ KvAre fz kvs es ∧ (a == sysModules) = false
/-- the law's book -/
noncomputable def BkIn (w : World) (fz : List (Addr × Obj)) (b : Nat) (v : Value) : Prop :=
  ∃ a ents n, v = .ref a ∧ (a, dictOf ents n) ∈ fz ∧ (b = 0 → (a == sysModules) = false ∧ BookAre w fz ents bookL)
noncomputable def hkEnts (P : Params) (vb : Value) (a : Addr) (t1 t2 t3 t4 t5 t6 : Tok) : List DictEntry :=
  [⟨PyData.keyHash P (Str.ofString "values"), .str (Str.ofString "values") t1, vb⟩, ⟨PyData.keyHash P (Str.ofString "bits"), .str (Str.ofString "bits") t2, .int 16 t5⟩,
   ⟨PyData.keyHash P (Str.ofString "digits"), .str (Str.ofString "digits") t3, .int 9 t6⟩, ⟨PyData.keyHash P (Str.ofString "asked"), .str (Str.ofString "asked") t4, .ref a⟩]
noncomputable def HkIn (w : World) (c : Cfg) (b i : Nat) (v : Value) : Prop :=
  ∃ x dx vb a o t1 t2 t3 t4 t5 t6 n, v = .ref x ∧ (x, instObj 382 dx) ∈ c.fz ∧ (dx, dictOf (hkEnts w.params vb a t1 t2 t3 t4 t5 t6) n) ∈ c.fz ∧ c.mu[i]? = some (a, o) ∧ BkIn w c.fz b vb
noncomputable def RV (w : World) (c : Cfg) : V → Value → Prop
  | .d x, v => DatIn c.fz v x
  | .sb b, v => v = .bool b
  | .loc i, v => ∃ a o, c.mu[i]? = some (a, o) ∧ v = .ref a
  | .hk b i, v => HkIn w c b i v
  | .bk b, v => BkIn w c.fz b v
  | .dc es, v => DcIn w c.fz es v
  | .fn a, v => v = .ref a
  | .bi s, v => v = .builtin s
  | .ty s, v => v = .type s
  | .kt a l, v => v = .ref a ∧ ((a = 277 ∧ l = logicL) ∨ (a = 278 ∧ l = compL))
inductive RVs (w : World) (c : Cfg) : List V → List Value → Prop
  | nil : RVs w c [] []
  | cons {v : V} {x : Value} {vs : List V} {xs : List Value} : RV w c v x → RVs w c vs xs → RVs w c (v :: vs) (x :: xs)
structure Grow (c c' : Cfg) : Prop where
  fz : ∀ p ∈ c.fz, p ∈ c'.fz
  mu : ∀ (i : Nat) (a : Addr) (o : Obj), c.mu[i]? = some (a, o) → ∃ o' : Obj, c'.mu[i]? = some (a, o')
  ex : c'.ex = c.ex
theorem Grow.refl (c : Cfg) : Grow c c := ⟨fun _ h => h, fun _ _ o h => ⟨o, h⟩, rfl⟩
theorem Grow.trans {a b c : Cfg} (x : Grow a b) (y : Grow b c) : Grow a c := ⟨fun p h => y.fz p (x.fz p h), fun i a o h => let ⟨o', h'⟩ := x.mu i a o h; y.mu i a o' h', y.ex.trans x.ex⟩
theorem KvAre.mono {fz fz' : List (Addr × Obj)} (hs : ∀ p ∈ fz, p ∈ fz') {es : List (Str × Value)} {r : List (Str × Dat)} (h : KvAre fz es r) : KvAre fz' es r := by
  induction h with
  | nil => exact .nil
  | cons a _ ih => exact .cons (a.mono hs) ih
theorem BkIn.mono {w : World} {fz fz' : List (Addr × Obj)} (hs : ∀ p ∈ fz, p ∈ fz') {b : Nat} {v : Value} (h : BkIn w fz b v) : BkIn w fz' b v := by
  obtain ⟨a, ents, n, e, hm, k⟩ := h
  exact ⟨a, ents, n, e, hs _ hm, fun q => ⟨(k q).1, (k q).2.mono hs⟩⟩
theorem RV.mono {w : World} {c c' : Cfg} (g : Grow c c') {v : V} {x : Value} (h : RV w c v x) : RV w c' v x := by
  cases v with
  | d _ => exact DatIn.mono g.fz h
  | sb _ => exact h
  | loc i => obtain ⟨a, o, h1, h2⟩ := h; obtain ⟨o', h3⟩ := g.mu _ _ _ h1; exact ⟨a, o', h3, h2⟩
  | hk b i =>
    obtain ⟨x, dx, vb, a, o, t1, t2, t3, t4, t5, t6, n, e, h1, h2, h3, h4⟩ := h
    obtain ⟨o', h3'⟩ := g.mu _ _ _ h3
    exact ⟨x, dx, vb, a, o', t1, t2, t3, t4, t5, t6, n, e, g.fz _ h1, g.fz _ h2, h3', h4.mono g.fz⟩
  | bk b => exact BkIn.mono g.fz h
  | dc es => obtain ⟨a, o, kvs, e, hm, i, k, l⟩ := h; exact ⟨a, o, kvs, e, g.fz _ hm, i, k.mono g.fz, l⟩
  | fn _ => exact h
  | bi _ => exact h
  | ty _ => exact h
  | kt _ _ => exact h
theorem RV.ex {w : World} {c : Cfg} {l : List (Addr × Obj)} {v : V} {x : Value} (h : RV w c v x) : RV w { c with ex := l } v x := by
  cases v <;> exact h
theorem RVs.mono {w : World} {c c' : Cfg} (g : Grow c c') {vs : List V} {xs : List Value} (h : RVs w c vs xs) : RVs w c' vs xs := by
  induction h with
  | nil => exact .nil
  | cons a _ ih => exact .cons (a.mono g) ih
theorem RVs.length {w : World} {c : Cfg} {vs : List V} {xs : List Value} (h : RVs w c vs xs) : xs.length = vs.length := by
  induction h with
  | nil => rfl
  | cons _ _ ih => rw [List.length_cons, List.length_cons, ih]
structure MuR (c : Cfg) (σ : Sto) : Prop where
  len : c.mu.length = σ.length
  at_ : ∀ (i : Nat) (ds : List Dat), σ[i]? = some ds → ∃ (a : Addr) (vals : List Value) (n : Nat), c.mu[i]? = some (a, listOf vals.toArray n) ∧ DatAll c.fz vals ds
  nd : (c.mu.map (·.1)).Nodup
  dj : ∀ p ∈ c.mu, ∀ q ∈ c.fz, p.1 ≠ q.1
  dx : ∀ p ∈ c.mu, ∀ q ∈ c.ex, p.1 ≠ q.1
  fx : ∀ p ∈ c.fz, ∀ q ∈ c.ex, p.1 ≠ q.1
noncomputable def LocR (w : World) (c : Cfg) (m : Loc) : Prop := ∀ x v, look x m = some v → ∃ val, c.mc x = some val ∧ RV w c v val
structure SR (w : World) (h₀ : Heap) (L : Addr) (m : Loc) (σ : Sto) (c : Cfg) (h : Heap) : Prop where
  F : Fr h₀ L h c.mc
  N : News h₀ L h c.all
  lo : LocR w c m
  st : MuR c σ
theorem LocR.grow {w : World} {c c' : Cfg} {m : Loc} (h : LocR w c m) (e : c'.mc = c.mc) (g : Grow c c') : LocR w c' m := fun x v hv => by
  obtain ⟨val, h1, h2⟩ := h x v hv
  exact ⟨val, e ▸ h1, h2.mono g⟩
/-- the same ledger at another heap -/
theorem SR.same {w : World} {h₀ h h' : Heap} {L : Addr} {m : Loc} {σ : Sto} {c : Cfg} (S : SR w h₀ L m σ c h) (F : Fr h₀ L h' c.mc) (N : News h₀ L h' c.all) : SR w h₀ L m σ c h' := ⟨F, N, S.lo, S.st⟩
noncomputable abbrev Cfg.frozen (c : Cfg) (p : Addr × Obj) : Cfg := { c with fz := p :: c.fz }
noncomputable abbrev Cfg.made (c : Cfg) (p : Addr × Obj) : Cfg := { c with mu := c.mu ++ [p] }
theorem grow_frozen (c : Cfg) (p : Addr × Obj) : Grow c (c.frozen p) := ⟨fun _ h => .tail _ h, fun _ _ o h => ⟨o, h⟩, rfl⟩
theorem grow_made (c : Cfg) (p : Addr × Obj) : Grow c (c.made p) := ⟨fun _ h => h, fun i a o h => ⟨o, by
  have := (List.getElem?_eq_some_iff.mp h).1
  show (c.mu ++ [p])[i]? = _
  rw [List.getElem?_append_left this]; exact h⟩, rfl⟩
theorem MuR.frozen {c : Cfg} {σ : Sto} (h : MuR c σ) {a : Addr} {o : Obj} (hf : ∀ p ∈ c.all, p.1 ≠ a) : MuR (c.frozen (a, o)) σ :=
  ⟨h.len, fun i ds e => let ⟨a, vals, n, h1, h2⟩ := h.at_ i ds e; ⟨a, vals, n, h1, h2.mono fun _ h => .tail _ h⟩, h.nd, fun p hp q hq => by
    rcases List.mem_cons.mp hq with rfl | hq
    · exact hf p (List.mem_append.mpr (.inl hp))
    · exact h.dj p hp q hq, h.dx, fun p hp q hq => by
    rcases List.mem_cons.mp hp with rfl | hp
    · exact fun e => hf q (List.mem_append.mpr (.inr (List.mem_append.mpr (.inr hq)))) e.symm
    · exact h.fx p hp q hq⟩
theorem MuR.made {c : Cfg} {σ : Sto} (h : MuR c σ) {a : Addr} {vals : List Value} {n : Nat} {ds : List Dat} (hd : DatAll c.fz vals ds) (hf : ∀ p ∈ c.all, p.1 ≠ a) : MuR (c.made (a, listOf vals.toArray n)) (σ ++ [ds]) := by
  refine ⟨by simp [h.len], fun i es e => ?_, ?_, fun p hp q hq => ?_, fun p hp q hq => ?_, h.fx⟩
  · by_cases hi : i < σ.length
    · rw [List.getElem?_append_left hi] at e
      obtain ⟨a', vals', n', h1, h2⟩ := h.at_ i es e
      exact ⟨a', vals', n', by rw [List.getElem?_append_left (by rw [h.len]; exact hi)]; exact h1, h2⟩
    · rw [List.getElem?_append_right (Nat.le_of_not_lt hi)] at e
      have hi0 : i - σ.length = 0 := by
        cases q : i - σ.length with
        | zero => rfl
        | succ k => rw [q] at e; simp at e
      rw [hi0] at e
      simp only [List.getElem?_cons_zero, Option.some.injEq] at e
      subst e
      refine ⟨a, vals, n, ?_, hd⟩
      rw [List.getElem?_append_right (by rw [h.len]; exact Nat.le_of_not_lt hi), h.len, hi0]
      rfl
  · rw [List.map_append, List.map_cons, List.map_nil]
    refine List.nodup_append.mpr ⟨h.nd, by simp, fun x hx y hy => ?_⟩
    obtain ⟨p, hp, rfl⟩ := List.mem_map.mp hx
    rw [List.mem_singleton.mp hy]
    exact hf p (List.mem_append.mpr (.inl hp))
  · rcases List.mem_append.mp hp with hp | hp
    · exact h.dj p hp q hq
    · rw [List.mem_singleton.mp hp]
      exact fun e => hf q (List.mem_append.mpr (.inr (List.mem_append.mpr (.inl hq)))) e.symm
  · rcases List.mem_append.mp hp with hp | hp
    · exact h.dx p hp q hq
    · rw [List.mem_singleton.mp hp]
      exact fun e => hf q (List.mem_append.mpr (.inr (List.mem_append.mpr (.inr hq)))) e.symm
/-- one of the lists that are changed -/
noncomputable abbrev Cfg.put (c : Cfg) (i : Nat) (p : Addr × Obj) : Cfg := { c with mu := c.mu.set i p }
theorem mem_put {c : Cfg} {i : Nat} {D : Addr} {o o' : Obj} (hi : c.mu[i]? = some (D, o)) {p : Addr × Obj} (hp : p ∈ (c.put i (D, o')).mu) : ∃ q ∈ c.mu, q.1 = p.1 := by
  rcases List.mem_or_eq_of_mem_set hp with h | h
  · exact ⟨p, h, rfl⟩
  · exact ⟨(D, o), List.mem_of_getElem? hi, by rw [h]⟩
theorem grow_put {c : Cfg} {i : Nat} {D : Addr} {o o' : Obj} (hi : c.mu[i]? = some (D, o)) : Grow c (c.put i (D, o')) := ⟨fun _ h => h, fun j a o₁ h => by
  show ∃ o₂, (c.mu.set i (D, o'))[j]? = _
  by_cases hij : i = j
  · subst hij
    rw [hi] at h; cases h
    exact ⟨o', by rw [List.getElem?_set_self (List.getElem?_eq_some_iff.mp hi).1]⟩
  · exact ⟨o₁, by rw [List.getElem?_set_ne hij]; exact h⟩, rfl⟩
theorem MuR.put {c : Cfg} {σ : Sto} (h : MuR c σ) {i : Nat} {D : Addr} {o : Obj} {vals : List Value} {k : Nat} {ds : List Dat} (hi : c.mu[i]? = some (D, o)) (hd : DatAll c.fz vals ds) :
    MuR (c.put i (D, listOf vals.toArray k)) (σ.set i ds) := by
  have hlt := (List.getElem?_eq_some_iff.mp hi).1
  refine ⟨by simp [h.len], fun j es e => ?_, ?_, fun p hp q hq => ?_, fun p hp q hq => ?_, h.fx⟩
  · show ∃ a vals' n', (c.mu.set i _)[j]? = _ ∧ _
    by_cases hij : i = j
    · subst hij
      rw [List.getElem?_set_self (by rw [← h.len]; exact hlt)] at e
      cases e
      exact ⟨D, vals, k, by rw [List.getElem?_set_self hlt], hd⟩
    · rw [List.getElem?_set_ne hij] at e
      obtain ⟨a, v', n', h1, h2⟩ := h.at_ j es e
      exact ⟨a, v', n', by rw [List.getElem?_set_ne hij]; exact h1, h2⟩
  · show ((c.mu.set i _).map (·.1)).Nodup
    have : (c.mu.set i (D, listOf vals.toArray k)).map (·.1) = c.mu.map (·.1) := by
      rw [List.map_set]
      refine List.ext_getElem? fun j => ?_
      by_cases hij : i = j
      · subst hij
        rw [List.getElem?_set_self (by simpa using hlt), List.getElem?_map, hi]; rfl
      · rw [List.getElem?_set_ne hij]
    rw [this]; exact h.nd
  · obtain ⟨p', h1, h2⟩ := mem_put hi hp
    rw [← h2]; exact h.dj p' h1 q hq
  · obtain ⟨p', h1, h2⟩ := mem_put hi hp
    rw [← h2]; exact h.dx p' h1 q hq
theorem upd_list {D : Addr} {o o' : Obj} {r : List (Addr × Obj)} (hr : ∀ p ∈ r, p.1 ≠ D) : ∀ {l : List (Addr × Obj)} {i : Nat}, l[i]? = some (D, o) → (l.map (·.1)).Nodup → Upd D o o' (l ++ r) (l.set i (D, o') ++ r)
  | [], _, e, _ => by cases e
  | p :: l, 0, e, nd => by
    cases e
    rw [List.map_cons, List.nodup_cons] at nd
    refine Upd.head fun q hq => ?_
    rcases List.mem_append.mp hq with hq | hq
    · exact fun z => nd.1 (List.mem_map.mpr ⟨q, hq, z⟩)
    · exact hr q hq
  | p :: l, i + 1, e, nd => by
    rw [List.map_cons, List.nodup_cons] at nd
    rw [List.getElem?_cons_succ] at e
    refine Upd.tail (fun z => nd.1 (List.mem_map.mpr ⟨(D, o), List.mem_of_getElem? e, z.symm⟩)) (upd_list hr e nd.2)
theorem MuR.upd {c : Cfg} {σ : Sto} (h : MuR c σ) {i : Nat} {D : Addr} {o o' : Obj} (hi : c.mu[i]? = some (D, o)) : Upd D o o' c.all (c.put i (D, o')).all :=
  upd_list (fun p hp => by
    rcases List.mem_append.mp hp with hp | hp
    · exact fun z => h.dj _ (List.mem_of_getElem? hi) p hp z.symm
    · exact fun z => h.dx _ (List.mem_of_getElem? hi) p hp z.symm) hi h.nd
end Mine
end
section
open PySem PySem.W PyProof.Rows PySem.Calls PySem.Spec
set_option maxRecDepth 100000
set_option linter.unusedVariables false
namespace Mine
/-! an exception of the text's own class on its way through the frames -/
noncomputable def TracedD (h B : Heap) (e d : Addr) : Prop :=
  ∃ oe vs T oT ts, h.get? e = some oe ∧ oe.cls = .ref 34 ∧ oe.dict = some d ∧ oe.data = .fields vs ∧ vs[1]? = some (.ref T) ∧ B.get? T = none ∧ T ≠ e ∧ h.get? T = some oT ∧ oT.data = .fields ts ∧ ts[3]? = some .none
theorem dict_mapFields (o : Obj) (f : Array Value → Array Value) : (Obj.mapFields f o).dict = o.dict := by
  obtain ⟨c, d, dt, s⟩ := o
  cases dt <;> rfl
section
variable {M : Model} {A : Around} {E : Value → Shared → Prop} {s : Shared}
/-- a new entry of the traceback is laid and put ahead of the rest -/
theorem entry_D {B : Heap} {env : Env} {outer : List Env} {L e d : Addr} {oe : Obj} {vs : Array Value} {head : Value} {hadNext : Bool} {Q : Unit → Shared → Prop}
    (hfr : A.frames = some (env :: outer)) (hf : env.frame = some L) (hB : B.StaysIn s.heap) (heB : B.get? e = none) (hfun : s.heap.FunFrames B (env :: outer))
    (he : s.heap.get? e = some oe) (hcls : oe.cls = .ref 34) (hdict : oe.dict = some d) (hd : oe.data = .fields vs) (hsz : 1 < vs.size)
    (hQ : ∀ h', B.StaysIn h' → h'.FunFrames B (env :: outer) → TracedD h' B e d → s.heap.UpToSlots h' → Q () { s with heap := h' }) :
    wpAny M A (do let a ← frameOf env; let pl ← entryPlaceOf L hadNext; let b ← EntryCells.newEntry head a .none (rawInt L) .none pl; setField (.ref e) 1 b)
      (fun _ s' => wpAny M A (setFlight (.ref e) none) Q E s') E s := by
  have hfe : e ∉ (env :: outer).filterMap (·.frame) := fun hm => by
    obtain ⟨_, o, ho, hnf⟩ := hfun.mem hm
    rw [he] at ho; cases ho; exact hnf vs hd
  refine wpAny_bind (wpAny_frameOf_fun hfr hfun hf fun g hg => ?_)
  refine wpAny_bind (wpAny_entryPlaceOf fun pl hpl => ?_)
  unfold EntryCells.newEntry newFields
  refine wpAny_bind (wpAny_newObj_type ?_ (hpl.sizeOk5 _ _ _ _ _))
  generalize hts : (([head, .ref L, .none, rawInt L, .none] ++ (if pl.isEmpty then List.replicate 6 Value.none else pl)) : List Value) = tl
  have htl : 3 < tl.toArray.size := by
    rw [← hts, List.size_toArray, List.length_append]
    simp only [List.length_cons, List.length_nil]
    omega
  have heg : g.get? e = some oe := (hg.2.1 e hfe).trans he
  have heg' := Heap.get?_push_of_some (h := g) { cls := .type "traceback", dict := none, data := .fields tl.toArray } heg
  refine wpAny_setField heg' hd hsz ?_
  have hT : g.objs.size ≠ e := Nat.ne_of_gt (Heap.lt_size heg)
  have hde := Obj.data_mapFields hd (·.setIfInBounds 1 (Value.ref g.objs.size))
  have he2 := Heap.get?_update_self (Obj.mapFields (·.setIfInBounds 1 (Value.ref g.objs.size))) heg' (Obj.isFreed_of_fields hde)
  have hT2 := (Heap.get?_update_other (g.push { cls := .type "traceback", dict := none, data := .fields tl.toArray }) (Obj.mapFields (·.setIfInBounds 1 (Value.ref g.objs.size))) (Ne.symm hT)).trans (Heap.get?_push_size g rfl)
  have other : ∀ b o, b ≠ e → g.get? b = some o → ((g.push { cls := .type "traceback", dict := none, data := .fields tl.toArray }).update e (Obj.mapFields (·.setIfInBounds 1 (Value.ref g.objs.size)))).get? b = some o := fun b o hb ho =>
    (Heap.get?_update_other _ _ (Ne.symm hb)).trans (Heap.get?_push_of_some _ ho)
  generalize hh2 : (g.push { cls := .type "traceback", dict := none, data := .fields tl.toArray }).update e (Obj.mapFields (·.setIfInBounds 1 (Value.ref g.objs.size))) = h2 at he2 hT2 other ⊢
  unfold setFlight
  refine wpAny_bind (wpAny_field (x := .ref g.objs.size) he2 hde (by simp [hsz]) ?_)
  rw [if_pos (show (Value.ref g.objs.size != Value.none) = true from by simp)]
  refine wpAny_setField hT2 rfl htl (hQ _ ?_ ?_ ?_ ?_)
  · intro b o hb
    have h1 : b ≠ e := fun q => by rw [q, heB] at hb; cases hb
    have h2' : b ∉ (env :: outer).filterMap (·.frame) := fun hm => by rw [(hfun.mem hm).1] at hb; cases hb
    have h3 := (hg.2.1 b h2').trans (hB b o hb)
    exact (Heap.get?_update_other _ _ (Nat.ne_of_gt (Heap.lt_size h3))).trans (other b o h1 h3)
  · refine hfun.of_keeps fun b o hb hnf => ?_
    obtain ⟨sl, hs⟩ := hg.2.2 b o hb
    have h1 : b ≠ e := fun q => by rw [q, he] at hb; cases hb; exact hnf vs hd
    exact ⟨_, (Heap.get?_update_other _ _ (Nat.ne_of_gt (Heap.lt_size hs))).trans (other b _ h1 hs), rfl⟩
  · refine ⟨_, _, g.objs.size, _, _, (Heap.get?_update_other _ _ hT).trans he2, ?_, ?_, hde, by simp [hsz], ?_, hT, Heap.get?_update_self _ hT2 (Obj.isFreed_of_fields (Obj.data_mapFields rfl _)), Obj.data_mapFields rfl _, by simp only [List.size_toArray] at htl; simp [htl]⟩
    · rw [Obj.cls_mapFields]; exact hcls
    · rw [dict_mapFields]; exact hdict
    · cases q : B.get? g.objs.size with
      | none => rfl
      | some o =>
        have h2' : g.objs.size ∉ (env :: outer).filterMap (·.frame) := fun hm => by rw [(hfun.mem hm).1] at q; cases q
        exact absurd (Heap.lt_size ((hg.2.1 _ h2').trans (hB _ o q))) (Nat.lt_irrefl _)
  · intro b o hb hnf
    obtain ⟨sl, hs⟩ := hg.2.2 b o hb
    have h1 : b ≠ e := fun q => by rw [q, he] at hb; cases hb; exact hnf vs hd
    exact ⟨sl, (Heap.get?_update_other _ _ (Nat.ne_of_gt (Heap.lt_size hs))).trans (other b _ h1 hs)⟩
theorem leaving_first {B : Heap} {env : Env} {outer : List Env} {L e d : Addr} {oe : Obj} {vs : Array Value} {Q : Unit → Shared → Prop}
    (hfr : A.frames = some (env :: outer)) (hf : env.frame = some L) (hB : B.StaysIn s.heap) (heB : B.get? e = none) (hfun : s.heap.FunFrames B (env :: outer))
    (he : s.heap.get? e = some oe) (hcls : oe.cls = .ref 34) (hdict : oe.dict = some d) (hd : oe.data = .fields vs) (hv : vs[1]? = some .none)
    (hQ : ∀ h', B.StaysIn h' → h'.FunFrames B (env :: outer) → TracedD h' B e d → s.heap.UpToSlots h' → Q () { s with heap := h' }) :
    wpAny M A (leaving env (.ref e)) Q E s := by
  unfold leaving noteFrame
  simp only [hf]
  refine wpAny_bind (wpAny_bind (wpAny_field he hd hv ?_))
  rw [if_neg (by decide)]
  exact entry_D hfr hf hB heB hfun he hcls hdict hd (Array.getElem?_eq_some_iff.mp hv).1 hQ
theorem leaving_next {B : Heap} {env : Env} {outer : List Env} {L e d : Addr} {Q : Unit → Shared → Prop}
    (hfr : A.frames = some (env :: outer)) (hf : env.frame = some L) (hB : B.StaysIn s.heap) (heB : B.get? e = none) (hfun : s.heap.FunFrames B (env :: outer))
    (ht : TracedD s.heap B e d)
    (hQ : ∀ h', B.StaysIn h' → h'.FunFrames B (env :: outer) → TracedD h' B e d → s.heap.UpToSlots h' → Q () { s with heap := h' }) :
    wpAny M A (leaving env (.ref e)) Q E s := by
  obtain ⟨oe, vs, T, oT, ts, he, hcls, hdict, hd, hv, hTB, hTe, hT, hdT, h3⟩ := ht
  unfold leaving noteFrame
  simp only [hf]
  refine wpAny_bind (wpAny_bind (wpAny_field he hd hv ?_))
  rw [if_pos (show (Value.ref T != Value.none) = true from by simp)]
  refine wpAny_bind (wpAny_field hT hdT h3 ?_)
  rw [if_neg (show ¬ ((Value.none == rawInt L) = true) from by simp [rawInt])]
  refine wpAny_bind (wpAny_setField hT hdT (Array.getElem?_eq_some_iff.mp h3).1 ?_)
  have other : ∀ b, b ≠ T → (s.heap.update T (Obj.mapFields (·.setIfInBounds 3 Value.none))).get? b = s.heap.get? b := fun b hb => Heap.get?_update_other _ _ (Ne.symm hb)
  have nT : ∀ b o, s.heap.get? b = some o → (∀ vs, o.data ≠ .fields vs) → b ≠ T := fun b o hb hnf q => by
    rw [q, hT] at hb; cases hb; exact hnf ts hdT
  refine entry_D hfr hf (fun b o hb => (other b fun q => by rw [q, hTB] at hb; cases hb).trans (hB b o hb)) heB (hfun.of_keeps fun b o hb hnf => ⟨o, (other b (nT b o hb hnf)).trans hb, rfl⟩)
    ((other e (Ne.symm hTe)).trans he) hcls hdict hd (Array.getElem?_eq_some_iff.mp hv).1 fun h' x1 x2 x3 x4 => hQ h' x1 x2 x3 fun b o hb hnf => x4 b o ((other b (nT b o hb hnf)).trans hb) hnf
end
noncomputable def CodeD (h : Heap) (d : Addr) (code : Str) : Prop := ∃ mA t, h.Ns1 d mA ∧ mA (Str.ofString "code") = some (.str code t)
/-- just made: all else as it was -/
structure MadeD (h h' : Heap) (e : Addr) (code : Str) : Prop where
  keep : ∀ b o, h.get? b = some o → h'.get? b = some o
  new : h.get? e = none
  obj : ∃ oe vs d, h'.get? e = some oe ∧ oe.cls = .ref 34 ∧ oe.dict = some d ∧ oe.data = .fields vs ∧ vs[1]? = some .none ∧ h.get? d = none ∧ d ≠ e ∧ CodeD h' d code
structure RaisedD (base G : Heap) (l : List Env) (e : Addr) (code : Str) (news : List (Addr × Obj)) (h : Heap) : Prop where
  ex : ∃ B d, base.StaysIn B ∧ (∀ b o, G.get? b = some o → b ∉ l.filterMap (·.frame) → B.get? b = some o) ∧ (∀ q ∈ news, B.get? q.1 = some q.2 ∧ G.get? q.1 = none ∧ base.get? q.1 = none) ∧
    B.StaysIn h ∧ B.get? e = none ∧ h.FunFrames B l ∧ TracedD h B e d ∧ CodeD B d code
section
variable {M : Model} {A : Around} {E : Value → Shared → Prop} {s' : Shared} {base g g₂ h : Heap} {outer : List Env} {L a e : Addr} {m : Str → Option Value} {name : Str} {scope : Scope} {cd : Value} {Q : Unit → Shared → Prop} {news : List (Addr × Obj)} {code : Str}
theorem leave_made (K : Below A base outer g) (hx : MadeD h s'.heap e code) (F : Fr g L h m) (N : News g L h news) (hk : scope.kind = .function)
    (hQ : ∀ h', RaisedD base g outer e code news h' → g.UpToSlots h' → Q () { s' with heap := h' }) :
    wpAny M (A.deeper (envOf name scope L a cd)) (leaving (envOf name scope L a cd) (.ref e)) Q E s' := by
  have K' := K.push (name := name) (a := a) (cd := cd) F hk
  obtain ⟨oe, vs, d, he, hcls, hdict, hd, hv, hdn, hde, hcode⟩ := hx.obj
  have hin : ∀ env ∈ (envOf name scope L a cd :: outer), ∀ b, env.frame = some b → b ∈ (envOf name scope L a cd :: outer).filterMap (·.frame) := fun env he b hb => List.mem_filterMap.mpr ⟨env, he, hb⟩
  have frh : ∀ b ∈ (envOf name scope L a cd :: outer).filterMap (·.frame), ∃ o, h.get? b = some o ∧ ∀ vs, o.data ≠ .fields vs := fun b hb => (K'.frames.mem hb).2
  have hef : e ∉ (envOf name scope L a cd :: outer).filterMap (·.frame) := fun hm => by
    obtain ⟨o, ho, _⟩ := frh e hm; rw [hx.new] at ho; cases ho
  have hdf : d ∉ (envOf name scope L a cd :: outer).filterMap (·.frame) := fun hm => by
    obtain ⟨o, ho, _⟩ := frh d hm; rw [hdn] at ho; cases ho
  let fs := e :: (envOf name scope L a cd :: outer).filterMap (·.frame)
  have stB : ∀ b o, h.get? b = some o → b ∉ (envOf name scope L a cd :: outer).filterMap (·.frame) → (hideAll s'.heap fs).get? b = some o := fun b o hb nm => by
    refine hideAll_get _ (hx.keep b o hb) fun hm => ?_
    rcases List.mem_cons.mp hm with q | q
    · rw [q, hx.new] at hb; cases hb
    · exact nm q
  have fr2 : s'.heap.FunFrames (hideAll s'.heap fs) (envOf name scope L a cd :: outer) := by
    have : ∀ l : List Env, (∀ env ∈ l, ∀ b, env.frame = some b → b ∈ fs) → h.FunFrames base l → s'.heap.FunFrames (hideAll s'.heap fs) l := by
      intro l
      induction l with
      | nil => intro _ _; trivial
      | cons env r ih =>
        rintro hm ⟨hk, ⟨L, o, hf, hn, ho, hd⟩, hr⟩
        exact ⟨hk, ⟨L, o, hf, hideAll_none _ (hm env (.head _) L hf), hx.keep L o ho, hd⟩, ih (fun env' he' => hm env' (.tail _ he')) hr⟩
    exact this _ (fun env he b hb => .tail _ (hin env he b hb)) K'.frames
  refine leaving_first (B := hideAll s'.heap fs) K'.stack rfl (fun b o q => of_hideAll _ q) (hideAll_none _ (.head _)) fr2 he hcls hdict hd hv fun h' x1 x2 x3 x4 => ?_
  have sg : ∀ b o, g.get? b = some o → b ∉ outer.filterMap (·.frame) → (hideAll s'.heap fs).get? b = some o := fun b o q nm => stB b o (F.keep b o q) fun hm => by
    rcases kts_mem hm with z | z
    · rw [z, kts_self F] at q; cases q
    · exact nm z
  have sb : base.StaysIn (hideAll s'.heap fs) := fun b o q => stB b o (K'.stays b o q) fun hm => by
    rw [(K'.frames.mem hm).1] at q; cases q
  refine hQ h' ⟨_, d, sb, sg, fun q hq => ⟨stB _ _ (N q hq).1 fun hm => ?_, (N q hq).2.2, fresh_of_stays K.stays (N q hq).2.2⟩, x1, hideAll_none _ (.head _), x2.2.2, x3, ?_⟩
    ((Heap.UpToSlots.of_keeps F.keep).trans ((Heap.UpToSlots.of_keeps hx.keep).trans x4))
  · obtain ⟨env, he, hf⟩ := List.mem_filterMap.mp hm
    rcases List.mem_cons.mp he with rfl | he
    · exact (N q hq).2.1 (Option.some.inj hf).symm
    · obtain ⟨o, ho, _⟩ := (K.frames.mem (List.mem_filterMap.mpr ⟨env, he, hf⟩)).2
      rw [(N q hq).2.2] at ho; cases ho
  · obtain ⟨mA, t, h1, h2⟩ := hcode
    refine ⟨mA, t, h1.at fun o ho => hideAll_get _ ho fun hm => ?_, h2⟩
    rcases List.mem_cons.mp hm with q | q
    · exact hde q
    · exact hdf q
theorem leave_fly (K : Below A base outer g) (F : Fr g L g₂ m) (R : RaisedD base g₂ (envOf name scope L a cd :: outer) e code news s'.heap) (hsm : g₂.UpToSlots s'.heap)
    (hQ : ∀ h', RaisedD base g outer e code news h' → g.UpToSlots h' → Q () { s' with heap := h' }) :
    wpAny M (A.deeper (envOf name scope L a cd)) (leaving (envOf name scope L a cd) (.ref e)) Q E s' := by
  obtain ⟨B, d, hB, hBG, hl, r1, r2, r3, r4, r5⟩ := R.ex
  refine leaving_next (Around.frames_deeper K.stack) rfl r1 r2 r3 r4 fun h' x1 x2 x3 x4 => ?_
  exact hQ h' ⟨B, d, hB, fun b o q nm => hBG b o (F.keep b o q) fun hm => by
      rcases kts_mem hm with z | z
      · rw [z, kts_self F] at q; cases q
      · exact nm z,
    fun q hq => ⟨(hl q hq).1, kts_none F.keep (hl q hq).2.1, (hl q hq).2.2⟩, x1, r2, x2.2.2, x3, r5⟩ ((Heap.UpToSlots.of_keeps F.keep).trans (hsm.trans x4))
end
/-! noted in its frame, still on its way there -/
noncomputable def TracedF (h B : Heap) (e d : Addr) (fl : Value) : Prop :=
  ∃ oe vs T oT ts, h.get? e = some oe ∧ oe.cls = .ref 34 ∧ oe.dict = some d ∧ oe.data = .fields vs ∧ vs[1]? = some (.ref T) ∧ B.get? T = none ∧ T ≠ e ∧ h.get? T = some oT ∧ oT.data = .fields ts ∧ ts[3]? = some fl
structure RaisedF (base G : Heap) (l : List Env) (e : Addr) (code : Str) (news : List (Addr × Obj)) (fl : Value) (h : Heap) : Prop where
  ex : ∃ B d, base.StaysIn B ∧ (∀ b o, G.get? b = some o → b ∉ l.filterMap (·.frame) → B.get? b = some o) ∧ (∀ q ∈ news, B.get? q.1 = some q.2 ∧ G.get? q.1 = none ∧ base.get? q.1 = none) ∧
    B.StaysIn h ∧ B.get? e = none ∧ h.FunFrames B l ∧ TracedF h B e d fl ∧ CodeD B d code
section
variable {M : Model} {A : Around} {E : Value → Shared → Prop} {s : Shared}
theorem entry_F {B : Heap} {env : Env} {outer : List Env} {L e d : Addr} {oe : Obj} {vs : Array Value} {head : Value} {hadNext : Bool} {Q : Unit → Shared → Prop}
    (hfr : A.frames = some (env :: outer)) (hf : env.frame = some L) (hB : B.StaysIn s.heap) (heB : B.get? e = none) (hfun : s.heap.FunFrames B (env :: outer))
    (he : s.heap.get? e = some oe) (hcls : oe.cls = .ref 34) (hdict : oe.dict = some d) (hd : oe.data = .fields vs) (hsz : 1 < vs.size)
    (hQ : ∀ h', B.StaysIn h' → h'.FunFrames B (env :: outer) → TracedF h' B e d (rawInt L) → s.heap.UpToSlots h' → Q () { s with heap := h' }) :
    wpAny M A (do let a ← frameOf env; let pl ← entryPlaceOf L hadNext; let b ← EntryCells.newEntry head a .none (rawInt L) .none pl; setField (.ref e) 1 b) Q E s := by
  have hfe : e ∉ (env :: outer).filterMap (·.frame) := fun hm => by
    obtain ⟨_, o, ho, hnf⟩ := hfun.mem hm
    rw [he] at ho; cases ho; exact hnf vs hd
  refine wpAny_bind (wpAny_frameOf_fun hfr hfun hf fun g hg => ?_)
  refine wpAny_bind (wpAny_entryPlaceOf fun pl hpl => ?_)
  unfold EntryCells.newEntry newFields
  refine wpAny_bind (wpAny_newObj_type ?_ (hpl.sizeOk5 _ _ _ _ _))
  generalize hts : (([head, .ref L, .none, rawInt L, .none] ++ (if pl.isEmpty then List.replicate 6 Value.none else pl)) : List Value) = tl
  have htl3 : tl.toArray[3]? = some (rawInt L) := by
    rw [← hts]; rfl
  have heg : g.get? e = some oe := (hg.2.1 e hfe).trans he
  have heg' := Heap.get?_push_of_some (h := g) { cls := .type "traceback", dict := none, data := .fields tl.toArray } heg
  refine wpAny_setField heg' hd hsz ?_
  have hT : g.objs.size ≠ e := Nat.ne_of_gt (Heap.lt_size heg)
  have hde := Obj.data_mapFields hd (·.setIfInBounds 1 (Value.ref g.objs.size))
  have he2 := Heap.get?_update_self (Obj.mapFields (·.setIfInBounds 1 (Value.ref g.objs.size))) heg' (Obj.isFreed_of_fields hde)
  have hT2 := (Heap.get?_update_other (g.push { cls := .type "traceback", dict := none, data := .fields tl.toArray }) (Obj.mapFields (·.setIfInBounds 1 (Value.ref g.objs.size))) (Ne.symm hT)).trans (Heap.get?_push_size g rfl)
  have other : ∀ b o, b ≠ e → g.get? b = some o → ((g.push { cls := .type "traceback", dict := none, data := .fields tl.toArray }).update e (Obj.mapFields (·.setIfInBounds 1 (Value.ref g.objs.size)))).get? b = some o := fun b o hb ho =>
    (Heap.get?_update_other _ _ (Ne.symm hb)).trans (Heap.get?_push_of_some _ ho)
  generalize hh2 : (g.push { cls := .type "traceback", dict := none, data := .fields tl.toArray }).update e (Obj.mapFields (·.setIfInBounds 1 (Value.ref g.objs.size))) = h2 at he2 hT2 other ⊢
  refine hQ _ ?_ ?_ ?_ ?_
  · intro b o hb
    have h1 : b ≠ e := fun q => by rw [q, heB] at hb; cases hb
    have h2' : b ∉ (env :: outer).filterMap (·.frame) := fun hm => by rw [(hfun.mem hm).1] at hb; cases hb
    have h3 := (hg.2.1 b h2').trans (hB b o hb)
    exact other b o h1 h3
  · refine hfun.of_keeps fun b o hb hnf => ?_
    obtain ⟨sl, hs⟩ := hg.2.2 b o hb
    have h1 : b ≠ e := fun q => by rw [q, he] at hb; cases hb; exact hnf vs hd
    exact ⟨_, other b _ h1 hs, rfl⟩
  · refine ⟨_, _, g.objs.size, _, _, he2, ?_, ?_, hde, by simp [hsz], ?_, hT, hT2, rfl, htl3⟩
    · rw [Obj.cls_mapFields]; exact hcls
    · rw [dict_mapFields]; exact hdict
    · cases q : B.get? g.objs.size with
      | none => rfl
      | some o =>
        have h2' : g.objs.size ∉ (env :: outer).filterMap (·.frame) := fun hm => by rw [(hfun.mem hm).1] at q; cases q
        exact absurd (Heap.lt_size ((hg.2.1 _ h2').trans (hB _ o q))) (Nat.lt_irrefl _)
  · intro b o hb hnf
    obtain ⟨sl, hs⟩ := hg.2.2 b o hb
    have h1 : b ≠ e := fun q => by rw [q, he] at hb; cases hb; exact hnf vs hd
    exact ⟨sl, other b _ h1 hs⟩
theorem note_first {B : Heap} {env : Env} {outer : List Env} {L e d : Addr} {oe : Obj} {vs : Array Value} {Q : Unit → Shared → Prop}
    (hfr : A.frames = some (env :: outer)) (hf : env.frame = some L) (hB : B.StaysIn s.heap) (heB : B.get? e = none) (hfun : s.heap.FunFrames B (env :: outer))
    (he : s.heap.get? e = some oe) (hcls : oe.cls = .ref 34) (hdict : oe.dict = some d) (hd : oe.data = .fields vs) (hv : vs[1]? = some .none)
    (hQ : ∀ h', B.StaysIn h' → h'.FunFrames B (env :: outer) → TracedF h' B e d (rawInt L) → s.heap.UpToSlots h' → Q () { s with heap := h' }) :
    wpAny M A (noteFrame (.ref e) env) Q E s := by
  unfold noteFrame
  simp only [hf]
  refine wpAny_bind (wpAny_field he hd hv ?_)
  rw [if_neg (by decide)]
  exact entry_F hfr hf hB heB hfun he hcls hdict hd (Array.getElem?_eq_some_iff.mp hv).1 hQ
theorem note_next {B : Heap} {env : Env} {outer : List Env} {L e d : Addr} {Q : Unit → Shared → Prop}
    (hfr : A.frames = some (env :: outer)) (hf : env.frame = some L) (hB : B.StaysIn s.heap) (heB : B.get? e = none) (hfun : s.heap.FunFrames B (env :: outer))
    (ht : TracedD s.heap B e d)
    (hQ : ∀ h', B.StaysIn h' → h'.FunFrames B (env :: outer) → TracedF h' B e d (rawInt L) → s.heap.UpToSlots h' → Q () { s with heap := h' }) :
    wpAny M A (noteFrame (.ref e) env) Q E s := by
  obtain ⟨oe, vs, T, oT, ts, he, hcls, hdict, hd, hv, hTB, hTe, hT, hdT, h3⟩ := ht
  unfold noteFrame
  simp only [hf]
  refine wpAny_bind (wpAny_field he hd hv ?_)
  rw [if_pos (show (Value.ref T != Value.none) = true from by simp)]
  refine wpAny_bind (wpAny_field hT hdT h3 ?_)
  rw [if_neg (show ¬ ((Value.none == rawInt L) = true) from by simp [rawInt])]
  refine wpAny_bind (wpAny_setField hT hdT (Array.getElem?_eq_some_iff.mp h3).1 ?_)
  have other : ∀ b, b ≠ T → (s.heap.update T (Obj.mapFields (·.setIfInBounds 3 Value.none))).get? b = s.heap.get? b := fun b hb => Heap.get?_update_other _ _ (Ne.symm hb)
  have nT : ∀ b o, s.heap.get? b = some o → (∀ vs, o.data ≠ .fields vs) → b ≠ T := fun b o hb hnf q => by
    rw [q, hT] at hb; cases hb; exact hnf ts hdT
  refine entry_F hfr hf (fun b o hb => (other b fun q => by rw [q, hTB] at hb; cases hb).trans (hB b o hb)) heB (hfun.of_keeps fun b o hb hnf => ⟨o, (other b (nT b o hb hnf)).trans hb, rfl⟩)
    ((other e (Ne.symm hTe)).trans he) hcls hdict hd (Array.getElem?_eq_some_iff.mp hv).1 fun h' x1 x2 x3 x4 => hQ h' x1 x2 x3 fun b o hb hnf => x4 b o ((other b (nT b o hb hnf)).trans hb) hnf
/-- noted already: nothing is done -/
theorem note_same {B : Heap} {env : Env} {L e d : Addr} {Q : Unit → Shared → Prop} (hf : env.frame = some L) (ht : TracedF s.heap B e d (rawInt L)) (hQ : Q () s) : wpAny M A (noteFrame (.ref e) env) Q E s := by
  obtain ⟨oe, vs, T, oT, ts, he, hcls, hdict, hd, hv, hTB, hTe, hT, hdT, h3⟩ := ht
  unfold noteFrame
  simp only [hf]
  refine wpAny_bind (wpAny_field he hd hv ?_)
  rw [if_pos (show (Value.ref T != Value.none) = true from by simp)]
  refine wpAny_bind (wpAny_field hT hdT h3 ?_)
  rw [if_pos (show (rawInt L == rawInt L) = true from by simp)]
  exact wpAny_pure hQ
/-- the mark of where it is on its way is set -/
theorem flight_set {B : Heap} {l : List Env} {e d : Addr} {fl : Value} {fr : Option Addr} {Q : Unit → Shared → Prop} (hB : B.StaysIn s.heap) (heB : B.get? e = none) (hfun : s.heap.FunFrames B l) (ht : TracedF s.heap B e d fl)
    (hQ : ∀ h', B.StaysIn h' → h'.FunFrames B l → TracedF h' B e d (fr.elim .none fun f => rawInt f) → s.heap.UpToSlots h' → Q () { s with heap := h' }) : wpAny M A (setFlight (.ref e) fr) Q E s := by
  obtain ⟨oe, vs, T, oT, ts, he, hcls, hdict, hd, hv, hTB, hTe, hT, hdT, h3⟩ := ht
  unfold setFlight
  refine wpAny_bind (wpAny_field he hd hv ?_)
  rw [if_pos (show (Value.ref T != Value.none) = true from by simp)]
  have h3' := (Array.getElem?_eq_some_iff.mp h3).1
  have nT : ∀ b o, s.heap.get? b = some o → (∀ vs, o.data ≠ .fields vs) → b ≠ T := fun b o hb hnf q => by
    rw [q, hT] at hb; cases hb; exact hnf ts hdT
  refine wpAny_setField hT hdT h3' ?_
  have other : ∀ b, b ≠ T → (s.heap.update T (Obj.mapFields (·.setIfInBounds 3 (fr.elim .none fun f => rawInt f)))).get? b = s.heap.get? b := fun b hb => Heap.get?_update_other _ _ (Ne.symm hb)
  refine hQ _ (fun b o hb => (other b fun q => by rw [q, hTB] at hb; cases hb).trans (hB b o hb)) (hfun.of_keeps fun b o hb hnf => ⟨o, (other b (nT b o hb hnf)).trans hb, rfl⟩)
    ⟨oe, vs, T, _, _, (other e (Ne.symm hTe)).trans he, hcls, hdict, hd, hv, hTB, hTe, Heap.get?_update_self _ hT (Obj.isFreed_of_fields (Obj.data_mapFields hdT _)), Obj.data_mapFields hdT _, by simp [h3']⟩
    fun b o hb hnf => ⟨o.slots, (other b (nT b o hb hnf)).trans hb⟩
end
section
variable {M : Model} {A : Around} {E : Value → Shared → Prop} {s' : Shared} {base g g₂ h : Heap} {outer : List Env} {L a e : Addr} {m : Str → Option Value} {name : Str} {scope : Scope} {cd : Value} {Q : Unit → Shared → Prop} {news : List (Addr × Obj)} {code : Str}
/-- just made, then noted in its own frame -/
theorem note_made {env : Env} (K : Below A base outer g) (hA : (A.deeper env).frames = some (env :: outer)) (hfE : env.frame = some L) (hkE : env.scope.kind = .function) (hx : MadeD h s'.heap e code) (F : Fr g L h m) (N : News g L h news)
    (hQ : ∀ h', RaisedF base (hideAll h (news.map (·.1))) (env :: outer) e code news (rawInt L) h' → (hideAll h (news.map (·.1))).UpToSlots h' → Q () { s' with heap := h' }) :
    wpAny M (A.deeper env) (noteFrame (.ref e) env) Q E s' := by
  obtain ⟨FG, BG, stG, _⟩ := groundX (s := { s' with heap := h }) (R := fun _ _ => True) K F N hA hfE hkE
  have fr := BG.frames
  obtain ⟨oe, vs, d, he, hcls, hdict, hd, hv, hdn, hde, hcode⟩ := hx.obj
  have inh : ∀ b o, (hideAll h (news.map (·.1))).get? b = some o → h.get? b = some o := fun b o q => of_hideAll _ q
  have frh : ∀ b ∈ (env :: outer).filterMap (·.frame), ∃ o, h.get? b = some o ∧ ∀ vs, o.data ≠ .fields vs := fun b hb => by
    obtain ⟨o, ho, hn⟩ := (fr.mem hb).2
    exact ⟨o, inh b o ho, hn⟩
  let fs := e :: (env :: outer).filterMap (·.frame)
  have stB : ∀ b o, h.get? b = some o → b ∉ (env :: outer).filterMap (·.frame) → (hideAll s'.heap fs).get? b = some o := fun b o hb nm => by
    refine hideAll_get _ (hx.keep b o hb) fun hm => ?_
    rcases List.mem_cons.mp hm with q | q
    · rw [q, hx.new] at hb; cases hb
    · exact nm q
  have fr2 : s'.heap.FunFrames (hideAll s'.heap fs) (env :: outer) := by
    have : ∀ l : List Env, (∀ env ∈ l, ∀ b, env.frame = some b → b ∈ fs) → (hideAll h (news.map (·.1))).FunFrames base l → s'.heap.FunFrames (hideAll s'.heap fs) l := by
      intro l
      induction l with
      | nil => intro _ _; trivial
      | cons env r ih =>
        rintro hm ⟨hk, ⟨L, o, hf, hn, ho, hd⟩, hr⟩
        exact ⟨hk, ⟨L, o, hf, hideAll_none _ (hm env (.head _) L hf), hx.keep L o (inh L o ho), hd⟩, ih (fun env' he' => hm env' (.tail _ he')) hr⟩
    exact this _ (fun env' he b hb => .tail _ (List.mem_filterMap.mpr ⟨env', he, hb⟩)) fr
  have hdf : d ∉ (env :: outer).filterMap (·.frame) := fun hm => by
    obtain ⟨o, ho, _⟩ := frh d hm; rw [hdn] at ho; cases ho
  refine note_first (B := hideAll s'.heap fs) hA hfE (fun b o q => of_hideAll _ q) (hideAll_none _ (.head _)) fr2 he hcls hdict hd hv fun h' x1 x2 x3 x4 => ?_
  refine hQ h' ⟨_, d, ?_, fun b o q nm => stB b o (inh b o q) nm, fun q hq => ⟨?_, hideAll_none _ (List.mem_map_of_mem hq), ?_⟩, x1, hideAll_none _ (.head _), x2, x3, ?_⟩
    ((Heap.UpToSlots.of_keeps inh).trans ((Heap.UpToSlots.of_keeps hx.keep).trans x4))
  · intro b o q
    refine stB b o (inh b o (BG.stays b o q)) fun hm => ?_
    rw [(fr.mem hm).1] at q; cases q
  · refine stB _ _ (N q hq).1 fun hm => ?_
    obtain ⟨o, ho, _⟩ := (fr.mem hm).2
    rw [hideAll_none _ (List.mem_map_of_mem hq)] at ho; cases ho
  · exact fresh_of_stays K.stays (N q hq).2.2
  · obtain ⟨mA, t, h1, h2⟩ := hcode
    refine ⟨mA, t, h1.at fun o ho => hideAll_get _ ho fun hm => ?_, h2⟩
    rcases List.mem_cons.mp hm with q | q
    · exact hde q
    · exact hdf q
theorem note_fly {env : Env} (hA : A.frames = some (env :: outer)) (hfE : env.frame = some L) (R : RaisedD base g₂ (env :: outer) e code news s'.heap)
    (hQ : ∀ h', RaisedF base g₂ (env :: outer) e code news (rawInt L) h' → s'.heap.UpToSlots h' → Q () { s' with heap := h' }) : wpAny M A (noteFrame (.ref e) env) Q E s' := by
  obtain ⟨B, d, hB, hBG, hl, r1, r2, r3, r4, r5⟩ := R.ex
  exact note_next hA hfE r1 r2 r3 r4 fun h' x1 x2 x3 x4 => hQ h' ⟨B, d, hB, hBG, hl, x1, r2, x2, x3, r5⟩ x4
theorem leave_noted (K : Below A base outer g) (F : Fr g L g₂ m) (R : RaisedF base g₂ (envOf name scope L a cd :: outer) e code news (rawInt L) s'.heap) (hsm : g₂.UpToSlots s'.heap)
    (hQ : ∀ h', RaisedD base g outer e code news h' → g.UpToSlots h' → Q () { s' with heap := h' }) :
    wpAny M (A.deeper (envOf name scope L a cd)) (leaving (envOf name scope L a cd) (.ref e)) Q E s' := by
  obtain ⟨B, d, hB, hBG, hl, r1, r2, r3, r4, r5⟩ := R.ex
  unfold leaving
  refine wpAny_bind (note_same (env := envOf name scope L a cd) rfl r4 ?_)
  refine flight_set (fr := none) r1 r2 r3 r4 fun h' x1 x2 x3 x4 => ?_
  exact hQ h' ⟨B, d, hB, fun b o q nm => hBG b o (F.keep b o q) fun hm => by
      rcases kts_mem hm with z | z
      · rw [z, kts_self F] at q; cases q
      · exact nm z,
    fun q hq => ⟨(hl q hq).1, kts_none F.keep (hl q hq).2.1, (hl q hq).2.2⟩, x1, r2, x2.2.2, x3, r5⟩ ((Heap.UpToSlots.of_keeps F.keep).trans (hsm.trans x4))
end
end Mine
end
section
open PySem PySem.W PyProof.Rows PySem.Calls PySem.Spec
set_option maxRecDepth 100000
set_option linter.unusedVariables false
namespace Mine
noncomputable def KF (P : Params) : Frag := [(0, o0 P), (1, o1 P), (2, o2 P), (3, o3 P), (4, o4 P), (5, o5 P), (6, o6 P), (7, o7 P), (8, o8 P), (9, o9 P), (10, o10 P), (11, o11 P), (12, o12 P), (13, o13 P), (14, o14 P), (15, o15 P), (16, o16 P), (17, o17 P), (18, o18 P), (19, o19 P), (20, o20 P), (21, o21 P), (22, o22 P), (23, o23 P), (24, o24 P), (25, o25 P), (26, o26 P), (27, o27 P), (28, o28 P), (29, o29 P), (30, o30 P), (31, o31 P), (32, o32 P), (33, o33 P), (34, o34 P), (35, o35 P), (36, o36 P), (37, o37 P), (38, o38 P), (39, o39 P), (40, o40 P), (41, o41 P), (42, o42 P), (43, o43 P), (44, o44 P), (45, o45 P), (46, o46 P), (47, o47 P), (48, o48 P), (49, o49 P), (50, o50 P), (51, o51 P), (52, o52 P), (53, o53 P), (54, o54 P), (55, o55 P), (56, o56 P), (57, o57 P), (58, o58 P), (59, o59 P), (60, o60 P), (61, o61 P), (62, o62 P), (63, o63 P), (64, o64 P), (65, o65 P), (66, o66 P), (67, o67 P), (68, o68 P), (69, o69 P), (70, o70 P), (71, o71 P), (72, o72 P), (73, o73 P), (74, o74 P), (75, o75 P), (76, o76 P), (77, o77 P), (78, o78 P), (79, o79 P), (80, o80 P), (81, o81 P), (82, o82 P), (83, o83 P), (84, o84 P), (85, o85 P), (86, o86 P), (87, o87 P), (88, o88 P), (89, o89 P), (90, o90 P), (91, o91 P), (92, o92 P), (93, o93 P), (94, o94 P), (95, o95 P), (96, o96 P), (97, o97 P), (98, o98 P), (99, o99 P), (100, o100 P), (101, o101 P), (102, o102 P), (103, o103 P), (104, o104 P), (105, o105 P), (106, o106 P), (107, o107 P), (108, o108 P), (109, o109 P), (110, o110 P), (111, o111 P), (112, o112 P), (113, o113 P), (114, o114 P), (115, o115 P), (116, o116 P), (117, o117 P), (118, o118 P), (119, o119 P), (120, o120 P), (121, o121 P), (122, o122 P), (123, o123 P), (124, o124 P), (125, o125 P), (126, o126 P), (127, o127 P), (128, o128 P), (129, o129 P), (130, o130 P), (131, o131 P), (132, o132 P), (133, o133 P), (134, o134 P), (135, o135 P), (136, o136 P), (137, o137 P), (138, o138 P), (139, o139 P), (140, o140 P), (141, o141 P), (142, o142 P), (143, o143 P), (144, o144 P), (145, o145 P), (146, o146 P), (147, o147 P), (148, o148 P), (149, o149 P), (150, o150 P), (151, o151 P), (152, o152 P), (153, o153 P), (154, o154 P), (155, o155 P), (156, o156 P), (157, o157 P), (158, o158 P), (159, o159 P), (160, o160 P), (161, o161 P), (162, o162 P), (163, o163 P), (164, o164 P), (165, o165 P), (166, o166 P), (167, o167 P), (168, o168 P), (169, o169 P), (170, o170 P), (171, o171 P), (172, o172 P), (173, o173 P), (174, o174 P), (175, o175 P), (176, o176 P), (177, o177 P), (178, o178 P), (179, o179 P), (180, o180 P), (181, o181 P), (182, o182 P), (183, o183 P), (184, o184 P), (185, o185 P), (186, o186 P), (187, o187 P), (188, o188 P), (189, o189 P), (190, o190 P), (191, o191 P), (192, o192 P), (193, o193 P), (194, o194 P), (195, o195 P), (196, o196 P), (197, o197 P), (198, o198 P), (199, o199 P), (200, o200 P), (201, o201 P), (202, o202 P), (203, o203 P), (204, o204 P), (205, o205 P), (206, o206 P), (207, o207 P), (208, o208 P), (209, o209 P), (210, o210 P), (211, o211 P), (212, o212 P), (213, o213 P), (214, o214 P), (215, o215 P), (216, o216 P), (217, o217 P), (218, o218 P), (219, o219 P), (220, o220 P), (221, o221 P), (222, o222 P), (223, o223 P), (224, o224 P), (225, o225 P), (226, o226 P), (227, o227 P), (228, o228 P), (229, o229 P), (230, o230 P), (231, o231 P), (232, o232 P), (233, o233 P), (234, o234 P), (235, o235 P), (236, o236 P), (237, o237 P), (238, o238 P), (239, o239 P), (240, o240 P), (241, o241 P), (242, o242 P), (243, o243 P), (244, o244 P), (245, o245 P), (246, o246 P), (247, o247 P), (248, o248 P), (249, o249 P), (250, o250 P), (251, o251 P), (252, o252 P), (253, o253 P), (254, o254 P), (255, o255 P), (256, o256 P), (257, o257 P), (258, o258 P), (259, o259 P), (260, o260 P), (261, o261 P), (262, o262 P), (263, o263 P), (264, o264 P), (265, o265 P), (266, o266 P), (267, o267 P), (268, o268 P), (269, o269 P), (270, o270 P), (271, o271 P), (272, o272 P), (273, o273 P), (274, o274 P), (275, o275 P), (276, o276 P), (277, o277 P), (278, o278 P), (279, o279 P), (280, o280 P), (281, o281 P), (282, o282 P), (283, o283 P), (284, o284 P), (285, o285 P), (286, o286 P), (287, o287 P), (288, o288 P), (289, o289 P), (290, o290 P), (291, o291 P), (292, o292 P), (293, o293 P), (294, o294 P), (295, o295 P), (296, o296 P), (297, o297 P), (298, o298 P), (299, o299 P), (300, o300 P), (301, o301 P), (302, o302 P), (303, o303 P), (304, o304 P), (305, o305 P), (306, o306 P), (307, o307 P), (308, o308 P), (309, o309 P), (310, o310 P), (311, o311 P), (312, o312 P), (313, o313 P), (314, o314 P), (315, o315 P), (316, o316 P), (317, o317 P), (318, o318 P), (319, o319 P), (320, o320 P), (321, o321 P), (322, o322 P), (323, o323 P), (324, o324 P), (325, o325 P), (326, o326 P), (327, o327 P), (328, o328 P), (329, o329 P), (330, o330 P), (331, o331 P), (332, o332 P), (333, o333 P), (334, o334 P), (335, o335 P), (336, o336 P), (337, o337 P), (338, o338 P), (339, o339 P), (340, o340 P), (341, o341 P), (342, o342 P), (343, o343 P), (344, o344 P), (345, o345 P), (346, o346 P), (347, o347 P), (348, o348 P), (349, o349 P), (350, o350 P), (351, o351 P), (352, o352 P), (353, o353 P), (354, o354 P), (355, o355 P), (356, o356 P), (357, o357 P), (358, o358 P), (359, o359 P), (360, o360 P), (361, o361 P), (362, o362 P), (363, o363 P), (364, o364 P), (365, o365 P), (366, o366 P), (367, o367 P), (368, o368 P), (369, o369 P), (370, o370 P), (371, o371 P), (372, o372 P), (373, o373 P), (374, o374 P), (375, o375 P), (376, o376 P), (377, o377 P), (378, o378 P), (379, o379 P), (380, o380 P), (381, o381 P), (382, o382 P), (383, o383 P), (384, o384 P), (385, o385 P), (386, o386 P), (387, o387 P), (388, o388 P), (389, o389 P), (390, o390 P), (391, o391 P), (392, o392 P), (393, o393 P), (394, o394 P), (395, o395 P), (396, o396 P), (397, o397 P), (398, o398 P), (399, o399 P), (400, o400 P), (401, o401 P), (402, o402 P), (403, o403 P), (404, o404 P), (405, o405 P), (406, o406 P), (407, o407 P), (408, o408 P), (409, o409 P), (410, o410 P), (411, o411 P), (412, o412 P), (413, o413 P), (414, o414 P), (415, o415 P), (416, o416 P), (417, o417 P), (418, o418 P), (419, o419 P), (420, o420 P), (421, o421 P), (422, o422 P), (423, o423 P), (424, o424 P), (425, o425 P), (426, o426 P), (427, o427 P), (428, o428 P), (429, o429 P), (430, o430 P), (431, o431 P), (432, o432 P), (433, o433 P), (434, o434 P), (435, o435 P), (436, o436 P), (437, o437 P), (438, o438 P), (439, o439 P), (440, o440 P), (441, o441 P), (442, o442 P), (443, o443 P), (444, o444 P), (445, o445 P), (446, o446 P), (447, o447 P)]
noncomputable def view : Program := { pw with main := { pw.main with body := keepIdx.filterMap fun i => pw.main.body[i]? } }
where keepIdx : List Nat := [1, 2, 3, 4, 5, 6, 7, 8, 9, 10, 11, 12, 13, 15, 16, 17, 18, 19, 20, 21, 22, 23, 24, 25, 26, 28, 29, 30, 31, 32, 33, 34, 35, 36, 37, 38, 39, 40, 42, 44, 45, 46, 47, 48, 49, 50, 51, 52, 53, 55, 57, 58, 59, 60, 61, 62, 63, 64, 65]
noncomputable abbrev loose : List Str := [Str.ofString "BasicError"]
structure Amb where
  mean : ExcName → Option Value
  mg : Str → Option Value
  mb : Str → Option Value
  A : Around
  A₀ : Around
  outer : List Env
  base : Heap
  h₀ : Heap
  L : Addr
  sc : Scope
  qual : Str
  a : Addr
  cd : Value
noncomputable abbrev Amb.env (x : Amb) : Env := envOf x.qual x.sc x.L x.a x.cd
structure Amb.Ok (w : World) (x : Amb) (n : Nat) : Prop where
  B : Below x.A₀ x.base x.outer x.h₀
  A : x.A = x.A₀.deeper x.env
  X : (KF w.params).In x.h₀
  T : Top view (looseW view loose) x.mean x.mg x.mb x.h₀
  hh : x.A.handled = none
  dp : x.A.depth + n < recursionLimit
  un : x.A.units + 8 * n + 200 < cLine
  kind : x.sc.kind = .function
  gd : x.A.guards = some []
theorem Amb.Ok.less {w : World} {x : Amb} {n k : Nat} (h : x.Ok w n) (l : k ≤ n) : x.Ok w k := ⟨h.B, h.A, h.X, h.T, h.hh, by have := h.dp; omega, by have := h.un; omega, h.kind, h.gd⟩
theorem Amb.Ok.frames {w : World} {x : Amb} {n : Nat} (h : x.Ok w n) : x.A.frames = some (x.env :: x.outer) := by
  rw [h.A]; exact Around.frames_deeper h.B.stack
inductive XR (x : Amb) (code : Str) (c : Cfg) (e : Addr) (h' : Heap) : Prop
  | made {h : Heap} : Fr x.h₀ x.L h c.mc → News x.h₀ x.L h c.all → MadeD h h' e code → XR x code c e h'
  | fly {g : Heap} : Fr x.h₀ x.L g c.mc → RaisedD x.base g (x.env :: x.outer) e code c.all h' → g.UpToSlots h' → XR x code c e h'
  | noted {g : Heap} : Fr x.h₀ x.L g c.mc → RaisedF x.base g (x.env :: x.outer) e code c.all (rawInt x.L) h' → g.UpToSlots h' → XR x code c e h'
/-- what is noted in its own frame -/
structure XN (x : Amb) (code : Str) (c : Cfg) (e : Addr) (h' : Heap) : Prop where
  ex : ∃ g, Fr x.h₀ x.L g c.mc ∧ RaisedF x.base g (x.env :: x.outer) e code c.all (rawInt x.L) h' ∧ g.UpToSlots h'
theorem XN.xr {x : Amb} {code : Str} {c : Cfg} {e : Addr} {h' : Heap} (h : XN x code c e h') : XR x code c e h' := let ⟨g, a, b, d⟩ := h.ex; .noted a b d
theorem note_xr {w : World} {x : Amb} {n : Nat} {code : Str} {c : Cfg} {e : Addr} {s' : Shared} {M : Model} {Q : Unit → Shared → Prop} {E : Value → Shared → Prop} (O : x.Ok w n) (h : XR x code c e s'.heap)
    (hQ : ∀ h', XN x code c e h' → Q () { s' with heap := h' }) : wpAny M x.A (noteFrame (.ref e) x.env) Q E s' := by
  have hA := O.frames
  rw [O.A] at hA
  cases h with
  | made F N MD =>
    rw [O.A]
    refine note_made O.B hA rfl O.kind MD F N fun h' R up => hQ h' ⟨_, ?_, R, up⟩
    rename_i h
    exact (groundX (s := { s' with heap := h }) (R := fun _ _ => True) O.B F N hA rfl O.kind).1
  | fly F R up => exact note_fly O.frames rfl R fun h' R' up' => hQ h' ⟨_, F, R', up.trans up'⟩
  | noted F R up =>
    obtain ⟨B, d, hB, hBG, hl, r1, r2, r3, r4, r5⟩ := id R.ex
    exact note_same rfl r4 (hQ s'.heap ⟨_, F, R, up⟩)
theorem came_xn {w : World} {x : Amb} {n : Nat} {code : Str} {c : Cfg} {e : Addr} {s' : Shared} {M : Model} {E : Value → Shared → Prop} (O : x.Ok w n) (h : XN x code c e s'.heap)
    (hE : ∀ h', XN x code c e h' → E (.ref e) { s' with heap := h' }) : cameBackBy M x.A x.env E (.ref e) s' := by
  obtain ⟨g, F, R, up⟩ := h.ex
  obtain ⟨B, d, hB, hBG, hl, r1, r2, r3, r4, r5⟩ := id R.ex
  obtain ⟨oe, vs, T, oT, ts, he, hcls, hdict, hd, hv, hTB, hTe, hT, hdT, h3⟩ := id r4
  unfold cameBackBy
  refine wpAny_bind (wpAny_field he hd hv ?_)
  rw [if_neg (show ¬ ((Value.ref T == Value.none) = true) from by simp)]
  first
    | exact flight_set r1 r2 r3 r4 fun h' x1 x2 x3 x4 => hE h' ⟨g, F, ⟨B, d, hB, hBG, hl, x1, r2, x2, x3, r5⟩, up.trans x4⟩
    | exact wpAny_bind (wpAny_pure (flight_set r1 r2 r3 r4 fun h' x1 x2 x3 x4 => hE h' ⟨g, F, ⟨B, d, hB, hBG, hl, x1, r2, x2, x3, r5⟩, up.trans x4⟩))
noncomputable abbrev PostE (w : World) (x : Amb) (m : Loc) (c : Cfg) (s : Shared) (Q : Value → Shared → Prop) (v : V) (σ : Sto) : Prop :=
  ∀ val c' h' tk', SR w x.h₀ x.L m σ c' h' → Grow c c' → c'.mc = c.mc → RV w c' v val → Q val { s with heap := h', toks := tk' }
noncomputable abbrev PostX (x : Amb) (c : Cfg) (s : Shared) (E : Value → Shared → Prop) (code : Str) (σ : Sto) : Prop :=
  ∀ e c' h' tk', Grow c c' → c'.mc = c.mc → MuR c' σ → XR x code c' e h' → E (.ref e) { s with heap := h', toks := tk' }
section
variable {w : World} {x : Amb} {n : Nat} {m : Loc} {σ : Sto} {c : Cfg} {s : Shared} {Q : Value → Shared → Prop} {E : Value → Shared → Prop}
theorem datD {fz : List (Addr × Obj)} {v : Value} {i : Int} (h : DatIn fz v (.int i)) : ∃ t, v = .int i t := by cases h; exact ⟨_, rfl⟩
theorem datS {fz : List (Addr × Obj)} {v : Value} {i : Str} (h : DatIn fz v (.str i)) : ∃ t, v = .str i t := by cases h; exact ⟨_, rfl⟩
theorem datB {fz : List (Addr × Obj)} {v : Value} {i : Bool} (h : DatIn fz v (.bool i)) : v = .bool i := by cases h; rfl
theorem datL {fz : List (Addr × Obj)} {v : Value} {l : List Dat} (h : DatIn fz v (.list l)) : ∃ a vs k, v = .ref a ∧ (a, listOf vs.toArray k) ∈ fz ∧ DatAll fz vs l := by cases h with | list h1 h2 => exact ⟨_, _, _, rfl, h1, h2⟩
theorem datT {fz : List (Addr × Obj)} {v : Value} {l : List Dat} (h : DatIn fz v (.tuple l)) : ∃ a vs k, v = .ref a ∧ (a, ({ cls := .type "tuple", data := .seq vs.toArray k } : Obj)) ∈ fz ∧ DatAll fz vs l := by cases h with | tuple h1 h2 => exact ⟨_, _, _, rfl, h1, h2⟩
theorem SR.memF (S : SR w x.h₀ x.L m σ c s.heap) {p : Addr × Obj} (h : p ∈ c.fz) : p ∈ c.all := List.mem_append.mpr (.inr (List.mem_append.mpr (.inl h)))
theorem postV (S : SR w x.h₀ x.L m σ c s.heap) {v : V} {val : Value} {tk : Nat} (P : PostE w x m c s Q v σ) (h : RV w c v val) : Q val { s with toks := tk } :=
  P val c s.heap tk S (Grow.refl c) rfl h
/-- a new frozen list -/
theorem push_list {h' : Heap} (S : SR w x.h₀ x.L m σ c s.heap) {l : Addr} {vals : List Value} {k : Nat} {ds : List Dat} (hd : DatAll c.fz vals ds) (F : Fr x.h₀ x.L h' c.mc) (N : News x.h₀ x.L h' ((l, listOf vals.toArray k) :: c.all)) (hl : ∀ p ∈ c.all, p.1 ≠ l) :
    SR w x.h₀ x.L m σ (c.frozen (l, listOf vals.toArray k)) h' ∧ RV w (c.frozen (l, listOf vals.toArray k)) (.d (.list ds)) (.ref l) := by
  refine ⟨⟨F, fun p hp => N p ?_, S.lo.grow rfl (grow_frozen _ _), S.st.frozen hl⟩, DatIn.list (.head _) (hd.mono fun _ h => .tail _ h)⟩
  rcases List.mem_append.mp hp with hp | hp
  · exact .tail _ (List.mem_append.mpr (.inl hp))
  · rcases List.mem_cons.mp hp with rfl | hp
    · exact .head _
    · exact .tail _ (List.mem_append.mpr (.inr hp))
theorem push_tup {h' : Heap} (S : SR w x.h₀ x.L m σ c s.heap) {l : Addr} {vals : List Value} {k : Nat} {ds : List Dat} (hd : DatAll c.fz vals ds) (F : Fr x.h₀ x.L h' c.mc) (N : News x.h₀ x.L h' ((l, ({ cls := .type "tuple", data := .seq vals.toArray k } : Obj)) :: c.all)) (hl : ∀ p ∈ c.all, p.1 ≠ l) :
    SR w x.h₀ x.L m σ (c.frozen (l, ({ cls := .type "tuple", data := .seq vals.toArray k } : Obj))) h' ∧ RV w (c.frozen (l, ({ cls := .type "tuple", data := .seq vals.toArray k } : Obj))) (.d (.tuple ds)) (.ref l) := by
  refine ⟨⟨F, fun p hp => N p ?_, S.lo.grow rfl (grow_frozen _ _), S.st.frozen hl⟩, DatIn.tuple (.head _) (hd.mono fun _ h => .tail _ h)⟩
  rcases List.mem_append.mp hp with hp | hp
  · exact .tail _ (List.mem_append.mpr (.inl hp))
  · rcases List.mem_cons.mp hp with rfl | hp
    · exact .head _
    · exact .tail _ (List.mem_append.mpr (.inr hp))
theorem push_mut {h' : Heap} (S : SR w x.h₀ x.L m σ c s.heap) {l : Addr} {vals : List Value} {k : Nat} {ds : List Dat} (hd : DatAll c.fz vals ds) (F : Fr x.h₀ x.L h' c.mc) (N : News x.h₀ x.L h' ((l, listOf vals.toArray k) :: c.all)) (hl : ∀ p ∈ c.all, p.1 ≠ l) :
    SR w x.h₀ x.L m (σ ++ [ds]) (c.made (l, listOf vals.toArray k)) h' ∧ RV w (c.made (l, listOf vals.toArray k)) (.loc σ.length) (.ref l) := by
  refine ⟨⟨F, fun p hp => N p ?_, S.lo.grow rfl (grow_made _ _), S.st.made hd hl⟩, l, listOf vals.toArray k, ?_, rfl⟩
  · rcases List.mem_append.mp hp with hp | hp
    · rcases List.mem_append.mp hp with hp | hp
      · exact .tail _ (List.mem_append.mpr (.inl hp))
      · rw [List.mem_singleton.mp hp]; exact .head _
    · exact .tail _ (List.mem_append.mpr (.inr hp))
  · show (c.mu ++ [_])[σ.length]? = _
    rw [← S.st.len, List.getElem?_append_right (Nat.le_refl _), Nat.sub_self]; rfl
theorem size_ne (N : News x.h₀ x.L s.heap c.all) : ∀ p ∈ c.all, p.1 ≠ s.heap.objs.size := fun p hp => Nat.ne_of_lt (Heap.lt_size (N p hp).1)
theorem sizeLine_ge {k : Nat} (h : k ≤ 16384) : k ≤ sizeLine := by rw [sizeLine_eq]; omega
theorem mulOk_small {a b : Int} (h : a.natAbs ≤ 4294967295) : IntMulOk a b := by
  unfold IntMulOk
  intro q
  simp only [Bool.and_eq_true, decide_eq_true_eq] at q
  have q1 := q.1.1
  unfold Builtin.Int.intBits at q1
  simp only [shortFactorBits] at q1
  split at q1
  · simp at q1
  · have : a.natAbs.log2 < 32 := by
      rw [Nat.log2_lt (by intro z; simp_all)]
      omega
    omega
theorem noPylong {a b : Int} (h : b.natAbs ≤ 1073741823) : Builtin.divisionGoesByPylong a b = false := by
  unfold Builtin.divisionGoesByPylong
  have : ¬ ((if (b == 0) = true then 0 else b.natAbs.log2 / 30 + 1) > 300) := by
    split
    · omega
    · have : b.natAbs.log2 < 30 := by
        rw [Nat.log2_lt (by intro z; simp_all)]
        omega
      omega
  simp only [this, decide_false, Bool.false_and]
theorem bop_sound {op : Operator} {a b : V} {va vb : Value} {K : V → Prop} (O : x.Ok w n) (S : SR w x.h₀ x.L m σ c s.heap) (ha : RV w c a va) (hb : RV w c b vb) (h : bop op a b K) (P : ∀ v, K v → PostE w x m c s Q v σ) :
    wpAny (model pw w) x.A (binaryOp op va vb) Q E s := by
  unfold bop at h
  split at h
  · split at h
    · obtain ⟨t, rfl⟩ := datD ha; obtain ⟨u, rfl⟩ := datD hb
      exact add_int (postV S (P _ h) (DatIn.int _ _))
    · obtain ⟨a, va, ka, rfl, ma, da⟩ := datL ha; obtain ⟨b, vb, kb, rfl, mb, db⟩ := datL hb
      obtain ⟨q, h⟩ := of_chk h
      simp only [Nat.ble_eq] at q
      refine add_arrays S.F S.N (News.isList S.N (S.memF ma)) (News.isList S.N (S.memF mb)) (fun h' F' N' => ?_) (by
        rw [List.size_toArray, List.size_toArray, PySem.W.DatAll.length da, PySem.W.DatAll.length db]; exact sizeLine_ge (by omega))
      obtain ⟨S', R'⟩ := push_list (k := 0) S (da.append db) F' N' (size_ne S.N)
      exact P _ h _ _ h' s.toks S' (grow_frozen _ _) rfl R'
    · obtain ⟨t, rfl⟩ := datS ha; obtain ⟨u, rfl⟩ := datS hb
      obtain ⟨q, h⟩ := of_chk h
      simp only [Nat.ble_eq] at q
      exact add_str (fun t' tk => P _ h _ c s.heap tk S (Grow.refl c) rfl (DatIn.str _ _)) (sizeLine_ge (by omega))
    · exact h.elim
  · split at h
    · obtain ⟨t, rfl⟩ := datD ha; obtain ⟨u, rfl⟩ := datD hb
      exact sub_int (postV S (P _ h) (DatIn.int _ _))
    · have e1 : va = .bool _ := ha; have e2 : vb = .bool _ := hb
      subst e1 e2
      exact sub_bool (postV S (P _ h) (DatIn.int _ _))
    · exact h.elim
  · split at h
    · obtain ⟨t, rfl⟩ := datD ha; obtain ⟨u, rfl⟩ := datD hb
      obtain ⟨q, h⟩ := of_chk h
      simp only [Bool.and_eq_true, Nat.ble_eq] at q
      exact mul_int (postV S (P _ h) (DatIn.int _ _)) (mulOk_small q.1)
    · obtain ⟨t, rfl⟩ := datS ha; obtain ⟨u, rfl⟩ := datD hb
      obtain ⟨q, h⟩ := of_chk h
      simp only [Bool.and_eq_true, beq_iff_eq] at q
      obtain ⟨rfl, q1⟩ := q
      replace q1 := Nat.eq_of_beq_eq_true q1
      refine SB.mul (mulOk_of 16 1048576 (by omega) (by omega) (by omega) (by decide) (by decide)) fun t' k => ?_
      exact P _ h _ c s.heap k S (Grow.refl c) rfl (DatIn.str _ _)
    · exact h.elim
  · split at h
    · obtain ⟨t, rfl⟩ := datD ha; obtain ⟨u, rfl⟩ := datD hb
      obtain ⟨q, h⟩ := of_chk h
      simp only [Bool.and_eq_true, Nat.ble_eq, Bool.not_eq_true', beq_eq_false_iff_ne] at q
      exact floordiv_int q.1.1 (postV S (P _ h) (DatIn.int _ _)) (.inl (noPylong q.2))
    · exact h.elim
  · split at h
    · obtain ⟨t, rfl⟩ := datD ha; obtain ⟨u, rfl⟩ := datD hb
      obtain ⟨q, h⟩ := of_chk h
      simp only [Bool.not_eq_true', beq_eq_false_iff_ne] at q
      exact mod_int' q (postV S (P _ h) (DatIn.int _ _))
    · exact h.elim
  · split at h
    · obtain ⟨t, rfl⟩ := datD ha; obtain ⟨u, rfl⟩ := datD hb
      obtain ⟨q, h⟩ := of_chk h
      simp only [Bool.and_eq_true, beq_iff_eq, decide_eq_true_eq] at q
      obtain ⟨⟨rfl, q1⟩, q2⟩ := q
      exact pow_int_small q1 (by omega) (by decide) (postV S (P _ h) (DatIn.int _ _))
    · exact h.elim
  · split at h
    · obtain ⟨t, rfl⟩ := datD ha; obtain ⟨u, rfl⟩ := datD hb
      obtain ⟨q, h⟩ := of_chk h
      simp only [Bool.and_eq_true, beq_iff_eq, decide_eq_true_eq] at q
      obtain ⟨⟨rfl, q1⟩, q2⟩ := q
      exact lshift_int_small q1 (by omega) (by decide) (postV S (P _ h) (DatIn.int _ _))
    · exact h.elim
  · split at h
    · obtain ⟨t, rfl⟩ := datD ha; obtain ⟨u, rfl⟩ := datD hb
      exact and_int (postV S (P _ h) (DatIn.int _ _))
    · exact h.elim
  · split at h
    · obtain ⟨t, rfl⟩ := datD ha; obtain ⟨u, rfl⟩ := datD hb
      exact or_int (postV S (P _ h) (DatIn.int _ _))
    · exact h.elim
  · split at h
    · obtain ⟨t, rfl⟩ := datD ha; obtain ⟨u, rfl⟩ := datD hb
      exact xor_int (postV S (P _ h) (DatIn.int _ _))
    · exact h.elim
  · exact h.elim

theorem strsAre {fz : List (Addr × Obj)} {l : List Dat} : ∀ {vs : List Value} {ys : List Str}, DatAll fz vs l → strsOf l = some ys → StrsAre vs ys := by
  induction l with
  | nil => intro vs ys h e; cases h; cases e; exact .nil
  | cons d l ih =>
    intro vs ys h e
    cases h with
    | cons h r =>
      cases d with
      | str y =>
        unfold strsOf at e
        split at e
        · cases e; obtain ⟨t, rfl⟩ := datS h; exact .cons y t (ih r (by assumption))
        · cases e
      | _ => cases e
theorem intsAre {fz : List (Addr × Obj)} {l : List Dat} : ∀ {vs : List Value} {ys : List Int}, DatAll fz vs l → intsOf l = some ys → IntsAre vs ys := by
  induction l with
  | nil => intro vs ys h e; cases h; cases e; exact .nil
  | cons d l ih =>
    intro vs ys h e
    cases h with
    | cons h r =>
      cases d with
      | int y =>
        unfold intsOf at e
        split at e
        · cases e; obtain ⟨t, rfl⟩ := datD h; exact .cons y t (ih r (by assumption))
        · cases e
      | _ => cases e
theorem ktTup {v : Value} {a : Addr} {l : List Str} (X : (KF w.params).In x.h₀) (F : Fr x.h₀ x.L s.heap c.mc) (h : RV w c (.kt a l) v) : ∃ items : Array Value, v = .ref a ∧ IsTup s.heap a items ∧ StrsAre items.toList l := by
  obtain ⟨rfl, h⟩ := h
  rcases h with ⟨rfl, rfl⟩ | ⟨rfl, rfl⟩
  · refine ⟨_, rfl, ⟨_, F.keep _ _ (X 277 (o277 w.params) (by kernel_rfl)), rfl, _, rfl⟩, ?_⟩
    exact .cons _ _ (.cons _ _ (.cons _ _ (.cons _ _ (.cons _ _ .nil))))
  · refine ⟨_, rfl, ⟨_, F.keep _ _ (X 278 (o278 w.params) (by kernel_rfl)), rfl, _, rfl⟩, ?_⟩
    exact .cons _ _ (.cons _ _ (.cons _ _ (.cons _ _ (.cons _ _ (.cons _ _ .nil)))))
/-- what the book answers: said by its owner, shown where it is made -/
structure BookRules (w : World) : Prop where
  isIn : ∀ {x : Amb} {n : Nat} {m : Loc} {σ : Sto} {c : Cfg} {s : Shared} {Q E : Value → Shared → Prop} {k : Dat} {vk vb : Value}, x.Ok w n → SR w x.h₀ x.L m σ c s.heap → DatIn c.fz vk k → BkIn w c.fz 0 vb → bKey k = true →
    PostE w x m c s Q (.d (.bool (bFind k bookL).isSome)) σ → wpAny (model pw w) x.A (compareOp .In vk vb) Q E s
  notIn : ∀ {x : Amb} {n : Nat} {m : Loc} {σ : Sto} {c : Cfg} {s : Shared} {Q E : Value → Shared → Prop} {k : Dat} {vk vb : Value}, x.Ok w n → SR w x.h₀ x.L m σ c s.heap → DatIn c.fz vk k → BkIn w c.fz 0 vb → bKey k = true →
    PostE w x m c s Q (.d (.bool !(bFind k bookL).isSome)) σ → wpAny (model pw w) x.A (compareOp .NotIn vk vb) Q E s
  get : ∀ {x : Amb} {n : Nat} {m : Loc} {σ : Sto} {c : Cfg} {s : Shared} {Q E : Value → Shared → Prop} {k d : Dat} {vk vb : Value} {value slice : Expr}, (∀ lo hi st p, slice ≠ .Slice lo hi st p) → x.Ok w n → SR w x.h₀ x.L m σ c s.heap → DatIn c.fz vk k → BkIn w c.fz 0 vb → bKey k = true → bFind k bookL = some d →
    PostE w x m c s Q (.d d) σ → wpAny (model pw w) x.A (subscriptTail value slice vb vk) Q E s
theorem cop_sound (BR : BookRules w) {op : CmpOp} {a b : V} {va vb : Value} {K : V → Prop} (O : x.Ok w n) (S : SR w x.h₀ x.L m σ c s.heap) (ha : RV w c a va) (hb : RV w c b vb) (h : cop op a b K) (P : ∀ v, K v → PostE w x m c s Q v σ) :
    wpAny (model pw w) x.A (compareOp op va vb) Q E s := by
  unfold cop at h
  split at h
  · split at h
    · split at h
      · obtain ⟨t, rfl⟩ := datD ha; obtain ⟨u, rfl⟩ := datD hb
        exact eq_int (postV S (P _ h) rfl)
      · exact h.elim
    · split at h
      · obtain ⟨t, rfl⟩ := datS ha; obtain ⟨u, rfl⟩ := datS hb
        exact eq_str (postV S (P _ h) (DatIn.bool _))
      · exact h.elim
    · split at h
      · have e1 := datB ha; have e2 := datB hb
        subst e1 e2
        exact eq_bool (postV S (P _ h) (DatIn.bool _))
      · have e1 := datB ha; have e2 : vb = .bool _ := hb
        subst e1 e2
        exact eq_bool (postV S (P _ h) rfl)
      · exact h.elim
    · split at h
      · have e1 : va = .bool _ := ha; have e2 : vb = .bool _ := hb
        subst e1 e2
        exact eq_bool (postV S (P _ h) rfl)
      · have e1 : va = .bool _ := ha; have e2 := datB hb
        subst e1 e2
        exact eq_bool (postV S (P _ h) rfl)
      · exact h.elim
    · exact h.elim
  · split at h
    · split at h
      · obtain ⟨t, rfl⟩ := datD ha; obtain ⟨u, rfl⟩ := datD hb
        exact ne_int (postV S (P _ h) rfl)
      · exact h.elim
    · split at h
      · obtain ⟨t, rfl⟩ := datS ha; obtain ⟨u, rfl⟩ := datS hb
        exact ne_str (postV S (P _ h) (DatIn.bool _))
      · exact h.elim
    · split at h
      · have e1 := datB ha; have e2 := datB hb
        subst e1 e2
        exact ne_bool (postV S (P _ h) (DatIn.bool _))
      · exact h.elim
    · exact h.elim
  · split at h
    · split at h
      · obtain ⟨t, rfl⟩ := datD ha; obtain ⟨u, rfl⟩ := datD hb
        exact lt_int (postV S (P _ h) rfl)
      · exact h.elim
    · split at h
      · obtain ⟨t, rfl⟩ := datS ha; obtain ⟨u, rfl⟩ := datS hb
        exact lt_str (postV S (P _ h) rfl)
      · exact h.elim
    · exact h.elim
  · split at h
    · split at h
      · obtain ⟨t, rfl⟩ := datD ha; obtain ⟨u, rfl⟩ := datD hb
        exact le_int (postV S (P _ h) rfl)
      · exact h.elim
    · exact h.elim
  · split at h
    · split at h
      · obtain ⟨t, rfl⟩ := datD ha; obtain ⟨u, rfl⟩ := datD hb
        exact gt_int (postV S (P _ h) rfl)
      · exact h.elim
    · split at h
      · obtain ⟨t, rfl⟩ := datS ha; obtain ⟨u, rfl⟩ := datS hb
        exact _root_.PySem.P.gt_str (postV S (P _ h) rfl)
      · exact h.elim
    · exact h.elim
  · split at h
    · split at h
      · obtain ⟨t, rfl⟩ := datD ha; obtain ⟨u, rfl⟩ := datD hb
        exact ge_int (postV S (P _ h) rfl)
      · exact h.elim
    · exact h.elim
  · split at h
    · split at h
      · obtain ⟨t, rfl⟩ := datS ha; obtain ⟨b, vb, kb, rfl, mb, db⟩ := datT hb
        split at h
        · rename_i ys hy
          exact in_tuple_strs (News.isTup S.N (S.memF mb)) (by simpa using strsAre db hy) (postV S (P _ h) (DatIn.bool _))
        · exact h.elim
      · exact h.elim
    · split at h
      · obtain ⟨t, rfl⟩ := datS ha
        obtain ⟨items, rfl, hT, hS⟩ := ktTup (x := x) (s := s) O.X S.F hb
        exact in_tuple_strs hT hS (postV S (P _ h) (DatIn.bool _))
      · exact h.elim
    · split at h
      · obtain ⟨t, rfl⟩ := datD ha; obtain ⟨b, vb, kb, rfl, mb, db⟩ := datL hb
        split at h
        · rename_i ys hy
          exact in_list_ints (News.isList S.N (S.memF mb)) (intsAre db hy) (postV S (P _ h) rfl)
        · exact h.elim
      · exact h.elim
    · split at h
      · obtain ⟨q, h⟩ := of_chk h
        exact BR.isIn O S ha hb q (P _ h)
      · exact h.elim
    · exact h.elim
  · split at h
    · split at h
      · obtain ⟨q, h⟩ := of_chk h
        exact BR.notIn O S ha hb q (P _ h)
      · exact h.elim
    · exact h.elim
  · exact h.elim
end
end Mine
end
section
open PySem PySem.W PyProof.Rows PySem.Calls PySem.Spec
set_option maxRecDepth 100000
set_option linter.unusedVariables false
namespace Mine
mutual
theorem dEq_eq : ∀ (a b : Dat), dEq a b = true → a = b
  | .none, b, h => by cases b <;> first | rfl | (exact nomatch h)
  | .bool x, b, h => by
    cases b with
    | bool y => rw [eq_of_beq (show (x == y) = true from h)]
    | _ => exact nomatch h
  | .int x, b, h => by
    cases b with
    | int y => rw [eq_of_beq (show (x == y) = true from h)]
    | _ => exact nomatch h
  | .str x, b, h => by
    cases b with
    | str y => rw [eq_of_beq (show (x == y) = true from h)]
    | _ => exact nomatch h
  | .bytes x, b, h => by cases b <;> exact nomatch h
  | .tuple x, b, h => by
    cases b with
    | tuple y => rw [dEqs_eq x y h]
    | _ => exact nomatch h
  | .list x, b, h => by
    cases b with
    | list y => rw [dEqs_eq x y h]
    | _ => exact nomatch h
theorem dEqs_eq : ∀ (a b : List Dat), dEqs a b = true → a = b
  | [], b, h => by cases b with
    | nil => rfl
    | cons _ _ => exact nomatch h
  | x :: r, b, h => by
    cases b with
    | nil => exact nomatch h
    | cons y q =>
      have h' : (dEq x y && dEqs r q) = true := h
      rw [Bool.and_eq_true] at h'
      rw [dEq_eq x y h'.1, dEqs_eq r q h'.2]
end
theorem dEq_self {a : Dat} (h : bKey a = true) : dEq a a = true := by
  unfold bKey at h
  split at h
  · rename_i x
    show (x == x) = true
    exact BEq.rfl
  · rename_i x i
    show ((x == x) && (((i == i) && true) && true)) = true
    rw [beq_self_eq_true, beq_self_eq_true]; rfl
  · cases h
theorem dEqs_self : ∀ {l : List Dat}, l.all bKey = true → dEqs l l = true
  | [], _ => rfl
  | x :: r, h => by
    rw [List.all_cons, Bool.and_eq_true] at h
    show (dEq x x && dEqs r r) = true
    rw [dEq_self h.1, dEqs_self h.2]; rfl
theorem dEq_of {a b : Dat} (h : bKey a = true) : dEq a b = true ↔ a = b := ⟨dEq_eq a b, fun e => e ▸ dEq_self h⟩
theorem mkeyOf {h₀ h : Heap} {L : Addr} {nw fz : List (Addr × Obj)} (N : News h₀ L h nw) (hs : ∀ p ∈ fz, p ∈ nw) {v : Value} {k : Dat} (hd : DatIn fz v k) (hk : bKey k = true) : MKey h k v := by
  unfold bKey at hk
  split at hk
  · obtain ⟨t, rfl⟩ := datS hd; exact .str _ t
  · obtain ⟨a, vs, n, rfl, hm, hv⟩ := datT hd
    cases hv with
    | cons h1 r =>
      cases r with
      | cons h2 r =>
        cases r
        obtain ⟨t, rfl⟩ := datS h1
        obtain ⟨b, us, m, rfl, hm2, hv2⟩ := datT h2
        cases hv2 with
        | cons h3 r =>
          cases r
          obtain ⟨u, rfl⟩ := datD h3
          exact .tup (N.get (hs _ hm)) rfl rfl (N.get (hs _ hm2)) rfl rfl
  · cases hk
theorem bookRows {w : World} {h₀ h : Heap} {L : Addr} {nw fz : List (Addr × Obj)} (N : News h₀ L h nw) (hs : ∀ p ∈ fz, p ∈ nw) : ∀ {es : List DictEntry} {r : List (Dat × Dat)}, BookAre w fz es r →
    ∃ xs : List Row3, es = xs.map (entryM w) ∧ (∀ x ∈ xs, MKey h x.1 x.2.1 ∧ bKey x.1 = true) ∧ xs.map (·.1) = r.map (·.1) ∧ ∀ k, bKey k = true →
      match bFind k r with
      | some d => ∃ v, rowM xs k = some v ∧ DatIn fz v d
      | none => rowM xs k = none
  | _, _, .nil => ⟨[], rfl, ⟨fun _ h => (List.not_mem_nil h).elim, rfl, fun k _ => rfl⟩⟩
  | _, _, .cons (kv := kv) (v := v) (k := k) (d := d) h1 h2 h3 hr => by
    obtain ⟨xs, e1, e2, e3, e4⟩ := bookRows N hs hr
    refine ⟨(k, kv, v) :: xs, by rw [e1]; rfl, fun x hx => ?_, by rw [List.map_cons, e3]; rfl, fun k' hk' => ?_⟩
    · rcases List.mem_cons.mp hx with rfl | hx
      · exact ⟨mkeyOf N hs h1 h2, h2⟩
      · exact e2 x hx
    · have q := dEq_of (b := k') h2
      have e4' := e4 k' hk'
      unfold bFind
      show match (match dEq k k' with | true => some d | false => bFind k' _) with | some d => _ | none => _
      by_cases hkk : k = k'
      · rw [q.mpr hkk]
        refine ⟨v, ?_, h3⟩
        subst hkk
        simp [rowM]
      · rw [Bool.eq_false_iff.mpr fun z => hkk (q.mp z)]
        have : rowM ((k, kv, v) :: xs) k' = rowM xs k' := by simp [rowM, hkk]
        rw [this]
        exact e4'
theorem bookNodup : (bookL.map (·.1)).Nodup := by
  have ne : ∀ {a b : Dat}, bKey a = true → dEq a b = false → a ≠ b := fun h1 h2 h3 => by rw [(dEq_of h1).mpr h3] at h2; cases h2
  have key : ∀ {l : List Dat}, (l.all bKey) = true → (∀ (a : Dat) (r : List Dat) (p : List Dat), l = p ++ a :: r → (r.all fun b => !dEq a b) = true) → l.Nodup := by
    intro l
    induction l with
    | nil => intro _ _; exact List.nodup_nil
    | cons a l ih =>
      intro hb h
      rw [List.all_cons, Bool.and_eq_true] at hb
      refine List.nodup_cons.mpr ⟨fun hm => ?_, ih hb.2 fun b r p e => h b r (a :: p) (by rw [e]; rfl)⟩
      have := List.all_eq_true.mp (h a l [] rfl) a hm
      rw [(dEq_of hb.1).mpr rfl] at this
      cases this
  refine key (by kernel_rfl) ?_
  have all : ∀ n : Nat, n < 7 → ((((bookL.map (·.1)).drop n).tail).all fun b => !dEq (((bookL.map (·.1)).drop n).headD .none) b) = true := by
    intro n hn
    match n, hn with
    | 0, _ => kernel_rfl
    | 1, _ => kernel_rfl
    | 2, _ => kernel_rfl
    | 3, _ => kernel_rfl
    | 4, _ => kernel_rfl
    | 5, _ => kernel_rfl
    | 6, _ => kernel_rfl
  intro a r p e
  have hlen : p.length < 7 := by
    have : (bookL.map (·.1)).length = 7 := by kernel_rfl
    rw [e, List.length_append, List.length_cons] at this
    omega
  have := all p.length hlen
  rw [e, List.drop_left] at this
  exact this
theorem bookDict {w : World} {x : Amb} {m : Loc} {σ : Sto} {c : Cfg} {s : Shared} (S : SR w x.h₀ x.L m σ c s.heap) {vb : Value} (hb : BkIn w c.fz 0 vb) :
    ∃ a xs, vb = .ref a ∧ (a == sysModules) = false ∧ DictM w s.heap a xs ∧ ∀ k, bKey k = true → match bFind k bookL with
      | some d => ∃ v, rowM xs k = some v ∧ DatIn c.fz v d
      | none => rowM xs k = none := by
  obtain ⟨a, ents, n, rfl, hm, hk⟩ := hb
  obtain ⟨lo, hB⟩ := hk rfl
  obtain ⟨xs, e1, e2, e3, e4⟩ := bookRows S.N (fun p hp => S.memF hp) hB
  exact ⟨a, xs, rfl, lo, ⟨_, _, _, S.N.get (S.memF hm), ⟨rfl, rfl, rfl⟩, rfl, by rw [← e1], e2, by rw [e3]; exact bookNodup⟩, e4⟩
theorem bookRules (w : World) : BookRules w := by
  refine ⟨fun {x n m σ c s Q E k vk vb} O S hk hb ok P => ?_, fun {x n m σ c s Q E k vk vb} O S hk hb ok P => ?_, fun {x n m σ c s Q E k d vk vb value slice} ns O S hk hb ok hf P => ?_⟩
  · obtain ⟨a, xs, rfl, lo, D, e⟩ := bookDict S hb
    refine inM (by have := O.un; omega) (mkeyOf S.N (fun p hp => S.memF hp) hk ok) ok lo D fun tk => ?_
    have := e k ok
    have q : (rowM xs k).isSome = (bFind k bookL).isSome := by
      split at this
      · rename_i h; obtain ⟨v, h1, _⟩ := this; rw [h1, h]; rfl
      · rename_i h; rw [this, h]; rfl
    rw [q]
    exact postV S P (DatIn.bool _)
  · obtain ⟨a, xs, rfl, lo, D, e⟩ := bookDict S hb
    refine notInM (by have := O.un; omega) (mkeyOf S.N (fun p hp => S.memF hp) hk ok) ok lo D fun tk => ?_
    have := e k ok
    have q : (rowM xs k).isSome = (bFind k bookL).isSome := by
      split at this
      · rename_i h; obtain ⟨v, h1, _⟩ := this; rw [h1, h]; rfl
      · rename_i h; rw [this, h]; rfl
    rw [q]
    exact postV S P (DatIn.bool _)
  · obtain ⟨a, xs, rfl, lo, D, e⟩ := bookDict S hb
    have := e k ok
    rw [hf] at this
    obtain ⟨v, h1, h2⟩ := this
    refine subscriptTail_builtinR D.typeIs slot_dict_getitem.lookup (itemM (by have := O.un; omega) (mkeyOf S.N (fun p hp => S.memF hp) hk ok) ok D h1 fun tk => ⟨rfl, postV S P h2⟩) ?_
    cases slice <;> first | rfl | exact absurd rfl (ns _ _ _ _)
end Mine
end
section
open PySem PySem.W PyProof.Rows PySem.Calls PySem.Spec
set_option maxRecDepth 100000
set_option linter.unusedVariables false
namespace Mine
noncomputable def FnOk (P : Params) (f : Addr) (st : Stmt) : Prop :=
  ∃ (name qual : Str) (dV kV doc pm : Value) (an : Option Addr) (cdv ct : Value) (oc : Value) (od : Option Addr) (osl : Array (Option Value)),
    (KF P).lookup f = some ⟨oc, od, .func (fnOf name qual (sArgs st) (sBody st) (sScope st) dV kV doc pm an cdv ct), osl⟩ ∧ codeIn (KF P) cdv qual = true ∧
    (∀ (s : Shared) (vals : List Value), vals.length = (fnOfS st).names.length → BindsTo s (fnOf name qual (sArgs st) (sBody st) (sScope st) dV kV doc pm an cdv ct) ⟨vals, []⟩ ((fnOfS st).names.zip vals)) ∧
    ((fnOfS st).names.all fun x => (sScope st).names.lookup x == some .local) = true ∧ (sScope st).isCoroutine = false ∧ (sScope st).isGenerator = false ∧ (sScope st).kind = .function ∧ ((sScope st).names.all fun x => !(x.2 == .cell)) = true
theorem vlen0 {C : List Value → Prop} (c : C []) (vals : List Value) (h : vals.length = 0) : C vals := by
  rw [List.eq_nil_of_length_eq_zero h]; exact c
theorem vlenS {C : List Value → Prop} {n : Nat} (c : ∀ a t, t.length = n → C (a :: t)) : ∀ vals : List Value, vals.length = n + 1 → C vals := fun vals h => by
  cases vals with
  | nil => cases h
  | cons a t => exact c a t (Nat.succ.inj h)
theorem vlen1 {C : List Value → Prop} (c : ∀ a, C [a]) : ∀ vals : List Value, vals.length = 1 → C vals := vlenS fun a => vlen0 (C := fun t => C (a :: t)) (c a)
theorem vlen2 {C : List Value → Prop} (c : ∀ a b, C [a, b]) : ∀ vals : List Value, vals.length = 2 → C vals := vlenS fun a => vlen1 (C := fun t => C (a :: t)) (c a)
theorem vlen3 {C : List Value → Prop} (c : ∀ a b d, C [a, b, d]) : ∀ vals : List Value, vals.length = 3 → C vals := vlenS fun a => vlen2 (C := fun t => C (a :: t)) (c a)
theorem vlen4 {C : List Value → Prop} (c : ∀ a b d e, C [a, b, d, e]) : ∀ vals : List Value, vals.length = 4 → C vals := vlenS fun a => vlen3 (C := fun t => C (a :: t)) (c a)
theorem vlen5 {C : List Value → Prop} (c : ∀ a b d e f, C [a, b, d, e, f]) : ∀ vals : List Value, vals.length = 5 → C vals := vlenS fun a => vlen4 (C := fun t => C (a :: t)) (c a)
theorem fo44 (P : Params) : FnOk P 44 (stm 4) := ⟨S "kind_of", S "kind_of", .none, .none, .none, (.str (S "basicplus.values") 187), none, (.ref 43), .none, .type "function", none, Array.mk [], (by kernel_rfl), (by kernel_rfl), (fun s vals h => vlen1 (C := fun vals => BindsTo s _ ⟨vals, []⟩ (List.zip _ vals)) (fun v0 => BindsTo.of_eq (by kernel_rfl)) vals (h.trans (by kernel_rfl))), (by kernel_rfl), (by kernel_rfl), (by kernel_rfl), (by kernel_rfl), (by kernel_rfl)⟩
theorem fo79 (P : Params) : FnOk P 79 (stm 9) := ⟨S "fits", S "fits", .none, .none, .none, (.str (S "basicplus.values") 187), none, (.ref 78), .none, .type "function", none, Array.mk [], (by kernel_rfl), (by kernel_rfl), (fun s vals h => vlen2 (C := fun vals => BindsTo s _ ⟨vals, []⟩ (List.zip _ vals)) (fun v0 v1 => BindsTo.of_eq (by kernel_rfl)) vals (h.trans (by kernel_rfl))), (by kernel_rfl), (by kernel_rfl), (by kernel_rfl), (by kernel_rfl), (by kernel_rfl)⟩
theorem fo86 (P : Params) : FnOk P 86 (stm 10) := ⟨S "whole_of", S "whole_of", .none, .none, .none, (.str (S "basicplus.values") 187), none, (.ref 85), .none, .type "function", none, Array.mk [], (by kernel_rfl), (by kernel_rfl), (fun s vals h => vlen2 (C := fun vals => BindsTo s _ ⟨vals, []⟩ (List.zip _ vals)) (fun v0 v1 => BindsTo.of_eq (by kernel_rfl)) vals (h.trans (by kernel_rfl))), (by kernel_rfl), (by kernel_rfl), (by kernel_rfl), (by kernel_rfl), (by kernel_rfl)⟩
theorem fo100 (P : Params) : FnOk P 100 (stm 12) := ⟨S "checked_text", S "checked_text", .none, .none, .none, (.str (S "basicplus.values") 187), none, (.ref 99), .none, .type "function", none, Array.mk [], (by kernel_rfl), (by kernel_rfl), (fun s vals h => vlen1 (C := fun vals => BindsTo s _ ⟨vals, []⟩ (List.zip _ vals)) (fun v0 => BindsTo.of_eq (by kernel_rfl)) vals (h.trans (by kernel_rfl))), (by kernel_rfl), (by kernel_rfl), (by kernel_rfl), (by kernel_rfl), (by kernel_rfl)⟩
theorem fo107 (P : Params) : FnOk P 107 (stm 13) := ⟨S "truth", S "truth", .none, .none, .none, (.str (S "basicplus.values") 187), none, (.ref 106), .none, .type "function", none, Array.mk [], (by kernel_rfl), (by kernel_rfl), (fun s vals h => vlen1 (C := fun vals => BindsTo s _ ⟨vals, []⟩ (List.zip _ vals)) (fun v0 => BindsTo.of_eq (by kernel_rfl)) vals (h.trans (by kernel_rfl))), (by kernel_rfl), (by kernel_rfl), (by kernel_rfl), (by kernel_rfl), (by kernel_rfl)⟩
theorem fo185 (P : Params) : FnOk P 185 (stm 28) := ⟨S "is_whole", S "is_whole", .none, .none, .none, (.str (S "basicplus.arith") 422), none, (.ref 184), .none, .type "function", none, Array.mk [], (by kernel_rfl), (by kernel_rfl), (fun s vals h => vlen1 (C := fun vals => BindsTo s _ ⟨vals, []⟩ (List.zip _ vals)) (fun v0 => BindsTo.of_eq (by kernel_rfl)) vals (h.trans (by kernel_rfl))), (by kernel_rfl), (by kernel_rfl), (by kernel_rfl), (by kernel_rfl), (by kernel_rfl)⟩
theorem fo192 (P : Params) : FnOk P 192 (stm 29) := ⟨S "settled", S "settled", .none, .none, .none, (.str (S "basicplus.arith") 422), none, (.ref 191), .none, .type "function", none, Array.mk [], (by kernel_rfl), (by kernel_rfl), (fun s vals h => vlen3 (C := fun vals => BindsTo s _ ⟨vals, []⟩ (List.zip _ vals)) (fun v0 v1 v2 => BindsTo.of_eq (by kernel_rfl)) vals (h.trans (by kernel_rfl))), (by kernel_rfl), (by kernel_rfl), (by kernel_rfl), (by kernel_rfl), (by kernel_rfl)⟩
theorem fo199 (P : Params) : FnOk P 199 (stm 30) := ⟨S "whole_reckoned", S "whole_reckoned", .none, .none, .none, (.str (S "basicplus.arith") 422), none, (.ref 198), .none, .type "function", none, Array.mk [], (by kernel_rfl), (by kernel_rfl), (fun s vals h => vlen5 (C := fun vals => BindsTo s _ ⟨vals, []⟩ (List.zip _ vals)) (fun v0 v1 v2 v3 v4 => BindsTo.of_eq (by kernel_rfl)) vals (h.trans (by kernel_rfl))), (by kernel_rfl), (by kernel_rfl), (by kernel_rfl), (by kernel_rfl), (by kernel_rfl)⟩
theorem fo206 (P : Params) : FnOk P 206 (stm 31) := ⟨S "cut_quotient", S "cut_quotient", .none, .none, .none, (.str (S "basicplus.arith") 422), none, (.ref 205), .none, .type "function", none, Array.mk [], (by kernel_rfl), (by kernel_rfl), (fun s vals h => vlen2 (C := fun vals => BindsTo s _ ⟨vals, []⟩ (List.zip _ vals)) (fun v0 v1 => BindsTo.of_eq (by kernel_rfl)) vals (h.trans (by kernel_rfl))), (by kernel_rfl), (by kernel_rfl), (by kernel_rfl), (by kernel_rfl), (by kernel_rfl)⟩
theorem fo213 (P : Params) : FnOk P 213 (stm 32) := ⟨S "cut_rest", S "cut_rest", .none, .none, .none, (.str (S "basicplus.arith") 422), none, (.ref 212), .none, .type "function", none, Array.mk [], (by kernel_rfl), (by kernel_rfl), (fun s vals h => vlen2 (C := fun vals => BindsTo s _ ⟨vals, []⟩ (List.zip _ vals)) (fun v0 v1 => BindsTo.of_eq (by kernel_rfl)) vals (h.trans (by kernel_rfl))), (by kernel_rfl), (by kernel_rfl), (by kernel_rfl), (by kernel_rfl), (by kernel_rfl)⟩
theorem fo241 (P : Params) : FnOk P 241 (stm 36) := ⟨S "reckoned", S "reckoned", .none, .none, .none, (.str (S "basicplus.arith") 422), none, (.ref 240), .none, .type "function", none, Array.mk [], (by kernel_rfl), (by kernel_rfl), (fun s vals h => vlen5 (C := fun vals => BindsTo s _ ⟨vals, []⟩ (List.zip _ vals)) (fun v0 v1 v2 v3 v4 => BindsTo.of_eq (by kernel_rfl)) vals (h.trans (by kernel_rfl))), (by kernel_rfl), (by kernel_rfl), (by kernel_rfl), (by kernel_rfl), (by kernel_rfl)⟩
theorem fo248 (P : Params) : FnOk P 248 (stm 37) := ⟨S "negated", S "negated", .none, .none, .none, (.str (S "basicplus.arith") 422), none, (.ref 247), .none, .type "function", none, Array.mk [], (by kernel_rfl), (by kernel_rfl), (fun s vals h => vlen3 (C := fun vals => BindsTo s _ ⟨vals, []⟩ (List.zip _ vals)) (fun v0 v1 v2 => BindsTo.of_eq (by kernel_rfl)) vals (h.trans (by kernel_rfl))), (by kernel_rfl), (by kernel_rfl), (by kernel_rfl), (by kernel_rfl), (by kernel_rfl)⟩
theorem fo255 (P : Params) : FnOk P 255 (stm 38) := ⟨S "order_of", S "order_of", .none, .none, .none, (.str (S "basicplus.arith") 422), none, (.ref 254), .none, .type "function", none, Array.mk [], (by kernel_rfl), (by kernel_rfl), (fun s vals h => vlen2 (C := fun vals => BindsTo s _ ⟨vals, []⟩ (List.zip _ vals)) (fun v0 v1 => BindsTo.of_eq (by kernel_rfl)) vals (h.trans (by kernel_rfl))), (by kernel_rfl), (by kernel_rfl), (by kernel_rfl), (by kernel_rfl), (by kernel_rfl)⟩
theorem fo262 (P : Params) : FnOk P 262 (stm 39) := ⟨S "inverted", S "inverted", .none, .none, .none, (.str (S "basicplus.arith") 422), none, (.ref 261), .none, .type "function", none, Array.mk [], (by kernel_rfl), (by kernel_rfl), (fun s vals h => vlen2 (C := fun vals => BindsTo s _ ⟨vals, []⟩ (List.zip _ vals)) (fun v0 v1 => BindsTo.of_eq (by kernel_rfl)) vals (h.trans (by kernel_rfl))), (by kernel_rfl), (by kernel_rfl), (by kernel_rfl), (by kernel_rfl), (by kernel_rfl)⟩
theorem fo269 (P : Params) : FnOk P 269 (stm 40) := ⟨S "logic", S "logic", .none, .none, .none, (.str (S "basicplus.arith") 422), none, (.ref 268), .none, .type "function", none, Array.mk [], (by kernel_rfl), (by kernel_rfl), (fun s vals h => vlen4 (C := fun vals => BindsTo s _ ⟨vals, []⟩ (List.zip _ vals)) (fun v0 v1 v2 v3 => BindsTo.of_eq (by kernel_rfl)) vals (h.trans (by kernel_rfl))), (by kernel_rfl), (by kernel_rfl), (by kernel_rfl), (by kernel_rfl), (by kernel_rfl)⟩
theorem fo276 (P : Params) : FnOk P 276 (stm 42) := ⟨S "parts_of_tree", S "parts_of_tree", .none, .none, .none, (.str (S "basicplus.exprread") 549), none, (.ref 275), .none, .type "function", none, Array.mk [], (by kernel_rfl), (by kernel_rfl), (fun s vals h => vlen1 (C := fun vals => BindsTo s _ ⟨vals, []⟩ (List.zip _ vals)) (fun v0 => BindsTo.of_eq (by kernel_rfl)) vals (h.trans (by kernel_rfl))), (by kernel_rfl), (by kernel_rfl), (by kernel_rfl), (by kernel_rfl), (by kernel_rfl)⟩
theorem fo285 (P : Params) : FnOk P 285 (stm 46) := ⟨S "order_of_texts", S "order_of_texts", .none, .none, .none, (.str (S "basicplus.worth") 558), none, (.ref 284), .none, .type "function", none, Array.mk [], (by kernel_rfl), (by kernel_rfl), (fun s vals h => vlen2 (C := fun vals => BindsTo s _ ⟨vals, []⟩ (List.zip _ vals)) (fun v0 v1 => BindsTo.of_eq (by kernel_rfl)) vals (h.trans (by kernel_rfl))), (by kernel_rfl), (by kernel_rfl), (by kernel_rfl), (by kernel_rfl), (by kernel_rfl)⟩
theorem fo292 (P : Params) : FnOk P 292 (stm 47) := ⟨S "compared", S "compared", .none, .none, .none, (.str (S "basicplus.worth") 558), none, (.ref 291), .none, .type "function", none, Array.mk [], (by kernel_rfl), (by kernel_rfl), (fun s vals h => vlen2 (C := fun vals => BindsTo s _ ⟨vals, []⟩ (List.zip _ vals)) (fun v0 v1 => BindsTo.of_eq (by kernel_rfl)) vals (h.trans (by kernel_rfl))), (by kernel_rfl), (by kernel_rfl), (by kernel_rfl), (by kernel_rfl), (by kernel_rfl)⟩
theorem fo299 (P : Params) : FnOk P 299 (stm 48) := ⟨S "worth_of_texts", S "worth_of_texts", .none, .none, .none, (.str (S "basicplus.worth") 558), none, (.ref 298), .none, .type "function", none, Array.mk [], (by kernel_rfl), (by kernel_rfl), (fun s vals h => vlen3 (C := fun vals => BindsTo s _ ⟨vals, []⟩ (List.zip _ vals)) (fun v0 v1 v2 => BindsTo.of_eq (by kernel_rfl)) vals (h.trans (by kernel_rfl))), (by kernel_rfl), (by kernel_rfl), (by kernel_rfl), (by kernel_rfl), (by kernel_rfl)⟩
theorem fo304 (P : Params) : FnOk P 304 (stm 49) := ⟨S "worth_of_two", S "worth_of_two", .none, .none, .none, (.str (S "basicplus.worth") 558), none, (.ref 303), .none, .type "function", none, Array.mk [], (by kernel_rfl), (by kernel_rfl), (fun s vals h => vlen5 (C := fun vals => BindsTo s _ ⟨vals, []⟩ (List.zip _ vals)) (fun v0 v1 v2 v3 v4 => BindsTo.of_eq (by kernel_rfl)) vals (h.trans (by kernel_rfl))), (by kernel_rfl), (by kernel_rfl), (by kernel_rfl), (by kernel_rfl), (by kernel_rfl)⟩
theorem fo311 (P : Params) : FnOk P 311 (stm 50) := ⟨S "worth_of_one", S "worth_of_one", .none, .none, .none, (.str (S "basicplus.worth") 558), none, (.ref 310), .none, .type "function", none, Array.mk [], (by kernel_rfl), (by kernel_rfl), (fun s vals h => vlen4 (C := fun vals => BindsTo s _ ⟨vals, []⟩ (List.zip _ vals)) (fun v0 v1 v2 v3 => BindsTo.of_eq (by kernel_rfl)) vals (h.trans (by kernel_rfl))), (by kernel_rfl), (by kernel_rfl), (by kernel_rfl), (by kernel_rfl), (by kernel_rfl)⟩
theorem fo318 (P : Params) : FnOk P 318 (stm 51) := ⟨S "worth_of_leaf", S "worth_of_leaf", .none, .none, .none, (.str (S "basicplus.worth") 558), none, (.ref 317), .none, .type "function", none, Array.mk [], (by kernel_rfl), (by kernel_rfl), (fun s vals h => vlen3 (C := fun vals => BindsTo s _ ⟨vals, []⟩ (List.zip _ vals)) (fun v0 v1 v2 => BindsTo.of_eq (by kernel_rfl)) vals (h.trans (by kernel_rfl))), (by kernel_rfl), (by kernel_rfl), (by kernel_rfl), (by kernel_rfl), (by kernel_rfl)⟩
theorem fo325 (P : Params) : FnOk P 325 (stm 52) := ⟨S "worth_of_tree", S "worth_of_tree", .none, .none, .none, (.str (S "basicplus.worth") 558), none, (.ref 324), .none, .type "function", none, Array.mk [], (by kernel_rfl), (by kernel_rfl), (fun s vals h => vlen3 (C := fun vals => BindsTo s _ ⟨vals, []⟩ (List.zip _ vals)) (fun v0 v1 v2 => BindsTo.of_eq (by kernel_rfl)) vals (h.trans (by kernel_rfl))), (by kernel_rfl), (by kernel_rfl), (by kernel_rfl), (by kernel_rfl), (by kernel_rfl)⟩
theorem fo330 (P : Params) : FnOk P 330 (stm 53) := ⟨S "worth", S "worth", .none, .none, .none, (.str (S "basicplus.worth") 558), none, (.ref 329), .none, .type "function", none, Array.mk [], (by kernel_rfl), (by kernel_rfl), (fun s vals h => vlen2 (C := fun vals => BindsTo s _ ⟨vals, []⟩ (List.zip _ vals)) (fun v0 v1 => BindsTo.of_eq (by kernel_rfl)) vals (h.trans (by kernel_rfl))), (by kernel_rfl), (by kernel_rfl), (by kernel_rfl), (by kernel_rfl), (by kernel_rfl)⟩
theorem fo351 (P : Params) : FnOk P 351 (cstm 55 1) := ⟨S "value_of_name", S "PlainHooks.value_of_name", .none, .none, .none, (.str (S "basicplus.hooks") 641), none, (.ref 350), .none, .type "function", none, Array.mk [], (by kernel_rfl), (by kernel_rfl), (fun s vals h => vlen2 (C := fun vals => BindsTo s _ ⟨vals, []⟩ (List.zip _ vals)) (fun v0 v1 => BindsTo.of_eq (by kernel_rfl)) vals (h.trans (by kernel_rfl))), (by kernel_rfl), (by kernel_rfl), (by kernel_rfl), (by kernel_rfl), (by kernel_rfl)⟩
theorem fo358 (P : Params) : FnOk P 358 (cstm 55 2) := ⟨S "told", S "PlainHooks.told", .none, .none, .none, (.str (S "basicplus.hooks") 641), none, (.ref 357), .none, .type "function", none, Array.mk [], (by kernel_rfl), (by kernel_rfl), (fun s vals h => vlen4 (C := fun vals => BindsTo s _ ⟨vals, []⟩ (List.zip _ vals)) (fun v0 v1 v2 v3 => BindsTo.of_eq (by kernel_rfl)) vals (h.trans (by kernel_rfl))), (by kernel_rfl), (by kernel_rfl), (by kernel_rfl), (by kernel_rfl), (by kernel_rfl)⟩
theorem fo365 (P : Params) : FnOk P 365 (cstm 55 3) := ⟨S "item_of", S "PlainHooks.item_of", .none, .none, .none, (.str (S "basicplus.hooks") 641), none, (.ref 364), .none, .type "function", none, Array.mk [], (by kernel_rfl), (by kernel_rfl), (fun s vals h => vlen3 (C := fun vals => BindsTo s _ ⟨vals, []⟩ (List.zip _ vals)) (fun v0 v1 v2 => BindsTo.of_eq (by kernel_rfl)) vals (h.trans (by kernel_rfl))), (by kernel_rfl), (by kernel_rfl), (by kernel_rfl), (by kernel_rfl), (by kernel_rfl)⟩
theorem fo372 (P : Params) : FnOk P 372 (cstm 55 4) := ⟨S "call", S "PlainHooks.call", .none, .none, .none, (.str (S "basicplus.hooks") 641), none, (.ref 371), .none, .type "function", none, Array.mk [], (by kernel_rfl), (by kernel_rfl), (fun s vals h => vlen3 (C := fun vals => BindsTo s _ ⟨vals, []⟩ (List.zip _ vals)) (fun v0 v1 v2 => BindsTo.of_eq (by kernel_rfl)) vals (h.trans (by kernel_rfl))), (by kernel_rfl), (by kernel_rfl), (by kernel_rfl), (by kernel_rfl), (by kernel_rfl)⟩
theorem fo379 (P : Params) : FnOk P 379 (cstm 55 5) := ⟨S "fn", S "PlainHooks.fn", .none, .none, .none, (.str (S "basicplus.hooks") 641), none, (.ref 378), .none, .type "function", none, Array.mk [], (by kernel_rfl), (by kernel_rfl), (fun s vals h => vlen3 (C := fun vals => BindsTo s _ ⟨vals, []⟩ (List.zip _ vals)) (fun v0 v1 v2 => BindsTo.of_eq (by kernel_rfl)) vals (h.trans (by kernel_rfl))), (by kernel_rfl), (by kernel_rfl), (by kernel_rfl), (by kernel_rfl), (by kernel_rfl)⟩
theorem fo393 (P : Params) : FnOk P 393 (stm 57) := ⟨S "_law_words", S "_law_words", .none, .none, .none, (.str (S "law_pq0181_01") 723), none, (.ref 392), .none, .type "function", none, Array.mk [], (by kernel_rfl), (by kernel_rfl), (fun s vals h => vlen0 (C := fun vals => BindsTo s _ ⟨vals, []⟩ (List.zip _ vals)) (BindsTo.of_eq (by kernel_rfl)) vals (h.trans (by kernel_rfl))), (by kernel_rfl), (by kernel_rfl), (by kernel_rfl), (by kernel_rfl), (by kernel_rfl)⟩
theorem fo400 (P : Params) : FnOk P 400 (stm 58) := ⟨S "_law_draw", S "_law_draw", .none, .none, .none, (.str (S "law_pq0181_01") 723), none, (.ref 399), .none, .type "function", none, Array.mk [], (by kernel_rfl), (by kernel_rfl), (fun s vals h => vlen2 (C := fun vals => BindsTo s _ ⟨vals, []⟩ (List.zip _ vals)) (fun v0 v1 => BindsTo.of_eq (by kernel_rfl)) vals (h.trans (by kernel_rfl))), (by kernel_rfl), (by kernel_rfl), (by kernel_rfl), (by kernel_rfl), (by kernel_rfl)⟩
theorem fo407 (P : Params) : FnOk P 407 (stm 59) := ⟨S "_law_leaf", S "_law_leaf", .none, .none, .none, (.str (S "law_pq0181_01") 723), none, (.ref 406), .none, .type "function", none, Array.mk [], (by kernel_rfl), (by kernel_rfl), (fun s vals h => vlen1 (C := fun vals => BindsTo s _ ⟨vals, []⟩ (List.zip _ vals)) (fun v0 => BindsTo.of_eq (by kernel_rfl)) vals (h.trans (by kernel_rfl))), (by kernel_rfl), (by kernel_rfl), (by kernel_rfl), (by kernel_rfl), (by kernel_rfl)⟩
theorem fo414 (P : Params) : FnOk P 414 (stm 60) := ⟨S "_law_tree", S "_law_tree", .none, .none, .none, (.str (S "law_pq0181_01") 723), none, (.ref 413), .none, .type "function", none, Array.mk [], (by kernel_rfl), (by kernel_rfl), (fun s vals h => vlen2 (C := fun vals => BindsTo s _ ⟨vals, []⟩ (List.zip _ vals)) (fun v0 v1 => BindsTo.of_eq (by kernel_rfl)) vals (h.trans (by kernel_rfl))), (by kernel_rfl), (by kernel_rfl), (by kernel_rfl), (by kernel_rfl), (by kernel_rfl)⟩
theorem fo421 (P : Params) : FnOk P 421 (stm 61) := ⟨S "_law_bits", S "_law_bits", .none, .none, .none, (.str (S "law_pq0181_01") 723), none, (.ref 420), .none, .type "function", none, Array.mk [], (by kernel_rfl), (by kernel_rfl), (fun s vals h => vlen3 (C := fun vals => BindsTo s _ ⟨vals, []⟩ (List.zip _ vals)) (fun v0 v1 v2 => BindsTo.of_eq (by kernel_rfl)) vals (h.trans (by kernel_rfl))), (by kernel_rfl), (by kernel_rfl), (by kernel_rfl), (by kernel_rfl), (by kernel_rfl)⟩
theorem fo428 (P : Params) : FnOk P 428 (stm 62) := ⟨S "_law_two", S "_law_two", .none, .none, .none, (.str (S "law_pq0181_01") 723), none, (.ref 427), .none, .type "function", none, Array.mk [], (by kernel_rfl), (by kernel_rfl), (fun s vals h => vlen3 (C := fun vals => BindsTo s _ ⟨vals, []⟩ (List.zip _ vals)) (fun v0 v1 v2 => BindsTo.of_eq (by kernel_rfl)) vals (h.trans (by kernel_rfl))), (by kernel_rfl), (by kernel_rfl), (by kernel_rfl), (by kernel_rfl), (by kernel_rfl)⟩
theorem fo435 (P : Params) : FnOk P 435 (stm 63) := ⟨S "_law_asked", S "_law_asked", .none, .none, .none, (.str (S "law_pq0181_01") 723), none, (.ref 434), .none, .type "function", none, Array.mk [], (by kernel_rfl), (by kernel_rfl), (fun s vals h => vlen3 (C := fun vals => BindsTo s _ ⟨vals, []⟩ (List.zip _ vals)) (fun v0 v1 v2 => BindsTo.of_eq (by kernel_rfl)) vals (h.trans (by kernel_rfl))), (by kernel_rfl), (by kernel_rfl), (by kernel_rfl), (by kernel_rfl), (by kernel_rfl)⟩
theorem fo442 (P : Params) : FnOk P 442 (stm 64) := ⟨S "_law_worth", S "_law_worth", .none, .none, .none, (.str (S "law_pq0181_01") 723), none, (.ref 441), .none, .type "function", none, Array.mk [], (by kernel_rfl), (by kernel_rfl), (fun s vals h => vlen3 (C := fun vals => BindsTo s _ ⟨vals, []⟩ (List.zip _ vals)) (fun v0 v1 v2 => BindsTo.of_eq (by kernel_rfl)) vals (h.trans (by kernel_rfl))), (by kernel_rfl), (by kernel_rfl), (by kernel_rfl), (by kernel_rfl), (by kernel_rfl)⟩
theorem look_all {C : Addr → Stmt → Prop} : ∀ {l : List (Addr × Stmt)} {f : Addr} {st : Stmt}, (∀ p ∈ l, C p.1 p.2) → lookA f l = some st → C f st
  | [], _, _, _, h => by cases h
  | p :: r, f, st, hc, h => by
    unfold lookA at h
    split at h
    · rename_i e; cases h; cases Nat.eq_of_beq_eq_true e; exact hc p (.head _)
    · exact look_all (fun q hq => hc q (.tail _ hq)) h
theorem all_nil {C : Addr → Stmt → Prop} : ∀ p ∈ ([] : List (Addr × Stmt)), C p.1 p.2 := fun p hp => (List.not_mem_nil hp).elim
theorem all_cons {C : Addr → Stmt → Prop} {a : Addr} {b : Stmt} {l : List (Addr × Stmt)} (h : C a b) (t : ∀ p ∈ l, C p.1 p.2) : ∀ p ∈ (a, b) :: l, C p.1 p.2 := fun p hp => by
  rcases List.mem_cons.mp hp with rfl | hp
  · exact h
  · exact t p hp
theorem fnOk_all (P : Params) : ∀ p ∈ defs, FnOk P p.1 p.2 :=
  all_cons (fo44 P) (all_cons (fo79 P) (all_cons (fo86 P) (all_cons (fo100 P) (all_cons (fo107 P) (all_cons (fo185 P) (all_cons (fo192 P) (all_cons (fo199 P) (all_cons (fo206 P) (all_cons (fo213 P) (all_cons (fo241 P) (all_cons (fo248 P) (all_cons (fo255 P) (all_cons (fo262 P) (all_cons (fo269 P) (all_cons (fo276 P) (all_cons (fo285 P) (all_cons (fo292 P) (all_cons (fo299 P) (all_cons (fo304 P) (all_cons (fo311 P) (all_cons (fo318 P) (all_cons (fo325 P) (all_cons (fo330 P) (all_cons (fo351 P) (all_cons (fo358 P) (all_cons (fo365 P) (all_cons (fo372 P) (all_cons (fo379 P) (all_cons (fo393 P) (all_cons (fo400 P) (all_cons (fo407 P) (all_cons (fo414 P) (all_cons (fo421 P) (all_cons (fo428 P) (all_cons (fo435 P) (all_cons (fo442 P) (all_nil)))))))))))))))))))))))))))))))))))))
theorem fnOk_of (P : Params) {f : Addr} {st : Stmt} (h : lookA f defs = some st) : FnOk P f st := look_all (fnOk_all P) h
end Mine
end
section
open PySem PySem.W PyProof.Rows PySem.Calls PySem.Spec
set_option maxRecDepth 100000
set_option linter.unusedVariables false
namespace Mine
inductive GlobOk (w : World) (c : Cfg) (x : Str) (v : V) : Prop
  | glob (val : Value) : nsIn (KF w.params) mainGlobals x = some (some val) → RV w c v val → GlobOk w c x v
  | boot (val : Value) : nsIn (KF w.params) mainGlobals x = some none → bootBuiltins x = some val → x ≠ Str.ofString "__name__" → RV w c v val → GlobOk w c x v
theorem glook_all {C : Str → V → Prop} : ∀ {l : List (Str × V)} {y : Str} {v : V}, (∀ p ∈ l, C p.1 p.2) → look y l = some v → C y v
  | [], _, _, _, h => by cases h
  | p :: r, y, v, hc, h => by
    unfold look at h
    split at h
    · rename_i e; cases h; cases eq_of_beq e; exact hc p (.head _)
    · exact glook_all (fun q hq => hc q (.tail _ hq)) h
theorem gall_nil {C : Str → V → Prop} : ∀ p ∈ ([] : List (Str × V)), C p.1 p.2 := fun p hp => (List.not_mem_nil hp).elim
theorem gall_cons {C : Str → V → Prop} {a : Str} {b : V} {l : List (Str × V)} (h : C a b) (t : ∀ p ∈ l, C p.1 p.2) : ∀ p ∈ (a, b) :: l, C p.1 p.2 := fun p hp => by
  rcases List.mem_cons.mp hp with rfl | hp
  · exact h
  · exact t p hp
theorem glob_all (w : World) (c : Cfg) : ∀ p ∈ globs, GlobOk w c p.1 p.2 :=
  gall_cons (.glob (.ref 44) (by kernel_rfl) rfl) (gall_cons (.glob (.ref 79) (by kernel_rfl) rfl) (gall_cons (.glob (.ref 86) (by kernel_rfl) rfl) (gall_cons (.glob (.ref 100) (by kernel_rfl) rfl) (gall_cons (.glob (.ref 107) (by kernel_rfl) rfl) (gall_cons (.glob (.ref 185) (by kernel_rfl) rfl) (gall_cons (.glob (.ref 192) (by kernel_rfl) rfl) (gall_cons (.glob (.ref 199) (by kernel_rfl) rfl) (gall_cons (.glob (.ref 206) (by kernel_rfl) rfl) (gall_cons (.glob (.ref 213) (by kernel_rfl) rfl) (gall_cons (.glob (.ref 241) (by kernel_rfl) rfl) (gall_cons (.glob (.ref 248) (by kernel_rfl) rfl) (gall_cons (.glob (.ref 255) (by kernel_rfl) rfl) (gall_cons (.glob (.ref 262) (by kernel_rfl) rfl) (gall_cons (.glob (.ref 269) (by kernel_rfl) rfl) (gall_cons (.glob (.ref 276) (by kernel_rfl) rfl) (gall_cons (.glob (.ref 285) (by kernel_rfl) rfl) (gall_cons (.glob (.ref 292) (by kernel_rfl) rfl) (gall_cons (.glob (.ref 299) (by kernel_rfl) rfl) (gall_cons (.glob (.ref 304) (by kernel_rfl) rfl) (gall_cons (.glob (.ref 311) (by kernel_rfl) rfl) (gall_cons (.glob (.ref 318) (by kernel_rfl) rfl) (gall_cons (.glob (.ref 325) (by kernel_rfl) rfl) (gall_cons (.glob (.ref 330) (by kernel_rfl) rfl) (gall_cons (.glob (.ref 393) (by kernel_rfl) rfl) (gall_cons (.glob (.ref 400) (by kernel_rfl) rfl) (gall_cons (.glob (.ref 407) (by kernel_rfl) rfl) (gall_cons (.glob (.ref 414) (by kernel_rfl) rfl) (gall_cons (.glob (.ref 421) (by kernel_rfl) rfl) (gall_cons (.glob (.ref 428) (by kernel_rfl) rfl) (gall_cons (.glob (.ref 435) (by kernel_rfl) rfl) (gall_cons (.glob (.ref 442) (by kernel_rfl) rfl) (gall_cons (.boot (.builtin "len") (by kernel_rfl) (by kernel_rfl) (by decide) rfl) (gall_cons (.boot (.builtin "abs") (by kernel_rfl) (by kernel_rfl) (by decide) rfl) (gall_cons (.boot (.builtin "max") (by kernel_rfl) (by kernel_rfl) (by decide) rfl) (gall_cons (.boot (.builtin "isinstance") (by kernel_rfl) (by kernel_rfl) (by decide) rfl) (gall_cons (.boot (.type "str") (by kernel_rfl) (by kernel_rfl) (by decide) rfl) (gall_cons (.boot (.type "tuple") (by kernel_rfl) (by kernel_rfl) (by decide) rfl) (gall_cons (.boot (.type "int") (by kernel_rfl) (by kernel_rfl) (by decide) rfl) (gall_cons (.glob (.int 255 189) (by kernel_rfl) (DatIn.int _ _)) (gall_cons (.glob (.ref 277) (by kernel_rfl) ⟨rfl, .inl ⟨rfl, rfl⟩⟩) (gall_cons (.glob (.ref 278) (by kernel_rfl) ⟨rfl, .inr ⟨rfl, rfl⟩⟩) (gall_nil))))))))))))))))))))))))))))))))))))))))))
theorem glob_of (w : World) (c : Cfg) {x : Str} {v : V} (h : look x globs = some v) : GlobOk w c x v := glook_all (glob_all w c) h
end Mine
end
section
open PySem PySem.W PyProof.Rows PySem.Calls PySem.Spec
set_option maxRecDepth 100000
set_option linter.unusedVariables false
namespace Mine
theorem swap_of {env : Env} {ts vs : List Expr} {k k' : Nat} {p p' : Pos} {o : Option (List Str)} (h : swapMode env ts vs = some o) :
    swappedStores [.Tuple ts k p] (.Tuple vs k' p') env = pure o := by
  unfold swapMode at h
  unfold swappedStores
  dsimp only at h ⊢
  split at h
  · rename_i e; cases h; exact if_pos e
  · rename_i e; refine (if_neg e).trans ?_
    split at h
    · rename_i e; cases h; exact if_pos e
    · rename_i e; refine (if_neg e).trans ?_
      split at h
      · rename_i e; cases h; exact if_pos e
      · rename_i e; refine (if_neg e).trans ?_
        split at h
        · rename_i e; cases h; exact if_pos e
        · rename_i e; refine (if_neg e).trans ?_
          split at h
          · cases h
          · rename_i e; cases h; exact if_neg e
theorem swap_env {x : Str} {sc : Scope} {L a : Addr} {cd : Value} (ts vs : List Expr) : swapMode (envOf x sc L a cd) ts vs = swapMode (dumEnv sc) ts vs := rfl
theorem starEach_of {e : Expr} (rest : List Expr) (env : Env) (h : isStarred e = false) : starEach (e :: rest) env = (false, eval e env) :: starEach rest env := by
  cases e <;> first | rfl | (cases h)
theorem noStar {env : Env} {pos : Pos} : ∀ {es : List Expr}, es.any isStarred = false → (backTo pos (starEach es env)).any (·.1) = false
  | [], _ => rfl
  | e :: es, h => by
    rw [List.any_cons, Bool.or_eq_false_iff] at h
    rw [starEach_of es env h.1]
    show (false || (backTo pos (starEach es env)).any (·.1)) = false
    rw [noStar h.2]; rfl
theorem datAt {fz : List (Addr × Obj)} : ∀ {vs : List Value} {l : List Dat} {i : Nat} {d : Dat}, DatAll fz vs l → l[i]? = some d → ∃ v, vs[i]? = some v ∧ DatIn fz v d
  | _, _, 0, _, .cons h _, e => by cases e; exact ⟨_, rfl, h⟩
  | _, _, i + 1, _, .cons _ r, e => by
    rw [List.getElem?_cons_succ] at e ⊢
    exact datAt r e
theorem datsOf {w : World} {c : Cfg} : ∀ {vs : List V} {vals : List Value} {ds : List Dat}, RVs w c vs vals → toDs vs = some ds → DatAll c.fz vals ds
  | _, _, _, .nil, e => by cases e; exact .nil
  | v :: vs, _, _, .cons h r, e => by
    unfold toDs at e
    split at e
    · rename_i d ds h1 h2
      cases e
      refine .cons ?_ (datsOf r h2)
      unfold toD at h1
      split at h1
      · cases h1; exact h
      · cases h1
        have h' : _ = Value.bool _ := h
        rw [h']; exact .bool _
      · cases h1
    · cases e
theorem datOf {w : World} {c : Cfg} {v : V} {val : Value} {d : Dat} (h : RV w c v val) (e : toD v = some d) : DatIn c.fz val d := by
  unfold toD at e
  split at e
  · cases e; exact h
  · cases e
    have h' : _ = Value.bool _ := h
    rw [h']; exact .bool _
  · cases e
theorem RVs.one {w : World} {c : Cfg} {v : V} {vals : List Value} (h : RVs w c [v] vals) : ∃ a, vals = [a] ∧ RV w c v a := by
  cases h with
  | cons a b => cases b; exact ⟨_, rfl, a⟩
theorem RVs.two {w : World} {c : Cfg} {v u : V} {vals : List Value} (h : RVs w c [v, u] vals) : ∃ a b, vals = [a, b] ∧ RV w c v a ∧ RV w c u b := by
  cases h with
  | cons a b => cases b with
    | cons b d => cases d; exact ⟨_, _, rfl, a, b⟩
section
variable {w : World} {x : Amb} {n : Nat} {m : Loc} {σ : Sto} {c : Cfg} {s : Shared} {Q : Value → Shared → Prop} {E : Value → Shared → Prop}
theorem name_sound (O : x.Ok w n) (S : SR w x.h₀ x.L m σ c s.heap) {y : Str} {pos : Pos} {v : V} (h : nameV x.sc m y = some v) (P : ∀ val, RV w c v val → Q val s) : wpAny (model pw w) x.A (eval (.Name y pos) x.env) Q E s := by
  unfold nameV at h
  split at h
  · cases h
  · rename_i hd
    split at h
    · rename_i hk
      obtain ⟨val, h1, h2⟩ := S.lo _ _ h
      exact nameX_L (cl := []) S.F h1 (P _ h2) O.kind hk hd
    · rename_i hk
      cases glob_of w c h with
      | glob val h1 h2 => exact nameX_K (cl := []) S.F O.X (topRead_of O.T) h1 (P _ h2) O.kind hk hd
      | boot val h1 h2 h3 h4 => exact nameX_B (cl := []) S.F O.X (topRead_of O.T) h1 h2 h3 (P _ h4) O.kind hk hd
    · cases h
noncomputable abbrev PostB (w : World) (x : Amb) (m : Loc) (c : Cfg) (s : Shared) (Q : Bool → Shared → Prop) (b : Bool) (σ : Sto) : Prop :=
  ∀ c' h' tk', SR w x.h₀ x.L m σ c' h' → Grow c c' → c'.mc = c.mc → Q b { s with heap := h', toks := tk' }
theorem truth_sound {Qb : Bool → Shared → Prop} {v : V} {val : Value} {ω : Om} {K : Bool → Om → Prop} (h : truth v ω K) (R : RV w c v val) (P : ∀ b ω', K b ω' → Qb b s) : wpAny (model pw w) x.A (truthy val) Qb E s := by
  unfold truth at h
  split at h
  · rename_i b
    have e := datB R; subst e
    refine wpAny_truthy_bool ?_
    cases b with
    | true => exact P _ _ h
    | false => exact P _ _ h
  · rename_i b
    have e : val = .bool b := R
    subst e
    refine wpAny_truthy_bool ?_
    unfold orB at h
    split at h
    · rename_i d ω'
      split at h
      · rename_i e; cases eq_of_beq e; exact P _ _ h
      · exact h.elim
    · exact h.elim
  · exact h.elim
theorem seqIx {k : Int} {l : Nat} (h : 0 ≤ k) (h2 : k.toNat < l) : seqIndex? k l = some k.toNat := by
  have hk : ¬ k < 0 := by omega
  have h3 : k < (l : Int) := by omega
  simp [seqIndex?, hk, h, h3]
theorem sub_of {i : Expr} {o iv : Value} (h : ∀ lo hi st p, i ≠ .Slice lo hi st p) : subscripted i false o iv = operate [o, iv] (getItem o iv) := by
  cases i <;> first | rfl | (exact absurd rfl (h _ _ _ _))
theorem kvFind {w : World} {fz : List (Addr × Obj)} {k : Str} {d : Dat} : ∀ {kvs : List (Str × Value)} {es : List (Str × Dat)}, KvAre fz kvs es → dFind k es = some d → ∃ v, valueAt kvs k = some v ∧ DatIn fz v d := by
  intro kvs es h
  induction h with
  | nil => intro e; cases e
  | @cons k' v d' kvs r hd hr ih =>
    intro e
    unfold dFind at e
    split at e
    · rename_i q
      cases e
      have q' : k' = k := eq_of_beq q
      refine ⟨v, ?_, hd⟩
      simp [valueAt, List.find?_cons, q']
    · rename_i q
      obtain ⟨v', h1, h2⟩ := ih e
      refine ⟨v', ?_, h2⟩
      have q' : ¬ k' = k := fun z => by rw [z] at q; simp at q
      rw [← h1]
      simp [valueAt, List.find?_cons, q']
theorem kvNone {w : World} {fz : List (Addr × Obj)} {k : Str} : ∀ {kvs : List (Str × Value)} {es : List (Str × Dat)}, KvAre fz kvs es → dFind k es = none → valueAt kvs k = none := by
  intro kvs es h
  induction h with
  | nil => intro e; rfl
  | @cons k' v d' kvs r hd hr ih =>
    intro e
    unfold dFind at e
    split at e
    · cases e
    · rename_i q
      have q' : ¬ k' = k := fun z => by rw [z] at q; simp at q
      rw [← ih e]
      simp [valueAt, List.find?_cons, q']
theorem item_sound (BR : BookRules w) (O : x.Ok w n) (S : SR w x.h₀ x.L m σ c s.heap) {o i : V} {vo vi : Value} {K : V → Prop} {value slice : Expr} (ns : ∀ lo hi st p, slice ≠ .Slice lo hi st p)
    (ho : RV w c o vo) (hi : RV w c i vi) (h : item o i σ K) (P : ∀ v, K v → PostE w x m c s Q v σ) : wpAny (model pw w) x.A (subscriptTail value slice vo vi) Q E s := by
  unfold item at h
  split at h
  · split at h
    · rename_i l k
      obtain ⟨a, vs, kk, rfl, hm, hd⟩ := datT ho
      obtain ⟨t, rfl⟩ := datD hi
      obtain ⟨q, h⟩ := of_chk h
      simp only [Bool.and_eq_true, decide_eq_true_eq] at q
      split at h
      · rename_i d e
        obtain ⟨v, h1, h2⟩ := datAt hd e
        have hlt := (List.getElem?_eq_some_iff.mp h1).1
        exact item_tupleT (News.isTup S.N (S.memF hm)) (by omega) (by omega) (seqIx q.1 hlt) h1 (postV S (P _ h) h2) (sub_of ns)
      · exact h.elim
    · exact h.elim
  · split at h
    · rename_i l k
      obtain ⟨a, vs, kk, rfl, hm, hd⟩ := datL ho
      obtain ⟨t, rfl⟩ := datD hi
      obtain ⟨q, h⟩ := of_chk h
      simp only [Bool.and_eq_true, decide_eq_true_eq] at q
      split at h
      · rename_i d e
        obtain ⟨v, h1, h2⟩ := datAt hd e
        exact item_litK (News.isList S.N (S.memF hm)) q.1 (by omega) h1 (postV S (P _ h) h2) (sub_of ns)
      · exact h.elim
    · exact h.elim
  · split at h
    · rename_i a k
      obtain ⟨ad, ob, hmu, rfl⟩ := ho
      obtain ⟨t, rfl⟩ := datD hi
      split at h
      · rename_i l hl
        obtain ⟨q, h⟩ := of_chk h
        simp only [Bool.and_eq_true, decide_eq_true_eq] at q
        obtain ⟨ad', vals, nn, h1, h2⟩ := S.st.at_ _ _ hl
        rw [hmu] at h1
        simp only [Option.some.injEq, Prod.mk.injEq] at h1
        obtain ⟨rfl, rfl⟩ := h1
        split at h
        · rename_i d e
          obtain ⟨v, h3, h4⟩ := datAt h2 e
          exact item_litK (News.isList S.N (List.mem_append.mpr (.inl (List.mem_of_getElem? hmu)))) q.1 (by omega) h3 (postV S (P _ h) h4) (sub_of ns)
        · exact h.elim
      · exact h.elim
    · exact h.elim
  · split at h
    · rename_i es k
      obtain ⟨a, ob, kvs, rfl, hm, hD, hk, _⟩ := ho
      obtain ⟨t, rfl⟩ := datS hi
      split at h
      · rename_i d e
        obtain ⟨v, h1, h2⟩ := kvFind (w := w) hk e
        have hDD := kda_dict S.N (S.memF hm) hD
        exact subscriptTail_builtinR hDD.typeIs slot_dict_getitem.lookup (wpAny_getItem_of (strKind_is pw w k t) hDD.mapOf h1 ⟨rfl, P _ h v c s.heap _ S (Grow.refl c) rfl h2⟩) (sub_of ns)
      · exact h.elim
    · exact h.elim
  · split at h
    · rename_i k
      obtain ⟨q, h⟩ := of_chk h
      split at h
      · rename_i d e
        exact BR.get ns O S hi ho q e (P _ h)
      · exact h.elim
    · exact h.elim
  · exact h.elim
theorem bcall_sound (O : x.Ok w n) (S : SR w x.h₀ x.L m σ c s.heap) {f : V} {vf : Value} {args : List V} {vals : List Value} {K : V → Prop} (hf : RV w c f vf) (ha : RVs w c args vals)
    (h : bcall f args σ K) (P : ∀ v, K v → PostE w x m c s Q v σ) : wpAny (model pw w) x.A (call vf vals) Q E s := by
  unfold bcall at h
  split at h
  · rename_i nm
    have e : vf = .builtin nm := hf
    subst e
    split at h
    · rename_i xx q; cases eq_of_beq q; obtain ⟨_, rfl, h1⟩ := ha.one
      obtain ⟨t, rfl⟩ := datS h1
      obtain ⟨q, h⟩ := of_chk h
      simp only [Nat.ble_eq] at q
      exact SBL.len (by omega) (P _ h _ c s.heap _ S (Grow.refl c) rfl (DatIn.int _ _))
    · rename_i l q; cases eq_of_beq q; obtain ⟨_, rfl, h1⟩ := ha.one
      obtain ⟨a, vs, kk, rfl, hm, hd⟩ := datL h1
      obtain ⟨q, h⟩ := of_chk h
      simp only [Nat.ble_eq] at q
      exact kun_lenL (News.isList S.N (S.memF hm)) (by rw [List.size_toArray, PySem.W.DatAll.length hd]) (by omega) (P _ h _ c s.heap _ S (Grow.refl c) rfl (DatIn.int _ _))
    · rename_i i q; cases eq_of_beq q; obtain ⟨_, rfl, h1⟩ := ha.one
      obtain ⟨ad, ob, hmu, rfl⟩ := h1
      split at h
      · rename_i l hl
        obtain ⟨ad', vals, nn, h1, h2⟩ := S.st.at_ _ _ hl
        rw [hmu] at h1
        simp only [Option.some.injEq, Prod.mk.injEq] at h1
        obtain ⟨rfl, rfl⟩ := h1
        obtain ⟨q, h⟩ := of_chk h
        simp only [Nat.ble_eq] at q
        exact kun_lenL (News.isList S.N (List.mem_append.mpr (.inl (List.mem_of_getElem? hmu)))) (by rw [List.size_toArray, PySem.W.DatAll.length h2]) (by omega) (P _ h _ c s.heap _ S (Grow.refl c) rfl (DatIn.int _ _))
      · exact h.elim
    · exact h.elim
    · split at h
      · rename_i q2; cases eq_of_beq q2; obtain ⟨_, rfl, h1⟩ := ha.one
        obtain ⟨t, rfl⟩ := datD h1
        exact call_abs_int fun u tk => P _ h _ c s.heap _ S (Grow.refl c) rfl (DatIn.int _ _)
      · exact h.elim
      · split at h
        · rename_i q2; cases eq_of_beq q2; obtain ⟨_, _, rfl, h1, h2⟩ := ha.two
          obtain ⟨t, rfl⟩ := datD h1; obtain ⟨u, rfl⟩ := datD h2
          refine max_two_N O.hh S.F S.N fun h' tk F' N' => ?_
          refine P _ h _ c h' _ (S.same F' N') (Grow.refl c) rfl ?_
          split
          · exact DatIn.int _ _
          · exact DatIn.int _ _
        · exact h.elim
        · split at h
          · rename_i q2; cases eq_of_beq q2; obtain ⟨_, _, rfl, h1, h2⟩ := ha.two
            have e : _ = Value.type _ := h2
            subst e
            split at h
            · rename_i q3; cases eq_of_beq q3
              unfold isStr at h
              split at h
              · rename_i q4
                split at q4
                · cases q4; obtain ⟨t, rfl⟩ := datS h1; exact IsiPair.str_str (P _ h _ c s.heap _ S (Grow.refl c) rfl (DatIn.bool _))
                · cases q4; obtain ⟨t, rfl⟩ := datD h1; exact IsiPair.int_str (P _ h _ c s.heap _ S (Grow.refl c) rfl (DatIn.bool _))
                · cases q4
              · exact h.elim
            · split at h
              · rename_i q3 q4; cases eq_of_beq q3
                unfold isTupD at q4
                split at q4
                · cases q4; obtain ⟨t, rfl⟩ := datS h1; exact IsiPair.str_tuple (P _ h _ c s.heap _ S (Grow.refl c) rfl (DatIn.bool _))
                · cases q4; obtain ⟨t, rfl⟩ := datD h1; exact IsiPair.int_tuple (P _ h _ c s.heap _ S (Grow.refl c) rfl (DatIn.bool _))
                · cases q4
              · exact h.elim
          · exact h.elim
  · rename_i nm
    have e : vf = .type nm := hf
    subst e
    split at h
    · rename_i b q; cases eq_of_beq q; obtain ⟨_, rfl, h1⟩ := ha.one
      have e : _ = Value.bool b := h1
      subst e
      exact call_int_bool (P _ h _ c s.heap _ S (Grow.refl c) rfl (DatIn.int _ _))
    · exact h.elim
    · split at h
      · rename_i l q2; cases eq_of_beq q2; obtain ⟨_, rfl, h1⟩ := ha.one
        obtain ⟨a, vs, kk, rfl, hm, hd⟩ := datL h1
        obtain ⟨q, h⟩ := of_chk h
        simp only [Nat.ble_eq] at q
        refine call_tuple_list (News.isList S.N (S.memF hm)) (fun h' hk => ?_) (by rw [List.size_toArray, PySem.W.DatAll.length hd]; exact sizeLine_ge (by omega))
        have F' := S.F.grownK hk
        have N' := S.N.grown hk
        obtain ⟨S', R'⟩ := push_tup (k := 0) S hd (F'.push _) (News.push F' N' _) (fun p hp => Nat.ne_of_lt (Heap.lt_size (N' p hp).1))
        exact P _ h _ _ _ s.toks S' (grow_frozen _ _) rfl R'
      · exact h.elim
  · exact h.elim
end
end Mine
end
section
open PySem PySem.W PyProof.Rows PySem.Calls PySem.Spec
set_option maxRecDepth 100000
set_option linter.unusedVariables false
namespace Mine
theorem klLast : ∀ (l : List Value), kl_last l = (l.getLast?).map fun y => (l.dropLast, y)
  | [] => rfl
  | [x] => rfl
  | x :: y :: r => by
    have ih := klLast (y :: r)
    unfold kl_last
    rw [ih]
    cases h : (y :: r).getLast? with
    | none => simp at h
    | some z => simp only [Option.map_some, List.getLast?_cons_cons, h, List.dropLast_cons₂]
theorem datLast {fz : List (Addr × Obj)} : ∀ {vs : List Value} {l : List Dat} {d : Dat}, DatAll fz vs l → l.getLast? = some d → ∃ v, vs.getLast? = some v ∧ DatIn fz v d ∧ DatAll fz vs.dropLast l.dropLast
  | _, _, _, .nil, e => by cases e
  | _, _, _, .cons h .nil, e => by cases e; exact ⟨_, rfl, h, .nil⟩
  | _, _, _, .cons h (.cons h2 r), e => by
    rw [List.getLast?_cons_cons] at e
    obtain ⟨v, h3, h4, h5⟩ := datLast (.cons h2 r) e
    exact ⟨v, by rw [List.getLast?_cons_cons]; exact h3, h4, .cons h h5⟩
section
variable {w : World} {x : Amb} {n : Nat} {m : Loc} {σ : Sto} {c : Cfg} {s : Shared} {Q : Value → Shared → Prop} {E : Value → Shared → Prop}
theorem lget_sound {nm : Str} {D : Addr} {ob : Obj} {i : Nat} {pl : Sem Bool} {Qp : Value × List Value → Shared → Prop} (S : SR w x.h₀ x.L m σ c s.heap) (hn : lmeth nm = true) (hi : c.mu[i]? = some (D, ob)) {l : List Dat} (hl : σ[i]? = some l)
    (P : Qp (.builtin (lid nm), [.ref D]) s) : wpAny (model pw w) x.A (getMethod (.ref D) nm pl) Qp E s := by
  obtain ⟨D', vals, k, h1, h2⟩ := S.st.at_ _ _ hl
  rw [hi] at h1
  simp only [Option.some.injEq, Prod.mk.injEq] at h1
  obtain ⟨rfl, rfl⟩ := h1
  have hm : (D, listOf vals.toArray k) ∈ c.all := List.mem_append.mpr (.inl (List.mem_of_getElem? hi))
  unfold lmeth at hn
  simp only [Bool.or_eq_true] at hn
  rcases hn with (hn | hn) | hn <;> cases eq_of_beq hn
  · exact listMethod_K S.N hm PySem.F.slot_list_append PySem.F.type_list_append P
  · exact listMethod_K S.N hm PySem.F.slot_list_extend PySem.F.type_list_extend P
  · exact listMethod_K S.N hm PySem.F.slot_list_pop PySem.F.type_list_pop P
theorem putS (S : SR w x.h₀ x.L m σ c s.heap) {h' : Heap} {i : Nat} {D : Addr} {ob : Obj} {vals : List Value} {k : Nat} {ds : List Dat} (hi : c.mu[i]? = some (D, ob)) (hd : DatAll c.fz vals ds)
    (F : Fr x.h₀ x.L h' c.mc) (N : News x.h₀ x.L h' (c.put i (D, listOf vals.toArray k)).all) : SR w x.h₀ x.L m (σ.set i ds) (c.put i (D, listOf vals.toArray k)) h' :=
  ⟨F, N, S.lo.grow rfl (grow_put hi), S.st.put hi hd⟩
theorem lcall_sound {nm : Str} {D : Addr} {ob : Obj} {i : Nat} {vs : List V} {vals : List Value} {K : V → Sto → Prop} (hn : lmeth nm = true) (S : SR w x.h₀ x.L m σ c s.heap) (hi : c.mu[i]? = some (D, ob)) (ha : RVs w c vs vals)
    (h : meth (.loc i) nm vs σ K) (P : ∀ v σ', K v σ' → PostE w x m c s Q v σ') : wpAny (model pw w) x.A (call (.builtin (lid nm)) (.ref D :: vals)) Q E s := by
  unfold meth at h
  dsimp only at h
  split at h
  · rename_i l hl
    obtain ⟨D', its, k, h1, h2⟩ := S.st.at_ _ _ hl
    rw [hi] at h1
    simp only [Option.some.injEq, Prod.mk.injEq] at h1
    obtain ⟨rfl, rfl⟩ := h1
    have hm : (D, listOf its.toArray k) ∈ c.all := List.mem_append.mpr (.inl (List.mem_of_getElem? hi))
    split at h
    · rename_i a q; cases eq_of_beq q; obtain ⟨av, rfl, h3⟩ := ha.one
      split at h
      · rename_i d hd
        obtain ⟨q, h⟩ := of_chk h
        simp only [Nat.ble_eq] at q
        have hD := datOf h3 hd
        refine append_K S.F S.N (S.st.upd hi) (fun h' F' N' => ?_) (by rw [List.size_toArray, PySem.W.DatAll.length h2]; exact sizeLine_ge (by omega))
        rw [show (its.toArray.push av) = (its ++ [av]).toArray from by simp] at N'
        exact P _ _ h _ _ h' s.toks (putS S hi (h2.append (.cons hD .nil)) F' N') (grow_put hi) rfl .none
      · exact h.elim
    · exact h.elim
    · split at h
      · rename_i qq l2 q; cases eq_of_beq q; obtain ⟨_, rfl, h3⟩ := ha.one
        obtain ⟨b, its2, k2, rfl, hb, hd2⟩ := datL h3
        obtain ⟨q, h⟩ := of_chk h
        simp only [Nat.ble_eq] at q
        have sz : its.toArray.size + its2.toArray.size ≤ 4096 := by
          rw [List.size_toArray, List.size_toArray, PySem.W.DatAll.length h2, PySem.W.DatAll.length hd2]; exact q
        by_cases hz : its2 = []
        · subst hz
          cases hd2
          refine kxn_extend S.F S.N (S.memF hb) rfl (S.st.upd hi) (extend_door (sizeLine_ge (by omega))) (by have := sizeLine_ge (k := its.length) (by simp only [List.size_toArray] at sz; omega); exact this) (Nat.le_succ_of_le (sizeLine_ge (by omega))) fun h' F' N' => ?_
          rw [List.append_nil] at h
          exact P _ _ h _ _ h' s.toks (putS S hi h2 F' N') (grow_put hi) rfl .none
        · refine kl_extend S.F S.N (S.memF hb) rfl (by simpa using hz) (S.st.upd hi) (extend_door (sizeLine_ge (by omega))) (by have := sizeLine_ge (k := its.length) (by simp only [List.size_toArray] at sz; omega); exact this) (Nat.le_succ_of_le (sizeLine_ge (by omega))) fun h' F' N' => ?_
          exact P _ _ h _ _ h' s.toks (putS S hi (h2.append hd2) F' N') (grow_put hi) rfl .none
      · exact h.elim
      · split at h
        · rename_i q; cases eq_of_beq q; cases ha
          split at h
          · rename_i d hd
            obtain ⟨q, h⟩ := of_chk h
            simp only [Nat.ble_eq] at q
            obtain ⟨v, h3, h4, h5⟩ := datLast h2 hd
            refine kl_pop (p := its.dropLast) (y := v) S.F S.N (by rw [klLast, h3]; rfl) (S.st.upd hi) (sizeLine_ge (by have := PySem.W.DatAll.length h2; simp only; omega)) fun h' F' N' => ?_
            exact P _ _ h _ _ h' s.toks (putS S hi h5 F' N') (grow_put hi) rfl h4
          · exact h.elim
        · exact h.elim
  · exact h.elim
theorem dget_sound {D : Addr} {vs : List V} {vals : List Value} {es : List (Str × Dat)} {K : V → Sto → Prop} (S : SR w x.h₀ x.L m σ c s.heap) (hi : DcIn w c.fz es (.ref D)) (ha : RVs w c vs vals)
    (h : meth (.dc es) (Str.ofString "get") vs σ K) (P : ∀ v σ', K v σ' → PostE w x m c s Q v σ') : wpAny (model pw w) x.A (call (.builtin "dict.get") (.ref D :: vals)) Q E s := by
  unfold meth at h
  dsimp only at h
  split at h
  · rename_i k d q
    obtain ⟨_, _, rfl, h1, h2⟩ := ha.two
    obtain ⟨t, rfl⟩ := datS h1
    obtain ⟨a, ob, kvs, e, hm, hD, hk, hs⟩ := hi
    cases e
    cases hf : dFind k es with
    | some dd =>
      obtain ⟨v, h3, h4⟩ := kvFind (w := w) hk hf
      rw [hf] at h
      exact kdg_get2 S.N (S.memF hm) hD hs (strKind_is pw w k t) (some v) h3 (P _ _ h _ c s.heap _ S (Grow.refl c) rfl h4)
    | none =>
      rw [hf] at h
      exact kdg_get2 S.N (S.memF hm) hD hs (strKind_is pw w k t) none (kvNone (w := w) hk hf) (P _ _ h _ c s.heap _ S (Grow.refl c) rfl h2)
  · exact h.elim
theorem hkInst (N : News x.h₀ x.L s.heap c.all) {b i : Nat} {v : Value} (h : HkIn w c b i v) : ∃ X ox vb a o t1 t2 t3 t4 t5 t6 k, v = .ref X ∧ W.InstAt s.heap X ox 382 (some (dictOf (hkEnts w.params vb a t1 t2 t3 t4 t5 t6) k)) ∧ c.mu[i]? = some (a, o) ∧ BkIn w c.fz b vb := by
  obtain ⟨X, dx, vb, a, o, t1, t2, t3, t4, t5, t6, k, rfl, h1, h2, h3, h4⟩ := h
  have g1 := N.get (List.mem_append.mpr (.inr (List.mem_append.mpr (.inl h1))))
  have g2 := N.get (List.mem_append.mpr (.inr (List.mem_append.mpr (.inl h2))))
  exact ⟨X, _, vb, a, o, t1, t2, t3, t4, t5, t6, k, rfl, ⟨g1, rfl, rfl, g2⟩, h3, h4⟩
theorem attr_sound (O : x.Ok w n) (S : SR w x.h₀ x.L m σ c s.heap) {o : V} {vo : Value} {nm : Str} {v : V} {ex : Bool} (ho : RV w c o vo) (h : attrV o nm = some v) (P : PostE w x m c s Q v σ) : wpAny (model pw w) x.A (getAttr vo nm ex) Q E s := by
  unfold attrV at h
  split at h
  · rename_i b i
    obtain ⟨X, ox, vb, a, ob, t1, t2, t3, t4, t5, t6, k, rfl, I, h3, h4⟩ := hkInst S.N ho
    split at h
    · rename_i q; cases eq_of_beq q; cases h
      exact get_own (attr := none) S.F O.X I (by kernel_rfl) (by kernel_rfl) (by kernel_rfl) rfl rfl rfl (P _ c s.heap _ S (Grow.refl c) rfl (DatIn.int _ _))
    · split at h
      · rename_i q; cases eq_of_beq q; cases h
        exact get_own (attr := none) S.F O.X I (by kernel_rfl) (by kernel_rfl) (by kernel_rfl) rfl rfl rfl (P _ c s.heap _ S (Grow.refl c) rfl (DatIn.int _ _))
      · split at h
        · rename_i q; cases eq_of_beq q; cases h
          have hv : handedIn vb = true := by obtain ⟨a', e', k', rfl, _⟩ := h4; rfl
          exact get_own (attr := none) S.F O.X I (by kernel_rfl) (by kernel_rfl) (by kernel_rfl) rfl rfl hv (P _ c s.heap _ S (Grow.refl c) rfl h4)
        · split at h
          · rename_i q; cases eq_of_beq q; cases h
            exact get_own (attr := none) S.F O.X I (by kernel_rfl) (by kernel_rfl) (by kernel_rfl) rfl rfl rfl (P _ c s.heap _ S (Grow.refl c) rfl ⟨a, ob, h3, rfl⟩)
          · cases h
  · cases h
theorem hkMeth_sound (O : x.Ok w n) (S : SR w x.h₀ x.L m σ c s.heap) {b i : Nat} {vo : Value} {nm : Str} {f : Addr} {pl : Sem Bool} {Qp : Value × List Value → Shared → Prop} (ho : HkIn w c b i vo) (h : look nm hkMeths = some f)
    (P : keepIn (KF w.params) (.ref f) = true → Qp (.ref f, [vo]) s) : wpAny (model pw w) x.A (getMethod vo nm pl) Qp E s := by
  obtain ⟨X, ox, vb, a, ob, t1, t2, t3, t4, t5, t6, k, rfl, I, h3, h4⟩ := hkInst S.N ho
  unfold hkMeths at h
  unfold look at h
  split at h
  · rename_i q; cases h; cases eq_of_beq q
    exact method_inst S.F O.X I (by kernel_rfl) (by kernel_rfl) (by kernel_rfl) rfl (P (by kernel_rfl))
  unfold look at h
  split at h
  · rename_i q; cases h; cases eq_of_beq q
    exact method_inst S.F O.X I (by kernel_rfl) (by kernel_rfl) (by kernel_rfl) rfl (P (by kernel_rfl))
  unfold look at h
  split at h
  · rename_i q; cases h; cases eq_of_beq q
    exact method_inst S.F O.X I (by kernel_rfl) (by kernel_rfl) (by kernel_rfl) rfl (P (by kernel_rfl))
  unfold look at h
  split at h
  · rename_i q; cases h; cases eq_of_beq q
    exact method_inst S.F O.X I (by kernel_rfl) (by kernel_rfl) (by kernel_rfl) rfl (P (by kernel_rfl))
  unfold look at h
  split at h
  · rename_i q; cases h; cases eq_of_beq q
    exact method_inst S.F O.X I (by kernel_rfl) (by kernel_rfl) (by kernel_rfl) rfl (P (by kernel_rfl))
  cases h
end
end Mine
end
section
open PySem PySem.W PyProof.Rows PySem.Calls PySem.Spec
set_option maxRecDepth 100000
set_option linter.unusedVariables false
namespace Mine
noncomputable def FlR (w : World) (c : Cfg) : Fl → Flow → Prop
  | .next, fv => fv = .next
  | .ret v, fv => ∃ val, fv = .ret val ∧ RV w c v val
noncomputable abbrev PostS (w : World) (x : Amb) (c : Cfg) (s : Shared) (Q : Flow → Shared → Prop) (f : Fl) (m : Loc) (σ : Sto) : Prop :=
  ∀ fv c' h' tk', SR w x.h₀ x.L m σ c' h' → Grow c c' → FlR w c' f fv → Q fv { s with heap := h', toks := tk' }
noncomputable abbrev PostY (x : Amb) (c : Cfg) (s : Shared) (E : Value → Shared → Prop) (d : Str) (σ : Sto) : Prop :=
  ∀ e c' h' tk', Grow c c' → MuR c' σ → XR x d c' e h' → E (.ref e) { s with heap := h', toks := tk' }
noncomputable abbrev PostL (w : World) (x : Amb) (m : Loc) (c : Cfg) (s : Shared) (Q : List Value → Shared → Prop) (vs : List V) (σ : Sto) : Prop :=
  ∀ vals c' h' tk', SR w x.h₀ x.L m σ c' h' → Grow c c' → c'.mc = c.mc → RVs w c' vs vals → Q vals { s with heap := h', toks := tk' }
/-- an exception of the text's class as its call makes it -/
structure MadeX (h h' : Heap) (e : Addr) (code : Str) : Prop where
  keep : ∀ b o, h.get? b = some o → h'.get? b = some o
  new : h.get? e = none
  obj : ∃ d t, h'.get? e = some { cls := .ref 34, dict := some d, data := .fields #[.ref t, .none, .none, .none, .bool false, .none] } ∧ h.get? d = none ∧ d ≠ e ∧ CodeD h' d code
theorem MadeX.madeD {h h' : Heap} {e : Addr} {code : Str} (x : MadeX h h' e code) : MadeD h h' e code :=
  ⟨x.keep, x.new, let ⟨d, t, h1, h2, h3, h4⟩ := x.obj; ⟨_, _, d, h1, rfl, rfl, rfl, rfl, h2, h3, h4⟩⟩
structure Rules (w : World) : Prop extends BookRules w where
  raised : ∀ {x : Amb} {n : Nat} {m : Loc} {σ : Sto} {c : Cfg} {s : Shared} {Q E : Value → Shared → Prop} {code : Str} {vals : List Value}, x.Ok w (n + 1) → SR w x.h₀ x.L m σ c s.heap → (∃ t, vals = [.str code t] ∨ ∃ u t', vals = [.str code t, .str u t']) →
    (∀ e h h' tk', Fr x.h₀ x.L h c.mc → News x.h₀ x.L h c.all → MadeX h h' e code → Q (.ref e) { s with heap := h', toks := tk' }) → wpAny (model pw w) x.A (call (.ref 34) vals) Q E s
structure SpOk (w : World) (Sp : Specs) (B : Nat) : Prop where
  C : ∀ {x : Amb} {m : Loc} {σ : Sto} {c : Cfg} {s : Shared} {Q E : Value → Shared → Prop} {f : Addr} {args : List V} {vals : List Value} {r : Rs} {σ' : Sto}, x.Ok w B → SR w x.h₀ x.L m σ c s.heap → RVs w c args vals → Sp.orc f = true → Sp.C f args σ r σ' →
    (∀ v, r = .ok v → PostE w x m c s Q v σ') → (∀ d, r = .exc d → PostX x c s E d σ') → wpAny (model pw w) x.A (call (.ref f) vals) Q E s
  E : ∀ {x : Amb} {m : Loc} {σ : Sto} {c : Cfg} {s : Shared} {Q E : Value → Shared → Prop} {ex : Expr} {r : Rs} {σ' : Sto}, x.Ok w B → SR w x.h₀ x.L m σ c s.heap → Sp.E x.sc m σ ex r σ' →
    (∀ v, r = .ok v → PostE w x m c s Q v σ') → (∀ d, r = .exc d → PostX x c s E d σ') → wpAny (model pw w) x.A (eval ex x.env) Q E s
  S : ∀ {x : Amb} {m : Loc} {σ : Sto} {c : Cfg} {s : Shared} {Q : Flow → Shared → Prop} {E : Value → Shared → Prop} {st : Stmt} {r : RsS} {σ' : Sto}, x.Ok w B → SR w x.h₀ x.L m σ c s.heap → Sp.S x.sc m σ st r σ' →
    (∀ f m', r = .ok f m' → PostS w x c s Q f m' σ') → (∀ d, r = .exc d → PostY x c s E d σ') → wpAny (model pw w) x.A (exec st x.env) Q E s
structure Snd (w : World) (r : EvR) (n : Nat) : Prop where
  e : ∀ {x : Amb} {m : Loc} {σ : Sto} {ω : Om} {ex : Expr} {K : KE} {X : KX} {c : Cfg} {s : Shared} {Q E : Value → Shared → Prop}, x.Ok w n → SR w x.h₀ x.L m σ c s.heap → r.e x.sc m σ ω ex K X →
    (∀ v σ' ω', K v σ' ω' → PostE w x m c s Q v σ') → (∀ d σ' ω', X d σ' ω' → PostX x c s E d σ') → wpAny (model pw w) x.A (eval ex x.env) Q E s
  t : ∀ {x : Amb} {m : Loc} {σ : Sto} {ω : Om} {ex : Expr} {K : Bool → Sto → Om → Prop} {X : KX} {c : Cfg} {s : Shared} {Q : Bool → Shared → Prop} {E : Value → Shared → Prop}, x.Ok w n → SR w x.h₀ x.L m σ c s.heap → r.t x.sc m σ ω ex K X →
    (∀ b σ' ω', K b σ' ω' → PostB w x m c s Q b σ') → (∀ d σ' ω', X d σ' ω' → PostX x c s E d σ') → wpAny (model pw w) x.A (PySem.isTrue ex x.env (eval ex x.env)) Q E s
  c : ∀ {x : Amb} {m : Loc} {σ : Sto} {ω : Om} {f : Addr} {args : List V} {vals : List Value} {K : KE} {X : KX} {c : Cfg} {s : Shared} {Q E : Value → Shared → Prop}, x.Ok w n → SR w x.h₀ x.L m σ c s.heap → RVs w c args vals → r.c f args σ ω K X →
    (∀ v σ' ω', K v σ' ω' → PostE w x m c s Q v σ') → (∀ d σ' ω', X d σ' ω' → PostX x c s E d σ') → wpAny (model pw w) x.A (call (.ref f) vals) Q E s
  s : ∀ {x : Amb} {m : Loc} {σ : Sto} {ω : Om} {st : Stmt} {K : Fl → Loc → Sto → Om → Prop} {X : KX} {c : Cfg} {s : Shared} {Q : Flow → Shared → Prop} {E : Value → Shared → Prop}, x.Ok w n → SR w x.h₀ x.L m σ c s.heap → r.s x.sc m σ ω st K X →
    (∀ f m' σ' ω', K f m' σ' ω' → PostS w x c s Q f m' σ') → (∀ d σ' ω', X d σ' ω' → PostY x c s E d σ') → wpAny (model pw w) x.A (exec st x.env) Q E s
section
variable {w : World} {x : Amb} {n : Nat} {m : Loc} {σ : Sto} {c c₁ : Cfg} {s : Shared} {h₁ : Heap} {t₁ : Nat} {Q : Value → Shared → Prop} {E : Value → Shared → Prop}
theorem fromE {v : V} (G : Grow c c₁) (e : c₁.mc = c.mc) (P : PostE w x m c s Q v σ) : PostE w x m c₁ { s with heap := h₁, toks := t₁ } Q v σ := fun val c' h' tk' S g e' R => P val c' h' tk' S (G.trans g) (e'.trans e) R
theorem fromX {d : Str} (G : Grow c c₁) (e : c₁.mc = c.mc) (P : PostX x c s E d σ) : PostX x c₁ { s with heap := h₁, toks := t₁ } E d σ := fun val c' h' tk' g e' M R => P val c' h' tk' (G.trans g) (e'.trans e) M R
theorem fromB {Qb : Bool → Shared → Prop} {b : Bool} (G : Grow c c₁) (e : c₁.mc = c.mc) (P : PostB w x m c s Qb b σ) : PostB w x m c₁ { s with heap := h₁, toks := t₁ } Qb b σ := fun c' h' tk' S g e' => P c' h' tk' S (G.trans g) (e'.trans e)
theorem fromS {Qf : Flow → Shared → Prop} {f : Fl} (G : Grow c c₁) (P : PostS w x c s Qf f m σ) : PostS w x c₁ { s with heap := h₁, toks := t₁ } Qf f m σ := fun val c' h' tk' S g R => P val c' h' tk' S (G.trans g) R
theorem fromY {d : Str} (G : Grow c c₁) (P : PostY x c s E d σ) : PostY x c₁ { s with heap := h₁, toks := t₁ } E d σ := fun val c' h' tk' g M R => P val c' h' tk' (G.trans g) M R
theorem toX {d : Str} (P : PostY x c s E d σ) : PostX x c s E d σ := fun val c' h' tk' g _ M R => P val c' h' tk' g M R
theorem evL_sound {r : EvR} (H : Snd w r n) (O : x.Ok w n) {pos : Pos} {X : KX} : ∀ (es : List Expr) {σ : Sto} {ω : Om} {K : List V → Sto → Om → Prop} {c : Cfg} {s : Shared} {Q : List Value → Shared → Prop}, SR w x.h₀ x.L m σ c s.heap → evL r x.sc m es σ ω K X →
    (∀ vs σ' ω', K vs σ' ω' → PostL w x m c s Q vs σ') → (∀ d σ' ω', X d σ' ω' → PostX x c s E d σ') → wpAny (model pw w) x.A (spliced (backTo pos (starEach es x.env))) Q E s
  | [], σ, ω, K, c, s, Q, S, h, P, PX => spliced_none (P _ _ _ h _ c s.heap s.toks S (Grow.refl c) rfl .nil)
  | e :: es, σ, ω, K, c, s, Q, S, h, P, PX => by
    unfold evL at h
    split at h
    · exact h.elim
    · rename_i hs
      refine spliced_more (H.e O S h (fun v σ1 ω1 k val c1 h1 t1 S1 G1 e1 R1 => ?_) PX) (starEach_of es _ hs)
      exact evL_sound H O es S1 k (fun vs σ2 ω2 k2 vals c2 h2 t2 S2 G2 e2 R2 => P _ _ _ k2 _ c2 h2 t2 S2 (G1.trans G2) (e2.trans e1) (.cons (R1.mono G2) R2)) fun d σ2 ω2 k2 => fromX G1 e1 (PX d σ2 ω2 k2)
theorem exL_sound {r : EvR} (H : Snd w r n) (O : x.Ok w n) {X : KX} : ∀ (ss : List Stmt) {m : Loc} {σ : Sto} {ω : Om} {K : Fl → Loc → Sto → Om → Prop} {c : Cfg} {s : Shared} {Q : Flow → Shared → Prop}, SR w x.h₀ x.L m σ c s.heap → exL r x.sc ss m σ ω K X →
    (∀ f m' σ' ω', K f m' σ' ω' → PostS w x c s Q f m' σ') → (∀ d σ' ω', X d σ' ω' → PostY x c s E d σ') → wpAny (model pw w) x.A (execs ss x.env) Q E s
  | [], m, σ, ω, K, c, s, Q, S, h, P, PX => wpAny_execs_nil (P _ _ _ _ h _ c s.heap s.toks S (Grow.refl c) rfl)
  | st :: ss, m, σ, ω, K, c, s, Q, S, h, P, PX => by
    refine wpAny_execs_cons (H.s O S h (fun f m1 σ1 ω1 k fv c1 h1 t1 S1 G1 R1 => ?_) PX)
    cases f with
    | next =>
      have e : fv = .next := R1
      subst e
      exact exL_sound H O ss S1 k (fun f2 m2 σ2 ω2 k2 => fromS G1 (P f2 m2 σ2 ω2 k2)) fun d σ2 ω2 k2 => fromY G1 (PX d σ2 ω2 k2)
    | ret v =>
      obtain ⟨val, rfl, R⟩ := R1
      exact P _ _ _ _ k _ c1 h1 t1 S1 G1 ⟨val, rfl, R⟩
theorem tAnd_sound {r : EvR} (H : Snd w r n) (O : x.Ok w n) {pos : Pos} {whole : Sem Value} {X : KX} : ∀ (es : List Expr) {σ : Sto} {ω : Om} {K : Bool → Sto → Om → Prop} {c : Cfg} {s : Shared} {Q : Bool → Shared → Prop}, SR w x.h₀ x.L m σ c s.heap → tAnd r x.sc m es σ ω K X →
    (∀ b σ' ω', K b σ' ω' → PostB w x m c s Q b σ') → (∀ d σ' ω', X d σ' ω' → PostX x c s E d σ') → wpAny (model pw w) x.A (PySem.isTrue (.BoolOp .And es pos) x.env whole) Q E s
  | [], σ, ω, K, c, s, Q, S, h, P, PX => isTrue_and_nil (P _ _ _ h c s.heap s.toks S (Grow.refl c) rfl)
  | e :: es, σ, ω, K, c, s, Q, S, h, P, PX => by
    unfold tAnd at h
    refine isTrue_and (H.t O S h (fun b σ1 ω1 k c1 h1 t1 S1 G1 e1 => ?_) PX)
    cases b with
    | true => exact tAnd_sound H O es S1 k (fun b2 σ2 ω2 k2 => fromB G1 e1 (P b2 σ2 ω2 k2)) fun d σ2 ω2 k2 => fromX G1 e1 (PX d σ2 ω2 k2)
    | false => exact P _ _ _ k c1 h1 t1 S1 G1 e1
theorem tOr_sound {r : EvR} (H : Snd w r n) (O : x.Ok w n) {pos : Pos} {whole : Sem Value} {X : KX} : ∀ (es : List Expr) {σ : Sto} {ω : Om} {K : Bool → Sto → Om → Prop} {c : Cfg} {s : Shared} {Q : Bool → Shared → Prop}, SR w x.h₀ x.L m σ c s.heap → tOr r x.sc m es σ ω K X →
    (∀ b σ' ω', K b σ' ω' → PostB w x m c s Q b σ') → (∀ d σ' ω', X d σ' ω' → PostX x c s E d σ') → wpAny (model pw w) x.A (PySem.isTrue (.BoolOp .Or es pos) x.env whole) Q E s
  | [], σ, ω, K, c, s, Q, S, h, P, PX => isTrue_or_nil (P _ _ _ h c s.heap s.toks S (Grow.refl c) rfl)
  | e :: es, σ, ω, K, c, s, Q, S, h, P, PX => by
    unfold tOr at h
    refine isTrue_or (H.t O S h (fun b σ1 ω1 k c1 h1 t1 S1 G1 e1 => ?_) PX)
    cases b with
    | false => exact tOr_sound H O es S1 k (fun b2 σ2 ω2 k2 => fromB G1 e1 (P b2 σ2 ω2 k2)) fun d σ2 ω2 k2 => fromX G1 e1 (PX d σ2 ω2 k2)
    | true => exact P _ _ _ k c1 h1 t1 S1 G1 e1
theorem truthyB {Qb : Bool → Shared → Prop} {v : V} {val : Value} {ω : Om} {K : Bool → Om → Prop} (h : truth v ω K) (R : RV w c v val) (S : SR w x.h₀ x.L m σ c s.heap) (P : ∀ b ω', K b ω' → PostB w x m c s Qb b σ) : wpAny (model pw w) x.A (truthy val) Qb E s :=
  truth_sound (c := c) h R fun b ω' k => P b ω' k c s.heap s.toks S (Grow.refl c) rfl
theorem lpair_of {op : CmpOp} {a b : V} {p : Nat × Nat} (h : lpair op a b = some p) : op = .NotEq ∧ a = .loc p.1 ∧ b = .loc p.2 := by
  unfold lpair at h
  split at h
  · cases h; exact ⟨rfl, rfl, rfl⟩
  · cases h
open Classical in
theorem lcop_sound (BR : BookRules w) (O : x.Ok w n) {op : CmpOp} {a b : V} {va vb : Value} {K : V → Prop} (S : SR w x.h₀ x.L m σ c s.heap) (ha : RV w c a va) (hb : RV w c b vb) (h : lcop op a b σ K) (P : ∀ v, K v → PostE w x m c s Q v σ) :
    wpAny (model pw w) x.A (compareOp op va vb) Q E s := by
  unfold lcop at h
  split at h
  · rename_i p hp
    obtain ⟨rfl, rfl, rfl⟩ := lpair_of hp
    split at h
    · rename_i l hl
      split at h
      · rename_i q hq
        obtain ⟨k, h⟩ := of_chk h
        rw [Bool.and_eq_true] at k
        obtain ⟨D, ob, hi, rfl⟩ := ha
        obtain ⟨D2, ob2, hi2, rfl⟩ := hb
        obtain ⟨D', its, kk, z1, z2⟩ := S.st.at_ _ _ hl
        obtain ⟨D2', its2, kk2, y1, y2⟩ := S.st.at_ _ _ hq
        rw [hi] at z1
        rw [hi2] at y1
        simp only [Option.some.injEq, Prod.mk.injEq] at z1 y1
        obtain ⟨rfl, rfl⟩ := z1
        obtain ⟨rfl, rfl⟩ := y1
        have mem : ∀ {i : Nat} {p : Addr × Obj}, c.mu[i]? = some p → p ∈ c.all := fun e => List.mem_append.mpr (.inl (List.mem_of_getElem? e))
        refine kqd_ne S.N (mem hi) rfl rfl z2 (fun p hp => S.memF hp) (mem hi2) rfl rfl y2 (fun p hp => S.memF hp) (fun d hd => bKey_ok (List.all_eq_true.mp k.1 d hd)) (fun d hd => bKey_ok (List.all_eq_true.mp k.2 d hd)) (by have := O.un; omega) ?_
        have e : (!decide (l = q)) = !dEqs l q := by
          by_cases z : l = q
          · subst z; rw [decide_eq_true rfl, dEqs_self k.1]
          · rw [decide_eq_false z, Bool.eq_false_iff.mpr fun y => z (dEqs_eq _ _ y)]
        rw [e]
        exact postV S (P _ h) rfl
      · exact h.elim
    · exact h.elim
  · exact cop_sound BR O S ha hb h P
theorem stepT_sound (R0 : Rules w) {Sp : Specs} {r : EvR} (H : Snd w r n) (O : x.Ok w n) {ex : Expr} {ω : Om} {K : Bool → Sto → Om → Prop} {X : KX} {Q : Bool → Shared → Prop} (S : SR w x.h₀ x.L m σ c s.heap) (h : stepT Sp r x.sc m σ ω ex K X)
    (P : ∀ b σ' ω', K b σ' ω' → PostB w x m c s Q b σ') (PX : ∀ d σ' ω', X d σ' ω' → PostX x c s E d σ') : wpAny (model pw w) x.A (PySem.isTrue ex x.env (eval ex x.env)) Q E s := by
  unfold stepT at h
  split at h
  · split at h
    · exact isTrue_not (H.t O S h (fun b σ1 ω1 k => P _ _ _ k) PX)
    · exact h.elim
  · split at h
    · exact tAnd_sound H O _ S h P PX
    · exact tOr_sound H O _ S h P PX
  · split at h
    · split at h
      · exact h.elim
      · rename_i hb
        refine wpAny_isTrue_Compare1 (H.e O S h (fun v σ1 ω1 k val c1 h1 t1 S1 G1 e1 R1 => ?_) PX) hb
        refine H.e O S1 k (fun v2 σ2 ω2 k2 val2 c2 h2 t2 S2 G2 e2 R2 => ?_) fun d σ2 ω2 k2 => fromX G1 e1 (PX d σ2 ω2 k2)
        refine lcop_sound R0.toBookRules O S2 (R1.mono G2) R2 k2 fun v3 k3 val3 c3 h3 t3 S3 G3 e3 R3 => ?_
        exact truthyB k3 R3 S3 fun b ω' k4 => fromB (G1.trans (G2.trans G3)) (e3.trans (e2.trans e1)) (P b _ _ k4)
    · exact h.elim
  · exact h.elim
  · refine isTrue_plain (H.e O S h (fun v σ1 ω1 k val c1 h1 t1 S1 G1 e1 R1 => ?_) PX)
    exact truthyB k R1 S1 fun b ω' k4 => fromB G1 e1 (P b _ _ k4)
  · refine isTrue_plain (H.e O S h (fun v σ1 ω1 k val c1 h1 t1 S1 G1 e1 R1 => ?_) PX)
    exact truthyB k R1 S1 fun b ω' k4 => fromB G1 e1 (P b _ _ k4)
  · refine isTrue_plain (H.e O S h (fun v σ1 ω1 k val c1 h1 t1 S1 G1 e1 R1 => ?_) PX)
    exact truthyB k R1 S1 fun b ω' k4 => fromB G1 e1 (P b _ _ k4)
  · exact h.elim
end
end Mine
end
section
open PySem PySem.W PyProof.Rows PySem.Calls PySem.Spec
set_option maxRecDepth 100000
set_option linter.unusedVariables false
namespace Mine
/-! the text's own exception is made -/
theorem hC34 {P : Params} {h : Heap} (X : (KF P).In h) : h.get? 34 = some (excClassObj (S "BasicError") (S "BasicError") 34 33 [.type "Exception"] [.type "Exception", .type "BaseException", .type "object"] true [] [] false none none (some (.ref 15)) none (some (.str (S "BasicError") 193)) (some (.str (S "BasicError") 201)) (some (.bool true)) "Exception.__new__") :=
  X 34 (o34 P) (by kernel_rfl)
noncomputable def es33 (P : Params) : Array DictEntry := match (o33 P).data with
  | .dict es _ => es
  | _ => #[]
noncomputable def m33 (P : Params) : Str → Option Value := fun x => nsFind (es33 P) x
theorem hN33 {P : Params} {h : Heap} (X : (KF P).In h) : h.Ns 33 (m33 P) :=
  ⟨o33 P, es33 P, 4, X 33 (o33 P) (by kernel_rfl), rfl, by
    intro e he
    have : e ∈ (es33 P).toList := Array.mem_toList_iff.mpr he
    simp only [es33, o33, List.mem_cons, List.not_mem_nil, or_false] at this
    rcases this with rfl | rfl | rfl | rfl | rfl | rfl <;> exact ⟨_, _, rfl⟩, fun _ => rfl⟩
theorem m33_init (P : Params) : m33 P "__init__" = some (.ref 31) := by kernel_rfl
theorem m33_sa (P : Params) : m33 P "__setattr__" = none := by kernel_rfl
theorem m33_code (P : Params) : m33 P "code" = none := by kernel_rfl
theorem m33_told (P : Params) : m33 P "told" = none := by kernel_rfl
theorem lk_code : typeLookup (.type "Exception") "code" = pure none := by rw [typeLookup_type, builtinLookup_eq_fast]; kernel_rfl
theorem lk_told : typeLookup (.type "Exception") "told" = pure none := by rw [typeLookup_type, builtinLookup_eq_fast]; kernel_rfl
section
variable {w : World} {A : Around} {E : Value → Shared → Prop} {h : Heap} {g : Array GenState} {d : Drawn} {t : Nat} {os : OsState}
theorem slot_wd_get : Slot "wrapper_descriptor" "__get__" "wrapper_descriptor.__get__" := .of (owner := "wrapper_descriptor") (n := "__get__") (by rw [typeLookup_type, builtinLookup_eq_fast]; kernel_rfl) (by decide +kernel) (by decide +kernel) (by decide +kernel)
  (by first | exact .inl (by decide +kernel) | exact .inr (by decide +kernel)) (by rw [isSubtype_type]; kernel_rfl)
theorem entry_wd_get : entryFor table "wrapper_descriptor.__get__" = some Builtin.«wrapper_descriptor.__get__» := entryFor_of_tree (by kernel_rfl)
theorem args_wd_get (a b c : Value) : argsOk "wrapper_descriptor.__get__" ⟨[a, b, c], []⟩ := by unfold argsOk; kernel_rfl
theorem own_exc_init : classOwn (.type "Exception") "__init__" = pure (some (.builtin "Exception.__init__")) := by kernel_rfl
theorem type_exc_init : typeOf (.builtin "Exception.__init__") = pure (.type "wrapper_descriptor") := by kernel_rfl
noncomputable abbrev mwObj (x : Addr) : Obj := { cls := .type "method-wrapper", dict := none, data := .fields #[.builtin "Exception.__init__", .ref x], slots := #[] }
theorem wd_get_run {x : Addr} {ox : Obj} {P : Params} {Q : Fin → Shared → Prop} (X : (KF P).In h) (hx : h.get? x = some ox) (hc : ox.cls = .ref 34) (hq : Q (.done (.ret (.ref h.objs.size))) ⟨h.push (mwObj x), g, d, t, os⟩) :
    wpAny (model pw w) A (Builtin.«wrapper_descriptor.__get__» ⟨[.builtin "Exception.__init__", .ref x, .ref 34], []⟩) Q E ⟨h, g, d, t, os⟩ := by
  have hC := hC34 X
  have hcB : (Value.ref 34 :: [Value.type "Exception", .type "BaseException", .type "object"]).contains (.type "Exception") = true := by rfl
  unfold Builtin.«wrapper_descriptor.__get__»
  have ow : ".".intercalate ("Exception.__init__".cutAt '.').dropLast = "Exception" := by decide +kernel
  repeat (first | (with_reducible refine wpAny_loadPart_at hx ?_; rw [hc]) | (rw [ow]; with_reducible refine wpAny_isSubtype_exc hC ?_; rw [hcB]) | wp_step)
  exact hq
theorem super_ga_run {so x : Addr} {ox : Obj} {P : Params} {tk : Tok} {Q : Fin → Shared → Prop} (X : (KF P).In h) (hso : h.get? so = some (ks_superObj 34 x 34)) (hx : h.get? x = some ox) (hc : ox.cls = .ref 34) (hne : x ≠ 34)
    (hq : Q (.done (.ret (.ref h.objs.size))) ⟨h.push (mwObj x), g, d, t, os⟩) :
    wpAny (model pw w) A (Builtin.«super.__getattribute__» ⟨[.ref so, .str "__init__" tk], []⟩) Q E ⟨h, g, d, t, os⟩ := by
  have hC := hC34 X
  have hn := hN33 X
  have hno : Looks (model pw w) h (opaqueClassAbove (.ref 34)) none := looks_opaque X (by kernel_rfl)
  have hdt : (ks_superObj 34 x 34).data = .fields #[.ref 34, .ref x, .ref 34] := rfl
  have f0 : (#[.ref 34, .ref x, .ref 34] : Array Value)[0]? = some (.ref 34) := rfl
  have f1 : (#[.ref 34, .ref x, .ref 34] : Array Value)[1]? = some (.ref x) := rfl
  have f2 : (#[.ref 34, .ref x, .ref 34] : Array Value)[2]? = some (.ref 34) := rfl
  have hl : (([.ref 34, .type "Exception", .type "BaseException", .type "object"] : List Value).dropWhile (· != .ref 34)).drop 1 = [.type "Exception", .type "BaseException", .type "object"] := by decide +kernel
  have hne' : (Value.ref x == Value.ref 34) = false := by simp [hne]
  have hlk := slot_wd_get.lookup
  have ho := own_exc_init
  have hT : (⟨h, g, d, t, os⟩ : Shared).TypeIs (.builtin "Exception.__init__") "wrapper_descriptor" := type_exc_init
  have ow : ".".intercalate ("Exception.__init__".cutAt '.').dropLast = "Exception" := by decide +kernel
  have hcB : (Value.ref 34 :: [Value.type "Exception", .type "BaseException", .type "object"]).contains (.type "Exception") = true := by rfl
  unfold Builtin.«super.__getattribute__»
  repeat (first
    | (with_reducible refine wpAny_field hso hdt f0 ?_) | (with_reducible refine wpAny_field hso hdt f1 ?_) | (with_reducible refine wpAny_field hso hdt f2 ?_)
    | (with_reducible refine ks_wpAny_notOpaque hno ?_)
    | (with_reducible refine wpAny_mroOf_exc hC ?_; rw [hl])
    | (with_reducible refine wpAny_typeOf hT ?_)
    | (with_reducible refine wpAny_call_entry slot_wd_get hT entry_wd_get (wd_get_run X hx hc ⟨_, rfl, ?_⟩) (args_wd_get _ _ _))
    | (rw [List.forIn_cons, ho])
    | (simp only [hne', Bool.or_false, Bool.false_eq_true, if_false])
    | wp_step
    | dsimp only)
  exact hq
theorem super_meth {so x : Addr} {ox : Obj} {P : Params} {pl : Sem Bool} {Q : Value × List Value → Shared → Prop} (X : (KF P).In h) (hso : h.get? so = some (ks_superObj 34 x 34)) (hx : h.get? x = some ox) (hc : ox.cls = .ref 34) (hne : x ≠ 34)
    (hq : Q (.ref h.objs.size, []) ⟨h.push (mwObj x), g, d, t + 1, os⟩) :
    wpAny (model pw w) A (getMethod (.ref so) "__init__" pl) Q E ⟨h, g, d, t, os⟩ := by
  have hlk := F.ks_slot_super_ga.lookup
  have hcan := F.ks_canon_super_ga
  have hT : ∀ t', (⟨h, g, d, t', os⟩ : Shared).TypeIs (.ref so) "super" := fun _ => ⟨_, hso, rfl⟩
  unfold getMethod
  refine wpAny_bind (wpAny_specialOf (hT _) hlk ?_)
  show wpAny _ _ (if (Manifest.canonical "super.__getattribute__" != "object.__getattribute__") = true then _ else _) _ _ _
  rw [if_pos hcan]
  unfold getAttr getAttrBy
  refine wpAny_bind (wpAny_bind (wpAny_mkText (wpAny_holding (wpAny_bind (wpAny_typeOf (hT _) (wpAny_bind (wpAny_of_eq hlk ?_)))))))
  show wpAny _ _ (getAttrByItsOwn (.ref so) (.str "__init__" t) (.type "super") (.builtin "super.__getattribute__") true false) _ _ _
  unfold getAttrByItsOwn hookBefore callGetattribute boundAndCalled
  refine wpAny_bind (wpAny_of_eq (show (if onTheHeap (.type "super") then typeLookup (.type "super") "__getattr__" else pure none) = pure none from rfl) ?_)
  refine wpAny_bind (wpAny_attempt (wpAny_holding ?_))
  show wpAny _ _ (bindSpecial (.builtin "super.__getattribute__") (.ref so) >>= _) _ _ _
  refine wpAny_bind (wpAny_of_eq (F.ks_slot_super_ga.bind _) ?_)
  refine wpAny_mono (Q := fun v s' => v = .ref h.objs.size ∧ s' = ⟨h.push (mwObj x), g, d, t + 1, os⟩) (E := fun _ _ => False)
    (wpAny_call_entry F.ks_slot_super_ga (hT _) F.ks_entry_super_ga (super_ga_run X hso hx hc hne ⟨_, rfl, rfl, rfl⟩) (F.ks_gaArgs_super _ _)) (fun v s' hv => ?_) fun _ _ z => z.elim
  obtain ⟨rfl, rfl⟩ := hv
  exact wpAny_pure (wpAny_pure hq)
/-- the wrapper is called -/
theorem mw_callWith {M : Model} {A : Around} {s : Shared} {pos : Pos} {u x : Addr} {env : Env} {e : Expr} {rest : List Expr} {Q : Value → Shared → Prop}
    (h : wpAny M A (spliced (backTo pos (starEach (e :: rest) env))) (fun vs s₁ => s₁.heap.get? u = some (mwObj x) ∧ wpAny M A (call (.ref u) vs) Q E s₁) E s)
    (he : starEach (e :: rest) env = (false, eval e env) :: starEach rest env := by rfl) (hplain : (backTo pos (starEach rest env)).any (·.1) = false := by rfl) :
    wpAny M A (callWith pos (.ref u) [] (backTo pos (starEach (e :: rest) env)) []) Q E s := by
  rw [he] at h ⊢
  have key : wpAny M A (evalArgs (.ref u) true (backTo pos ((false, eval e env) :: starEach rest env)) []) (fun x' s₁ => s₁.heap.get? u = some (mwObj x) ∧ wpAny M A (call (.ref u) ([] ++ x'.pos) x'.kw) Q E s₁) E s := evalArgs_plain h
  have hp : (backTo pos ((false, eval e env) :: starEach rest env)).any (·.1) = false := by show (false || (backTo pos (starEach rest env)).any (·.1)) = false; rw [hplain]; rfl
  generalize backTo pos ((false, eval e env) :: starEach rest env) = args at key hp ⊢
  unfold callWith
  refine wpAny_bind (wpAny_holding (wpAny_mono key (fun x' s₁ h₁ => wpAny_bind (wpAny_standAt ?_)) fun _ _ x => x))
  obtain ⟨ho, hcall⟩ := h₁
  simp only [hp, List.any_nil, Bool.or_false]
  refine wpAny_bind (m := keeperOf (.ref u)) ?_
  unfold keeperOf
  refine wpAny_bind (wpAny_load ho ?_)
  simp only [show (Value.type "method-wrapper" != Value.type "method") = true by decide, show (Value.type "method-wrapper" == Value.type "builtin_function_or_method" || Value.type "method-wrapper" == Value.type "method-wrapper") = true by decide, if_true]
  refine wpAny_pure ?_
  exact wpAny_bind (wpAny_mono hcall (fun r s₂ hr => wpAny_bind (wpAny_holding (wpAny_point (wpAny_pure hr)))) fun _ _ x => x)
theorem mw_call {s : Shared} {u x t0 : Addr} {v : Value} {ox : Obj} {P : Params} {Q : Value → Shared → Prop} (X : (KF P).In s.heap) (hu : s.heap.get? u = some (mwObj x)) (hx : s.heap.get? x = some { cls := .ref 34, dict := none, data := .fields #[.ref t0, .none, .none, .none, .bool false, .none] })
    (hq : ∀ t1, s.heap.get? t1 = none → (∀ h', (∀ b o, b ≠ x → s.heap.get? b = some o → h'.get? b = some o) → h'.get? x = some { cls := .ref 34, dict := none, data := .fields #[.ref t1, .none, .none, .none, .bool false, .none] } → Q .none { s with heap := h' })) :
    wpAny (model pw w) A (call (.ref u) [v]) Q E s := by
  obtain ⟨h, g, d, t, os⟩ := s
  have hC := hC34 X
  have hcB : (Value.ref 34 :: [Value.type "Exception", .type "BaseException", .type "object"]).contains (.type "Exception") = true := by rfl
  refine wpAny_call (codeAny_of_tree ?_)
  show wpAny _ A.in1 (callAny (.ref u) _) _ _ _
  unfold callAny
  refine wpAny_bind (wpAny_load hu ?_)
  simp only [show (Value.type "method-wrapper" == Value.type "method" || Value.type "method-wrapper" == Value.type "builtin_function_or_method" || Value.type "method-wrapper" == Value.type "method-wrapper") = true by decide, show (Value.type "method-wrapper" != Value.type "method") = true by decide, if_true]
  show wpAny _ _ (do checkBoundCall "Exception.__init__" ⟨[.ref x, v], []⟩; again (Code.builtin "Exception.__init__" ⟨[.ref x, v], []⟩)) _ _ _
  refine wpAny_bind ?_
  unfold checkBoundCall
  simp only [F.excBase_Exception.initRow, F.excBase_Exception.initKind]
  rw [if_pos (by decide)]
  have hshort := F.excBase_Exception.noStar
  wp_walk
  refine ⟨Code.quiet_builtin _ (by decide +kernel), codeAny_builtin F.excBase_Exception.initEntry ?_⟩
  have hx' : h.get? x = some { cls := .ref 34, dict := none, data := .fields #[.ref t0, .none, .none, .none, .bool false, .none] } := hx
  wp_walk
  refine hq h.objs.size (Heap.get?_none_of_le (Nat.le_refl _)) _ (fun b o hb ho => (Heap.get?_update_other _ _ (Ne.symm hb)).trans (Heap.get?_push_of_some _ ho)) ?_
  exact (Heap.get?_update_self _ (Heap.get?_push_of_some _ hx') rfl).trans rfl
end
end Mine
end
section
open PySem PySem.W PyProof.Rows PySem.Calls PySem.Spec
open Builtin Builtin.ObjectAttr
set_option maxRecDepth 100000
set_option linter.unusedVariables false
namespace Mine
section
variable {prog : Program} {w : World} {A : Around} {E : Value → Shared → Prop} {h : Heap} {g : Array GenState} {d : Drawn} {t : Nat} {os : OsState}
variable {nm q : Str} {C N x : Addr} {bs bm : List Value} {sn : List Str} {sub : List Value} {ab : Bool} {col : Option Bool} {dd : Option Addr} {k0 k1 k2 k3 k5 : Option Value} {B newId sa owner : String}
  {mN : Str → Option Value} {name : Str} {v : Value} {o : Obj}
/-- the first attribute of an object that has no dict yet -/
theorem set_first {Q : Unit → Shared → Prop} (SF : StoreFacts B bm sa owner) (hC : h.get? C = some (excClassObj nm q C N bs bm true sn sub ab col dd k0 k1 k2 k3 k5 newId)) (hn : h.Ns N mN) (hns : mN "__setattr__" = none) (hna : mN name = none)
    (hB : typeLookup (.type B) name = pure none) (hx : h.get? x = some o) (hc : o.cls = .ref C) (hnc : ∀ c, o.data ≠ .cls c) (hdn : o.dict = none)
    (hq : ∀ h' tk', h'.get? x = some { o with dict := some h.objs.size } → h'.Ns1 h.objs.size (fun y => if y = name then some v else none) → (∀ b o', b ≠ x → h.get? b = some o' → h'.get? b = some o') → Q () ⟨h', g, d, tk', os⟩) :
    wpAny (model prog w) A (setAttr (.ref x) name v) Q E ⟨h, g, d, t, os⟩ := by
  have hpass := SF.passes (.ref x)
  have f3 := SF.slot.bind (.ref x)
  unfold setAttr callSpecial? specialOf
  repeat (any_goals (first | assumption | (with_reducible refine wpAny_loadPart_at hx ?_; rw [hc]) | (with_reducible refine wpAny_typeLookup_exc hC hn SF.mro SF.slot.lookup ?_; rw [hns]) | wp_step))
  refine codeAny_call_builtin SF.slot.plain SF.entry (wpAny_check_sa SF hC hx hc ?_)
  unfold Builtin.«object.__setattr__»
  repeat (first | rw [refuse_eq] | (rw [refuseLoop_ref, hpass]) | (with_reducible refine wpAny_loadPart_at hx ?_; rw [hc]) | with_reducible refine wpAny_mroOf_exc hC ?_ | (with_reducible refine wpAny_typeLookup_exc hC hn SF.mro hB ?_; rw [hna]) | wp_step)
  rw [hdn, if_neg (by simp [typeHasDict])]
  split
  · rename_i hcd
    cases hcd
  split
  · rename_i c hcd
    exact absurd hcd (hnc c)
  · have hx₁ : (h.push { cls := .type "dict", data := .dict #[] }).get? x = some o := Heap.get?_push_of_some _ hx
    have hxs : x ≠ h.objs.size := Nat.ne_of_lt (Heap.lt_size hx)
    refine wpAny_bind (wpAny_alloc' ?_)
    refine wpAny_bind (wpAny_update' hx₁ ?_)
    refine wpAny_pure ?_
    have hgd : ((h.push { cls := .type "dict", data := .dict #[] }).update x fun o => { cls := o.cls, dict := some h.objs.size, data := o.data, slots := o.slots }).get? h.objs.size
        = some { cls := .type "dict", data := .dict #[] } :=
      (Heap.get?_update_ne _ _ _ _ hxs.symm).trans (Heap.get?_push_at rfl rfl)
    have hnd : ((h.push { cls := .type "dict", data := .dict #[] }).update x fun o => { cls := o.cls, dict := some h.objs.size, data := o.data, slots := o.slots }).Ns h.objs.size (fun _ => none) :=
      ⟨_, #[], _, hgd, rfl, fun e he => absurd he (by simp), fun _ => rfl⟩
    show wpAny _ _ (storeInDict h.objs.size (.str name _) name v) _ _ _
    unfold storeInDict newKeyGuard
    refine wpAny_bind (wpAny_pure (wpAny_bind (wpAny_nsSet1 (Heap.Ns1.of_empty hnd) fun h' hn' hs => ?_)))
    obtain ⟨oD, esD, epD, hoD, hdD, hcD⟩ := hn'.count (Within.cons name v Within.nil)
    refine wpAny_bind (wpAny_lookBehind hoD (by rw [hdD]; exact pastItsLine_dict (Nat.le_trans hcD (by rw [List.length_cons, List.length_nil, sizeLine_eq]; omega))) ?_)
    wp_walk
    refine hq h' _ ?_ hn' (fun b ob hbx hb => ?_)
    · refine (hs.2 x hxs).trans (Heap.get?_update_self _ hx₁ ?_)
      have hfr := (Heap.get?_some_iff.mp hx).2
      obtain ⟨oc, od, odt, osl⟩ := o
      cases odt <;> first | rfl | exact hfr
    · exact (hs.2 b (Nat.ne_of_lt (Heap.lt_size hb))).trans ((Heap.get?_update_ne _ _ _ _ hbx).trans (Heap.get?_push_of_some _ hb))
end
end Mine
end
section
open PySem PySem.W PyProof.Rows PySem.Calls PySem.Spec
set_option maxRecDepth 100000
set_option linter.unusedVariables false
namespace Mine
theorem init_eq : ∃ p1 p2 p3 p4 p5 p6 p7 p8 p9 p10 p11 p12 p13 p14, sBody (cstm 3 0) = [.Expr (.Call (.Attribute (.Call (.Name (S "super") p1) [] [] p2) (S "__init__") p3) [.Name (S "code") p4] [] p5) p6,
    .Assign [.Attribute (.Name (S "self") p7) (S "code") p8] (.Name (S "code") p9) p10, .Assign [.Attribute (.Name (S "self") p11) (S "told") p12] (.Name (S "told") p13) p14] ∧ (p3.endLine == p5.line) = true := ⟨_, _, _, _, _, _, _, _, _, _, _, _, _, _, rfl, rfl⟩
theorem methEq2 {o e : Expr} {nm : Str} {ap pos : Pos} {env : Env} (hs : isStarred e = false) (h : (ap.endLine == pos.line) = true) :
    eval (.Call (.Attribute o nm ap) [e] [] pos) env = (do
      let ov ← attributeBase o nm env (eval o env)
      standAt ap.atName
      let (f, first) ← holding [ov] (getMethod ov nm (do return (← importBound o env).getD true))
      callWith pos f first (backTo pos (starEach [e] env)) []) := by
  have hf : methodCallForm (([e] : List Expr).length + ([] : List Keyword).length) (backTo pos (starEach [e] env)) (backToKw pos (keywordEach [] env)) = true := by
    rw [starEach_of [] env hs]; rfl
  rw [PySem.arm_eval_Call]
  unfold methodCall
  rw [hf]
  unfold calleeOf methodCallPos
  simp only [Bool.not_true, Bool.false_or, h, if_true, ↓reduceIte, pure_bind]
  rfl
theorem fresh_new {h₀ h h' : Heap} {L : Addr} {m : Str → Option Value} (F : Fr h₀ L h m) {e : Addr} {o : Obj} (k : ∀ b o, h.get? b = some o → h'.get? b = some o) (new : h.get? e = none) (he : h'.get? e = some o) : h'.get? e = some o ∧ e ≠ L ∧ h₀.get? e = none := by
  refine ⟨he, fun q => ?_, ?_⟩
  · subst q
    obtain ⟨oL, _, _, hL, _⟩ := F.ns
    rw [new] at hL; cases hL
  · cases q : h₀.get? e with
    | none => rfl
    | some o' => rw [F.keep _ _ q] at new; cases new
theorem news_cons {h₀ h : Heap} {L : Addr} {news : List (Addr × Obj)} {e : Addr} {o : Obj} (x : h.get? e = some o ∧ e ≠ L ∧ h₀.get? e = none) (N : News h₀ L h news) : News h₀ L h ((e, o) :: news) := fun p hp => by
  rcases List.mem_cons.mp hp with rfl | hp
  · exact x
  · exact N p hp
/-- one object is changed -/
theorem keep_but {g h h' : Heap} {L e : Addr} {m : Str → Option Value} {news : List (Addr × Obj)} (F : Fr g L h m) (N : News g L h news) (hg : g.get? e = none) (hL : L ≠ e) (hn : ∀ p ∈ news, p.1 ≠ e)
    (k : ∀ b o, b ≠ e → h.get? b = some o → h'.get? b = some o) : Fr g L h' m ∧ News g L h' news :=
  ⟨⟨F.ns.at' fun o q => k L o hL q, fun b o q => k b o (fun z => by rw [z, hg] at q; cases q) (F.keep b o q), F.above⟩, fun p hp => ⟨k _ _ (hn p hp) (N p hp).1, (N p hp).2⟩⟩
noncomputable abbrev excObj (t : Addr) (d : Option Addr) : Obj := { cls := .ref 34, dict := d, data := .fields #[.ref t, .none, .none, .none, .bool false, .none] }
section
variable {w : World} {x : Amb} {n : Nat} {s : Shared} {mc : Str → Option Value} {news : List (Addr × Obj)} {Q E : Value → Shared → Prop} {code : Str}
theorem exc_made (O : x.Ok w (n + 1)) (F : Fr x.h₀ x.L s.heap mc) (N : News x.h₀ x.L s.heap news) {vals : List Value} (hv : ∃ t, vals = [.str code t] ∨ ∃ u t', vals = [.str code t, .str u t'])
    (hq : ∀ e h h' tk', Fr x.h₀ x.L h mc → News x.h₀ x.L h news → MadeX h h' e code → Q (.ref e) { s with heap := h', toks := tk' }) : wpAny (model pw w) x.A (call (.ref 34) vals) Q E s := by
  obtain ⟨hp, g, d, tk, os⟩ := s
  have X : (KF w.params).In hp := O.X.keeps F.keep
  have hlen : vals.length ≤ sizeLine := by
    have := sizeLine_eq
    rcases hv with ⟨t, rfl | ⟨u, t', rfl⟩⟩ <;> simp <;> omega
  refine wpAny_call_exc_init PySem.F.excBase_Exception (hC34 X) (hN33 X) (m33_init _) (X 31 (o31 w.params) (by kernel_rfl)) rfl (fun h1 e ME => ?_) hlen
  obtain ⟨k1, new, t, he, ht0, ht⟩ := ME
  have F1 : Fr x.h₀ x.L h1 mc := F.grownK k1
  have N1 : News x.h₀ x.L h1 ((e, excObj t none) :: news) := news_cons (fresh_new F k1 new he) (N.grown k1)
  have X1 : (KF w.params).In h1 := X.keeps k1
  obtain ⟨told, tt, hb⟩ : ∃ (told : Str) (tt : Tok) , ∃ ct, BindsTo (⟨h1, g, d, tk, os⟩ : Shared) (ksFn (S "__init__") (S "BasicError.__init__") (sArgs (cstm 3 0)) (sBody (cstm 3 0)) (sScope (cstm 3 0)) (.ref 23) .none .none (.str (S "basicplus.values") 187) none (.ref 30) (.ref 24) 18) ⟨.ref e :: vals, []⟩
      [(S "self", .ref e), (S "code", .str code ct), (S "told", .str told tt)] := by
    rcases hv with ⟨t1, rfl | ⟨u, t', rfl⟩⟩
    · exact ⟨S "", 205, t1, BindsTo.of_defaults (T := 23) (o := o23 w.params) (items := #[.str (S "") 205]) (n := 0) rfl (X1 23 _ (by kernel_rfl)) rfl rfl rfl⟩
    · exact ⟨u, t', t1, BindsTo.of_defaults (T := 23) (o := o23 w.params) (items := #[.str (S "") 205]) (n := 0) rfl (X1 23 _ (by kernel_rfl)) rfl rfl rfl⟩
  obtain ⟨ct, hb⟩ := hb
  refine wpAny_call (ks_code_super (K := KF w.params) (s := ⟨h1, g, d, tk, os⟩) O.B F1 O.X N1 O.T (by show pushEnvs [] x.A.frames = _; rw [O.frames]; rfl) rfl O.kind (f := 31) (show (KF w.params).lookup 31 = some (o31 w.params) by kernel_rfl) (by kernel_rfl) (by have := O.dp; have hwt : (Code.builtin "type.__call__" ⟨.ref 34 :: vals, []⟩).weight ≤ 1 := Nat.le_of_eq (show _ = 1 by kernel_rfl); show x.A.depth + _ < _; omega) hb ?_ ?_ (by decide) rfl rfl rfl)
  · intro y hy
    rcases List.mem_cons.mp hy with rfl | hy
    · show (sScope (cstm 3 0)).names.lookup (S "self") = _; decide
    · rcases List.mem_cons.mp hy with rfl | hy
      · show (sScope (cstm 3 0)).names.lookup (S "code") = _; decide
      · rw [List.mem_singleton.mp hy]; show (sScope (cstm 3 0)).names.lookup (S "told") = _; decide
  intro g0 L' h2 FG F' N' B' X' T' l1
  obtain ⟨p1, p2, p3, p4, p5, p6, p7, p8, p9, p10, p11, p12, p13, p14, hbody, hpos⟩ := init_eq
  rw [hbody]
  have ne34 : e ≠ 34 := fun q => by subst q; rw [X 34 (o34 w.params) (by kernel_rfl)] at new; cases new
  have nne : ∀ p ∈ news, p.1 ≠ e := fun p hm q => by have := (N p hm).1; rw [q] at this; exact absurd (this.symm.trans new) (by simp)
  have eL' : L' ≠ e := fun q => (N' _ (.head _)).2.1 q.symm
  have ge : g0.get? e = none := (N' _ (.head _)).2.2
  refine ks_wpAt_execs_cons (ks_wpAt_Expr_any (ks_wpAt_MethodCall (ks_node (x := e) (C := 34) (D := 34) (cc := 18) (cda := 30) (f := 31) (ox := excObj t none) (odx := none) F' X' N' T' (show (KF w.params).lookup 31 = some (o31 w.params) by kernel_rfl) rfl (by kernel_rfl) ⟨(N' _ (.head _)).1, rfl, rfl, trivial⟩
    (show (KF w.params).lookup 30 = some (o30 w.params) by kernel_rfl) rfl (by decide +kernel) (show (KF w.params).lookup 18 = some (o18 w.params) by kernel_rfl) (show clsIn (KF w.params) 34 = some { name := (S "BasicError"), bases := [(.type "Exception")], mro := [(.ref 34), (.type "Exception"), (.type "BaseException"), (.type "object")], ns := 33, qualname := (S "BasicError"), hasDict := true, slotNames := [], subclasses := [], abstract := false, collection := none, hasDel := false } by kernel_rfl) (by kernel_rfl) (by kernel_rfl) (by decide) (by rfl) (by rfl) (by rfl) (by rfl) (by decide +kernel) (by kernel_rfl) fun so h3 F3 N3 l3 => ?_) (methEq2 rfl hpos)))
  refine super_meth (P := w.params) (X'.keeps F3.keep) (N3 _ (.head _)).1 (N3 _ (.tail _ (.head _))).1 rfl ne34 ?_
  dsimp only
  have F4 := F3.push (mwObj e)
  have N4 := News.push F3 N3 (mwObj e)
  refine mw_callWith (x := e) (spliced_more (wpAny_Name (wpAny_loadName_local (v := .str code ct) rfl (by rfl) F4.ns (by kernel_rfl) (spliced_none ⟨(N4 _ (.head _)).1, mw_call (t0 := t) (P := w.params) (ox := excObj t none) (X'.keeps F4.keep) (N4 _ (.head _)).1 (N4 _ (.tail _ (.tail _ (.head _)))).1 fun t1 ht1 h5 k5 he5 => ?_⟩)) (by decide)))
  obtain ⟨F5, N5⟩ := keep_but F4 (fun p hm => N4 p (.tail _ (.tail _ (.tail _ hm)))) ge eL' nne k5
  have X5 : (KF w.params).In h5 := X'.keeps F5.keep
  have d5 : h5.get? h5.objs.size = none := Heap.get?_none_of_le (Nat.le_refl _)
  refine wpAt_of_wpAny (wpAny_execs_cons (plainObj_wpAny_Assign_Attribute (wpAny_Name (wpAny_loadName_local (v := .str code ct) rfl (by rfl) F5.ns (by kernel_rfl) (wpAny_Name (wpAny_loadName_local (v := .ref e) rfl (by rfl) F5.ns (by kernel_rfl)
    (set_first PySem.F.store_Exception (hC34 X5) (hN33 X5) (m33_sa _) (m33_code _) lk_code he5 rfl (fun c q => by cases q) rfl fun h6 tk6 he6 ns6 k6 => ?_)) (by decide))) (by decide))))
  have hd6 : h5.objs.size ≠ e := fun q => by rw [q, he5] at d5; cases d5
  obtain ⟨F6, N6⟩ := keep_but F5 N5 ge eL' nne k6
  have X6 : (KF w.params).In h6 := X'.keeps F6.keep
  have old : ∀ b o, h5.get? b = some o → b ≠ h5.objs.size := fun b o q z => by rw [z, d5] at q; cases q
  refine wpAny_execs_cons (plainObj_wpAny_Assign_Attribute (wpAny_Name (wpAny_loadName_local (v := .str told tt) rfl (by rfl) F6.ns (by kernel_rfl) (wpAny_Name (wpAny_loadName_local (v := .ref e) rfl (by rfl) F6.ns (by kernel_rfl)
    (store_attr PySem.F.store_Exception (hC34 X6) (hN33 X6) (m33_sa _) (m33_told _) lk_told ne34 ⟨_, he6, rfl, (fun c q => by cases q), .inr ⟨h5.objs.size, rfl, hd6, ns6⟩⟩ (fun h7 tk7 I7 k7 o7 => ?_) (Within.cons _ _ Within.nil))) (by decide))) (by decide)))
  obtain ⟨o₁, he7, c1, c2, c3, c4⟩ := o7 _ he6
  have e7 : h7.get? e = some (excObj t1 (some h5.objs.size)) := by
    rw [he7]
    have := c4 _ rfl
    obtain ⟨oc, od, odt, osl⟩ := o₁
    dsimp only at c1 c2 c3 this
    subst c1 c2 c3 this
    rfl
  have k7' : ∀ b o, b ≠ e → b ≠ h5.objs.size → h6.get? b = some o → h7.get? b = some o := fun b o h1 h2 q => k7 b o h1 (fun o₀ dx z1 z2 => by rw [he6] at z1; cases z1; cases z2; exact h2) q
  have ns7 : ∃ mA : Str → Option Value, h7.Ns1 h5.objs.size mA ∧ mA (Str.ofString "code") = some (.str code ct) := by
    obtain ⟨o2, z1, _, _, z4⟩ := I7
    rw [e7] at z1
    cases z1
    rcases z4 with ⟨z, _⟩ | ⟨dx, z, _, zz⟩
    · cases z
    · cases z
      refine ⟨_, zz, ?_⟩
      show (if _ then _ else if _ then _ else _) = _
      rw [if_neg (by decide), if_pos rfl]
  obtain ⟨oL, _, _, hL, _⟩ := F5.ns
  have F7 : Fr g0 L' h7 _ := ⟨F6.ns.at' fun o q => k7' L' o eL' (old _ _ hL) q, fun b o q => k7' b o (fun z => by rw [z, ge] at q; cases q) (old _ _ (F5.keep b o q)) (F6.keep b o q), F6.above⟩
  have N7 : News g0 L' h7 news := fun p hm => ⟨k7' _ _ (nne p hm) (old _ _ (N5 p hm).1) (N6 p hm).1, (N6 p hm).2⟩
  refine wpAny_execs_nil (leaveK_ F7 N7 fun Fx Nx => ⟨rfl, ?_⟩)
  have hin : ∀ {b : Addr}, b ≠ e → b ≠ h5.objs.size → b ∉ [e, h5.objs.size] := fun h1 h2 hm => by
    rcases List.mem_cons.mp hm with q | q
    · exact h1 q
    · exact h2 (List.mem_singleton.mp q)
  have xe := (N1 _ (.head _)).2
  obtain ⟨oX, _, _, hX, _⟩ := FG.ns
  refine hq e (hideAll h7 [e, h5.objs.size]) h7 _ ⟨Fx.ns.at' fun o q => hideAll_get _ q (hin (Ne.symm xe.1) (old _ _ (F5.keep _ _ hX))), fun b o q => hideAll_get _ (Fx.keep b o q) (hin (fun z => by rw [z, xe.2] at q; cases q) (old _ _ (F5.keep _ _ (FG.keep _ _ q)))), Fx.above⟩
    (fun p hm => ⟨hideAll_get _ (Nx p hm).1 (hin (nne p hm) (old _ _ (N5 p hm).1)), (Nx p hm).2⟩)
    ⟨fun b o q => of_hideAll _ q, hideAll_none _ (.head _), h5.objs.size, t1, e7, hideAll_none _ (.tail _ (.head _)), hd6, ?_⟩
  obtain ⟨mA, z1, z2⟩ := ns7
  exact ⟨mA, ct, z1, z2⟩
theorem raisedRule (w : World) : ∀ {x : Amb} {n : Nat} {m : Loc} {σ : Sto} {c : Cfg} {s : Shared} {Q E : Value → Shared → Prop} {code : Str} {vals : List Value}, x.Ok w (n + 1) → SR w x.h₀ x.L m σ c s.heap → (∃ t, vals = [.str code t] ∨ ∃ u t', vals = [.str code t, .str u t']) →
    (∀ e h h' tk', Fr x.h₀ x.L h c.mc → News x.h₀ x.L h c.all → MadeX h h' e code → Q (.ref e) { s with heap := h', toks := tk' }) → wpAny (model pw w) x.A (call (.ref 34) vals) Q E s :=
  fun O S hv hq => exc_made O S.F S.N hv hq
end
theorem rules (w : World) : Rules w := { toBookRules := bookRules w, raised := raisedRule w }
end Mine
end
section
open PySem PySem.W PyProof.Rows PySem.Calls PySem.Spec
set_option maxRecDepth 100000
set_option linter.unusedVariables false
namespace Mine
/-- locals: a list of names and values that follows the machine's -/
inductive LR (w : World) (c : Cfg) : Loc → List (Str × Value) → Prop
  | nil : LR w c [] []
  | cons {y : Str} {v : V} {val : Value} {m : Loc} {l : List (Str × Value)} : RV w c v val → LR w c m l → LR w c ((y, v) :: m) ((y, val) :: l)
theorem LR.look {w : World} {c : Cfg} {m : Loc} {l : List (Str × Value)} (h : LR w c m l) : ∀ (y : Str) (v : V), look y m = some v → ∃ val, l.lookup y = some val ∧ RV w c v val := by
  induction h with
  | nil => intro y v e; cases e
  | @cons y' v' val m l h _ ih =>
    intro y v e
    unfold Mine.look at e
    rw [List.lookup_cons]
    split at e
    · rename_i q
      cases e
      rw [q]
      exact ⟨val, rfl, h⟩
    · rename_i q
      rw [q]
      exact ih y v e
theorem LR.put {w : World} {c : Cfg} : ∀ {xs : List Str} {vs : List V} {vals : List Value} {m : Loc} {l : List (Str × Value)}, xs.length = vs.length → RVs w c vs vals → LR w c m l → LR w c (putAll xs vs m) ((xs.zip vals).reverse ++ l)
  | [], vs, vals, m, l, e, h, hl => by
    cases vs with
    | nil => cases h; exact hl
    | cons _ _ => cases e
  | x :: xs, [], vals, m, l, e, h, hl => by cases e
  | x :: xs, v :: vs, vals, m, l, e, h, hl => by
    cases h with
    | cons h1 h2 =>
      rw [List.zip_cons_cons, List.reverse_cons, List.append_assoc]
      exact LR.put (Nat.succ.inj e) h2 (.cons h1 hl)
section
variable {w : World} {x : Amb} {n : Nat} {m : Loc} {σ : Sto} {c : Cfg} {s : Shared} {Q : Value → Shared → Prop} {E : Value → Shared → Prop}
theorem stepC_sound {Sp : Specs} {B : Nat} (SO : SpOk w Sp B) {r : EvR} {k : Nat} (H : Snd w r (k + B)) (O : x.Ok w (k + 1 + B)) {f : Addr} {args : List V} {vals : List Value} {ω : Om} {K : KE} {X : KX} (S : SR w x.h₀ x.L m σ c s.heap) (ha : RVs w c args vals) (h : stepC Sp r f args σ ω K X)
    (P : ∀ v σ' ω', K v σ' ω' → PostE w x m c s Q v σ') (PX : ∀ d σ' ω', X d σ' ω' → PostX x c s E d σ') : wpAny (model pw w) x.A (call (.ref f) vals) Q E s := by
  unfold stepC at h
  split at h
  · rename_i ho
    unfold orC at h
    split at h
    · rename_i r' σ' ω'
      refine SO.C (O.less (by omega)) S ha ho h.1 (fun v e => ?_) fun d e => ?_
      · subst e; exact P _ _ _ h.2
      · subst e; exact PX _ _ _ h.2
    · exact h.elim
  · split at h
    · rename_i st hf
      obtain ⟨name, qual, dV, kV, doc, pm, an, cdv, ct, oc, od, osl, f1, f2, f3, f4, f5, f6, f7, f8⟩ := fnOk_of w.params hf
      split at h
      · rename_i hlen
        have hlen' : (fnOfS st).names.length = args.length := eq_of_beq hlen
        refine wpAny_call (code_def O.B S.F O.X S.N O.T O.frames rfl O.kind f1 f2 (by have := O.dp; omega) (f3 s vals (by rw [ha.length, hlen'])) ?_ ?_ f5 f6 f7 ?_)
        · intro y hy
          have := List.all_eq_true.mp f4 y.1 (List.of_mem_zip hy).1
          simpa using this
        · intro g L' h₁ FG F' N' B' X' T'
          have O' : Amb.Ok w ⟨x.mean, x.mg, x.mb, x.A.deeper (envOf qual (sScope st) L' f cdv), x.A, x.env :: x.outer, x.base, g, L', sScope st, qual, f, cdv⟩ (k + B) :=
            ⟨B', rfl, X', T', O.hh, by have := O.dp; show x.A.depth + 1 + (k + B) < _; omega, by have := O.un; show x.A.units + 3 + 8 * (k + B) + 200 < _; omega, f7, O.gd⟩
          have M0 : MuR ⟨fun y => ((fnOfS st).names.zip vals).reverse.lookup y, c.mu, c.fz, c.ex⟩ σ := ⟨S.st.len, S.st.at_, S.st.nd, S.st.dj, S.st.dx, S.st.fx⟩
          have gr : Grow c ⟨fun y => ((fnOfS st).names.zip vals).reverse.lookup y, c.mu, c.fz, c.ex⟩ := ⟨fun _ h => h, fun _ _ o h => ⟨o, h⟩, rfl⟩
          have S0 : SR w g L' (putAll (fnOfS st).names args []) σ ⟨fun y => ((fnOfS st).names.zip vals).reverse.lookup y, c.mu, c.fz, c.ex⟩ h₁ := by
            refine ⟨F', N', fun y v hv => ?_, M0⟩
            have := (LR.put (m := []) (l := []) hlen' (ha.mono gr) .nil).look y v hv
            rw [List.append_nil] at this
            exact this
          refine exL_sound H O' _ S0 h (fun fl m' σ' ω' k' fv c' h' tk' S' G' R' => ?_) (fun d σ' ω' k' e c' h' tk' G' M' XX => ?_)
          · have G'' : Grow c { c' with mc := c.mc } := ⟨G'.fz, G'.mu, G'.ex⟩
            have gc : Grow c' { c' with mc := c.mc } := ⟨fun _ h => h, fun _ _ o h => ⟨o, h⟩, rfl⟩
            have M'' : MuR { c' with mc := c.mc } σ' := ⟨S'.st.len, S'.st.at_, S'.st.nd, S'.st.dj, S'.st.dx, S'.st.fx⟩
            cases fl with
            | next =>
              have e : fv = .next := R'
              subst e
              exact leaveK_ S'.F S'.N fun F'' N'' => P _ _ _ k' _ { c' with mc := c.mc } h' tk' ⟨F'', N'', S.lo.grow rfl G'', M''⟩ G'' rfl .none
            | ret v =>
              obtain ⟨val, rfl, R⟩ := R'
              exact leaveK_ S'.F S'.N fun F'' N'' => P _ _ _ k' _ { c' with mc := c.mc } h' tk' ⟨F'', N'', S.lo.grow rfl G'', M''⟩ G'' rfl (R.mono gc)
          · have G'' : Grow c { c' with mc := c.mc } := ⟨G'.fz, G'.mu, G'.ex⟩
            have M'' : MuR { c' with mc := c.mc } σ' := ⟨M'.len, M'.at_, M'.nd, M'.dj, M'.dx, M'.fx⟩
            cases XX with
            | made F1 N1 MD => exact leave_made B' MD F1 N1 f7 fun h2 RD up => PX _ _ _ k' e { c' with mc := c.mc } h2 tk' G'' rfl M'' (.fly FG RD up)
            | noted F1 RD0 up0 => exact leave_noted B' F1 RD0 up0 fun h2 RD up => PX _ _ _ k' e { c' with mc := c.mc } h2 tk' G'' rfl M'' (.fly FG RD up)
            | fly F1 RD0 up0 => exact leave_fly B' F1 RD0 up0 fun h2 RD up => PX _ _ _ k' e { c' with mc := c.mc } h2 tk' G'' rfl M'' (.fly FG RD up)
        · intro y hy
          have := List.all_eq_true.mp f8 y hy
          intro e
          rw [e] at this
          simp at this
      · exact h.elim
    · exact h.elim
end
end Mine
end
section
open PySem PySem.W PyProof.Rows PySem.Calls PySem.Spec
set_option maxRecDepth 100000
set_option linter.unusedVariables false
namespace Mine
theorem kvMerged {kvs : List (Str × Value)} : ∀ {acc : List (Str × Value)}, ((acc ++ kvs).map (·.1)).Nodup → merged acc kvs = acc ++ kvs := by
  induction kvs with
  | nil => intro acc h; simp [merged]
  | cons p r ih =>
    intro acc h
    have hn : acc.any (fun kv => kv.1 = p.1) = false := by
      rw [List.any_eq_false]
      intro q hq e
      rw [List.map_append, List.nodup_append] at h
      exact h.2.2 q.1 (List.mem_map_of_mem hq) p.1 (by simp) (of_decide_eq_true e)
    have hs : stored acc p.1 p.2 = acc ++ [(p.1, p.2)] := by
      unfold stored
      rw [hn]; rfl
    show merged (stored acc p.1 p.2) r = _
    rw [hs, ih]
    · rw [List.append_assoc]; rfl
    · rw [List.append_assoc]; exact h
theorem kvKeys {fz : List (Addr × Obj)} {kvs : List (Str × Value)} {es : List (Str × Dat)} (h : KvAre fz kvs es) : kvs.map (·.1) = es.map (·.1) := by
  induction h with
  | nil => rfl
  | cons _ _ ih => simp [ih]
theorem nodupOf : ∀ {l : List Str}, nodupB l = true → l.Nodup
  | [], _ => List.nodup_nil
  | a :: l, h => by
    unfold nodupB at h
    rw [Bool.and_eq_true, Bool.not_eq_true', List.any_eq_false] at h
    refine List.nodup_cons.mpr ⟨fun hm => h.1 a hm (by simp), nodupOf h.2⟩
section
variable {w : World} {x : Amb} {n : Nat} {m : Loc} {σ : Sto} {c c₁ : Cfg} {s : Shared} {h₁ : Heap} {t₁ : Nat} {Q : Value → Shared → Prop} {E : Value → Shared → Prop}
noncomputable abbrev PostK (w : World) (x : Amb) (m : Loc) (c : Cfg) (s : Shared) (Q : List (Value × Value) → Shared → Prop) (es : List (Str × Dat)) (σ : Sto) : Prop :=
  ∀ vals kvs c' h' tk', SR w x.h₀ x.L m σ c' h' → Grow c c' → c'.mc = c.mc → Carries (PySem.strKind pw w) vals kvs → KvAre c'.fz kvs es → Q vals { s with heap := h', toks := tk' }
theorem evDict_sound {r : EvR} (H : Snd w r n) (O : x.Ok w n) {pos : Pos} {X : KX} : ∀ (ks : List (Option Expr)) (vs : List Expr) {σ : Sto} {ω : Om} {K : List (Str × Dat) → Sto → Om → Prop} {c : Cfg} {s : Shared} {Q : List (Value × Value) → Shared → Prop}, SR w x.h₀ x.L m σ c s.heap → evDict r x.sc m ks vs σ ω K X →
    (∀ es σ' ω', K es σ' ω' → PostK w x m c s Q es σ') → (∀ d σ' ω', X d σ' ω' → PostX x c s E d σ') →
    (ks.all (·.isSome) = true → ks.length = vs.length → wpAny (model pw w) x.A (evalPairs (pairTrees ks vs x.env pos)) Q E s) := by
  intro ks
  induction ks with
  | nil =>
    intro vs σ ω K c s Q S h P PX _ _
    cases vs with
    | nil => exact pairTrees_nil_walk (P _ _ _ h _ [] c s.heap s.toks S (Grow.refl c) rfl trivial .nil)
    | cons _ _ => exact h.elim
  | cons k ks ih =>
    intro vs σ ω K c s Q S h P PX ha hl
    cases vs with
    | nil => cases hl
    | cons v vs =>
      cases k with
      | none => exact False.elim h
      | some ke => cases ke with
        | Constant cc u1 u2 => cases cc with
          | str kk =>
            rw [List.all_cons, Bool.and_eq_true] at ha
            refine pairTrees_cons_walk (wpAny_Constant_str ?_)
            refine H.e O (s := { s with toks := s.toks + 1 }) S h (fun v σ1 ω1 k1 val c1 h1 t1 S1 G1 e1 R1 => ?_) PX
            split at k1
            · rename_i d hd
              refine ih vs S1 k1 (fun es σ2 ω2 k2 vals kvs c2 h2 t2 S2 G2 e2 C2 A2 => ?_) (fun d σ2 ω2 k2 => fromX (s := s) G1 e1 (PX d σ2 ω2 k2)) ha.2 (Nat.succ.inj hl)
              exact P _ _ _ k2 _ ((kk, val) :: kvs) c2 h2 t2 S2 (G1.trans G2) (e2.trans e1) ⟨strKind_is pw w kk s.toks, rfl, C2⟩ (.cons ((datOf R1 hd).mono G2.fz) A2)
            · exact k1.elim
          | _ => exact False.elim h
        | _ => exact False.elim h
theorem dict_sound {r : EvR} (H : Snd w r n) (O : x.Ok w n) {pos : Pos} {X : KX} {k0 : Option Expr} {ks : List (Option Expr)} {vs : List Expr} {ω : Om} {K : KE} (S : SR w x.h₀ x.L m σ c s.heap)
    (hc : ((k0 :: ks).all (·.isSome) && Nat.beq (k0 :: ks).length vs.length && Nat.ble (k0 :: ks).length 15) = true)
    (h : evDict r x.sc m (k0 :: ks) vs σ ω (fun es σ ω => match nodupB (es.map (·.1)) with
        | true => K (.dc es) σ ω
        | false => False) X)
    (P : ∀ v σ' ω', K v σ' ω' → PostE w x m c s Q v σ') (PX : ∀ d σ' ω', X d σ' ω' → PostX x c s E d σ') : wpAny (model pw w) x.A (eval (.Dict (k0 :: ks) vs pos) x.env) Q E s := by
  simp only [Bool.and_eq_true, Nat.ble_eq] at hc
  have hlen := Nat.eq_of_beq_eq_true hc.1.2
  refine wpAny_Dict_walk (knd := PySem.strKind pw w) hc.1.1 hlen (by simp) hc.2 ?_
  have ned := size_ne S.N
  have c1F := S.F.push { cls := .type "dict", data := .dict #[] }
  have c1N := News.push S.F S.N { cls := .type "dict", data := .dict #[] }
  have hlo : (s.heap.objs.size == sysModules) = false := S.F.notModules (modules_low O.T.nolimit)
  have M1 : MuR { c with ex := (s.heap.objs.size, { cls := .type "dict", data := .dict #[] }) :: c.ex } σ :=
    ⟨S.st.len, S.st.at_, S.st.nd, S.st.dj, fun p hp q hq => by
      rcases List.mem_cons.mp hq with rfl | hq
      · exact ned p (List.mem_append.mpr (.inl hp))
      · exact S.st.dx p hp q hq, fun p hp q hq => by
      rcases List.mem_cons.mp hq with rfl | hq
      · exact ned p (List.mem_append.mpr (.inr (List.mem_append.mpr (.inl hp))))
      · exact S.st.fx p hp q hq⟩
  have S1 : SR w x.h₀ x.L m σ { c with ex := (s.heap.objs.size, { cls := .type "dict", data := .dict #[] }) :: c.ex } (s.heap.push { cls := .type "dict", data := .dict #[] }) := by
    refine ⟨c1F, fun p hp => c1N p ?_, fun y v hy => ?_, M1⟩
    · rcases List.mem_append.mp hp with hp | hp
      · exact .tail _ (List.mem_append.mpr (.inl hp))
      · rcases List.mem_append.mp hp with hp | hp
        · exact .tail _ (List.mem_append.mpr (.inr (List.mem_append.mpr (.inl hp))))
        · rcases List.mem_cons.mp hp with rfl | hp
          · exact .head _
          · exact .tail _ (List.mem_append.mpr (.inr (List.mem_append.mpr (.inr hp))))
    · obtain ⟨val, h1, h2⟩ := S.lo y v hy
      exact ⟨val, h1, h2.ex⟩
  have back : ∀ {c' : Cfg}, Grow { c with ex := (s.heap.objs.size, { cls := .type "dict", data := .dict #[] }) :: c.ex } c' → ∀ o', Grow c { c' with fz := (s.heap.objs.size, o') :: c'.fz, ex := c.ex } := fun g o' => ⟨fun p hp => .tail _ (g.fz p hp), g.mu, rfl⟩
  have back0 : ∀ {c' : Cfg}, Grow { c with ex := (s.heap.objs.size, { cls := .type "dict", data := .dict #[] }) :: c.ex } c' → Grow c { c' with ex := c.ex } := fun g => ⟨fun p hp => g.fz p hp, g.mu, rfl⟩
  refine evDict_sound H O _ _ (s := { s with heap := s.heap.push { cls := .type "dict", data := .dict #[] } }) S1 h (fun es σ2 ω2 k2 vals kvs c2 h2 t2 S2 G2 e2 C2 A2 => ?_) (fun d σ2 ω2 k2 e c2 h2 t2 G2 e2 M2 X2 => ?_) hc.1.1 hlen
  · split at k2
    · rename_i hnd
      have hex : (s.heap.objs.size, ({ cls := .type "dict", data := .dict #[] } : Obj)) ∈ c2.ex := by rw [G2.ex]; exact .head _
      have hin : (s.heap.objs.size, ({ cls := .type "dict", data := .dict #[] } : Obj)) ∈ c2.all := List.mem_append.mpr (.inr (List.mem_append.mpr (.inr hex)))
      have hd0 : h2.DictOf (PySem.strKind pw w) s.heap.objs.size [] := by
        obtain ⟨o, ho, hi⟩ := Heap.dictOf_iff.mp (Heap.DictOf.new (knd := PySem.strKind pw w) s.heap)
        rw [Heap.get?_push_size _ rfl] at ho
        cases ho
        exact Heap.dictOf_iff.mpr ⟨_, S2.N.get hin, hi⟩
      refine ⟨kvs, C2, hd0, fun h3 D3 B3 => ?_⟩
      obtain ⟨o', ho', hi'⟩ := Heap.dictOf_iff.mp D3
      have hm := S2.N _ hin
      have hkeys : (kvs.map (·.1)).Nodup := by rw [kvKeys A2]; exact nodupOf hnd
      have F3 := S2.F.change B3 hm.2.1 hm.2.2
      have apart : ∀ p ∈ c2.mu ++ c2.fz, p.1 ≠ s.heap.objs.size := fun p hp => by
        rcases List.mem_append.mp hp with hp | hp
        · exact S2.st.dx p hp _ hex
        · exact S2.st.fx p hp _ hex
      have keep : ∀ p ∈ c2.all, p.1 ≠ s.heap.objs.size → h3.get? p.1 = some p.2 ∧ p.1 ≠ x.L ∧ x.h₀.get? p.1 = none := fun p hp ne => ⟨(B3.2 _ ne).trans (S2.N p hp).1, (S2.N p hp).2⟩
      refine P _ _ _ k2 _ { c2 with fz := (s.heap.objs.size, o') :: c2.fz, ex := c.ex } h3 _ ⟨F3, fun p hp => ?_, ?_, ?_⟩ (back G2 o') e2 ⟨_, o', kvs, rfl, .head _, ?_, A2.mono fun _ h => .tail _ h, hlo⟩
      · rcases List.mem_append.mp hp with hp | hp
        · exact keep p (List.mem_append.mpr (.inl hp)) (apart p (List.mem_append.mpr (.inl hp)))
        · rcases List.mem_append.mp hp with hp | hp
          · rcases List.mem_cons.mp hp with rfl | hp
            · exact ⟨ho', hm.2⟩
            · exact keep p (List.mem_append.mpr (.inr (List.mem_append.mpr (.inl hp)))) (apart p (List.mem_append.mpr (.inr hp)))
          · have hp' : p ∈ c2.ex := by rw [G2.ex]; exact .tail _ hp
            exact keep p (List.mem_append.mpr (.inr (List.mem_append.mpr (.inr hp')))) (ned p (List.mem_append.mpr (.inr (List.mem_append.mpr (.inr hp)))))
      · exact S.lo.grow e2 (back G2 o')
      · refine ⟨S2.st.len, fun i ds e => ?_, S2.st.nd, fun p hp q hq => ?_, fun p hp q hq => ?_, fun p hp q hq => ?_⟩
        · obtain ⟨a, vals, k, z1, z2⟩ := S2.st.at_ i ds e
          exact ⟨a, vals, k, z1, z2.mono fun _ h => .tail _ h⟩
        · rcases List.mem_cons.mp hq with rfl | hq
          · exact apart p (List.mem_append.mpr (.inl hp))
          · exact S2.st.dj p hp q hq
        · exact S2.st.dx p hp q (by rw [G2.ex]; exact .tail _ hq)
        · rcases List.mem_cons.mp hp with rfl | hp
          · exact fun z => ned q (List.mem_append.mpr (.inr (List.mem_append.mpr (.inr hq)))) z.symm
          · exact S2.st.fx p hp q (by rw [G2.ex]; exact .tail _ hq)
      · rw [kvMerged (acc := []) (by simpa using hkeys)] at hi'
        exact hi'
    · exact k2.elim
  · have sub : ∀ p ∈ ({ c2 with ex := c.ex } : Cfg).all, p ∈ c2.all := fun p hp => by
      rcases List.mem_append.mp hp with hp | hp
      · exact List.mem_append.mpr (.inl hp)
      · rcases List.mem_append.mp hp with hp | hp
        · exact List.mem_append.mpr (.inr (List.mem_append.mpr (.inl hp)))
        · exact List.mem_append.mpr (.inr (List.mem_append.mpr (.inr (by rw [G2.ex]; exact .tail _ hp))))
    refine PX _ _ _ k2 e { c2 with ex := c.ex } h2 t2 (back0 G2) e2 ⟨M2.len, M2.at_, M2.nd, M2.dj, fun p hp q hq => M2.dx p hp q (by rw [G2.ex]; exact .tail _ hq), fun p hp q hq => M2.fx p hp q (by rw [G2.ex]; exact .tail _ hq)⟩ ?_
    cases X2 with
    | made F1 N1 MD => exact .made F1 (fun p hp => N1 p (sub p hp)) MD
    | noted F1 RD up => exact .noted F1 ⟨let ⟨B, d, z1, z2, z3, z4⟩ := RD.ex; ⟨B, d, z1, z2, fun q hq => z3 q (sub q hq), z4⟩⟩ up
    | fly F1 RD up => exact .fly F1 ⟨let ⟨B, d, z1, z2, z3, z4⟩ := RD.ex; ⟨B, d, z1, z2, fun q hq => z3 q (sub q hq), z4⟩⟩ up
end
end Mine
end
section
open PySem PySem.W PyProof.Rows PySem.Calls PySem.Spec
set_option maxRecDepth 100000
set_option linter.unusedVariables false
namespace Mine
theorem callArgs {env : Env} {es : List Expr} (h : es.any isStarred = false) : es = [] ∨ ∃ e r, es = e :: r ∧ starEach (e :: r) env = (false, eval e env) :: starEach r env ∧ ∀ pos, (backTo pos (starEach r env)).any (·.1) = false := by
  cases es with
  | nil => exact .inl rfl
  | cons e r =>
    rw [List.any_cons, Bool.or_eq_false_iff] at h
    exact .inr ⟨e, r, rfl, starEach_of r env h.1, fun pos => noStar h.2⟩
theorem slice_drop {vs : List Value} {k : Int} (h : 0 ≤ k) (h2 : k ≤ (vs.length : Int)) : slicePick vs.toArray (some k) none none = (vs.drop k.toNat).toArray := by
  have := kmk_pick_nat vs.toArray (lo := some k) (hi := none) (a := k.toNat) (b := vs.length) (by
    simp only [sliceBounds, List.size_toArray]
    simp
    omega)
  rw [this]
  congr 1
  rw [List.take_of_length_le]
  simp
theorem slice_take {vs : List Value} {k : Int} (h : 0 ≤ k) (h2 : k ≤ (vs.length : Int)) : slicePick vs.toArray none (some k) none = (vs.take k.toNat).toArray := by
  have := kmk_pick_nat vs.toArray (lo := none) (hi := some k) (a := 0) (b := k.toNat) (by
    simp only [sliceBounds, List.size_toArray]
    simp
    omega)
  rw [this]
  simp
theorem datDrop {fz : List (Addr × Obj)} : ∀ {vs : List Value} {l : List Dat}, DatAll fz vs l → ∀ k, DatAll fz (vs.drop k) (l.drop k)
  | _, _, h, 0 => h
  | _, _, .nil, k + 1 => .nil
  | _, _, .cons _ r, k + 1 => datDrop r k
theorem datTake {fz : List (Addr × Obj)} : ∀ {vs : List Value} {l : List Dat}, DatAll fz vs l → ∀ k, DatAll fz (vs.take k) (l.take k)
  | _, _, _, 0 => .nil
  | _, _, .nil, k + 1 => .nil
  | _, _, .cons h r, k + 1 => .cons h (datTake r k)
theorem methForm {env : Env} {pos : Pos} : ∀ {es : List Expr}, es.any isStarred = false → ((backTo pos (starEach es env)).all fun a => !a.1) = true
  | [], _ => rfl
  | e :: es, h => by
    rw [List.any_cons, Bool.or_eq_false_iff] at h
    rw [starEach_of es env h.1]
    show (!false && (backTo pos (starEach es env)).all fun a => !a.1) = true
    rw [methForm h.2]; rfl
theorem methEq {o : Expr} {nm : Str} {ap pos : Pos} {as : List Expr} {env : Env} (hs : as.any isStarred = false) (h : (isNA o && Nat.blt as.length 30 && (ap.endLine == pos.line)) = true) :
    eval (.Call (.Attribute o nm ap) as [] pos) env = (do
      let ov ← eval o env
      standAt ap.atName
      let (f, first) ← holding [ov] (getMethod ov nm (do return (← importBound o env).getD true))
      callWith pos f first (backTo pos (starEach as env)) (backToKw pos (keywordEach [] env))) := by
  simp only [Bool.and_eq_true] at h
  have hn : as.length < 30 := by have := h.1.2; simp [Nat.blt] at this; omega
  have hb : attributeBase o nm env (eval o env) = eval o env := by
    have := h.1.1
    cases o <;> first | rfl | (cases this)
  have hf : methodCallForm (as.length + ([] : List Keyword).length) (backTo pos (starEach as env)) (backToKw pos (keywordEach [] env)) = true := by
    unfold methodCallForm
    rw [methForm hs]
    show (true && true && decide (as.length + 0 + 0 < 30)) = true
    simpa using hn
  rw [PySem.arm_eval_Call, hb]
  unfold methodCall
  rw [hf]
  unfold calleeOf methodCallPos
  simp only [Bool.not_true, Bool.false_or, h.2, if_true, ↓reduceIte, pure_bind]
section
variable {w : World} {x : Amb} {n : Nat} {m : Loc} {σ : Sto} {c c₁ : Cfg} {s : Shared} {h₁ : Heap} {t₁ : Nat} {Q : Value → Shared → Prop} {E : Value → Shared → Prop}
theorem evA_sound {r : EvR} (H : Snd w r n) (O : x.Ok w n) {pos : Pos} {X : KX} (es : List Expr) {σ : Sto} {ω : Om} {K : List V → Sto → Om → Prop} {c : Cfg} {s : Shared} {Q : List Value → Shared → Prop} (S : SR w x.h₀ x.L m σ c s.heap) (h : evA r x.sc m es σ ω K X)
    (P : ∀ vs σ' ω', K vs σ' ω' → PostL w x m c s Q vs σ') (PX : ∀ d σ' ω', X d σ' ω' → PostX x c s E d σ') : es.any isStarred = false ∧ wpAny (model pw w) x.A (spliced (backTo pos (starEach es x.env))) Q E s := by
  unfold evA at h
  split at h
  · exact h.elim
  · rename_i e; exact ⟨e, evL_sound H O es S h P PX⟩
/-- a call of something of the text -/
theorem callK {r : EvR} (H : Snd w r n) (O : x.Ok w n) {pos : Pos} {X : KX} {f : Value} {first : List Value} (es : List Expr) {ω : Om} {K : List V → Sto → Om → Prop} (S : SR w x.h₀ x.L m σ c s.heap) (hk : keepIn (KF w.params) f = true) (h : evA r x.sc m es σ ω K X)
    (P : ∀ vs σ' ω', K vs σ' ω' → ∀ vals c' h' tk', SR w x.h₀ x.L m σ' c' h' → Grow c c' → c'.mc = c.mc → RVs w c' vs vals → wpAny (model pw w) x.A (call f (first ++ vals)) Q E { s with heap := h', toks := tk' }) (PX : ∀ d σ' ω', X d σ' ω' → PostX x c s E d σ') :
    wpAny (model pw w) x.A (callWith pos f first (backTo pos (starEach es x.env)) []) Q E s := by
  obtain ⟨h1, h2⟩ := evA_sound (pos := pos) (Q := fun vals s₁ => (KF w.params).In s₁.heap ∧ wpAny (model pw w) x.A (call f (first ++ vals)) Q E s₁) H O es S h
    (fun vs σ1 ω1 k vals c1 h1 t1 S1 G1 e1 R1 => ⟨O.X.keeps S1.F.keep, P _ _ _ k _ c1 h1 t1 S1 G1 e1 R1⟩) PX
  rcases callArgs (env := x.env) h1 with rfl | ⟨e, r', rfl, e1, e2⟩
  · have h2' := h2
    unfold evA evL at h
    refine callWith_K0 (O.X.keeps S.F.keep) hk ?_
    exact P [] σ ω h [] c s.heap s.toks S (Grow.refl c) rfl .nil
  · exact callWith_K O.X hk h2 e1 (e2 pos)
theorem callB {r : EvR} (H : Snd w r n) (O : x.Ok w n) {pos : Pos} {X : KX} {id : String} {first : List Value} (es : List Expr) {ω : Om} {K : List V → Sto → Om → Prop} (S : SR w x.h₀ x.L m σ c s.heap) (h : evA r x.sc m es σ ω K X)
    (P : ∀ vs σ' ω', K vs σ' ω' → ∀ vals c' h' tk', SR w x.h₀ x.L m σ' c' h' → Grow c c' → c'.mc = c.mc → RVs w c' vs vals → wpAny (model pw w) x.A (call (.builtin id) (first ++ vals)) Q E { s with heap := h', toks := tk' }) (PX : ∀ d σ' ω', X d σ' ω' → PostX x c s E d σ') :
    wpAny (model pw w) x.A (callWith pos (.builtin id) first (backTo pos (starEach es x.env)) []) Q E s := by
  obtain ⟨h1, h2⟩ := evA_sound (pos := pos) (Q := fun vals s₁ => wpAny (model pw w) x.A (call (.builtin id) (first ++ vals)) Q E s₁) H O es S h
    (fun vs σ1 ω1 k vals c1 h1 t1 S1 G1 e1 R1 => P _ _ _ k _ c1 h1 t1 S1 G1 e1 R1) PX
  rcases callArgs (env := x.env) h1 with rfl | ⟨e, r', rfl, e1, e2⟩
  · unfold evA evL at h
    refine callWith_method0 ?_
    have := P [] σ ω h [] c s.heap s.toks S (Grow.refl c) rfl .nil
    rw [List.append_nil] at this
    exact this
  · exact callWith_method1 h2 e1 (e2 pos)
theorem callT {r : EvR} (H : Snd w r n) (O : x.Ok w n) {pos : Pos} {X : KX} {id : String} (es : List Expr) {ω : Om} {K : List V → Sto → Om → Prop} (S : SR w x.h₀ x.L m σ c s.heap) (h : evA r x.sc m es σ ω K X)
    (P : ∀ vs σ' ω', K vs σ' ω' → ∀ vals c' h' tk', SR w x.h₀ x.L m σ' c' h' → Grow c c' → c'.mc = c.mc → RVs w c' vs vals → wpAny (model pw w) x.A (call (.type id) vals) Q E { s with heap := h', toks := tk' }) (PX : ∀ d σ' ω', X d σ' ω' → PostX x c s E d σ') :
    wpAny (model pw w) x.A (callWith pos (.type id) [] (backTo pos (starEach es x.env)) []) Q E s := by
  obtain ⟨h1, h2⟩ := evA_sound (pos := pos) (Q := fun vals s₁ => wpAny (model pw w) x.A (call (.type id) vals) Q E s₁) H O es S h
    (fun vs σ1 ω1 k vals c1 h1 t1 S1 G1 e1 R1 => P _ _ _ k _ c1 h1 t1 S1 G1 e1 R1) PX
  rcases callArgs (env := x.env) h1 with rfl | ⟨e, r', rfl, e1, e2⟩
  · unfold evA evL at h
    refine callWith_type0 ?_
    exact P [] σ ω h [] c s.heap s.toks S (Grow.refl c) rfl .nil
  · exact Pv.callWith_type1 h2 e1 (e2 pos)
theorem fnKeep {P : Params} {f : Addr} {st : Stmt} (h : lookA f defs = some st) : keepIn (KF P) (.ref f) = true := by
  obtain ⟨name, qual, dV, kV, doc, pm, an, cdv, ct, oc, od, osl, f1, _⟩ := fnOk_of P h
  unfold keepIn
  dsimp only
  rw [f1]
theorem stepE_sound (R0 : Rules w) {Sp : Specs} {B : Nat} (SO : SpOk w Sp B) {r : EvR} {k : Nat} (H : Snd w r (k + B)) (O : x.Ok w (k + B)) {ex : Expr} {ω : Om} {K : KE} {X : KX} (S : SR w x.h₀ x.L m σ c s.heap) (h : stepE Sp r x.sc m σ ω ex K X)
    (P : ∀ v σ' ω', K v σ' ω' → PostE w x m c s Q v σ') (PX : ∀ d σ' ω', X d σ' ω' → PostX x c s E d σ') : wpAny (model pw w) x.A (eval ex x.env) Q E s := by
  have here : ∀ {v : V} {val : Value} {tk : Nat} {ω' : Om}, K v σ ω' → RV w c v val → Q val { s with toks := tk } := fun {v val tk ω'} kk R => P v σ ω' kk val c s.heap tk S (Grow.refl c) rfl R
  cases ex with
  | Constant k _ _ =>
    dsimp only [stepE] at h
    cases k with
    | int i => exact wpAny_Constant_int (here h (DatIn.int _ _))
    | str i => exact wpAny_Constant_str (here h (DatIn.str _ _))
    | bool i => exact wpAny_Constant_bool (here h (DatIn.bool _))
    | none => exact wpAny_Constant_none (here h .none)
    | _ => exact False.elim h
  | Name y p =>
    dsimp only [stepE] at h
    split at h
    · rename_i v hv
      exact name_sound O S hv fun val R => here h R
    · exact h.elim
  | BinOp l op q _ =>
    refine wpAny_BinOp (H.e O S h (fun v σ1 ω1 k1 val c1 h1 t1 S1 G1 e1 R1 => ?_) PX)
    refine H.e O S1 k1 (fun v2 σ2 ω2 k2 val2 c2 h2 t2 S2 G2 e2 R2 => ?_) fun d σ2 ω2 k2 => fromX G1 e1 (PX d σ2 ω2 k2)
    exact bop_sound O S2 (R1.mono G2) R2 k2 fun v3 k3 => fromE (G1.trans G2) (e2.trans e1) (P _ _ _ k3)
  | UnaryOp op y _ =>
    cases op with
    | USub =>
      refine UnaryOp_ (H.e O S h (fun v σ1 ω1 k1 val c1 h1 t1 S1 G1 e1 R1 => ?_) PX)
      split at k1
      · obtain ⟨t, rfl⟩ := datD R1
        exact neg_int (P _ _ _ k1 _ c1 h1 _ S1 G1 e1 (DatIn.int _ _))
      · exact k1.elim
    | Not =>
      refine UnaryOp_ (H.e O S h (fun v σ1 ω1 k1 val c1 h1 t1 S1 G1 e1 R1 => ?_) PX)
      split at k1
      · rename_i b cc hb
        refine not_of ?_
        unfold asB at hb
        split at hb
        · cases hb
          have e := datB R1; subst e
          exact wpAny_truthy_bool (P _ _ _ k1 _ c1 h1 t1 S1 G1 e1 (DatIn.bool _))
        · cases hb
          have e : val = .bool _ := R1
          subst e
          exact wpAny_truthy_bool (P _ _ _ k1 _ c1 h1 t1 S1 G1 e1 rfl)
        · cases hb
      · exact k1.elim
    | _ => exact False.elim h
  | IfExp t b o _ =>
    refine IfExp_ (H.t O S h (fun b σ1 ω1 k1 c1 h1 t1 S1 G1 e1 => ?_) PX)
    cases b with
    | true => exact H.e O S1 k1 (fun v σ2 ω2 k2 => fromE G1 e1 (P _ _ _ k2)) fun d σ2 ω2 k2 => fromX G1 e1 (PX d σ2 ω2 k2)
    | false => exact H.e O S1 k1 (fun v σ2 ω2 k2 => fromE G1 e1 (P _ _ _ k2)) fun d σ2 ω2 k2 => fromX G1 e1 (PX d σ2 ω2 k2)
  | Compare l ops cs pos =>
    dsimp only [stepE] at h
    split at h
    · split at h
      · exact h.elim
      · rename_i hb
        refine wpAny_Compare1 (H.e O S h (fun v σ1 ω1 k1 val c1 h1 t1 S1 G1 e1 R1 => ?_) PX) hb
        refine H.e O S1 k1 (fun v2 σ2 ω2 k2 val2 c2 h2 t2 S2 G2 e2 R2 => ?_) fun d σ2 ω2 k2 => fromX G1 e1 (PX d σ2 ω2 k2)
        exact cop_sound R0.toBookRules O S2 (R1.mono G2) R2 k2 fun v3 k3 => fromE (G1.trans G2) (e2.trans e1) (P _ _ _ k3)
    · split at h
      · exact h.elim
      · rename_i hb
        refine Compare_chain (H.e O S h (fun v σ1 ω1 k1 val c1 h1 t1 S1 G1 e1 R1 => ?_) PX) hb
        refine chain_link ?_
        refine H.e O S1 k1 (fun v2 σ2 ω2 k2 val2 c2 h2 t2 S2 G2 e2 R2 => ?_) fun d σ2 ω2 k2 => fromX G1 e1 (PX d σ2 ω2 k2)
        refine cop_sound R0.toBookRules O S2 (R1.mono G2) R2 k2 fun v3 k3 val3 c3 h3 t3 S3 G3 e3 R3 => ?_
        have G13 := G1.trans (G2.trans G3)
        have e13 := e3.trans (e2.trans e1)
        refine truthyB k3 R3 S3 fun b ω' k4 c4 h4 t4 S4 G4 e4 => ?_
        cases b with
        | true =>
          refine chain_last (H.e O S4 k4 (fun v5 σ5 ω5 k5 val5 c5 h5 t5 S5 G5 e5 R5 => ?_) fun d σ2 ω2 k2 => fromX (G13.trans G4) (e4.trans e13) (PX d σ2 ω2 k2))
          exact cop_sound R0.toBookRules O S5 (R2.mono (G3.trans (G4.trans G5))) R5 k5 fun v6 k6 => fromE (G13.trans (G4.trans G5)) (e5.trans (e4.trans e13)) (P _ _ _ k6)
        | false => exact P _ _ _ k4 _ c4 h4 t4 S4 (G13.trans G4) (e4.trans e13) (R3.mono G4)
    · exact h.elim
  | Tuple es kk pos =>
    refine Tuple_ (evL_sound H O es S h (fun vs σ1 ω1 k1 vals c1 h1 t1 S1 G1 e1 R1 => ?_) PX)
    split at k1
    · rename_i ds hds
      obtain ⟨q, k1⟩ := of_chk k1
      simp only [Nat.ble_eq] at q
      have hd := datsOf R1 hds
      refine newTuple_N S1.F S1.N (fun h' F' N' => ?_) (by rw [PySem.W.DatAll.length hd]; exact sizeLine_ge (by omega))
      obtain ⟨S2, R2⟩ := push_tup (s := { s with heap := h1, toks := t1 }) (k := 0) S1 hd F' N' (size_ne S1.N)
      exact P _ _ _ k1 _ _ h' _ S2 (G1.trans (grow_frozen _ _)) e1 R2
    · exact k1.elim
  | List es pos =>
    refine List_ (evL_sound H O es S h (fun vs σ1 ω1 k1 vals c1 h1 t1 S1 G1 e1 R1 => ?_) PX)
    split at k1
    · rename_i ds hds
      obtain ⟨q, k1⟩ := of_chk k1
      simp only [Nat.ble_eq] at q
      have hd := datsOf R1 hds
      refine newList_K S1.F S1.N (fun l h' F' N' hl => ?_) (by rw [PySem.W.DatAll.length hd]; exact sizeLine_ge (by omega))
      split at k1
      · obtain ⟨S2, R2⟩ := push_mut (s := { s with heap := h1, toks := t1 }) (k := 0) S1 hd F' N' fun p hp => Nat.ne_of_lt (hl p hp)
        exact P _ _ _ k1 _ _ h' _ S2 (G1.trans (grow_made _ _)) e1 R2
      · obtain ⟨S2, R2⟩ := push_list (s := { s with heap := h1, toks := t1 }) (k := 0) S1 hd F' N' fun p hp => Nat.ne_of_lt (hl p hp)
        exact P _ _ _ k1 _ _ h' _ S2 (G1.trans (grow_frozen _ _)) e1 R2
    · exact k1.elim
  | Attribute v nm pos =>
    cases v with
    | Name y p =>
      refine Attribute_Name_ (H.e O S h (fun v σ1 ω1 k1 val c1 h1 t1 S1 G1 e1 R1 => ?_) PX)
      split at k1
      · rename_i v' hv'
        exact attr_sound O S1 R1 hv' (fromE G1 e1 (P _ _ _ k1))
      · exact k1.elim
    | _ => exact False.elim h
  | Subscript v i pos =>
    cases i with
    | Slice lo hi st p =>
      cases v with
      | Name y yp =>
        dsimp only [stepE, isNm] at h
        split at h
        · refine wpAny_Subscript_list_slice (H.e O S h (fun v σ1 ω1 k1 val c1 h1 t1 S1 G1 e1 R1 => ?_) PX) (fun _ _ => rfl)
          refine wpAny_evalPart_some (H.e O S1 k1 (fun v2 σ2 ω2 k2 val2 c2 h2 t2 S2 G2 e2 R2 => ?_) fun d σ2 ω2 k2 => fromX G1 e1 (PX d σ2 ω2 k2))
          refine wpAny_evalPart_none ?_
          split at k2
          · rename_i l kk
            obtain ⟨a, vs, k0, rfl, hm, hd⟩ := datL (R1.mono G2)
            obtain ⟨t, rfl⟩ := datD R2
            obtain ⟨q, k2⟩ := of_chk k2
            simp only [Bool.and_eq_true, decide_eq_true_eq, Nat.ble_eq] at q
            have hdl := PySem.W.DatAll.length hd
            refine ⟨a, vs.toArray, some kk, none, rfl, News.isList S2.N (SR.memF (s := { s with heap := h2, toks := t2 }) S2 hm), by rw [List.size_toArray, hdl]; exact sizeLine_ge (by omega), .int _ _, .none, ?_⟩
            have hp : slicePick vs.toArray (some kk) none none = (vs.drop kk.toNat).toArray := slice_drop q.1.1 (by rw [hdl]; exact q.1.2)
            rw [hp]
            have F1 := S2.F.push { cls := .type "slice", data := Data.fields #[.int kk t, .none, .none] }
            have N1 := News.push S2.F S2.N { cls := .type "slice", data := Data.fields #[.int kk t, .none, .none] }
            have S4 : SR w x.h₀ x.L m σ2 c2 (h2.push { cls := .type "slice", data := Data.fields #[.int kk t, .none, .none] }) := S2.same F1 fun p hp => N1 p (.tail _ hp)
            obtain ⟨S5, R5⟩ := push_list (s := { s with heap := h2.push { cls := .type "slice", data := Data.fields #[.int kk t, .none, .none] } }) (k := 0) S4 (datDrop hd kk.toNat) (F1.push _) (News.push F1 S4.N _) (fun p hp => Nat.ne_of_lt (Heap.lt_size (S4.N p hp).1))
            rw [Heap.size_push] at S5 R5
            exact P _ _ _ k2 _ _ _ _ S5 (G1.trans (G2.trans (grow_frozen _ _))) (e2.trans e1) R5
          · exact k2.elim
        · refine wpAny_Subscript_list_slice (H.e O S h (fun v σ1 ω1 k1 val c1 h1 t1 S1 G1 e1 R1 => ?_) PX) (fun _ _ => rfl)
          refine wpAny_evalPart_none ?_
          refine wpAny_evalPart_some (H.e O S1 k1 (fun v2 σ2 ω2 k2 val2 c2 h2 t2 S2 G2 e2 R2 => ?_) fun d σ2 ω2 k2 => fromX G1 e1 (PX d σ2 ω2 k2))
          split at k2
          · rename_i l kk
            obtain ⟨a, vs, k0, rfl, hm, hd⟩ := datL (R1.mono G2)
            obtain ⟨t, rfl⟩ := datD R2
            obtain ⟨q, k2⟩ := of_chk k2
            simp only [Bool.and_eq_true, decide_eq_true_eq, Nat.ble_eq] at q
            have hdl := PySem.W.DatAll.length hd
            refine ⟨a, vs.toArray, none, some kk, rfl, News.isList S2.N (SR.memF (s := { s with heap := h2, toks := t2 }) S2 hm), by rw [List.size_toArray, hdl]; exact sizeLine_ge (by omega), .none, .int _ _, ?_⟩
            have hp : slicePick vs.toArray none (some kk) none = (vs.take kk.toNat).toArray := slice_take q.1.1 (by rw [hdl]; exact q.1.2)
            rw [hp]
            have F1 := S2.F.push { cls := .type "slice", data := Data.fields #[.none, .int kk t, .none] }
            have N1 := News.push S2.F S2.N { cls := .type "slice", data := Data.fields #[.none, .int kk t, .none] }
            have S4 : SR w x.h₀ x.L m σ2 c2 (h2.push { cls := .type "slice", data := Data.fields #[.none, .int kk t, .none] }) := S2.same F1 fun p hp => N1 p (.tail _ hp)
            obtain ⟨S5, R5⟩ := push_list (s := { s with heap := h2.push { cls := .type "slice", data := Data.fields #[.none, .int kk t, .none] } }) (k := 0) S4 (datTake hd kk.toNat) (F1.push _) (News.push F1 S4.N _) (fun p hp => Nat.ne_of_lt (Heap.lt_size (S4.N p hp).1))
            rw [Heap.size_push] at S5 R5
            exact P _ _ _ k2 _ _ _ _ S5 (G1.trans (G2.trans (grow_frozen _ _))) (e2.trans e1) R5
          · exact k2.elim
        · exact h.elim
      | _ => exact False.elim h
    | _ =>
      refine Subscript_ (H.e O S h (fun v σ1 ω1 k1 val c1 h1 t1 S1 G1 e1 R1 => ?_) PX)
      refine H.e O S1 k1 (fun v2 σ2 ω2 k2 val2 c2 h2 t2 S2 G2 e2 R2 => ?_) fun d σ2 ω2 k2 => fromX G1 e1 (PX d σ2 ω2 k2)
      exact item_sound R0.toBookRules O S2 (fun _ _ _ _ e => nomatch e) (R1.mono G2) R2 k2 fun v3 k3 => fromE (G1.trans G2) (e2.trans e1) (P _ _ _ k3)
  | Call f as kws pos =>
    cases kws with
    | cons _ _ => exact False.elim h
    | nil =>
      cases f with
      | Name y yp =>
        dsimp only [stepE] at h
        split at h
        · rename_i a hv
          split at h
          · rename_i st hst
            refine wpAny_Call_NameR (name_sound O S hv fun val R => ?_)
            have e : val = .ref a := R
            subst e
            exact callK H O as S (fnKeep hst) h (fun vs σ1 ω1 k1 vals c1 h1 t1 S1 G1 e1 R1 => H.c O S1 R1 k1 (fun v σ2 ω2 k2 => fromE G1 e1 (P _ _ _ k2)) fun d σ2 ω2 k2 => fromX G1 e1 (PX d σ2 ω2 k2)) PX
          · exact h.elim
        · rename_i b hv
          refine wpAny_Call_NameR (name_sound O S hv fun val R => ?_)
          have e : val = .builtin b := R
          subst e
          exact callB (first := []) H O as S h (fun vs σ1 ω1 k1 vals c1 h1 t1 S1 G1 e1 R1 => bcall_sound O S1 (f := .bi b) rfl R1 k1 fun v k2 => fromE G1 e1 (P _ _ _ k2)) PX
        · rename_i b hv
          refine wpAny_Call_NameR (name_sound O S hv fun val R => ?_)
          have e : val = .type b := R
          subst e
          exact callT H O as S h (fun vs σ1 ω1 k1 vals c1 h1 t1 S1 G1 e1 R1 => bcall_sound O S1 (f := .ty b) rfl R1 k1 fun v k2 => fromE G1 e1 (P _ _ _ k2)) PX
        · unfold orE at h
          split at h
          · rename_i r' σ' ω' _
            refine SO.E (O.less (by omega)) S h.1 (fun v e => ?_) fun d e => ?_
            · subst e; exact P _ _ _ h.2
            · subst e; exact PX _ _ _ h.2
          · exact h.elim
        · exact h.elim
      | Attribute o nm ap =>
        have gen : ∀ {pl : Sem Bool} {ov : V} {σ1 : Sto} {ω1 : Om} {val : Value} {c1 : Cfg} {h1 : Heap} {t1 : Nat}, SR w x.h₀ x.L m σ1 c1 h1 → Grow c c1 → c1.mc = c.mc → RV w c1 ov val →
            (match ov with
              | .hk b i => match look nm hkMeths with
                | some a => evA r x.sc m as σ1 ω1 (fun vs σ ω => r.c a (.hk b i :: vs) σ ω K X) X
                | none => False
              | .loc a => match lmeth nm with
                | true => evA r x.sc m as σ1 ω1 (fun vs σ ω => meth (.loc a) nm vs σ (fun v σ => K v σ ω)) X
                | false => False
              | .dc es => match nm == Str.ofString "get" with
                | true => evA r x.sc m as σ1 ω1 (fun vs σ ω => meth (.dc es) nm vs σ (fun v σ => K v σ ω)) X
                | false => False
              | _ => False) →
            wpAny (model pw w) x.A (getMethod val nm pl) (fun fx s₂ => wpAny (model pw w) x.A (callWith pos fx.1 fx.2 (backTo pos (starEach as x.env)) (backToKw pos (keywordEach [] x.env))) Q E s₂) E { s with heap := h1, toks := t1 } := by
          intro pl ov σ1 ω1 val c1 h1 t1 S1 G1 e1 R1 k1
          have PX1 : ∀ d σ' ω', X d σ' ω' → PostX x c1 { s with heap := h1, toks := t1 } E d σ' := fun d σ2 ω2 k2 => fromX G1 e1 (PX d σ2 ω2 k2)
          split at k1
          · rename_i b i
            split at k1
            · rename_i a ha
              refine hkMeth_sound O (s := { s with heap := h1, toks := t1 }) S1 R1 ha fun hk => ?_
              exact callK H O as (s := { s with heap := h1, toks := t1 }) S1 hk k1 (fun vs σ2 ω2 k2 vals c2 h2 t2 S2 G2 e2 R2 => H.c O S2 (.cons (RV.mono G2 R1) R2) k2 (fun v σ3 ω3 k3 => fromE (G1.trans G2) (e2.trans e1) (P _ _ _ k3)) fun d σ3 ω3 k3 => fromX (G1.trans G2) (e2.trans e1) (PX d σ3 ω3 k3)) PX1
            · exact k1.elim
          · rename_i i
            split at k1
            · rename_i hl
              obtain ⟨D, ob, hi, rfl⟩ := R1
              have hlt : i < σ1.length := by rw [← S1.st.len]; exact (List.getElem?_eq_some_iff.mp hi).1
              refine lget_sound (s := { s with heap := h1, toks := t1 }) S1 hl hi (List.getElem?_eq_getElem hlt) ?_
              exact callB H O as (s := { s with heap := h1, toks := t1 }) S1 k1 (fun vs σ2 ω2 k2 vals c2 h2 t2 S2 G2 e2 R2 => by
                obtain ⟨ob2, hi2⟩ := G2.mu _ _ _ hi
                exact lcall_sound hl S2 hi2 R2 k2 fun v σ3 k3 => fromE (G1.trans G2) (e2.trans e1) (P _ _ _ k3)) PX1
            · exact k1.elim
          · rename_i es
            split at k1
            · rename_i hl
              cases eq_of_beq hl
              obtain ⟨a, ob, kvs, rfl, hm, hD, hk, hs⟩ := id R1
              refine kdg_method (s := { s with heap := h1, toks := t1 }) S1.N (SR.memF (s := { s with heap := h1, toks := t1 }) S1 hm) hD ?_
              exact callB H O as (s := { s with heap := h1, toks := t1 }) S1 k1 (fun vs σ2 ω2 k2 vals c2 h2 t2 S2 G2 e2 R2 =>
                dget_sound S2 (RV.mono (v := .dc es) G2 R1) R2 k2 fun v σ3 k3 => fromE (G1.trans G2) (e2.trans e1) (P _ _ _ k3)) PX1
            · exact k1.elim
          · exact k1.elim
        dsimp only [stepE] at h
        split at h
        · rename_i hc
          split at h
          · exact h.elim
          · rename_i hs
            exact methodCall_KW (H.e O S h (fun v σ1 ω1 k1 val c1 h1 t1 S1 G1 e1 R1 => gen S1 G1 e1 R1 k1) PX) (methEq hs hc)
        · exact h.elim
      | _ => exact False.elim h
  | Dict ks vs pos =>
    cases ks with
    | nil => exact False.elim h
    | cons k0 ks =>
      dsimp only [stepE] at h
      split at h
      · rename_i hc
        exact dict_sound H O S hc h P PX
      · exact h.elim
  | ListComp a b d e =>
    unfold stepE orE at h
    dsimp only at h
    split at h
    · rename_i r' σ' ω'
      refine SO.E (O.less (by omega)) S h.1 (fun v e => ?_) fun d e => ?_
      · subst e; exact P _ _ _ h.2
      · subst e; exact PX _ _ _ h.2
    · exact h.elim
  | _ => exact False.elim h
end
end Mine
end
section
open PySem PySem.W PyProof.Rows PySem.Calls PySem.Spec
set_option maxRecDepth 100000
set_option linter.unusedVariables false
namespace Mine
theorem swapsNo {e : Expr} {t : Option Expr} {line : Nat} {env : Env} (h : isComp e = false) : swapsWith e t line env = pure false := by
  cases e <;> first | rfl | (cases h)
section
variable {M : Model} {A : Around} {E : Value → Shared → Prop} {env : Env}
theorem raise_own {P : Params} {s : Shared} {y : Sem Value} {Q : Flow → Shared → Prop} (hh : A.handled = none)
    (h : wpAny M A y (fun v s₁ => ∃ e d t, v = .ref e ∧ s₁.heap.get? 34 = some (o34 P) ∧
      s₁.heap.get? e = some { cls := .ref 34, dict := some d, data := .fields #[.ref t, .none, .none, .none, .bool false, .none] } ∧ E (.ref e) s₁) E s) :
    wpAny M A (raiseStmt env (some y) none) Q E s := by
  unfold raiseStmt
  refine wpAny_bind (wpAny_mono h (fun v s₁ h₁ => ?_) fun _ _ x => x)
  obtain ⟨e, d, t, rfl, hC, he, hE⟩ := h₁
  obtain ⟨hp, g, dr, tk, os⟩ := s₁
  have hC' : hp.get? 34 = some (excClassObj (S "BasicError") (S "BasicError") 34 33 [.type "Exception"] [.type "Exception", .type "BaseException", .type "object"] true [] [] false none none (some (.ref 15)) none (some (.str (S "BasicError") 193)) (some (.str (S "BasicError") 201)) (some (.bool true)) "Exception.__new__") := hC
  have hcB : (Value.ref 34 :: [Value.type "Exception", .type "BaseException", .type "object"]).contains (.type "BaseException") = true := by rfl
  repeat (first | with_reducible refine wpAny_loadPart_at he ?_ | with_reducible refine wpAny_loadPart_at hC' ?_ | (with_reducible refine wpAny_isSubtype_exc hC' ?_; rw [hcB]) | wp_step)
  exact wpAny_raiseNew_none hh hE
end
section
variable {w : World} {x : Amb} {n : Nat} {m : Loc} {σ : Sto} {c c₁ : Cfg} {s : Shared} {h₁ : Heap} {t₁ : Nat} {E : Value → Shared → Prop}
theorem locPut (S : SR w x.h₀ x.L m σ c s.heap) {y : Str} {v : V} {val : Value} {h' : Heap} (R : RV w c v val) (F : Fr x.h₀ x.L h' (fun z => if z = y then some val else c.mc z)) (N : News x.h₀ x.L h' c.all) :
    SR w x.h₀ x.L (putL y v m) σ { c with mc := fun z => if z = y then some val else c.mc z } h' ∧ Grow c { c with mc := fun z => if z = y then some val else c.mc z } := by
  have g : Grow c { c with mc := fun z => if z = y then some val else c.mc z } := ⟨fun _ h => h, fun _ _ o h => ⟨o, h⟩, rfl⟩
  refine ⟨⟨F, N, fun z u hz => ?_, ⟨S.st.len, S.st.at_, S.st.nd, S.st.dj, S.st.dx, S.st.fx⟩⟩, g⟩
  unfold putL at hz
  unfold look at hz
  split at hz
  · rename_i q
    cases eq_of_beq q
    cases hz
    exact ⟨val, if_pos rfl, R.mono g⟩
  · rename_i q
    obtain ⟨val', h1, h2⟩ := S.lo z u hz
    refine ⟨val', ?_, h2.mono g⟩
    show (if z = y then _ else _) = _
    rw [if_neg (fun e => by rw [e] at q; simp at q)]
    exact h1
theorem store_sound (O : x.Ok w n) (S : SR w x.h₀ x.L m σ c s.heap) {y : Str} {v : V} {val : Value} {Q : Unit → Shared → Prop} (hl : x.sc.names.lookup y = some .local) (R : RV w c v val)
    (P : ∀ c' h' tk', SR w x.h₀ x.L (putL y v m) σ c' h' → Grow c c' → Q () { s with heap := h', toks := tk' }) : wpAny (model pw w) x.A (storeName x.env y val) Q E s :=
  storeX_L (cl := []) S.F S.N (fun h' F' N' => let ⟨a, b⟩ := locPut S R F' N'; P _ _ _ a b) O.kind hl
theorem lookOk {sc : Scope} {xs : List Str} (h : allLocal sc xs = true) : ∀ y ∈ xs, sc.names.lookup y = some .local := fun y hy => by
  have := List.all_eq_true.mp h y hy
  simpa using this
theorem names_sound (O : x.Ok w n) {Q : Unit → Shared → Prop} : ∀ {ns : List Expr} {xs : List Str} {vs : List V} {vals : List Value} {m : Loc} {c : Cfg} {s : Shared}, SR w x.h₀ x.L m σ c s.heap → namesOf ns = some xs → (∀ y ∈ xs, x.sc.names.lookup y = some .local) → xs.length = vs.length → RVs w c vs vals →
    (∀ c' h' tk', SR w x.h₀ x.L (putAll xs vs m) σ c' h' → Grow c c' → Q () { s with heap := h', toks := tk' }) →
    wpAny (model pw w) x.A (assignInOrder ((assignEach ns x.env).map (·.2)) vals) Q E s ∧ (assignEach ns x.env).length = xs.length ∧ (assignEach ns x.env).findIdx? (·.1) = none
  | [], xs, vs, vals, m, c, s, S, e, hl, hlen, R, P => by
    cases e
    cases vs with
    | nil => cases R; exact ⟨assignInOrder_nil (P c s.heap s.toks S (Grow.refl c)), rfl, rfl⟩
    | cons _ _ => cases hlen
  | e :: ns, xs, vs, vals, m, c, s, S, he, hl, hlen, R, P => by
    cases e with
    | Name y p =>
      simp only [namesOf, Option.map_eq_some_iff] at he
      obtain ⟨xs', h1, rfl⟩ := he
      cases vs with
      | nil => cases hlen
      | cons v vs =>
        cases R with
        | cons R1 R2 =>
          have key : ∀ (c' : Cfg) (h' : Heap) (tk' : Nat), SR w x.h₀ x.L (putL y v m) σ c' h' → Grow c c' → _ := fun c' h' tk' S' G' =>
            names_sound O (ns := ns) (s := { s with heap := h', toks := tk' }) (Q := Q) S' h1 (fun z hz => hl z (.tail _ hz)) (Nat.succ.inj hlen) (R2.mono G') (fun c2 h2 t2 S2 G2 => P c2 h2 t2 S2 (G'.trans G2))
          refine ⟨assignInOrder_cons (assign_Name (store_sound O S (hl y (.head _)) R1 fun c' h' tk' S' G' => (key c' h' tk' S' G').1)), ?_, ?_⟩
          · have : (assignEach ns x.env).length = xs'.length := namesLen h1
            show (assignEach ns x.env).length + 1 = _
            rw [this]; rfl
          · exact namesStar (ns := .Name y p :: ns) (xs := y :: xs') (by simp only [namesOf, h1]; rfl)
    | _ => cases he
where
  namesLen {env : Env} : ∀ {ns : List Expr} {xs : List Str}, namesOf ns = some xs → (assignEach ns env).length = xs.length
    | [], xs, e => by cases e; rfl
    | e :: ns, xs, he => by
      cases e with
      | Name y p =>
        simp only [namesOf, Option.map_eq_some_iff] at he
        obtain ⟨xs', h1, rfl⟩ := he
        show (assignEach ns env).length + 1 = _
        rw [namesLen h1]; rfl
      | _ => cases he
  namesStar {env : Env} : ∀ {ns : List Expr} {xs : List Str}, namesOf ns = some xs → (assignEach ns env).findIdx? (·.1) = none
    | [], xs, e => by cases e; rfl
    | e :: ns, xs, he => by
      cases e with
      | Name y p =>
        simp only [namesOf, Option.map_eq_some_iff] at he
        obtain ⟨xs', h1, rfl⟩ := he
        show ((false, assign (.Name y p) env) :: assignEach ns env).findIdx? (·.1) = none
        rw [List.findIdx?_cons, if_neg (by simp), namesStar h1]; rfl
      | _ => cases he
theorem binds_sound (O : x.Ok w n) {Q : Unit → Shared → Prop} : ∀ {xs : List Str} {vs : List V} {vals : List Value} {m : Loc} {c : Cfg} {s : Shared}, SR w x.h₀ x.L m σ c s.heap → (∀ y ∈ xs, x.sc.names.lookup y = some .local) → xs.length = vs.length → RVs w c vs vals →
    (∀ c' h' tk', SR w x.h₀ x.L (putAll xs vs m) σ c' h' → Grow c c' → Q () { s with heap := h', toks := tk' }) →
    wpAny (model pw w) x.A (assignInOrder (xs.map fun y => bindName x.env y) vals) Q E s
  | [], vs, vals, m, c, s, S, hl, hlen, R, P => by
    cases vs with
    | nil => cases R; exact assignInOrder_nil (P c s.heap s.toks S (Grow.refl c))
    | cons _ _ => cases hlen
  | y :: xs, vs, vals, m, c, s, S, hl, hlen, R, P => by
    cases vs with
    | nil => cases hlen
    | cons v vs =>
      cases R with
      | cons R1 R2 =>
        exact assignInOrder_cons (bindName_ (store_sound O S (hl y (.head _)) R1 fun c' h' tk' S' G' =>
          binds_sound O (s := { s with heap := h', toks := tk' }) S' (fun z hz => hl z (.tail _ hz)) (Nat.succ.inj hlen) (R2.mono G') fun c2 h2 t2 S2 G2 => P c2 h2 t2 S2 (G'.trans G2)))
end
theorem RVs.snoc {w : World} {c : Cfg} {v : V} {val : Value} : ∀ {vs : List V} {vals : List Value}, RVs w c vs vals → RV w c v val → RVs w c (vs ++ [v]) (vals ++ [val])
  | _, _, .nil, h => .cons h .nil
  | _, _, .cons a b, h => .cons a (b.snoc h)
theorem RVs.rev {w : World} {c : Cfg} : ∀ {vs : List V} {vals : List Value}, RVs w c vs vals → RVs w c vs.reverse vals.reverse
  | _, _, .nil => .nil
  | _, _, .cons a b => by rw [List.reverse_cons, List.reverse_cons]; exact b.rev.snoc a
theorem RVs.ofDats {w : World} {c : Cfg} : ∀ {vals : List Value} {ds : List Dat}, DatAll c.fz vals ds → RVs w c (dVs ds) vals
  | _, _, .nil => .nil
  | _, _, .cons a b => .cons a (RVs.ofDats b)
section
variable {w : World} {x : Amb} {n : Nat} {m : Loc} {σ : Sto} {c c₁ : Cfg} {s : Shared} {h₁ : Heap} {t₁ : Nat} {E : Value → Shared → Prop}
/-- any tuple: frozen, no datum -/
theorem pushAny {h h' : Heap} (S : SR w x.h₀ x.L m σ c h) {l : Addr} {o : Obj} (F : Fr x.h₀ x.L h' c.mc) (N : News x.h₀ x.L h' ((l, o) :: c.all)) (hl : ∀ p ∈ c.all, p.1 ≠ l) : SR w x.h₀ x.L m σ (c.frozen (l, o)) h' := by
  refine ⟨F, fun p hp => N p ?_, S.lo.grow rfl (grow_frozen _ _), S.st.frozen hl⟩
  rcases List.mem_append.mp hp with hp | hp
  · exact .tail _ (List.mem_append.mpr (.inl hp))
  · rcases List.mem_cons.mp hp with rfl | hp
    · exact .head _
    · exact .tail _ (List.mem_append.mpr (.inr hp))
theorem setItem_sound (S : SR w x.h₀ x.L m σ c s.heap) {D : Addr} {ob : Obj} {i : Nat} {l : List Dat} {k : Int} {t : Tok} {val : Value} {d : Dat} {Q : Unit → Shared → Prop} (hi : c.mu[i]? = some (D, ob)) (hl : σ[i]? = some l) (hd : DatIn c.fz val d)
    (q : 0 ≤ k ∧ k < (l.length : Int) ∧ l.length ≤ 4096) (P : ∀ c' h' tk', SR w x.h₀ x.L m (σ.set i (l.set k.toNat d)) c' h' → Grow c c' → c'.mc = c.mc → Q () { s with heap := h', toks := tk' }) :
    wpAny (model pw w) x.A (setItem (.ref D) (.int k t) val) Q E s := by
  obtain ⟨D', its, kk, h1, h2⟩ := S.st.at_ _ _ hl
  rw [hi] at h1
  simp only [Option.some.injEq, Prod.mk.injEq] at h1
  obtain ⟨rfl, rfl⟩ := h1
  have hlen := PySem.W.DatAll.length h2
  have U := S.st.upd (o' := listOf (its.set k.toNat val).toArray kk) hi
  have hm : (D, listOf its.toArray kk) ∈ c.all := List.mem_append.mpr (.inl (List.mem_of_getElem? hi))
  have z := S.N _ hm
  obtain ⟨pre, post, e1, e2, a, b⟩ := U.split
  have hd2 : DatAll c.fz (its.set k.toNat val) (l.set k.toNat d) := datSet h2 hd _
  have SB : Heap.SameBut D s.heap (s.heap.update D (Obj.mapSeq fun xs => xs.setIfInBounds k.toNat val)) := Heap.SameBut.update ..
  have hg : (s.heap.update D (Obj.mapSeq fun xs => xs.setIfInBounds k.toNat val)).get? D = some (listOf (its.set k.toNat val).toArray kk) := by
    rw [Heap.get?_update_self _ z.1 rfl]
    congr 1
    show ({ cls := _, data := (Data.seq (its.toArray.setIfInBounds k.toNat val) (if _ then _ else _)) } : Obj) = _
    rw [List.setIfInBounds_toArray, if_pos (by simp)]
  have F' := S.F.change SB z.2.1 z.2.2
  have N' : News x.h₀ x.L (s.heap.update D (Obj.mapSeq fun xs => xs.setIfInBounds k.toNat val)) (c.put i (D, listOf (its.set k.toNat val).toArray kk)).all := by
    have NN := S.N
    rw [e1] at NN
    rw [e2]
    exact news_set NN a b SB hg
  refine ki_setAt z.1 q.1 (by omega) (by rw [List.size_toArray, hlen]; omega) ?_
  exact P _ _ s.toks (putS S hi hd2 F' N') (grow_put hi) rfl
where
  datSet {fz : List (Addr × Obj)} {v : Value} {d : Dat} : ∀ {vs : List Value} {l : List Dat}, DatAll fz vs l → DatIn fz v d → ∀ k, DatAll fz (vs.set k v) (l.set k d)
    | _, _, .nil, _, _ => .nil
    | _, _, .cons h r, hd, 0 => .cons hd r
    | _, _, .cons h r, hd, k + 1 => .cons h (datSet r hd k)
theorem stepS_sound (R0 : Rules w) {Sp : Specs} {B : Nat} (SO : SpOk w Sp B) {r : EvR} {k : Nat} (H : Snd w r (k + B)) (O : x.Ok w (k + 1 + B)) {st : Stmt} {ω : Om} {K : Fl → Loc → Sto → Om → Prop} {X : KX} {Q : Flow → Shared → Prop} (S : SR w x.h₀ x.L m σ c s.heap) (h : stepS Sp r x.sc m σ ω st K X)
    (P : ∀ f m' σ' ω', K f m' σ' ω' → PostS w x c s Q f m' σ') (PX : ∀ d σ' ω', X d σ' ω' → PostY x c s E d σ') : wpAny (model pw w) x.A (exec st x.env) Q E s := by
  have O' : x.Ok w (k + B) := O.less (by omega)
  have PX' : ∀ d σ' ω', X d σ' ω' → PostX x c s E d σ' := fun d σ' ω' kk => toX (PX d σ' ω' kk)
  have orc : orS Sp x.sc m σ ω st K X → wpAny (model pw w) x.A (exec st x.env) Q E s := fun h => by
    unfold orS at h
    split at h
    · rename_i r' σ' ω'
      refine SO.S (O.less (by omega)) S h.1 (fun f m' e => ?_) fun d e => ?_
      · subst e; exact P _ _ _ _ h.2
      · subst e; exact PX _ _ _ h.2
    · exact h.elim
  cases st with
  | Expr e pos =>
    dsimp only [stepS] at h
    split at h
    · exact h.elim
    · rename_i hc
      exact wpAny_Expr_any (H.e O' S h (fun v σ1 ω1 k1 val c1 h1 t1 S1 G1 e1 R1 => P _ _ _ _ k1 _ c1 h1 t1 S1 G1 rfl) PX') (by show (x.sc.kind == .module && _) = false; rw [O.kind]; rfl) (swapsNo hc)
  | Return e pos =>
    cases e with
    | none => exact False.elim h
    | some e => exact wpAny_Return_some (H.e O' S h (fun v σ1 ω1 k1 val c1 h1 t1 S1 G1 e1 R1 => P _ _ _ _ k1 _ c1 h1 t1 S1 G1 ⟨val, rfl, R1⟩) PX')
  | If t b o pos =>
    refine wpAny_If (H.t O' S h (fun d σ1 ω1 k1 c1 h1 t1 S1 G1 e1 => ?_) PX')
    cases d with
    | true => exact exL_sound H O' _ S1 k1 (fun f m' σ2 ω2 k2 => fromS G1 (P f m' σ2 ω2 k2)) fun d σ2 ω2 k2 => fromY G1 (PX d σ2 ω2 k2)
    | false => exact exL_sound H O' _ S1 k1 (fun f m' σ2 ω2 k2 => fromS G1 (P f m' σ2 ω2 k2)) fun d σ2 ω2 k2 => fromY G1 (PX d σ2 ω2 k2)
  | Raise ex ca pos =>
    cases ca with
    | some _ =>
      cases ex with
      | none => exact False.elim h
      | some e => cases e <;> exact False.elim h
    | none =>
      cases ex with
      | none => exact False.elim h
      | some e =>
        cases e with
        | Call f as kws cp =>
          cases f with
          | Name y yp =>
            cases kws with
            | cons _ _ => exact False.elim h
            | nil =>
              dsimp only [stepS, isName] at h
              split at h
              · rename_i hy hk
                cases eq_of_beq hy
                rw [PySem.arm_exec_Raise]
                refine wpAny_bind (wpAny_standAt ?_)
                show wpAny (model pw w) x.A (raiseStmt x.env (some (do let v ← eval (.Call (.Name (Str.ofString "BasicError") yp) as [] cp) x.env; standAt pos; pure v)) none) Q E s
                refine raise_own (P := w.params) O.hh (wpAny_bind ?_)
                refine wpAny_Call_NameR (nameX_K (cl := []) S.F O.X (topRead_of O.T) (v := .ref 34) (by kernel_rfl) ?_ O.kind hk)
                refine callK H O' as S (by kernel_rfl) h (fun vs σ1 ω1 k1 vals c1 h1 t1 S1 G1 e1 R1 => ?_) PX'
                have fin : ∀ code, (∃ t, vals = [.str code t] ∨ ∃ u t', vals = [.str code t, .str u t']) → X code σ1 ω1 → wpAny (model pw w) x.A (call (.ref 34) ([] ++ vals)) (fun v s₁ => wpAny (model pw w) x.A (standAt pos >>= fun _ => pure v) (fun v s₁ => ∃ e d t, v = .ref e ∧ s₁.heap.get? 34 = some (o34 w.params) ∧
                      s₁.heap.get? e = some { cls := .ref 34, dict := some d, data := .fields #[.ref t, .none, .none, .none, .bool false, .none] } ∧ E (.ref e) s₁) E s₁) E { s with heap := h1, toks := t1 } := fun code hv hx => by
                  refine R0.raised (n := k + B) (O.less (by omega)) (s := { s with heap := h1, toks := t1 }) S1 hv fun e h0 h' tk' F0 N0 MX => wpAny_bind (wpAny_standAt (wpAny_pure ?_))
                  obtain ⟨d, t, z1, z2, z3, z4⟩ := MX.obj
                  exact ⟨e, d, t, rfl, MX.keep _ _ (F0.keep _ _ (O.X 34 (o34 w.params) (by kernel_rfl))), z1, PX _ _ _ hx e c1 h' tk' G1 S1.st (.made F0 N0 MX.madeD)⟩
                split at k1
                · obtain ⟨_, rfl, q1⟩ := R1.one
                  obtain ⟨t, rfl⟩ := datS q1
                  exact fin _ ⟨t, .inl rfl⟩ k1
                · obtain ⟨_, _, rfl, q1, q2⟩ := R1.two
                  obtain ⟨t, rfl⟩ := datS q1
                  obtain ⟨t', rfl⟩ := datS q2
                  exact fin _ ⟨t, .inr ⟨_, t', rfl⟩⟩ k1
                · exact k1.elim
              · exact h.elim
          | _ => exact False.elim h
        | _ => exact False.elim h
  | Assign ts e pos =>
    dsimp only [stepS] at h
    split at h
    · rename_i y yp
      split at h
      · rename_i hl
        split at h
        · exact orc h
        · rename_i hc
          refine wpAny_Assign_Name (H.e O' S h (fun v σ1 ω1 k1 val c1 h1 t1 S1 G1 e1 R1 => ?_) PX') (swapsNo hc)
          exact store_sound O' (s := { s with heap := h1, toks := t1 }) S1 hl R1 fun c2 h2 t2 S2 G2 => P _ _ _ _ k1 _ c2 h2 t2 S2 (G1.trans G2) rfl
      · exact h.elim
    · rename_i ns tk tp
      split at h
      · rename_i xs hxs
        split at h
        · rename_i hal
          have hloc := lookOk hal
          have unp : ∀ {σ1 : Sto} {ω1 : Om} {val : Value} {v : V} {c1 : Cfg} {h1 : Heap} {t1 : Nat}, SR w x.h₀ x.L m σ1 c1 h1 → Grow c c1 → RV w c1 v val →
              (match v with
              | .d (.tuple ds) => match ds.length == xs.length with
                | true => K .next (putAll xs (dVs ds) m) σ1 ω1
                | false => False
              | _ => False) → wpAny (model pw w) x.A (assign (.Tuple ns tk tp) x.env val) (fun _ => Q .next) E { s with heap := h1, toks := t1 } := by
            intro σ1 ω1 val v c1 h1 t1 S1 G1 R1 k1
            split at k1
            · rename_i ds
              split at k1
              · rename_i hlen
                obtain ⟨a, vs, k0, rfl, hm, hd⟩ := datT R1
                have hl' : xs.length = (dVs ds).length := by rw [← eq_of_beq hlen]; simp [dVs]
                refine unpackN_ (s := { s with heap := h1, toks := t1 }) S1.F S1.N (News.isTup S1.N (SR.memF (s := { s with heap := h1, toks := t1 }) S1 hm)) O.hh ?_ (names_sound.namesStar hxs) fun h2 F2 N2 => ?_
                · rw [names_sound.namesLen hxs, List.size_toArray, PySem.W.DatAll.length hd, eq_of_beq hlen]
                · exact (names_sound O' (s := { s with heap := h2, toks := t1 }) (S1.same F2 N2) hxs hloc hl' (RVs.ofDats hd) fun c3 h3 t3 S3 G3 => P _ _ _ _ k1 _ c3 h3 t3 S3 (G1.trans G3) rfl).1
              · exact k1.elim
            · exact k1.elim
          split at h
          · rename_i es ek ep
            split at h
            · exact h.elim
            · rename_i sw hsw
              have hsw' : swappedStores [.Tuple ns tk tp] (.Tuple es ek ep) x.env = pure sw := swap_of (by rw [show x.env = envOf x.qual x.sc x.L x.a x.cd from rfl, swap_env]; exact hsw)
              cases sw with
              | none =>
                refine Assign_Tuple (Tuple_ (evL_sound H O' es S h (fun vs σ1 ω1 k1 vals c1 h1 t1 S1 G1 e1 R1 => ?_) PX')) rfl hsw'
                split at k1
                · rename_i hlen
                  obtain ⟨q, k1⟩ := of_chk k1
                  simp only [Nat.ble_eq] at q
                  refine newTuple_N S1.F S1.N (fun h2 F2 N2 => ?_) (by rw [R1.length]; exact sizeLine_ge (by omega))
                  have S2 := pushAny S1 F2 N2 fun p hp => Nat.ne_of_lt (Heap.lt_size (S1.N p hp).1)
                  have R2 := R1.mono (grow_frozen c1 (h1.objs.size, ({ cls := .type "tuple", data := .seq vals.toArray } : Obj)))
                  refine unpackN_ (s := { s with heap := h2, toks := t1 }) S2.F S2.N (News.isTup S2.N (SR.memF (s := { s with heap := h2, toks := t1 }) S2 (.head _))) O.hh ?_ (names_sound.namesStar hxs) fun h3 F3 N3 => ?_
                  · rw [names_sound.namesLen hxs, List.size_toArray, R1.length, eq_of_beq hlen]
                  · exact (names_sound O' (s := { s with heap := h3, toks := t1 }) (S2.same F3 N3) hxs hloc (eq_of_beq hlen).symm R2 fun c4 h4 t4 S4 G4 => P _ _ _ _ k1 _ c4 h4 t4 S4 (G1.trans ((grow_frozen _ _).trans G4)) rfl).1
                · exact k1.elim
              | some ys =>
                refine Assign_Tuple_swapped (Tuple_ (evL_sound H O' es S h (fun vs σ1 ω1 k1 vals c1 h1 t1 S1 G1 e1 R1 => ?_) PX')) rfl hsw'
                split at k1
                · rename_i hlen
                  obtain ⟨q, k1⟩ := of_chk k1
                  obtain ⟨q2, k1⟩ := of_chk k1
                  simp only [Nat.ble_eq, Bool.and_eq_true] at q q2
                  have ql := Nat.eq_of_beq_eq_true q2.2
                  refine newTuple_N S1.F S1.N (fun h2 F2 N2 => ?_) (by rw [R1.length]; exact sizeLine_ge (by omega))
                  have S2 := pushAny S1 F2 N2 fun p hp => Nat.ne_of_lt (Heap.lt_size (S1.N p hp).1)
                  have R2 := R1.mono (grow_frozen c1 (h1.objs.size, ({ cls := .type "tuple", data := .seq vals.toArray } : Obj)))
                  refine unpackItemsN_ (s := { s with heap := h2, toks := t1 }) S2.F S2.N (News.isTup S2.N (SR.memF (s := { s with heap := h2, toks := t1 }) S2 (.head _))) O.hh ?_ fun h3 F3 N3 => ?_
                  · rw [List.size_toArray, R1.length, ql]
                  · exact binds_sound O' (xs := ys.reverse) (s := { s with heap := h3, toks := t1 }) (S2.same F3 N3) (fun y hy => lookOk q2.1 y (List.mem_reverse.mp hy)) (by simp [ql]) R2.rev fun c4 h4 t4 S4 G4 => P _ _ _ _ k1 _ c4 h4 t4 S4 (G1.trans ((grow_frozen _ _).trans G4)) rfl
                · exact k1.elim
          · exact Assign_Tuple (H.e O' S h (fun v σ1 ω1 k1 val c1 h1 t1 S1 G1 e1 R1 => unp S1 G1 R1 k1) PX') rfl rfl
          · exact Assign_Tuple (H.e O' S h (fun v σ1 ω1 k1 val c1 h1 t1 S1 G1 e1 R1 => unp S1 G1 R1 k1) PX') rfl rfl
          · exact h.elim
        · exact h.elim
      · exact h.elim
    · rename_i o i ip
      split at h
      · exact h.elim
      · rename_i hc
        refine wpAny_Assign_Subscript (H.e O' S h (fun v σ1 ω1 k1 val c1 h1 t1 S1 G1 e1 R1 => ?_) PX') (swapsNo hc)
        refine H.e O' S1 k1 (fun v2 σ2 ω2 k2 val2 c2 h2 t2 S2 G2 e2 R2 => ?_) fun d σ2 ω2 k2 => fromX G1 e1 (PX' d σ2 ω2 k2)
        refine H.e O' S2 k2 (fun v3 σ3 ω3 k3 val3 c3 h3 t3 S3 G3 e3 R3 => ?_) fun d σ2 ω2 k2 => fromX (G1.trans G2) (e2.trans e1) (PX' d σ2 ω2 k2)
        split at k3
        · rename_i a kk d hd
          split at k3
          · rename_i l hl
            obtain ⟨q, k3⟩ := of_chk k3
            simp only [Bool.and_eq_true, decide_eq_true_eq, Nat.ble_eq] at q
            obtain ⟨D, ob, hi, rfl⟩ := RV.mono G3 R2
            obtain ⟨t, rfl⟩ := datD R3
            exact setItem_sound (s := { s with heap := h3, toks := t3 }) S3 hi hl (datOf (R1.mono (G2.trans G3)) hd) ⟨q.1.1, q.1.2, q.2⟩ fun c4 h4 t4 S4 G4 e4 => P _ _ _ _ k3 _ c4 h4 t4 S4 (G1.trans (G2.trans (G3.trans G4))) rfl
          · exact k3.elim
        · exact k3.elim
    · exact h.elim
  | _ => first | exact orc h | exact False.elim h
theorem ev_sound (R0 : Rules w) {Sp : Specs} {B : Nat} (SO : SpOk w Sp B) : ∀ k, Snd w (ev Sp k) (k + B)
  | 0 => ⟨fun _ _ h => h.elim, fun _ _ h => h.elim, fun _ _ _ h => h.elim, fun _ _ h => h.elim⟩
  | k + 1 => by
    have H := ev_sound R0 SO k
    exact ⟨fun O S h P PX => stepE_sound R0 SO H (O.less (by omega)) S h P PX, fun O S h P PX => stepT_sound (Sp := Sp) R0 H (O.less (by omega)) S h P PX,
      fun O S ha h P PX => stepC_sound SO H O S ha h P PX, fun O S h P PX => stepS_sound R0 SO H O S h P PX⟩
end
end Mine
end
section
open PySem PySem.W PyProof.Rows PySem.Calls PySem.Spec
set_option maxRecDepth 100000
set_option linter.unusedVariables false
namespace Mine
/-! what is said of a call, of an expression, of a statement -/
structure CWp (w : World) (B : Nat) (f : Addr) (args : List V) (σ : Sto) (r : Rs) (σ' : Sto) : Prop where
  go : ∀ {x : Amb} {m : Loc} {c : Cfg} {s : Shared} {Q E : Value → Shared → Prop} {vals : List Value}, x.Ok w B → SR w x.h₀ x.L m σ c s.heap → RVs w c args vals →
    (∀ v, r = .ok v → PostE w x m c s Q v σ') → (∀ d, r = .exc d → PostX x c s E d σ') → wpAny (model pw w) x.A (call (.ref f) vals) Q E s
structure EWp (w : World) (B : Nat) (sc : Scope) (m : Loc) (σ : Sto) (ex : Expr) (r : Rs) (σ' : Sto) : Prop where
  go : ∀ {x : Amb} {c : Cfg} {s : Shared} {Q E : Value → Shared → Prop}, x.Ok w B → x.sc = sc → SR w x.h₀ x.L m σ c s.heap →
    (∀ v, r = .ok v → PostE w x m c s Q v σ') → (∀ d, r = .exc d → PostX x c s E d σ') → wpAny (model pw w) x.A (eval ex x.env) Q E s
structure SWp (w : World) (B : Nat) (sc : Scope) (m : Loc) (σ : Sto) (st : Stmt) (r : RsS) (σ' : Sto) : Prop where
  go : ∀ {x : Amb} {c : Cfg} {s : Shared} {Q : Flow → Shared → Prop} {E : Value → Shared → Prop}, x.Ok w B → x.sc = sc → SR w x.h₀ x.L m σ c s.heap →
    (∀ f m', r = .ok f m' → PostS w x c s Q f m' σ') → (∀ d, r = .exc d → PostY x c s E d σ') → wpAny (model pw w) x.A (exec st x.env) Q E s
noncomputable def spW (w : World) (B : Nat) (orc : Addr → Bool) : Specs := ⟨fun f args σ r σ' => CWp w B f args σ r σ', fun sc m σ ex r σ' => EWp w B sc m σ ex r σ', fun sc m σ st r σ' => SWp w B sc m σ st r σ', orc⟩
theorem spOk (w : World) (B : Nat) (orc : Addr → Bool) : SpOk w (spW w B orc) B :=
  ⟨fun O S ha _ h P PX => CWp.go h O S ha P PX, fun O S h P PX => EWp.go h O rfl S P PX, fun O S h P PX => SWp.go h O rfl S P PX⟩
noncomputable def rK (r : Rs) (σ' : Sto) : KE := fun v σ'' _ => r = .ok v ∧ σ'' = σ'
noncomputable def rX (r : Rs) (σ' : Sto) : KX := fun d σ'' _ => r = .exc d ∧ σ'' = σ'
theorem CWp.of {w : World} (R0 : Rules w) {B k : Nat} {orc : Addr → Bool} {f : Addr} {args : List V} {σ σ' : Sto} {r : Rs} {ω : Om} (h : (ev (spW w B orc) k).c f args σ ω (rK r σ') (rX r σ')) : CWp w (k + B) f args σ r σ' := by
  refine ⟨?_⟩
  intro x m c s Q E vals O S ha P PX
  refine (ev_sound R0 (spOk w B orc) k).c O S ha h (fun v σ'' ω' kk => ?_) fun d σ'' ω' kk => ?_
  · obtain ⟨e, rfl⟩ := kk; exact P v e
  · obtain ⟨e, rfl⟩ := kk; exact PX d e
theorem CWp.le {w : World} {B B' : Nat} {f : Addr} {args : List V} {σ σ' : Sto} {r : Rs} (h : CWp w B f args σ r σ') (l : B ≤ B') : CWp w B' f args σ r σ' := ⟨fun O S ha P PX => h.go (O.less l) S ha P PX⟩
theorem SWp.le {w : World} {B B' : Nat} {sc : Scope} {m : Loc} {st : Stmt} {σ σ' : Sto} {r : RsS} (h : SWp w B sc m σ st r σ') (l : B ≤ B') : SWp w B' sc m σ st r σ' := ⟨fun O e S P PX => h.go (O.less l) e S P PX⟩
theorem EWp.le {w : World} {B B' : Nat} {sc : Scope} {m : Loc} {ex : Expr} {σ σ' : Sto} {r : Rs} (h : EWp w B sc m σ ex r σ') (l : B ≤ B') : EWp w B' sc m σ ex r σ' := ⟨fun O e S P PX => h.go (O.less l) e S P PX⟩
/-! comprehensions -/
noncomputable def EltOk (w : World) (x : Amb) (m : Loc) (σ : Sto) (scope : Scope) (xn : Str) (elt : Expr) (f : Dat → Dat) (ds : List Dat) : Prop :=
  ∀ {c : Cfg} {s : Shared} {C : Addr} {oC : Obj} {mC : Str → Option Value} {v : Value} {d : Dat} {Q E : Value → Shared → Prop}, SR w x.h₀ x.L m σ c s.heap → (C, oC) ∈ c.ex → LCg.NsObj oC mC → mC xn = some v → DatIn c.fz v d → d ∈ ds →
    (∀ val c' h' tk', SR w x.h₀ x.L m σ c' h' → Grow c c' → c'.mc = c.mc → DatIn c'.fz val (f d) → Q val { s with heap := h', toks := tk' }) → wpAny (model pw w) x.A (eval elt (compEnvC scope [] C x.env)) Q E s
section
variable {w : World} {x : Amb} {n : Nat} {m : Loc} {σ : Sto} {c c₁ : Cfg} {s : Shared} {E : Value → Shared → Prop}
/-- where the turns end -/
noncomputable def CmpFin (w : World) (c : Cfg) (σ : Sto) (ds : List Dat) (ys : List Value) (news : List (Addr × Obj)) : Prop := ∃ c', news = c'.all ∧ Grow c c' ∧ c'.mc = c.mc ∧ MuR c' σ ∧ DatAll c'.fz ys ds
theorem take_succ_map {f : Dat → Dat} {ds : List Dat} {i : Nat} {d : Dat} (h : ds[i]? = some d) : (ds.take (i + 1)).map f = (ds.take i).map f ++ [f d] := by
  rw [List.take_add_one, h]; simp
theorem comp_rest (hex : EltOk w x m σ scope xn elt f ds) {cl : List (Str × Addr)} (hcl : cl = []) {Src : Addr × Obj} {s₂ : Shared} {P : Nat → Value → Prop} {c₀ : Cfg} (hsrc : Src ∈ c₀.fz) (hP : ∀ i v, i < ds.length → P i v → ∃ d, ds[i]? = some d ∧ DatIn c₀.fz v d) (lo : LocR w c₀ m) :
    ∀ (k i : Nat) (ys : List Value) (c : Cfg), i + k = ds.length → Grow c₀ c → c.mc = c₀.mc → MuR c σ → DatAll c.fz ys ((ds.take i).map f) →
      LCg.CompRest pw w x.A x.h₀ x.L c₀.mc x.env elt xn scope cl s₂ (fun news => Src ∈ news) P (CmpFin w c₀ σ (ds.map f)) k i ys c.all := by
  subst hcl
  intro k
  induction k with
  | zero =>
    intro i ys c hi G e M D
    refine LCg.CompRest.zero ⟨c, rfl, G, e, M, ?_⟩
    rw [List.take_of_length_le (by omega)] at D
    exact D
  | succ k ih =>
    intro i ys c hi G e M D
    refine LCg.CompRest.succ fun v I oI C oC Dd m₂ h tk E' hPv hoC hx F N off ne => ?_
    obtain ⟨d, hd1, hd2⟩ := hP i v (by omega) hPv
    have off3 := off.mem
    have M1 : MuR { c with ex := (I, oI) :: (C, oC) :: (Dd, LCg.lst ys) :: c.ex } σ := by
      refine ⟨M.len, M.at_, M.nd, M.dj, fun p hp q hq => ?_, fun p hp q hq => ?_⟩
      · have o := off3 p (List.mem_append.mpr (.inl hp))
        rcases List.mem_cons.mp hq with rfl | hq
        · exact o.1
        · rcases List.mem_cons.mp hq with rfl | hq
          · exact o.2.1
          · rcases List.mem_cons.mp hq with rfl | hq
            · exact o.2.2
            · exact M.dx p hp q hq
      · have o := off3 p (List.mem_append.mpr (.inr (List.mem_append.mpr (.inl hp))))
        rcases List.mem_cons.mp hq with rfl | hq
        · exact o.1
        · rcases List.mem_cons.mp hq with rfl | hq
          · exact o.2.1
          · rcases List.mem_cons.mp hq with rfl | hq
            · exact o.2.2
            · exact M.fx p hp q hq
    have S1 : SR w x.h₀ x.L m σ { c with ex := (I, oI) :: (C, oC) :: (Dd, LCg.lst ys) :: c.ex } h := by
      refine ⟨by rw [show ({ c with ex := (I, oI) :: (C, oC) :: (Dd, LCg.lst ys) :: c.ex } : Cfg).mc = c₀.mc from e]; exact F, fun p hp => N p ?_, fun y u hy => ?_, M1⟩
      · rcases List.mem_append.mp hp with hp | hp
        · exact .tail _ (.tail _ (.tail _ (List.mem_append.mpr (.inl hp))))
        · rcases List.mem_append.mp hp with hp | hp
          · exact .tail _ (.tail _ (.tail _ (List.mem_append.mpr (.inr (List.mem_append.mpr (.inl hp))))))
          · rcases List.mem_cons.mp hp with rfl | hp
            · exact .head _
            · rcases List.mem_cons.mp hp with rfl | hp
              · exact .tail _ (.head _)
              · rcases List.mem_cons.mp hp with rfl | hp
                · exact .tail _ (.tail _ (.head _))
                · exact .tail _ (.tail _ (.tail _ (List.mem_append.mpr (.inr (List.mem_append.mpr (.inr hp))))))
      · obtain ⟨val, h1, h2⟩ := lo y u hy
        exact ⟨val, by rw [show ({ c with ex := (I, oI) :: (C, oC) :: (Dd, LCg.lst ys) :: c.ex } : Cfg).mc = c₀.mc from e]; exact h1, (h2.mono G).ex⟩
    refine hex (s := { s₂ with heap := h, toks := tk }) S1 (.tail _ (.head _)) hoC hx (hd2.mono G.fz) (List.mem_of_getElem? hd1) fun val c1 h1 t1 S2 G2 e2 R2 => ?_
    have hx1 : c1.ex = (I, oI) :: (C, oC) :: (Dd, LCg.lst ys) :: c.ex := G2.ex
    have G3 : Grow c { c1 with ex := c.ex } := ⟨G2.fz, G2.mu, rfl⟩
    have inex : ∀ q ∈ (I, oI) :: (C, oC) :: (Dd, LCg.lst ys) :: c.ex, q ∈ c1.all := fun q hq => List.mem_append.mpr (.inr (List.mem_append.mpr (.inr (by rw [hx1]; exact hq))))
    have sub : ∀ p ∈ ({ c1 with ex := c.ex } : Cfg).all, p ∈ c1.all := fun p hp => by
      rcases List.mem_append.mp hp with hp | hp
      · exact List.mem_append.mpr (.inl hp)
      · rcases List.mem_append.mp hp with hp | hp
        · exact List.mem_append.mpr (.inr (List.mem_append.mpr (.inl hp)))
        · exact inex p (.tail _ (.tail _ (.tail _ hp)))
    refine LCg.CompEnd.intro (all := c1.all) (by have := S2.F; rw [e2, show ({ c with ex := (I, oI) :: (C, oC) :: (Dd, LCg.lst ys) :: c.ex } : Cfg).mc = c₀.mc from e] at this; exact this) S2.N ({ c1 with ex := c.ex } : Cfg).all (fun p hp => ?_) (LCg.Off3.of fun p hp => ?_) (List.mem_append.mpr (.inr (List.mem_append.mpr (.inl (G3.fz _ (G.fz _ hsrc)))))) ?_
    · rcases List.mem_cons.mp hp with rfl | hp
      · exact inex _ (.head _)
      · rcases List.mem_cons.mp hp with rfl | hp
        · exact inex _ (.tail _ (.head _))
        · rcases List.mem_cons.mp hp with rfl | hp
          · exact inex _ (.tail _ (.tail _ (.head _)))
          · exact sub p hp
    · have z : ∀ q ∈ c1.ex, p ∈ c1.mu ∨ p ∈ c1.fz → p.1 ≠ q.1 := fun q hq hp => hp.elim (fun hp => S2.st.dx p hp q hq) fun hp => S2.st.fx p hp q hq
      have three : p ∈ c1.mu ∨ p ∈ c1.fz → p.1 ≠ I ∧ p.1 ≠ C ∧ p.1 ≠ Dd := fun hp =>
        ⟨z (I, oI) (by rw [hx1]; exact .head _) hp, z (C, oC) (by rw [hx1]; exact .tail _ (.head _)) hp, z (Dd, LCg.lst ys) (by rw [hx1]; exact .tail _ (.tail _ (.head _))) hp⟩
      rcases List.mem_append.mp hp with hp | hp
      · exact three (.inl hp)
      · rcases List.mem_append.mp hp with hp | hp
        · exact three (.inr hp)
        · exact off3 p (List.mem_append.mpr (.inr (List.mem_append.mpr (.inr hp))))
    · refine ih (i + 1) (ys ++ [val]) { c1 with ex := c.ex } (by omega) (G.trans G3) (e2.trans e) ⟨S2.st.len, S2.st.at_, S2.st.nd, S2.st.dj, fun p hp q hq => S2.st.dx p hp q (by rw [hx1]; exact .tail _ (.tail _ (.tail _ hq))), fun p hp q hq => S2.st.fx p hp q (by rw [hx1]; exact .tail _ (.tail _ (.tail _ hq)))⟩ ?_
      rw [take_succ_map hd1]
      exact (D.mono G2.fz).append (.cons R2 .nil)
end
end Mine
end
section
open PySem PySem.W PyProof.Rows PySem.Calls PySem.Spec
set_option maxRecDepth 100000
set_option linter.unusedVariables false
namespace Mine
structure ScOk (x : Amb) (scope : Scope) (xn : Str) : Prop where
  clos : closureFor scope x.env = pure []
  cell : ∀ y ∈ scope.names, y.2 ≠ .cell
  kind : scope.kind = .function
  names : ∀ y ∈ scope.names, y.2 = .local → scope.names.lookup y.1 = some .local
  here : scope.names.lookup xn = some .local
theorem datBack {fz : List (Addr × Obj)} : ∀ {vs : List Value} {l : List Dat} {i : Nat} {v : Value}, DatAll fz vs l → vs[i]? = some v → ∃ d, l[i]? = some d ∧ DatIn fz v d
  | _, _, 0, _, .cons h _, e => by cases e; exact ⟨_, rfl, h⟩
  | _, _, i + 1, _, .cons _ r, e => by
    rw [List.getElem?_cons_succ] at e ⊢
    exact datBack r e
section
variable {w : World} {x : Amb} {n : Nat} {m : Loc} {σ : Sto} {c c₁ : Cfg} {s s₂ : Shared} {E : Value → Shared → Prop}
/-- the turns of a block, whatever it runs over -/
theorem comp_go {use : Option (Value → Sem Unit)} {Q : Value → Shared → Prop} {scope : Scope} {xn : Str} {elt iter : Expr} {px pos : Pos} {f : Dat → Dat} {ds : List Dat} {I ax : Addr} {oS : Obj} {P : Nat → Value → Prop} {St : Nat → Heap → Prop}
    (SC : ScOk x scope xn) (S : SR w x.h₀ x.L m σ c s₂.heap) {N : Nat} (hN : ds.length = N) (W : Walks pw w x.A I [I, ax] [I] N P St) (hsz : ds.length ≤ sizeLine) (hIo : ∀ i h, St i h → ∃ o, h.get? I = some o)
    (hSt : ∀ i h h' o nw, St i h → h.get? I = some o → h'.get? I = some o → (∀ b o, x.h₀.get? b = some o → h'.get? b = some o) → News x.h₀ x.L h' nw → (ax, oS) ∈ nw → St i h') (hst : St 0 s₂.heap) (hI : I < s₂.heap.objs.size)
    (hL : x.L ≠ I) (hI0 : x.h₀.get? I = none) (off : ∀ p ∈ c.all, p.1 ≠ I) (hsrc : (ax, oS) ∈ c.fz) (hP : ∀ i v, i < ds.length → P i v → ∃ d, ds[i]? = some d ∧ DatIn c.fz v d) (hex : EltOk w x m σ scope xn elt f ds)
    (fin : ∀ D C h tk m' ys c', Fr x.h₀ x.L h c.mc → News x.h₀ x.L h ((D, LCg.lst ys) :: c'.all) → h.Ns C m' → x.h₀.get? C = none → C ≠ x.L → C ≠ D → D ≠ x.L → (∀ p ∈ c'.all, p.1 ≠ C ∧ p.1 ≠ D) → Grow c c' → c'.mc = c.mc → MuR c' σ → DatAll c'.fz ys (ds.map f) →
      compPost (model pw w) x.A E use Q (.ref D) C (.ok .next) { s₂ with heap := h, toks := tk }) :
    wpAny (model pw w) x.A (newList []) (fun acc s₃ => wpAny (model pw w) x.A (newFunctionEnv scope x.env.globals [] [] x.env.qual none .none (some x.env)) (fun cenv s₄ =>
      codeAny (model pw w) x.A (.compStart (.ListComp elt [⟨.Name xn px, iter, [], 0⟩] scope pos) 0 (.ref I) acc { cenv with scope := relabel scope x.env }) (compPost (model pw w) x.A E use Q acc cenv.locals) s₄) E s₃) E s₂ := by
  subst hN
  have hax := S.N (ax, oS) (List.mem_append.mpr (.inr (List.mem_append.mpr (.inl hsrc))))
  refine LCg.block_U (S := fun news => (ax, oS) ∈ news) (Fin := CmpFin w c σ (ds.map f)) (news := c.all) W hsz hIo hSt SC.cell SC.kind SC.here hst (fun b hb => ?_) S.F S.N hL hI0 off
    (List.mem_append.mpr (.inr (List.mem_append.mpr (.inl hsrc)))) (comp_rest hex rfl hsrc hP S.lo ds.length 0 [] c (by omega) (Grow.refl c) rfl S.st .nil) fun D C h tk m' ys news' F' N' o1 hn hC₀ hD₀ hCL hDL hCD offC fn => ?_
  · rcases List.mem_cons.mp hb with rfl | hb
    · exact hI
    · rw [List.mem_singleton.mp hb]; exact Heap.lt_size hax.1
  · obtain ⟨c', rfl, G, e, M, D'⟩ := fn
    have o1' : ∀ (l : List (Addr × Obj)), LCg.Off1 D l → ∀ p ∈ l, p.1 ≠ D := fun l => by
      induction l with
      | nil => intro _ p hp; cases hp
      | cons q r ih =>
        intro h p hp
        rcases List.mem_cons.mp hp with rfl | hp
        · exact h.1
        · exact ih h.2 p hp
    exact fin D C h tk m' ys c' F' N' hn hC₀ hCL hCD hDL (fun p hp => ⟨offC p hp, o1' _ o1 p hp⟩) G e M D'
theorem comp_none {Q : Value → Shared → Prop} {f : Dat → Dat} {ds : List Dat} (S : SR w x.h₀ x.L m σ c s₂.heap) (P : PostE w x m c s₂ Q (.d (.list (ds.map f))) σ) :
    ∀ D C h tk m' ys c', Fr x.h₀ x.L h c.mc → News x.h₀ x.L h ((D, LCg.lst ys) :: c'.all) → h.Ns C m' → x.h₀.get? C = none → C ≠ x.L → C ≠ D → D ≠ x.L → (∀ p ∈ c'.all, p.1 ≠ C ∧ p.1 ≠ D) → Grow c c' → c'.mc = c.mc → MuR c' σ → DatAll c'.fz ys (ds.map f) →
      compPost (model pw w) x.A E none Q (.ref D) C (.ok .next) { s₂ with heap := h, toks := tk } := by
  intro D C h tk m' ys c' F N hn hC₀ hCL hCD hDL off G e M Da
  refine ⟨m', hn, fun h'' hs => ?_⟩
  have F' := F.change hs hCL hC₀
  have N' : News x.h₀ x.L h'' ((D, LCg.lst ys) :: c'.all) := fun p hp => by
    refine ⟨hs.extBut _ _ ?_ (N p hp).1, (N p hp).2⟩
    rcases List.mem_cons.mp hp with rfl | hp
    · exact Ne.symm hCD
    · exact (off p hp).1
  have S1 : SR w x.h₀ x.L m σ c' h'' := ⟨by rw [e]; exact F', fun p hp => N' p (.tail _ hp), S.lo.grow e G, M⟩
  obtain ⟨S2, R2⟩ := push_list (s := { s₂ with heap := h'', toks := tk }) (k := ys.length) S1 Da (by rw [e]; exact F') N' fun p hp => (off p hp).2
  exact P _ _ h'' tk S2 (G.trans (grow_frozen _ _)) e R2
theorem comp_assign {Q : Flow → Shared → Prop} {f : Dat → Dat} {ds : List Dat} {y : Str} {py : Pos} (O : x.Ok w n) (hy : x.sc.names.lookup y = some .local) (S : SR w x.h₀ x.L m σ c s₂.heap) (P : PostS w x c s₂ Q .next (putL y (.d (.list (ds.map f))) m) σ) :
    ∀ D C h tk m' ys c', Fr x.h₀ x.L h c.mc → News x.h₀ x.L h ((D, LCg.lst ys) :: c'.all) → h.Ns C m' → x.h₀.get? C = none → C ≠ x.L → C ≠ D → D ≠ x.L → (∀ p ∈ c'.all, p.1 ≠ C ∧ p.1 ≠ D) → Grow c c' → c'.mc = c.mc → MuR c' σ → DatAll c'.fz ys (ds.map f) →
      compPost (model pw w) x.A E (some (assign (.Name y py) x.env)) (fun _ s' => Q .next s') (.ref D) C (.ok .next) { s₂ with heap := h, toks := tk } := by
  intro D C h tk m' ys c' F N hn hC₀ hCL hCD hDL off G e M Da
  show wpAny _ x.A (assign (.Name y py) x.env (.ref D)) _ _ _
  have S1 : SR w x.h₀ x.L m σ c' h := ⟨by rw [e]; exact F, fun p hp => N p (.tail _ hp), S.lo.grow e G, M⟩
  obtain ⟨S2, R2⟩ := push_list (s := { s₂ with heap := h, toks := tk }) (k := ys.length) S1 Da (by rw [e]; exact F) N fun p hp => (off p hp).2
  have offC : ∀ p ∈ (c'.frozen (D, LCg.lst ys)).all, p.1 ≠ C := fun p hp => by
    rcases List.mem_append.mp hp with hp | hp
    · exact (off p (List.mem_append.mpr (.inl hp))).1
    · rcases List.mem_cons.mp hp with rfl | hp
      · exact Ne.symm hCD
      · exact (off p (List.mem_append.mpr (.inr hp))).1
  refine wpAny_assign_Name (wpAny_storeName_local hy S2.F.ns (fun h₂ hn₂ hs₂ => ?_) (by show (x.sc.kind == .class || (x.sc.kind == .module && _)) = false; rw [O.kind]; rfl))
  refine ⟨m', hn.sameBut hs₂ hCL, fun h₃ hs₃ => ?_⟩
  have hL0 : x.h₀.get? x.L = none := Heap.get?_none_of_le F.above
  have F2 : Fr x.h₀ x.L h₂ (fun z => if z = y then some (.ref D) else (c'.frozen (D, LCg.lst ys)).mc z) := ⟨hn₂, fun b o e' => hs₂.extBut b o (fun q => by have q' : b = x.L := q; rw [q', hL0] at e'; cases e') (S2.F.keep b o e'), F.above⟩
  have N2 : News x.h₀ x.L h₂ (c'.frozen (D, LCg.lst ys)).all := fun p hp => ⟨hs₂.extBut _ _ (S2.N p hp).2.1 (S2.N p hp).1, (S2.N p hp).2⟩
  have F3 := F2.change hs₃ hCL hC₀
  have N3 : News x.h₀ x.L h₃ (c'.frozen (D, LCg.lst ys)).all := fun p hp => ⟨hs₃.extBut _ _ (offC p hp) (N2 p hp).1, (N2 p hp).2⟩
  obtain ⟨S4, G4⟩ := locPut (s := { s₂ with heap := h, toks := tk }) S2 (y := y) R2 F3 N3
  exact P _ _ h₃ _ S4 (G.trans ((grow_frozen _ _).trans G4)) rfl
/-- over a list -/
theorem src_list {Q : Value → Shared → Prop} {use : Option (Value → Sem Unit)} {scope : Scope} {xn : Str} {elt iter : Expr} {px pos : Pos} {f : Dat → Dat} {ds : List Dat} {v : Value} (O : x.Ok w n) (SC : ScOk x scope xn) (S : SR w x.h₀ x.L m σ c s.heap) (R : DatIn c.fz v (.list ds)) (hsz : ds.length ≤ 4096) (hex : EltOk w x m σ scope xn elt f ds)
    (fin : ∀ h', SR w x.h₀ x.L m σ c h' → ∀ D C h tk m' ys c', Fr x.h₀ x.L h c.mc → News x.h₀ x.L h ((D, LCg.lst ys) :: c'.all) → h.Ns C m' → x.h₀.get? C = none → C ≠ x.L → C ≠ D → D ≠ x.L → (∀ p ∈ c'.all, p.1 ≠ C ∧ p.1 ≠ D) → Grow c c' → c'.mc = c.mc → MuR c' σ → DatAll c'.fz ys (ds.map f) →
      compPost (model pw w) x.A E use Q (.ref D) C (.ok .next) { s with heap := h, toks := tk }) :
    wpAny (model pw w) x.A (pyIter v) (fun it s₂ => wpAny (model pw w) x.A (newList []) (fun acc s₃ => wpAny (model pw w) x.A (newFunctionEnv scope x.env.globals [] [] x.env.qual none .none (some x.env)) (fun cenv s₄ =>
      codeAny (model pw w) x.A (.compStart (.ListComp elt [⟨.Name xn px, iter, [], 0⟩] scope pos) 0 it acc { cenv with scope := relabel scope x.env }) (compPost (model pw w) x.A E use Q acc cenv.locals) s₄) E s₃) E s₂) E s := by
  obtain ⟨ax, vs, kk, rfl, hm, hd⟩ := datL R
  have hl := News.isList S.N (S.memF hm)
  have hlt : ax < s.heap.objs.size := Heap.lt_size (S.N _ (S.memF hm)).1
  have up : ∀ b o, s.heap.get? b = some o → (s.heap.push { cls := .type "list_iterator", data := .fields #[.ref ax, .int 0 0] }).get? b = some o := fun b o e => Heap.get?_push_of_some _ e
  have S2 : SR w x.h₀ x.L m σ c (s.heap.push { cls := .type "list_iterator", data := .fields #[.ref ax, .int 0 0] }) := S.same (S.F.grownK up) (S.N.grown up)
  have hlen := PySem.W.DatAll.length hd
  refine wpAny_pyIter_list hl ?_
  have W := Walks.list (prog := pw) (w := w) O.hh s.heap.objs.size ax (Nat.ne_of_lt hlt) vs.toArray
  refine comp_go (s₂ := { s with heap := s.heap.push { cls := .type "list_iterator", data := .fields #[.ref ax, .int 0 0] } }) SC S2 (by rw [List.size_toArray, hlen]) W (sizeLine_ge (by omega)) (fun i h st => by obtain ⟨o, e, _⟩ := st.1; exact ⟨o, e⟩)
    (fun i h h' o nw st e e' k N Sm => ⟨by obtain ⟨o', q, r⟩ := st.1; rw [e] at q; cases q; exact ⟨o, e', r⟩, News.isList N Sm⟩) ⟨⟨_, Heap.get?_push_size _ rfl, rfl, rfl⟩, hl.push _⟩ (by rw [Heap.size_push]; exact Nat.lt_succ_self _)
    (Nat.ne_of_lt S.F.ns.lt) (next_is_new S.F) (fun p hp => Nat.ne_of_lt (Heap.lt_size (S.N p hp).1)) hm (fun i v hlt2 hv => ?_) hex (fin _ S2)
  rw [List.getElem?_toArray] at hv
  exact datBack hd hv
/-- over a tuple -/
theorem src_tuple {Q : Value → Shared → Prop} {use : Option (Value → Sem Unit)} {scope : Scope} {xn : Str} {elt iter : Expr} {px pos : Pos} {f : Dat → Dat} {ds : List Dat} {v : Value} (O : x.Ok w n) (SC : ScOk x scope xn) (S : SR w x.h₀ x.L m σ c s.heap) (R : DatIn c.fz v (.tuple ds)) (hsz : ds.length ≤ 4096) (hex : EltOk w x m σ scope xn elt f ds)
    (fin : ∀ h', SR w x.h₀ x.L m σ c h' → ∀ D C h tk m' ys c', Fr x.h₀ x.L h c.mc → News x.h₀ x.L h ((D, LCg.lst ys) :: c'.all) → h.Ns C m' → x.h₀.get? C = none → C ≠ x.L → C ≠ D → D ≠ x.L → (∀ p ∈ c'.all, p.1 ≠ C ∧ p.1 ≠ D) → Grow c c' → c'.mc = c.mc → MuR c' σ → DatAll c'.fz ys (ds.map f) →
      compPost (model pw w) x.A E use Q (.ref D) C (.ok .next) { s with heap := h, toks := tk }) :
    wpAny (model pw w) x.A (pyIter v) (fun it s₂ => wpAny (model pw w) x.A (newList []) (fun acc s₃ => wpAny (model pw w) x.A (newFunctionEnv scope x.env.globals [] [] x.env.qual none .none (some x.env)) (fun cenv s₄ =>
      codeAny (model pw w) x.A (.compStart (.ListComp elt [⟨.Name xn px, iter, [], 0⟩] scope pos) 0 it acc { cenv with scope := relabel scope x.env }) (compPost (model pw w) x.A E use Q acc cenv.locals) s₄) E s₃) E s₂) E s := by
  obtain ⟨ax, vs, kk, rfl, hm, hd⟩ := datT R
  have hl : s.heap.IsTuple ax vs.toArray := News.isTup S.N (S.memF hm)
  have hlt : ax < s.heap.objs.size := Heap.lt_size (S.N _ (S.memF hm)).1
  have up : ∀ b o, s.heap.get? b = some o → (s.heap.push { cls := .type "tuple_iterator", data := .fields #[.ref ax, .int 0 0] }).get? b = some o := fun b o e => Heap.get?_push_of_some _ e
  have S2 : SR w x.h₀ x.L m σ c (s.heap.push { cls := .type "tuple_iterator", data := .fields #[.ref ax, .int 0 0] }) := S.same (S.F.grownK up) (S.N.grown up)
  have hlen := PySem.W.DatAll.length hd
  refine wpAny_pyIter_tuple hl ?_
  have W := Walks.tuple (prog := pw) (w := w) O.hh s.heap.objs.size ax (Nat.ne_of_lt hlt) vs.toArray
  refine comp_go (s₂ := { s with heap := s.heap.push { cls := .type "tuple_iterator", data := .fields #[.ref ax, .int 0 0] } }) SC S2 (by rw [List.size_toArray, hlen]) W (sizeLine_ge (by omega)) (fun i h st => by obtain ⟨o, e, _⟩ := st.1; exact ⟨o, e⟩)
    (fun i h h' o nw st e e' k N Sm => ⟨by obtain ⟨o', q, r⟩ := st.1; rw [e] at q; cases q; exact ⟨o, e', r⟩, News.isTup N Sm⟩) ⟨⟨_, Heap.get?_push_size _ rfl, rfl, rfl⟩, hl.push _⟩ (by rw [Heap.size_push]; exact Nat.lt_succ_self _)
    (Nat.ne_of_lt S.F.ns.lt) (next_is_new S.F) (fun p hp => Nat.ne_of_lt (Heap.lt_size (S.N p hp).1)) hm (fun i v hlt2 hv => ?_) hex (fin _ S2)
  rw [List.getElem?_toArray] at hv
  exact datBack hd hv
/-- over a list that is turned round: the iterator stands already -/
theorem src_rev {Q : Value → Shared → Prop} {use : Option (Value → Sem Unit)} {scope : Scope} {xn : Str} {elt iter : Expr} {px pos : Pos} {f : Dat → Dat} {ds : List Dat} {v : Value} (O : x.Ok w n) (SC : ScOk x scope xn) (S : SR w x.h₀ x.L m σ c s.heap) (R : DatIn c.fz v (.list ds)) (hsz : ds.length ≤ 4096) (hex : EltOk w x m σ scope xn elt f ds.reverse)
    (fin : ∀ h', SR w x.h₀ x.L m σ c h' → ∀ D C h tk m' ys c', Fr x.h₀ x.L h c.mc → News x.h₀ x.L h ((D, LCg.lst ys) :: c'.all) → h.Ns C m' → x.h₀.get? C = none → C ≠ x.L → C ≠ D → D ≠ x.L → (∀ p ∈ c'.all, p.1 ≠ C ∧ p.1 ≠ D) → Grow c c' → c'.mc = c.mc → MuR c' σ → DatAll c'.fz ys (ds.reverse.map f) →
      compPost (model pw w) x.A E use Q (.ref D) C (.ok .next) { s with heap := h, toks := tk }) :
    wpAny (model pw w) x.A (call (.type "reversed") [v]) (fun xv s₁ => wpAny (model pw w) x.A (pyIter xv) (fun it s₂ => wpAny (model pw w) x.A (newList []) (fun acc s₃ => wpAny (model pw w) x.A (newFunctionEnv scope x.env.globals [] [] x.env.qual none .none (some x.env)) (fun cenv s₄ =>
      codeAny (model pw w) x.A (.compStart (.ListComp elt [⟨.Name xn px, iter, [], 0⟩] scope pos) 0 it acc { cenv with scope := relabel scope x.env }) (compPost (model pw w) x.A E use Q acc cenv.locals) s₄) E s₃) E s₂) E s₁) E s := by
  obtain ⟨ax, vs, kk, rfl, hm, hd⟩ := datL R
  have hl := News.isList S.N (S.memF hm)
  have hlt : ax < s.heap.objs.size := Heap.lt_size (S.N _ (S.memF hm)).1
  refine call_reversed_list hl ?_
  have up : ∀ b o, s.heap.get? b = some o → (s.heap.push (revObj ax ((vs.toArray.size : Int) - 1))).get? b = some o := fun b o e => Heap.get?_push_of_some _ e
  have S2 : SR w x.h₀ x.L m σ c (s.heap.push (revObj ax ((vs.toArray.size : Int) - 1))) := S.same (S.F.grownK up) (S.N.grown up)
  have hlen := PySem.W.DatAll.length hd
  have hit : (s.heap.push (revObj ax ((vs.toArray.size : Int) - 1))).IsRevIter s.heap.objs.size ax ((vs.toArray.size : Int) - 1) := ⟨_, Heap.get?_push_size _ rfl, rfl, rfl⟩
  refine wpAny_pyIter_revIter hit ?_
  have W := Walks.listRev (prog := pw) (w := w) O.hh s.heap.objs.size ax (Nat.ne_of_lt hlt) vs.toArray
  have hz : vs.toArray.size = ds.reverse.length := by rw [List.size_toArray, hlen, List.length_reverse]
  refine comp_go (s₂ := { s with heap := s.heap.push (revObj ax ((vs.toArray.size : Int) - 1)) }) SC S2 hz.symm W (sizeLine_ge (by rw [List.length_reverse]; omega)) (fun i h st => by obtain ⟨o, e, _⟩ := st.2.1; exact ⟨o, e⟩)
    (fun i h h' o nw st e e' k N Sm => ⟨st.1, by obtain ⟨o', q, r⟩ := st.2.1; rw [e] at q; cases q; exact ⟨o, e', r⟩, News.isList N Sm⟩) ⟨Nat.zero_le _, by rw [show ((vs.toArray.size : Int) - 1 - ((0 : Nat) : Int)) = (vs.toArray.size : Int) - 1 from by omega]; exact hit, hl.push _⟩ (by rw [Heap.size_push]; exact Nat.lt_succ_self _)
    (Nat.ne_of_lt S.F.ns.lt) (next_is_new S.F) (fun p hp => Nat.ne_of_lt (Heap.lt_size (S.N p hp).1)) hm (fun i v hlt2 hv => ?_) hex (fin _ S2)
  rw [List.getElem?_toArray] at hv
  obtain ⟨d, h1, h2⟩ := datBack hd hv
  have hi : vs.toArray.size - 1 - i < ds.length := (List.getElem?_eq_some_iff.mp h1).1
  refine ⟨d, ?_, h2⟩
  rw [List.length_reverse] at hlt2
  rw [List.getElem?_reverse hlt2, ← h1, List.size_toArray, hlen]
end
end Mine
end
section
open PySem PySem.W PyProof.Rows PySem.Calls PySem.Spec
set_option maxRecDepth 100000
set_option linter.unusedVariables false
namespace Mine
noncomputable def g (b d : Bool) (p : Prop) : Prop := match b == d with
  | true => p
  | false => False
theorem g_of {b d : Bool} {p : Prop} (h : b = d) (k : p) : g b d p := by subst h; unfold g; simp only [BEq.rfl]; exact k
noncomputable def retK (K : KE) : Fl → Loc → Sto → Om → Prop := fun fl _ σ ω => match fl with
  | .ret v => K v σ ω
  | .next => K (.d .none) σ ω
noncomputable def noOrc : Addr → Bool := fun _ => false
noncomputable abbrev T (x : String) : Str := Str.ofString x
noncomputable def atM : Loc := []
noncomputable def wtM (op : Str) (a b : Dat) : Loc := [(T "digits", vi 9), (T "bits", vi 16), (T "other", .d b), (T "one", .d a), (T "op", vs op)]
noncomputable def wtM2 (op : Str) (a b : Dat) (x y : Bool) : Loc := (T "are_texts", .d (.list [.bool x, .bool y])) :: wtM op a b
noncomputable def wtSt : Stmt := (sBody (stm 49)).headD noStm
theorem wt_start (w : World) (B : Nat) (k : Nat) (op : Str) (a b : Dat) (x y : Bool) (σ : Sto) (ω : Om) (K : KE) (X : KX) :
    (ev (spW w B noOrc) 40).c 304 [vs op, .d a, .d b, vi 16, vi 9] σ (.st (.ok .next (wtM2 op a b x y)) σ :: ω) K X =
      (SWp w B (sScope (stm 49)) (wtM op a b) σ wtSt (.ok .next (wtM2 op a b x y)) σ ∧ exL (ev (spW w B noOrc) 39) (sScope (stm 49)) ((sBody (stm 49)).drop 1) (wtM2 op a b x y) σ ω (retK K) X) := by kernel_rfl
theorem wt_plus (w : World) (B : Nat) (a b : Int) (σ : Sto) (ω : Om) (K : KE) (X : KX) :
    exL (ev (spW w B noOrc) 39) (sScope (stm 49)) ((sBody (stm 49)).drop 1) (wtM2 (T "+") (.int a) (.int b) false false) σ (.b true :: .b true :: ω) (retK K) X =
      g (decide (-32768 ≤ a + b)) true (g (decide (a + b < 32768)) true (K (vi (a + b)) σ ω)) := by kernel_rfl
end Mine
end
section
open PySem PySem.W PyProof.Rows PySem.Calls PySem.Spec
set_option maxRecDepth 100000
set_option linter.unusedVariables false
namespace Mine
section
variable (w : World) (B : Nat) (a b : Int) (σ : Sto) (ω : Om) (K : KE) (X : KX)
noncomputable abbrev wtL (op : String) (ω : Om) : Prop := exL (ev (spW w B noOrc) 39) (sScope (stm 49)) ((sBody (stm 49)).drop 1) (wtM2 (T op) (.int a) (.int b) false false) σ ω (retK K) X
noncomputable abbrev fitB (i : Int) (p : Prop) : Prop := g (decide (-32768 ≤ i)) true (g (decide (i < 32768)) true p)
noncomputable abbrev ordr : Int := b2i (decide (b < a)) - b2i (decide (a < b))
theorem wt_minus : wtL w B a b σ K X "-" (.b true :: .b true :: ω) = fitB (a - b) (K (vi (a - b)) σ ω) := by kernel_rfl
theorem wt_mul : wtL w B a b σ K X "*" (.b true :: .b true :: ω) = chk (Nat.ble a.natAbs 4294967295 && Nat.ble b.natAbs 4294967295) (fitB (a * b) (K (vi (a * b)) σ ω)) := by kernel_rfl
theorem wt_eq_t : wtL w B a b σ K X "=" (.b true :: ω) = g ((ordr a b == 0) == true) true (K (vi (-1)) σ ω) := by kernel_rfl
theorem wt_eq_f : wtL w B a b σ K X "=" (.b false :: ω) = g ((ordr a b == 0) == true) false (K (vi 0) σ ω) := by kernel_rfl
theorem wt_ne_t : wtL w B a b σ K X "<>" (.b true :: ω) = g ((ordr a b == 0) == false) true (K (vi (-1)) σ ω) := by kernel_rfl
theorem wt_ne_f : wtL w B a b σ K X "<>" (.b false :: ω) = g ((ordr a b == 0) == false) false (K (vi 0) σ ω) := by kernel_rfl
theorem wt_lt_t : wtL w B a b σ K X "<" (.b true :: ω) = g (decide (ordr a b < 0) == true) true (K (vi (-1)) σ ω) := by kernel_rfl
theorem wt_lt_f : wtL w B a b σ K X "<" (.b false :: ω) = g (decide (ordr a b < 0) == true) false (K (vi 0) σ ω) := by kernel_rfl
theorem wt_ge_t : wtL w B a b σ K X ">=" (.b true :: ω) = g (decide (ordr a b < 0) == false) true (K (vi (-1)) σ ω) := by kernel_rfl
theorem wt_ge_f : wtL w B a b σ K X ">=" (.b false :: ω) = g (decide (ordr a b < 0) == false) false (K (vi 0) σ ω) := by kernel_rfl
theorem wt_gt_t : wtL w B a b σ K X ">" (.b true :: ω) = g (decide (0 < ordr a b) == true) true (K (vi (-1)) σ ω) := by kernel_rfl
theorem wt_gt_f : wtL w B a b σ K X ">" (.b false :: ω) = g (decide (0 < ordr a b) == true) false (K (vi 0) σ ω) := by kernel_rfl
theorem wt_le_t : wtL w B a b σ K X "<=" (.b true :: ω) = g (decide (0 < ordr a b) == false) true (K (vi (-1)) σ ω) := by kernel_rfl
theorem wt_le_f : wtL w B a b σ K X "<=" (.b false :: ω) = g (decide (0 < ordr a b) == false) false (K (vi 0) σ ω) := by kernel_rfl
theorem wt_and : wtL w B a b σ K X "AND" (.b true :: .b true :: .b true :: .b true :: ω) = fitB a (fitB b (K (vi (Builtin.bitAnd a b)) σ ω)) := by kernel_rfl
theorem wt_or : wtL w B a b σ K X "OR" (.b true :: .b true :: .b true :: .b true :: ω) = fitB a (fitB b (K (vi (Builtin.bitOr a b)) σ ω)) := by kernel_rfl
theorem wt_xor : wtL w B a b σ K X "XOR" (.b true :: .b true :: .b true :: .b true :: ω) = fitB a (fitB b (K (vi (Builtin.bitXor a b)) σ ω)) := by kernel_rfl
theorem wt_eqv : wtL w B a b σ K X "EQV" (.b true :: .b true :: .b true :: .b true :: ω) = fitB a (fitB b (K (vi (-1 - Builtin.bitXor a b)) σ ω)) := by kernel_rfl
theorem wt_imp : wtL w B a b σ K X "IMP" (.b true :: .b true :: .b true :: .b true :: ω) = fitB a (fitB b (K (vi (Builtin.bitOr (-1 - a) b)) σ ω)) := by kernel_rfl
noncomputable abbrev iabs (i : Int) : Int := if i < 0 then -i else i
noncomputable abbrev divC (p : Prop) : Prop := chk (!(iabs b == 0) && Nat.ble (iabs a).natAbs 1073741823 && Nat.ble (iabs b).natAbs 1073741823) p
noncomputable abbrev quot : Int := Int.fdiv (iabs a) (iabs b)
theorem wt_div_z : wtL w B a b σ K X "\\" (.b true :: .b true :: .b true :: .b true :: .b true :: ω) = fitB a (fitB b (g (b == 0) true (X (T "DZ") σ ω))) := by kernel_rfl
theorem wt_div_t : wtL w B a b σ K X "\\" (.b true :: .b true :: .b true :: .b true :: .b false :: .b true :: .b true :: .b true :: ω) =
    fitB a (fitB b (g (b == 0) false (divC a b (g (decide (a < 0) == decide (b < 0)) true (fitB (quot a b) (K (vi (quot a b)) σ ω)))))) := by kernel_rfl
theorem wt_div_f : wtL w B a b σ K X "\\" (.b true :: .b true :: .b true :: .b true :: .b false :: .b false :: .b true :: .b true :: ω) =
    fitB a (fitB b (g (b == 0) false (divC a b (g (decide (a < 0) == decide (b < 0)) false (fitB (0 - quot a b) (K (vi (0 - quot a b)) σ ω)))))) := by kernel_rfl
theorem wt_mod_z : wtL w B a b σ K X "MOD" (.b true :: .b true :: .b true :: .b true :: .b true :: ω) = fitB a (fitB b (g (b == 0) true (X (T "DZ") σ ω))) := by kernel_rfl
theorem wt_mod_t : wtL w B a b σ K X "MOD" (.b true :: .b true :: .b true :: .b true :: .b false :: .b true :: .b true :: .b true :: ω) =
    fitB a (fitB b (g (b == 0) false (divC a b (g (decide (a < 0) == decide (b < 0)) true (chk (Nat.ble b.natAbs 4294967295 && Nat.ble (quot a b).natAbs 4294967295) (fitB (a - b * quot a b) (K (vi (a - b * quot a b)) σ ω))))))) := by kernel_rfl
theorem wt_mod_f : wtL w B a b σ K X "MOD" (.b true :: .b true :: .b true :: .b true :: .b false :: .b false :: .b true :: .b true :: ω) =
    fitB a (fitB b (g (b == 0) false (divC a b (g (decide (a < 0) == decide (b < 0)) false (chk (Nat.ble b.natAbs 4294967295 && Nat.ble (0 - quot a b).natAbs 4294967295) (fitB (a - b * (0 - quot a b)) (K (vi (a - b * (0 - quot a b))) σ ω))))))) := by kernel_rfl
end
end Mine
end
section
open PySem PySem.W PyProof.Rows PySem.Calls PySem.Spec
set_option maxRecDepth 100000
set_option linter.unusedVariables false
namespace Mine
section
variable (w : World) (B : Nat) (s t : Str) (σ : Sto) (ω : Om) (K : KE) (X : KX)
noncomputable abbrev wtT (op : String) (ω : Om) : Prop := exL (ev (spW w B noOrc) 39) (sScope (stm 49)) ((sBody (stm 49)).drop 1) (wtM2 (T op) (.str s) (.str t) true true) σ ω (retK K) X
noncomputable abbrev ordS : Int := b2i (decide (t.cps.toList < s.cps.toList)) - b2i (decide (s.cps.toList < t.cps.toList))
theorem tt_eq_t : wtT w B s t σ K X "=" (.b true :: ω) = g ((ordS s t == 0) == true) true (K (vi (-1)) σ ω) := by kernel_rfl
theorem tt_eq_f : wtT w B s t σ K X "=" (.b false :: ω) = g ((ordS s t == 0) == true) false (K (vi 0) σ ω) := by kernel_rfl
theorem tt_ne_t : wtT w B s t σ K X "<>" (.b true :: ω) = g ((ordS s t == 0) == false) true (K (vi (-1)) σ ω) := by kernel_rfl
theorem tt_ne_f : wtT w B s t σ K X "<>" (.b false :: ω) = g ((ordS s t == 0) == false) false (K (vi 0) σ ω) := by kernel_rfl
theorem tt_lt_t : wtT w B s t σ K X "<" (.b true :: ω) = g (decide (ordS s t < 0) == true) true (K (vi (-1)) σ ω) := by kernel_rfl
theorem tt_lt_f : wtT w B s t σ K X "<" (.b false :: ω) = g (decide (ordS s t < 0) == true) false (K (vi 0) σ ω) := by kernel_rfl
theorem tt_ge_t : wtT w B s t σ K X ">=" (.b true :: ω) = g (decide (ordS s t < 0) == false) true (K (vi (-1)) σ ω) := by kernel_rfl
theorem tt_ge_f : wtT w B s t σ K X ">=" (.b false :: ω) = g (decide (ordS s t < 0) == false) false (K (vi 0) σ ω) := by kernel_rfl
theorem tt_gt_t : wtT w B s t σ K X ">" (.b true :: ω) = g (decide (0 < ordS s t) == true) true (K (vi (-1)) σ ω) := by kernel_rfl
theorem tt_gt_f : wtT w B s t σ K X ">" (.b false :: ω) = g (decide (0 < ordS s t) == true) false (K (vi 0) σ ω) := by kernel_rfl
theorem tt_le_t : wtT w B s t σ K X "<=" (.b true :: ω) = g (decide (0 < ordS s t) == false) true (K (vi (-1)) σ ω) := by kernel_rfl
theorem tt_le_f : wtT w B s t σ K X "<=" (.b false :: ω) = g (decide (0 < ordS s t) == false) false (K (vi 0) σ ω) := by kernel_rfl
theorem tt_add_t : wtT w B s t σ K X "+" (.b true :: ω) = chk (Nat.ble (s.length + t.length) 4096) (chk (Nat.ble (s ++ t).length 4096) (g (decide ((255 : Int) < ((s ++ t).length : Int))) true (X (T "LS") σ ω))) := by kernel_rfl
theorem tt_add_f : wtT w B s t σ K X "+" (.b false :: ω) = chk (Nat.ble (s.length + t.length) 4096) (chk (Nat.ble (s ++ t).length 4096) (g (decide ((255 : Int) < ((s ++ t).length : Int))) false (K (vs (s ++ t)) σ ω))) := by kernel_rfl
theorem tt_sub : wtT w B s t σ K X "-" ω = X (T "TM") σ ω := by kernel_rfl
theorem tt_mul : wtT w B s t σ K X "*" ω = X (T "TM") σ ω := by kernel_rfl
theorem tt_div : wtT w B s t σ K X "\\" ω = X (T "TM") σ ω := by kernel_rfl
theorem tt_mod : wtT w B s t σ K X "MOD" ω = X (T "TM") σ ω := by kernel_rfl
theorem tt_and : wtT w B s t σ K X "AND" ω = X (T "TM") σ ω := by kernel_rfl
theorem tt_or : wtT w B s t σ K X "OR" ω = X (T "TM") σ ω := by kernel_rfl
theorem tt_xor : wtT w B s t σ K X "XOR" ω = X (T "TM") σ ω := by kernel_rfl
theorem tt_eqv : wtT w B s t σ K X "EQV" ω = X (T "TM") σ ω := by kernel_rfl
theorem tt_imp : wtT w B s t σ K X "IMP" ω = X (T "TM") σ ω := by kernel_rfl
theorem wt_mix (op : Str) (a b : Dat) : exL (ev (spW w B noOrc) 39) (sScope (stm 49)) ((sBody (stm 49)).drop 1) (wtM2 op a b true false) σ ω (retK K) X = X (T "TM") σ ω := by kernel_rfl
theorem wt_mix' (op : Str) (a b : Dat) : exL (ev (spW w B noOrc) 39) (sScope (stm 49)) ((sBody (stm 49)).drop 1) (wtM2 op a b false true) σ ω (retK K) X = X (T "TM") σ ω := by kernel_rfl
/-! one operand -/
theorem w1_neg (a : Int) : (ev (spW w B noOrc) 40).c 311 [vs (T "neg"), vi a, vi 16, vi 9] σ (.b true :: .b true :: ω) K X = fitB (0 - a) (K (vi (0 - a)) σ ω) := by kernel_rfl
theorem w1_not (a : Int) : (ev (spW w B noOrc) 40).c 311 [vs (T "not"), vi a, vi 16, vi 9] σ (.b true :: .b true :: ω) K X = fitB a (K (vi (-1 - a)) σ ω) := by kernel_rfl
theorem w1_negs (a : Str) : (ev (spW w B noOrc) 40).c 311 [vs (T "neg"), vs a, vi 16, vi 9] σ ω K X = X (T "TM") σ ω := by kernel_rfl
theorem w1_nots (a : Str) : (ev (spW w B noOrc) 40).c 311 [vs (T "not"), vs a, vi 16, vi 9] σ ω K X = X (T "TM") σ ω := by kernel_rfl
theorem wk_int (a : Int) : (ev (spW w B noOrc) 40).c 44 [vi a] σ ω K X = K (vs (T "whole")) σ ω := by kernel_rfl
theorem wk_str (a : Str) : (ev (spW w B noOrc) 40).c 44 [vs a] σ ω K X = K (vs (T "text")) σ ω := by kernel_rfl
end
end Mine
end
section
open PySem PySem.W PyProof.Rows PySem.Calls PySem.Spec
set_option maxRecDepth 100000
set_option linter.unusedVariables false
namespace Mine
/-- what runs behind the source of a block -/
noncomputable abbrev CompAt (w : World) (x : Amb) (E : Value → Shared → Prop) (use : Option (Value → Sem Unit)) (Q : Value → Shared → Prop) (scope : Scope) (elt iter : Expr) (xn : Str) (px pos : Pos) (v : Value) (s₁ : Shared) : Prop :=
  wpAny (model pw w) x.A (pyIter v) (fun it s₂ => wpAny (model pw w) x.A (newList []) (fun acc s₃ => wpAny (model pw w) x.A (newFunctionEnv scope x.env.globals [] [] x.env.qual none .none (some x.env)) (fun cenv s₄ =>
      codeAny (model pw w) x.A (.compStart (.ListComp elt [⟨.Name xn px, iter, [], 0⟩] scope pos) 0 it acc { cenv with scope := relabel scope x.env }) (compPost (model pw w) x.A E use Q acc cenv.locals) s₄) E s₃) E s₂) E s₁
section
variable {w : World} {x : Amb} {n : Nat} {m : Loc} {σ : Sto} {c c₁ : Cfg} {s s₂ : Shared} {E : Value → Shared → Prop}
theorem assign_comp {elt iter : Expr} {xn y : Str} {px py : Pos} {scope : Scope} {pos spos : Pos} {Q : Flow → Shared → Prop} (SC : ScOk x scope xn) (hset : ∀ v, foldedSetIterable iter x.env v = pure v)
    (hsw : swapsWith (.ListComp elt [⟨.Name xn px, iter, [], 0⟩] scope pos) (some (.Name y py)) spos.line x.env = pure true)
    (h : wpAny (model pw w) x.A (eval iter x.env) (fun v s₁ => CompAt w x E (some (assign (.Name y py) x.env)) (fun _ s' => Q .next s') scope elt iter xn px pos v s₁) E s) :
    wpAny (model pw w) x.A (exec (.Assign [.Name y py] (.ListComp elt [⟨.Name xn px, iter, [], 0⟩] scope pos) spos) x.env) Q E s := by
  rw [exec_Assign_Name_used _ _ _ _ hsw]
  refine wpAny_bind (wpAny_standAt (wpAny_bind ?_))
  show wpAny _ x.A (do let _ ← comprehension (.ListComp elt [⟨.Name xn px, iter, [], 0⟩] scope pos) scope x.env _ (newList []) false (eval iter x.env) (some (assign (.Name y py) x.env))) _ _ s
  exact wpAny_bind (wpAny_mono (wpAny_comprehension_free (use := some (assign (.Name y py) x.env)) (Q := fun _ s' => Q .next s') rfl hset SC.clos SC.kind SC.names h) (fun _ s' hq => wpAny_pure (wpAny_pure hq)) fun _ _ e => e)
theorem eval_comp {elt iter : Expr} {xn : Str} {px : Pos} {scope : Scope} {pos : Pos} {Q : Value → Shared → Prop} (SC : ScOk x scope xn) (hset : ∀ v, foldedSetIterable iter x.env v = pure v)
    (h : wpAny (model pw w) x.A (eval iter x.env) (fun v s₁ => CompAt w x E none Q scope elt iter xn px pos v s₁) E s) :
    wpAny (model pw w) x.A (eval (.ListComp elt [⟨.Name xn px, iter, [], 0⟩] scope pos) x.env) Q E s := by
  rw [eval_ListComp]
  exact wpAny_comprehension_free (use := none) rfl hset SC.clos SC.kind SC.names h
/-- a name in a block: its own variable -/
theorem cname_own {scope : Scope} {xn : Str} {C : Addr} {oC : Obj} {mC : Str → Option Value} {v : Value} {p : Pos} {Q : Value → Shared → Prop} (SC : ScOk x scope xn) (S : SR w x.h₀ x.L m σ c s.heap) (hC : (C, oC) ∈ c.ex) (hn : LCg.NsObj oC mC) (hv : mC xn = some v)
    (hd : (xn == Str.ofString "__debug__") = false) (h : Q v s) : wpAny (model pw w) x.A (eval (.Name xn p) (compEnvC scope [] C x.env)) Q E s :=
  wpAny_Name (wpAny_loadName_local (env := compEnvC scope [] C x.env) SC.kind (lookup_relabel_local SC.here) (hn.ns (S.N (C, oC) (List.mem_append.mpr (.inr (List.mem_append.mpr (.inr hC))))).1) hv h) hd
end
noncomputable def isT : Dat → Bool
  | .str _ => true
  | _ => false
noncomputable def isV : Dat → Bool
  | .str _ => true
  | .int _ => true
  | _ => false
noncomputable def kindS (d : Dat) : Str := if isT d then T "text" else T "whole"
theorem wtSt_eq : ∃ p1 p2 p3 p4 p5 p6 p7 p8 p9 p10 p11 p12, wtSt = .Assign [.Name (T "are_texts") p1] (.ListComp (.Compare (.Call (.Name (T "kind_of") p2) [.Name (T "value") p3] [] p4) [.Eq] [.Constant (.str (T "text")) 0 p5] p6)
      [⟨.Name (T "value") p7, .Tuple [.Name (T "one") p8, .Name (T "other") p9] 0 p10, [], 0⟩] ⟨.function, [(T ".0", .local), (T "value", .local), (T "kind_of", .globalImplicit)], false, false, []⟩ p11) p12 ∧ (p1.line == p11.line) = true :=
  ⟨_, _, _, _, _, _, _, _, _, _, _, _, rfl, rfl⟩
theorem are_texts {w : World} {B : Nat} {op : Str} {a b : Dat} {σ : Sto} (hk : ∀ d, isV d = true → CWp w B 44 [.d d] σ (.ok (vs (kindS d))) σ) (ha : isV a = true) (hb : isV b = true) :
    SWp w B (sScope (stm 49)) (wtM op a b) σ wtSt (.ok .next (wtM2 op a b (isT a) (isT b))) σ := by
  refine ⟨?_⟩
  intro x c s Q E O hsc S P PX
  obtain ⟨p1, p2, p3, p4, p5, p6, p7, p8, p9, p10, p11, p12, e, hl⟩ := wtSt_eq
  rw [e]
  have SC : ScOk x ⟨.function, [(T ".0", .local), (T "value", .local), (T "kind_of", .globalImplicit)], false, false, []⟩ (T "value") := ⟨rfl, by decide, rfl, by decide, by decide⟩
  have n1 : nameV x.sc (wtM op a b) (T "one") = some (.d a) := by rw [hsc]; kernel_rfl
  have n2 : nameV x.sc (wtM op a b) (T "other") = some (.d b) := by rw [hsc]; kernel_rfl
  have ly : x.sc.names.lookup (T "are_texts") = some .local := by rw [hsc]; kernel_rfl
  refine assign_comp SC (fun _ => rfl) ?_ ?_
  · show pure (x.env.blockKind == .function && x.env.kindOf (T "are_texts") == some .local && p1.line == p11.line && _) = pure true
    rw [hl, show x.env.kindOf (T "are_texts") = some .local from ly, show x.env.blockKind = .function from by show (if x.sc.kind.isAnnotationScope = true then _ else x.sc.kind) = _; rw [O.kind]; rfl]
    rfl
  · refine Tuple_ (spliced_more (name_sound O S n1 fun va ra => spliced_more (name_sound O S n2 fun vb rb => spliced_none ?_)))
    have hd : DatAll c.fz [va, vb] [a, b] := .cons ra (.cons rb .nil)
    refine newTuple_N S.F S.N (fun h' F' N' => ?_)
    obtain ⟨S1, R1⟩ := push_tup (k := 0) S hd F' N' (size_ne S.N)
    have hex : EltOk w x (wtM op a b) σ ⟨.function, [(T ".0", .local), (T "value", .local), (T "kind_of", .globalImplicit)], false, false, []⟩ (T "value") (.Compare (.Call (.Name (T "kind_of") p2) [.Name (T "value") p3] [] p4) [.Eq] [.Constant (.str (T "text")) 0 p5] p6) (fun d => .bool (kindS d == T "text")) [a, b] := by
      intro c s C oC mC v d Q E S hC hn hv hd hm hQ
      have hdv : isV d = true := by
        rcases List.mem_cons.mp hm with rfl | hm
        · exact ha
        · rw [List.mem_singleton.mp hm]; exact hb
      refine wpAny_Compare1 (wpAny_Call_NameR (nameG_K S.F O.X (topRead_of O.T) (v := .ref 44) (by kernel_rfl) ?_ rfl rfl rfl rfl))
      refine callWith_K O.X (by kernel_rfl) (spliced_more (cname_own SC S hC hn hv (by decide) (spliced_none ⟨O.X.keeps S.F.keep, ?_⟩)))
      refine (hk d hdv).go O S (.cons hd .nil) (fun v e => ?_) fun d e => nomatch e
      cases e
      intro val c1 h1 t1 S1 G1 e1 R1
      obtain ⟨t, rfl⟩ := datS R1
      exact wpAny_Constant_str (eq_str (hQ _ c1 h1 _ S1 G1 e1 (DatIn.bool _)))
    refine src_tuple (s := { s with heap := h' }) O SC S1 R1 (by simp) hex fun h2 S2 => ?_
    refine comp_assign (s₂ := { s with heap := h' }) O ly S1 ?_
    intro fv c' h' tk' S' G' R'
    refine P _ _ rfl fv c' h' tk' ?_ ((grow_frozen _ _).trans G') R'
    have q : ∀ d, isV d = true → (kindS d == T "text") = isT d := fun d hd => by
      unfold kindS
      cases d <;> first | rfl | cases hd
    show SR w x.h₀ x.L ((T "are_texts", .d (.list [.bool (isT a), .bool (isT b)])) :: wtM op a b) σ c' h'
    rw [← q a ha, ← q b hb]
    exact S'
end Mine
end
section
open PySem PySem.W PyProof.Rows PySem.Calls PySem.Spec
set_option maxRecDepth 100000
set_option linter.unusedVariables false
namespace Mine
inductive Op where
  | add
  | sub
  | mul
  | div
  | mod
  | eq
  | ne
  | lt
  | and
  | or
  | xor
  | eqv
  | imp
  | ge
  | le
  | gt
noncomputable def Op.s : Op → String
  | .add => "+"
  | .sub => "-"
  | .mul => "*"
  | .div => "\\"
  | .mod => "MOD"
  | .eq => "="
  | .ne => "<>"
  | .lt => "<"
  | .and => "AND"
  | .or => "OR"
  | .xor => "XOR"
  | .eqv => "EQV"
  | .imp => "IMP"
  | .ge => ">="
  | .le => "<="
  | .gt => ">"
inductive Res where
  | val (d : Dat)
  | bad (c : Str)
noncomputable def Res.rs : Res → Rs
  | .val d => .ok (.d d)
  | .bad c => .exc c
noncomputable def cmpT (o : Int) : Op → Bool
  | .eq => (o == 0) == true
  | .ne => (o == 0) == false
  | .lt => decide (o < 0) == true
  | .ge => decide (o < 0) == false
  | .gt => decide (0 < o) == true
  | .le => decide (0 < o) == false
  | _ => false
noncomputable def isCmp : Op → Bool
  | .eq | .ne | .lt | .ge | .gt | .le => true
  | _ => false
noncomputable def sq (a b : Int) : Int := if (decide (a < 0) == decide (b < 0)) = true then quot a b else 0 - quot a b
noncomputable def opI (a b : Int) : Op → Res
  | .add => .val (.int (a + b))
  | .sub => .val (.int (a - b))
  | .mul => .val (.int (a * b))
  | .div => if b = 0 then .bad (T "DZ") else .val (.int (sq a b))
  | .mod => if b = 0 then .bad (T "DZ") else .val (.int (a - b * sq a b))
  | .and => .val (.int (Builtin.bitAnd a b))
  | .or => .val (.int (Builtin.bitOr a b))
  | .xor => .val (.int (Builtin.bitXor a b))
  | .eqv => .val (.int (-1 - Builtin.bitXor a b))
  | .imp => .val (.int (Builtin.bitOr (-1 - a) b))
  | o => .val (.int (if cmpT (ordr a b) o = true then -1 else 0))
noncomputable def opS (s t : Str) : Op → Res
  | .add => if (s ++ t).length ≤ 255 then .val (.str (s ++ t)) else .bad (T "LS")
  | o => if isCmp o = true then .val (.int (if cmpT (ordS s t) o = true then -1 else 0)) else .bad (T "TM")
noncomputable def op2 : Op → Dat → Dat → Res
  | o, .int a, .int b => opI a b o
  | o, .str a, .str b => opS a b o
  | _, _, _ => .bad (T "TM")
structure Sm (k : Int) (a : Int) : Prop where
  lo : -k ≤ a
  hi : a ≤ k
theorem ofE {A B : Prop} (h : A = B) (k : B) : A := h ▸ k
theorem fitB_of {i : Int} {p : Prop} (l : -32768 ≤ i) (h : i ≤ 32767) (k : p) : fitB i p := g_of (by simp; exact l) (g_of (by simp; omega) k)
theorem nble {a b : Nat} (h : a ≤ b) : Nat.ble a b = true := by rw [Nat.ble_eq]; exact h
theorem iabs_le {a k : Int} (h : Sm k a) : 0 ≤ iabs a ∧ iabs a ≤ k := by
  have := h.lo; have := h.hi
  unfold iabs
  split <;> omega
theorem quot_le {a b k : Int} (h : Sm k a) (hb : b ≠ 0) : 0 ≤ quot a b ∧ quot a b ≤ k := by
  have ha := iabs_le h
  have hb' : 0 < iabs b := by unfold iabs; split <;> omega
  unfold quot
  rw [Int.fdiv_eq_ediv_of_nonneg _ (Int.le_of_lt hb')]
  refine ⟨Int.ediv_nonneg ha.1 (Int.le_of_lt hb'), ?_⟩
  exact Int.le_trans (Int.ediv_le_self _ ha.1) ha.2
theorem sq_le {a b k : Int} (h : Sm k a) (hb : b ≠ 0) : Sm k (sq a b) := by
  have := quot_le h hb
  unfold sq
  split <;> exact ⟨by omega, by omega⟩
theorem rem_le {a b k : Int} (h : Sm k a) (hb : b ≠ 0) : Sm k (a - b * sq a b) ∧ -k ≤ b * sq a b ∧ b * sq a b ≤ k := by
  have hp : 0 < iabs b := by unfold iabs; split <;> omega
  have e := Int.ediv_mul_le (iabs a) (Int.ne_of_gt hp)
  have e2 := Int.lt_ediv_add_one_mul_self (iabs a) hp
  have hq : quot a b = iabs a / iabs b := by unfold quot; rw [Int.fdiv_eq_ediv_of_nonneg _ (Int.le_of_lt hp)]
  have q0 := (quot_le h hb).1
  rw [← hq] at e e2
  have hm : quot a b * iabs b ≥ 0 := Int.mul_nonneg q0 (Int.le_of_lt hp)
  have h1 := h.lo
  have h2 := h.hi
  have key : b * sq a b = quot a b * iabs b ∨ b * sq a b = -(quot a b * iabs b) := by
    unfold sq iabs
    split <;> split <;> simp [Int.mul_comm, Int.mul_neg, Int.neg_mul]
  have sgn : b * sq a b = if a < 0 then -(quot a b * iabs b) else quot a b * iabs b := by
    unfold sq iabs
    by_cases ha : a < 0 <;> by_cases hb2 : b < 0 <;> simp [ha, hb2, Int.mul_comm, Int.mul_neg, Int.neg_mul]
  have ia : iabs a = if a < 0 then -a else a := rfl
  rw [sgn]
  split <;> rename_i ha <;> simp only [ha, if_true, if_false] at ia <;> refine ⟨⟨?_, ?_⟩, ?_, ?_⟩ <;> omega
section
variable (w : World) (B : Nat) (σ : Sto)
noncomputable abbrev wtGoal (op : Op) (a b : Dat) (x y : Bool) (r : Res) : Prop := ∃ ω, exL (ev (spW w B noOrc) 39) (sScope (stm 49)) ((sBody (stm 49)).drop 1) (wtM2 (T op.s) a b x y) σ ω (retK (rK r.rs σ)) (rX r.rs σ)
theorem wt_int {a b : Int} (op : Op) (ha : Sm 2000 a) (hb : Sm 2000 b) (hm : op = .mul → Sm 32767 (a * b)) : wtGoal w B σ op (.int a) (.int b) false false (opI a b op) := by
  have fa : ∀ {p : Prop}, p → fitB a p := fun k => fitB_of (by have := ha.lo; omega) (by have := ha.hi; omega) k
  have fb : ∀ {p : Prop}, p → fitB b p := fun k => fitB_of (by have := hb.lo; omega) (by have := hb.hi; omega) k
  have a1 := ha.lo; have a2 := ha.hi; have b1 := hb.lo; have b2 := hb.hi
  cases op with
  | add => exact ⟨.b true :: .b true :: [], ofE (wt_plus w B a b σ [] _ _) (fitB_of (by omega) (by omega) ⟨rfl, rfl⟩)⟩
  | sub => exact ⟨.b true :: .b true :: [], ofE (wt_minus w B a b σ [] _ _) (fitB_of (by omega) (by omega) ⟨rfl, rfl⟩)⟩
  | mul =>
    have := hm rfl
    exact ⟨.b true :: .b true :: [], ofE (wt_mul w B a b σ [] _ _) (chk_of (by rw [nble (by omega), nble (by omega)]; rfl) (fitB_of (by have := this.lo; omega) (by have := this.hi; omega) ⟨rfl, rfl⟩))⟩
  | and => exact ⟨.b true :: .b true :: .b true :: .b true :: [], ofE (wt_and w B a b σ [] _ _) (fa (fb ⟨rfl, rfl⟩))⟩
  | or => exact ⟨.b true :: .b true :: .b true :: .b true :: [], ofE (wt_or w B a b σ [] _ _) (fa (fb ⟨rfl, rfl⟩))⟩
  | xor => exact ⟨.b true :: .b true :: .b true :: .b true :: [], ofE (wt_xor w B a b σ [] _ _) (fa (fb ⟨rfl, rfl⟩))⟩
  | eqv => exact ⟨.b true :: .b true :: .b true :: .b true :: [], ofE (wt_eqv w B a b σ [] _ _) (fa (fb ⟨rfl, rfl⟩))⟩
  | imp => exact ⟨.b true :: .b true :: .b true :: .b true :: [], ofE (wt_imp w B a b σ [] _ _) (fa (fb ⟨rfl, rfl⟩))⟩
  | eq =>
    cases h : cmpT (ordr a b) .eq with
    | true =>
      rw [show opI a b .eq = .val (.int (-1)) from by show Res.val (.int (if cmpT (ordr a b) .eq = true then -1 else 0)) = _; rw [h]; rfl]
      exact ⟨.b true :: [], ofE (wt_eq_t w B a b σ [] _ _) (g_of h ⟨rfl, rfl⟩)⟩
    | false =>
      rw [show opI a b .eq = .val (.int 0) from by show Res.val (.int (if cmpT (ordr a b) .eq = true then -1 else 0)) = _; rw [h]; rfl]
      exact ⟨.b false :: [], ofE (wt_eq_f w B a b σ [] _ _) (g_of h ⟨rfl, rfl⟩)⟩
  | ne =>
    cases h : cmpT (ordr a b) .ne with
    | true =>
      rw [show opI a b .ne = .val (.int (-1)) from by show Res.val (.int (if cmpT (ordr a b) .ne = true then -1 else 0)) = _; rw [h]; rfl]
      exact ⟨.b true :: [], ofE (wt_ne_t w B a b σ [] _ _) (g_of h ⟨rfl, rfl⟩)⟩
    | false =>
      rw [show opI a b .ne = .val (.int 0) from by show Res.val (.int (if cmpT (ordr a b) .ne = true then -1 else 0)) = _; rw [h]; rfl]
      exact ⟨.b false :: [], ofE (wt_ne_f w B a b σ [] _ _) (g_of h ⟨rfl, rfl⟩)⟩
  | lt =>
    cases h : cmpT (ordr a b) .lt with
    | true =>
      rw [show opI a b .lt = .val (.int (-1)) from by show Res.val (.int (if cmpT (ordr a b) .lt = true then -1 else 0)) = _; rw [h]; rfl]
      exact ⟨.b true :: [], ofE (wt_lt_t w B a b σ [] _ _) (g_of h ⟨rfl, rfl⟩)⟩
    | false =>
      rw [show opI a b .lt = .val (.int 0) from by show Res.val (.int (if cmpT (ordr a b) .lt = true then -1 else 0)) = _; rw [h]; rfl]
      exact ⟨.b false :: [], ofE (wt_lt_f w B a b σ [] _ _) (g_of h ⟨rfl, rfl⟩)⟩
  | ge =>
    cases h : cmpT (ordr a b) .ge with
    | true =>
      rw [show opI a b .ge = .val (.int (-1)) from by show Res.val (.int (if cmpT (ordr a b) .ge = true then -1 else 0)) = _; rw [h]; rfl]
      exact ⟨.b true :: [], ofE (wt_ge_t w B a b σ [] _ _) (g_of h ⟨rfl, rfl⟩)⟩
    | false =>
      rw [show opI a b .ge = .val (.int 0) from by show Res.val (.int (if cmpT (ordr a b) .ge = true then -1 else 0)) = _; rw [h]; rfl]
      exact ⟨.b false :: [], ofE (wt_ge_f w B a b σ [] _ _) (g_of h ⟨rfl, rfl⟩)⟩
  | gt =>
    cases h : cmpT (ordr a b) .gt with
    | true =>
      rw [show opI a b .gt = .val (.int (-1)) from by show Res.val (.int (if cmpT (ordr a b) .gt = true then -1 else 0)) = _; rw [h]; rfl]
      exact ⟨.b true :: [], ofE (wt_gt_t w B a b σ [] _ _) (g_of h ⟨rfl, rfl⟩)⟩
    | false =>
      rw [show opI a b .gt = .val (.int 0) from by show Res.val (.int (if cmpT (ordr a b) .gt = true then -1 else 0)) = _; rw [h]; rfl]
      exact ⟨.b false :: [], ofE (wt_gt_f w B a b σ [] _ _) (g_of h ⟨rfl, rfl⟩)⟩
  | le =>
    cases h : cmpT (ordr a b) .le with
    | true =>
      rw [show opI a b .le = .val (.int (-1)) from by show Res.val (.int (if cmpT (ordr a b) .le = true then -1 else 0)) = _; rw [h]; rfl]
      exact ⟨.b true :: [], ofE (wt_le_t w B a b σ [] _ _) (g_of h ⟨rfl, rfl⟩)⟩
    | false =>
      rw [show opI a b .le = .val (.int 0) from by show Res.val (.int (if cmpT (ordr a b) .le = true then -1 else 0)) = _; rw [h]; rfl]
      exact ⟨.b false :: [], ofE (wt_le_f w B a b σ [] _ _) (g_of h ⟨rfl, rfl⟩)⟩
  | div =>
    rw [show opI a b .div = (if b = 0 then .bad (T "DZ") else .val (.int (sq a b))) from rfl]
    by_cases hz : b = 0
    · rw [if_pos hz]
      exact ⟨.b true :: .b true :: .b true :: .b true :: .b true :: [], ofE (wt_div_z w B a b σ [] _ _) (fa (fb (g_of (by simp [hz]) ⟨rfl, rfl⟩)))⟩
    · rw [if_neg hz]
      have hq := sq_le (b := b) ha hz
      have q0 := quot_le (b := b) ha hz
      have dc : ∀ {p : Prop}, p → divC a b p := fun k => chk_of (by
        have h1 := iabs_le ha; have h2 := iabs_le hb
        have h3 : iabs b ≠ 0 := by unfold iabs; split <;> omega
        rw [nble (by omega), nble (by omega)]; simp [h3]) k
      cases hs : (decide (a < 0) == decide (b < 0)) with
      | true =>
        have e2 : sq a b = quot a b := by unfold sq; rw [hs]; rfl
        rw [e2] at hq ⊢
        exact ⟨.b true :: .b true :: .b true :: .b true :: .b false :: .b true :: .b true :: .b true :: [], ofE (wt_div_t w B a b σ [] _ _) (fa (fb (g_of (by simp [hz]) (dc (g_of hs (fitB_of (by omega) (by omega) ⟨rfl, rfl⟩))))))⟩
      | false =>
        have e2 : sq a b = 0 - quot a b := by unfold sq; rw [hs]; rfl
        rw [e2] at hq ⊢
        exact ⟨.b true :: .b true :: .b true :: .b true :: .b false :: .b false :: .b true :: .b true :: [], ofE (wt_div_f w B a b σ [] _ _) (fa (fb (g_of (by simp [hz]) (dc (g_of hs (fitB_of (by omega) (by omega) ⟨rfl, rfl⟩))))))⟩
  | mod =>
    rw [show opI a b .mod = (if b = 0 then .bad (T "DZ") else .val (.int (a - b * sq a b))) from rfl]
    by_cases hz : b = 0
    · rw [if_pos hz]
      exact ⟨.b true :: .b true :: .b true :: .b true :: .b true :: [], ofE (wt_mod_z w B a b σ [] _ _) (fa (fb (g_of (by simp [hz]) ⟨rfl, rfl⟩)))⟩
    · rw [if_neg hz]
      have hq := sq_le (b := b) ha hz
      have q0 := quot_le (b := b) ha hz
      have hr := rem_le (b := b) ha hz
      have dc : ∀ {p : Prop}, p → divC a b p := fun k => chk_of (by
        have h1 := iabs_le ha; have h2 := iabs_le hb
        have h3 : iabs b ≠ 0 := by unfold iabs; split <;> omega
        rw [nble (by omega), nble (by omega)]; simp [h3]) k
      cases hs : (decide (a < 0) == decide (b < 0)) with
      | true =>
        have e2 : sq a b = quot a b := by unfold sq; rw [hs]; rfl
        rw [e2] at hq hr ⊢
        have r1 := hr.1.lo; have r2 := hr.1.hi
        exact ⟨.b true :: .b true :: .b true :: .b true :: .b false :: .b true :: .b true :: .b true :: [], ofE (wt_mod_t w B a b σ [] _ _) (fa (fb (g_of (by simp [hz]) (dc (g_of hs (chk_of (by rw [nble (by omega), nble (by omega)]; rfl) (fitB_of (by omega) (by omega) ⟨rfl, rfl⟩)))))))⟩
      | false =>
        have e2 : sq a b = 0 - quot a b := by unfold sq; rw [hs]; rfl
        rw [e2] at hq hr ⊢
        have r1 := hr.1.lo; have r2 := hr.1.hi
        exact ⟨.b true :: .b true :: .b true :: .b true :: .b false :: .b false :: .b true :: .b true :: [], ofE (wt_mod_f w B a b σ [] _ _) (fa (fb (g_of (by simp [hz]) (dc (g_of hs (chk_of (by rw [nble (by omega), nble (by omega)]; rfl) (fitB_of (by omega) (by omega) ⟨rfl, rfl⟩)))))))⟩
theorem wt_str {s t : Str} (op : Op) (hs : s.length ≤ 255) (ht : t.length ≤ 255) : wtGoal w B σ op (.str s) (.str t) true true (opS s t op) := by
  have hl : (s ++ t).length = s.length + t.length := by show (s.cps ++ t.cps).size = s.cps.size + t.cps.size; simp
  cases op with
  | add =>
    rw [show opS s t .add = (if (s ++ t).length ≤ 255 then .val (.str (s ++ t)) else .bad (T "LS")) from rfl]
    have c1 : Nat.ble (s.length + t.length) 4096 = true := nble (by omega)
    have c2 : Nat.ble (s ++ t).length 4096 = true := nble (by rw [hl]; omega)
    by_cases h : (s ++ t).length ≤ 255
    · rw [if_pos h]
      exact ⟨.b false :: [], ofE (tt_add_f w B s t σ [] _ _) (chk_of c1 (chk_of c2 (g_of (by simp; omega) ⟨rfl, rfl⟩)))⟩
    · rw [if_neg h]
      exact ⟨.b true :: [], ofE (tt_add_t w B s t σ [] _ _) (chk_of c1 (chk_of c2 (g_of (by simp; omega) ⟨rfl, rfl⟩)))⟩
  | eq =>
    cases h : cmpT (ordS s t) .eq with
    | true =>
      rw [show opS s t .eq = .val (.int (-1)) from by show Res.val (.int (if cmpT (ordS s t) .eq = true then -1 else 0)) = _; rw [h]; rfl]
      exact ⟨.b true :: [], ofE (tt_eq_t w B s t σ [] _ _) (g_of h ⟨rfl, rfl⟩)⟩
    | false =>
      rw [show opS s t .eq = .val (.int 0) from by show Res.val (.int (if cmpT (ordS s t) .eq = true then -1 else 0)) = _; rw [h]; rfl]
      exact ⟨.b false :: [], ofE (tt_eq_f w B s t σ [] _ _) (g_of h ⟨rfl, rfl⟩)⟩
  | ne =>
    cases h : cmpT (ordS s t) .ne with
    | true =>
      rw [show opS s t .ne = .val (.int (-1)) from by show Res.val (.int (if cmpT (ordS s t) .ne = true then -1 else 0)) = _; rw [h]; rfl]
      exact ⟨.b true :: [], ofE (tt_ne_t w B s t σ [] _ _) (g_of h ⟨rfl, rfl⟩)⟩
    | false =>
      rw [show opS s t .ne = .val (.int 0) from by show Res.val (.int (if cmpT (ordS s t) .ne = true then -1 else 0)) = _; rw [h]; rfl]
      exact ⟨.b false :: [], ofE (tt_ne_f w B s t σ [] _ _) (g_of h ⟨rfl, rfl⟩)⟩
  | lt =>
    cases h : cmpT (ordS s t) .lt with
    | true =>
      rw [show opS s t .lt = .val (.int (-1)) from by show Res.val (.int (if cmpT (ordS s t) .lt = true then -1 else 0)) = _; rw [h]; rfl]
      exact ⟨.b true :: [], ofE (tt_lt_t w B s t σ [] _ _) (g_of h ⟨rfl, rfl⟩)⟩
    | false =>
      rw [show opS s t .lt = .val (.int 0) from by show Res.val (.int (if cmpT (ordS s t) .lt = true then -1 else 0)) = _; rw [h]; rfl]
      exact ⟨.b false :: [], ofE (tt_lt_f w B s t σ [] _ _) (g_of h ⟨rfl, rfl⟩)⟩
  | ge =>
    cases h : cmpT (ordS s t) .ge with
    | true =>
      rw [show opS s t .ge = .val (.int (-1)) from by show Res.val (.int (if cmpT (ordS s t) .ge = true then -1 else 0)) = _; rw [h]; rfl]
      exact ⟨.b true :: [], ofE (tt_ge_t w B s t σ [] _ _) (g_of h ⟨rfl, rfl⟩)⟩
    | false =>
      rw [show opS s t .ge = .val (.int 0) from by show Res.val (.int (if cmpT (ordS s t) .ge = true then -1 else 0)) = _; rw [h]; rfl]
      exact ⟨.b false :: [], ofE (tt_ge_f w B s t σ [] _ _) (g_of h ⟨rfl, rfl⟩)⟩
  | gt =>
    cases h : cmpT (ordS s t) .gt with
    | true =>
      rw [show opS s t .gt = .val (.int (-1)) from by show Res.val (.int (if cmpT (ordS s t) .gt = true then -1 else 0)) = _; rw [h]; rfl]
      exact ⟨.b true :: [], ofE (tt_gt_t w B s t σ [] _ _) (g_of h ⟨rfl, rfl⟩)⟩
    | false =>
      rw [show opS s t .gt = .val (.int 0) from by show Res.val (.int (if cmpT (ordS s t) .gt = true then -1 else 0)) = _; rw [h]; rfl]
      exact ⟨.b false :: [], ofE (tt_gt_f w B s t σ [] _ _) (g_of h ⟨rfl, rfl⟩)⟩
  | le =>
    cases h : cmpT (ordS s t) .le with
    | true =>
      rw [show opS s t .le = .val (.int (-1)) from by show Res.val (.int (if cmpT (ordS s t) .le = true then -1 else 0)) = _; rw [h]; rfl]
      exact ⟨.b true :: [], ofE (tt_le_t w B s t σ [] _ _) (g_of h ⟨rfl, rfl⟩)⟩
    | false =>
      rw [show opS s t .le = .val (.int 0) from by show Res.val (.int (if cmpT (ordS s t) .le = true then -1 else 0)) = _; rw [h]; rfl]
      exact ⟨.b false :: [], ofE (tt_le_f w B s t σ [] _ _) (g_of h ⟨rfl, rfl⟩)⟩
  | sub => exact ⟨[], ofE (tt_sub w B s t σ [] _ _) (⟨rfl, rfl⟩)⟩
  | mul => exact ⟨[], ofE (tt_mul w B s t σ [] _ _) (⟨rfl, rfl⟩)⟩
  | div => exact ⟨[], ofE (tt_div w B s t σ [] _ _) (⟨rfl, rfl⟩)⟩
  | mod => exact ⟨[], ofE (tt_mod w B s t σ [] _ _) (⟨rfl, rfl⟩)⟩
  | and => exact ⟨[], ofE (tt_and w B s t σ [] _ _) (⟨rfl, rfl⟩)⟩
  | or => exact ⟨[], ofE (tt_or w B s t σ [] _ _) (⟨rfl, rfl⟩)⟩
  | xor => exact ⟨[], ofE (tt_xor w B s t σ [] _ _) (⟨rfl, rfl⟩)⟩
  | eqv => exact ⟨[], ofE (tt_eqv w B s t σ [] _ _) (⟨rfl, rfl⟩)⟩
  | imp => exact ⟨[], ofE (tt_imp w B s t σ [] _ _) (⟨rfl, rfl⟩)⟩
end
end Mine
end
section
open PySem PySem.W PyProof.Rows PySem.Calls PySem.Spec
set_option maxRecDepth 100000
set_option linter.unusedVariables false
namespace Mine
noncomputable def okArgs (op : Op) : Dat → Dat → Prop
  | .int a, .int b => Sm 2000 a ∧ Sm 2000 b ∧ (op = .mul → Sm 32767 (a * b))
  | .str s, .str t => s.length ≤ 255 ∧ t.length ≤ 255
  | _, _ => True
theorem kind_ok {w : World} (R0 : Rules w) (d : Dat) (h : isV d = true) (σ : Sto) : CWp w 40 44 [.d d] σ (.ok (vs (kindS d))) σ := by
  cases d with
  | int a => exact CWp.of (B := 0) (k := 40) (orc := noOrc) R0 (ofE (wk_int w 0 σ [] _ _ a) ⟨rfl, rfl⟩)
  | str a => exact CWp.of (B := 0) (k := 40) (orc := noOrc) R0 (ofE (wk_str w 0 σ [] _ _ a) ⟨rfl, rfl⟩)
  | _ => cases h
theorem wt_ok {w : World} (R0 : Rules w) (op : Op) {a b : Dat} (ha : isV a = true) (hb : isV b = true) (h : okArgs op a b) (σ : Sto) : CWp w 80 304 [vs (T op.s), .d a, .d b, vi 16, vi 9] σ (op2 op a b).rs σ := by
  have st := fun (op : Op) => are_texts (w := w) (B := 40) (op := T op.s) (σ := σ) (fun d hd => kind_ok R0 d hd σ) ha hb
  have go : wtGoal w 40 σ op a b (isT a) (isT b) (op2 op a b) := by
    cases a with
    | int a => cases b with
      | int b => exact wt_int w 40 σ op h.1 h.2.1 h.2.2
      | str b => exact ⟨[], ofE (wt_mix' w 40 σ [] _ _ (T op.s) (.int a) (.str b)) ⟨rfl, rfl⟩⟩
      | _ => cases hb
    | str a => cases b with
      | int b => exact ⟨[], ofE (wt_mix w 40 σ [] _ _ (T op.s) (.str a) (.int b)) ⟨rfl, rfl⟩⟩
      | str b => exact wt_str w 40 σ op h.1 h.2
      | _ => cases hb
    | _ => cases ha
  obtain ⟨ω, go⟩ := go
  exact CWp.of (B := 40) (k := 40) (orc := noOrc) R0 (ofE (wt_start w 40 0 (T op.s) a b (isT a) (isT b) σ ω _ _) ⟨st op, go⟩)
noncomputable def un (neg : Bool) : Dat → Res
  | .int a => .val (.int (if neg then 0 - a else -1 - a))
  | _ => .bad (T "TM")
noncomputable def unS (neg : Bool) : String := if neg then "neg" else "not"
theorem w1_ok {w : World} (R0 : Rules w) (neg : Bool) {a : Dat} (ha : isV a = true) (h : ∀ i, a = .int i → Sm 32767 i) (σ : Sto) : CWp w 40 311 [vs (T (unS neg)), .d a, vi 16, vi 9] σ (un neg a).rs σ := by
  cases a with
  | int a =>
    have := h a rfl
    have l := this.lo
    have u := this.hi
    cases neg with
    | true => exact CWp.of (B := 0) (k := 40) (orc := noOrc) R0 (ofE (w1_neg w 0 σ [] _ _ a) (fitB_of (by omega) (by omega) ⟨rfl, rfl⟩))
    | false => exact CWp.of (B := 0) (k := 40) (orc := noOrc) R0 (ofE (w1_not w 0 σ [] _ _ a) (fitB_of (by omega) (by omega) ⟨rfl, rfl⟩))
  | str a =>
    cases neg with
    | true => exact CWp.of (B := 0) (k := 40) (orc := noOrc) R0 (ofE (w1_negs w 0 σ [] _ _ a) ⟨rfl, rfl⟩)
    | false => exact CWp.of (B := 0) (k := 40) (orc := noOrc) R0 (ofE (w1_nots w 0 σ [] _ _ a) ⟨rfl, rfl⟩)
  | _ => cases ha
noncomputable def atS (σ : Sto) (i : Nat) (f : List Dat → Prop) : Prop := match σ[i]? with
  | some l => chk (Nat.ble l.length 4096) (f l)
  | none => False
theorem atS_of {σ : Sto} {i : Nat} {f : List Dat → Prop} {l : List Dat} (h : σ[i]? = some l) (hl : l.length ≤ 4096) (k : f l) : atS σ i f := by
  unfold atS; rw [h]; exact chk_of (nble hl) k
noncomputable def rsK (r : Rs) (K : KE) (X : KX) (σ : Sto) (ω : Om) : Prop := match r with
  | .ok v => K v σ ω
  | .exc c => X c σ ω
noncomputable def oWT : Addr → Bool := fun f => Nat.beq f 304 || Nat.beq f 311
section
variable (w : World) (B : Nat) (σ : Sto) (ω : Om) (K : KE) (X : KX)
noncomputable abbrev ds (l : List Dat) : Dat := .tuple l
theorem tr_two (op : Str) (l r a b : Dat) (i k : Nat) (rs : Rs) (σ' : Sto) : (ev (spW w B oWT) 40).c 325 [.d (ds [.str (T "two"), .str op, l, r]), .d (.list [a, b]), .hk k i] σ (.call rs σ' :: ω) K X = (CWp w B 304 [vs op, .d a, .d b, vi 16, vi 9] σ rs σ' ∧ rsK rs K X σ' ω) := by kernel_rfl
theorem tr_neg (l a : Dat) (i k : Nat) (rs : Rs) (σ' : Sto) : (ev (spW w B oWT) 40).c 325 [.d (ds [.str (T "neg"), l]), .d (.list [a]), .hk k i] σ (.call rs σ' :: ω) K X = (CWp w B 311 [vs (T "neg"), .d a, vi 16, vi 9] σ rs σ' ∧ rsK rs K X σ' ω) := by kernel_rfl
theorem tr_not (l a : Dat) (i k : Nat) (rs : Rs) (σ' : Sto) : (ev (spW w B oWT) 40).c 325 [.d (ds [.str (T "not"), l]), .d (.list [a]), .hk k i] σ (.call rs σ' :: ω) K X = (CWp w B 311 [vs (T "not"), .d a, vi 16, vi 9] σ rs σ' ∧ rsK rs K X σ' ω) := by kernel_rfl
theorem tr_text (s : Str) (i k : Nat) : (ev (spW w B oWT) 40).c 325 [.d (ds [.str (T "text"), .str s]), .d (.list []), .hk k i] σ ω K X = K (vs s) σ ω := by kernel_rfl
theorem tr_whole (n : Int) (i k : Nat) : (ev (spW w B oWT) 40).c 325 [.d (ds [.str (T "whole"), .int n]), .d (.list []), .hk k i] σ (.b true :: .b true :: ω) K X = fitB n (K (vi n) σ ω) := by kernel_rfl
theorem tr_name0 (i : Nat) : (ev (spW w B oWT) 40).c 325 [.d (ds [.str (T "name"), .str (T "A")]), .d (.list []), .hk 0 i] σ ω K X = atS σ i fun l => (K (vi 5) (σ.set i (l ++ [.str (T "A")])) ω) := by kernel_rfl
theorem tr_name1 (i : Nat) : (ev (spW w B oWT) 40).c 325 [.d (ds [.str (T "name"), .str (T "B%")]), .d (.list []), .hk 0 i] σ ω K X = atS σ i fun l => (K (vi (-3)) (σ.set i (l ++ [.str (T "B%")])) ω) := by kernel_rfl
theorem tr_name2 (i : Nat) : (ev (spW w B oWT) 40).c 325 [.d (ds [.str (T "name"), .str (T "C$")]), .d (.list []), .hk 0 i] σ ω K X = atS σ i fun l => (K (vs (T "ab")) (σ.set i (l ++ [.str (T "C$")])) ω) := by kernel_rfl
theorem tr_name3 (i : Nat) : (ev (spW w B oWT) 40).c 325 [.d (ds [.str (T "name"), .str (T "NONE")]), .d (.list []), .hk 0 i] σ ω K X = atS σ i fun l => (X (T "NM") (σ.set i (l ++ [.str (T "NONE")])) ω) := by kernel_rfl
theorem tr_item0 (i : Nat) (p : Dat) : (ev (spW w B oWT) 40).c 325 [.d (ds [.str (T "item"), .str (T "A"), p]), .d (.list [.int 0]), .hk 0 i] σ ω K X = atS σ i fun l => (K (vi 7) (σ.set i (l ++ [(ds [.str (T "A"), ds [.int 0]])])) ω) := by kernel_rfl
theorem tr_item1 (i : Nat) (p : Dat) : (ev (spW w B oWT) 40).c 325 [.d (ds [.str (T "item"), .str (T "A"), p]), .d (.list [.int 1]), .hk 0 i] σ ω K X = atS σ i fun l => (K (vs (T "t")) (σ.set i (l ++ [(ds [.str (T "A"), ds [.int 1]])])) ω) := by kernel_rfl
theorem tr_item2 (i : Nat) (p : Dat) : (ev (spW w B oWT) 40).c 325 [.d (ds [.str (T "item"), .str (T "A"), p]), .d (.list [.int 2]), .hk 0 i] σ ω K X = atS σ i fun l => (X (T "BS") (σ.set i (l ++ [(ds [.str (T "A"), ds [.int 2]])])) ω) := by kernel_rfl
theorem tr_item3 (i : Nat) (p : Dat) : (ev (spW w B oWT) 40).c 325 [.d (ds [.str (T "item"), .str (T "A"), p]), .d (.list [.int 3]), .hk 0 i] σ ω K X = atS σ i fun l => (X (T "BS") (σ.set i (l ++ [(ds [.str (T "A"), ds [.int 3]])])) ω) := by kernel_rfl
theorem tr_call0 (i : Nat) (p : Dat) : (ev (spW w B oWT) 40).c 325 [.d (ds [.str (T "call"), .str (T "LEN"), p]), .d (.list [.int 0]), .hk 0 i] σ ω K X = atS σ i fun l => (X (T "FC") (σ.set i (l ++ [(ds [.str (T "LEN"), ds [.int 0]])])) ω) := by kernel_rfl
theorem tr_call1 (i : Nat) (p : Dat) : (ev (spW w B oWT) 40).c 325 [.d (ds [.str (T "call"), .str (T "LEN"), p]), .d (.list [.int 1]), .hk 0 i] σ ω K X = atS σ i fun l => (X (T "FC") (σ.set i (l ++ [(ds [.str (T "LEN"), ds [.int 1]])])) ω) := by kernel_rfl
theorem tr_call2 (i : Nat) (p : Dat) : (ev (spW w B oWT) 40).c 325 [.d (ds [.str (T "call"), .str (T "LEN"), p]), .d (.list [.int 2]), .hk 0 i] σ ω K X = atS σ i fun l => (K (vi 4) (σ.set i (l ++ [(ds [.str (T "LEN"), ds [.int 2]])])) ω) := by kernel_rfl
theorem tr_call3 (i : Nat) (p : Dat) : (ev (spW w B oWT) 40).c 325 [.d (ds [.str (T "call"), .str (T "LEN"), p]), .d (.list [.int 3]), .hk 0 i] σ ω K X = atS σ i fun l => (X (T "FC") (σ.set i (l ++ [(ds [.str (T "LEN"), ds [.int 3]])])) ω) := by kernel_rfl
theorem tr_fn0 (i : Nat) (p : Dat) : (ev (spW w B oWT) 40).c 325 [.d (ds [.str (T "fn"), .str (T "FNA"), p]), .d (.list [.int 0]), .hk 0 i] σ ω K X = atS σ i fun l => (X (T "UF") (σ.set i (l ++ [(ds [.str (T "FNA"), ds [.int 0]])])) ω) := by kernel_rfl
theorem tr_fn1 (i : Nat) (p : Dat) : (ev (spW w B oWT) 40).c 325 [.d (ds [.str (T "fn"), .str (T "FNA"), p]), .d (.list [.int 1]), .hk 0 i] σ ω K X = atS σ i fun l => (X (T "UF") (σ.set i (l ++ [(ds [.str (T "FNA"), ds [.int 1]])])) ω) := by kernel_rfl
theorem tr_fn2 (i : Nat) (p : Dat) : (ev (spW w B oWT) 40).c 325 [.d (ds [.str (T "fn"), .str (T "FNA"), p]), .d (.list [.int 2]), .hk 0 i] σ ω K X = atS σ i fun l => (X (T "UF") (σ.set i (l ++ [(ds [.str (T "FNA"), ds [.int 2]])])) ω) := by kernel_rfl
theorem tr_fn3 (i : Nat) (p : Dat) : (ev (spW w B oWT) 40).c 325 [.d (ds [.str (T "fn"), .str (T "FNA"), p]), .d (.list [.int 3]), .hk 0 i] σ ω K X = atS σ i fun l => (K (vi 0) (σ.set i (l ++ [(ds [.str (T "FNA"), ds [.int 3]])])) ω) := by kernel_rfl
theorem pt_two (op : Str) (l r : Dat) : (ev (spW w B noOrc) 40).c 276 [.d (ds [.str (T "two"), .str op, l, r])] σ ω K X = K (.d (.list [l, r])) σ ω := by kernel_rfl
theorem pt_neg (l : Dat) : (ev (spW w B noOrc) 40).c 276 [.d (ds [.str (T "neg"), l])] σ ω K X = K (.d (.list [l])) σ ω := by kernel_rfl
theorem pt_not (l : Dat) : (ev (spW w B noOrc) 40).c 276 [.d (ds [.str (T "not"), l])] σ ω K X = K (.d (.list [l])) σ ω := by kernel_rfl
theorem pt_text (l : Dat) : (ev (spW w B noOrc) 40).c 276 [.d (ds [.str (T "text"), l])] σ ω K X = K (.d (.list [])) σ ω := by kernel_rfl
theorem pt_whole (l : Dat) : (ev (spW w B noOrc) 40).c 276 [.d (ds [.str (T "whole"), l])] σ ω K X = K (.d (.list [])) σ ω := by kernel_rfl
theorem pt_name (l : Dat) : (ev (spW w B noOrc) 40).c 276 [.d (ds [.str (T "name"), l])] σ ω K X = K (.d (.list [])) σ ω := by kernel_rfl
theorem pt_item (l p : Dat) : (ev (spW w B noOrc) 40).c 276 [.d (ds [.str (T "item"), l, p])] σ ω K X = K (.d p) σ ω := by kernel_rfl
theorem pt_call (l p : Dat) : (ev (spW w B noOrc) 40).c 276 [.d (ds [.str (T "call"), l, p])] σ ω K X = K (.d p) σ ω := by kernel_rfl
theorem pt_fn (l p : Dat) : (ev (spW w B noOrc) 40).c 276 [.d (ds [.str (T "fn"), l, p])] σ ω K X = K (.d p) σ ω := by kernel_rfl
end
end Mine
end
section
open PySem PySem.W PyProof.Rows PySem.Calls PySem.Spec
set_option maxRecDepth 100000
set_option linter.unusedVariables false
namespace Mine
noncomputable def whBody : Stmt → List Stmt
  | .While _ b _ _ => b
  | _ => []
noncomputable def whTest : Stmt → Expr
  | .While t _ _ _ => t
  | _ => .Name ⟨#[]⟩ ⟨0, 0, 0, 0⟩
noncomputable def wSt : Stmt := ((sBody (stm 53))[1]?).getD noStm
noncomputable def bodyW : List Stmt := whBody wSt
noncomputable def ifElse : Stmt → List Stmt
  | .If _ _ o _ => o
  | _ => []
noncomputable def callArg0 : Stmt → Expr
  | .Expr (.Call _ [e] _ _) _ => e
  | _ => .Name ⟨#[]⟩ ⟨0, 0, 0, 0⟩
noncomputable def compW : Expr := callArg0 (((ifElse ((bodyW[2]?).getD noStm))[1]?).getD noStm)
noncomputable abbrev scW : Scope := sScope (stm 53)
noncomputable def oW : Addr → Bool := fun f => Nat.beq f 276 || Nat.beq f 325
noncomputable def popK (σ : Sto) (j : Nat) (f : Dat → Sto → Prop) : Prop := match σ[j]? with
  | some l => match l.getLast? with
    | some d => chk (Nat.ble l.length 4096) (f d (σ.set j l.dropLast))
    | none => False
  | none => False
noncomputable def tupK (d : Dat) (f : List Dat → Prop) : Prop := match d with
  | .tuple l => f l
  | _ => False
noncomputable def len2 (l : List Dat) (p : Prop) : Prop := match l.length == 2 with
  | true => p
  | false => False
noncomputable def extK (σ : Sto) (j : Nat) (q : List Dat) (f : Sto → Prop) : Prop := match σ[j]? with
  | some l => chk (Nat.ble (l.length + q.length) 4096) (f (σ.set j (l ++ q)))
  | none => False
noncomputable abbrev wM (vs : List Dat) (j kk i : Nat) : Loc := [(T "values", .d (.list vs)), (T "waiting", .loc j), (T "hooks", .hk kk i)]
noncomputable abbrev wM1 (t : Dat) (b : Bool) (vs : List Dat) (j kk i : Nat) : Loc := (T "is_ready", .d (.bool b)) :: (T "here", .d t) :: wM vs j kk i
section
variable (w : World) (B : Nat) (σ σa σb σc : Sto) (ω : Om) (K : Fl → Loc → Sto → Om → Prop) (X : KX) (vs : List Dat) (j kk i : Nat) (t d : Dat) (ps q : List Dat)
theorem w_test (KT : Bool → Sto → Om → Prop) (dd : Bool) : (ev (spW w B oW) 40).t scW (wM vs j kk i) σ (.b dd :: ω) (whTest wSt) KT X = atS σ j (fun l => g (decide ((0 : Int) < (l.length : Int))) dd (KT dd σ ω)) := by kernel_rfl
theorem w_pop : exL (ev (spW w B oW) 40) scW bodyW (wM vs j kk i) σ ω K X = popK σ j (fun d σ' => tupK d fun l => len2 l (exL (ev (spW w B oW) 40) scW (bodyW.drop 1) (putAll [T "here", T "is_ready"] (dVs l) (wM vs j kk i)) σ' ω K X)) := by kernel_rfl
noncomputable abbrev bg : Int := (vs.length : Int) - (ps.length : Int)
noncomputable abbrev slC (p : Prop) : Prop := chk (decide (0 ≤ bg vs ps) && decide (bg vs ps ≤ (vs.length : Int)) && Nat.ble vs.length 4096) p
noncomputable abbrev lens (p : Prop) : Prop := chk (Nat.ble vs.length 4096) (chk (Nat.ble ps.length 4096) p)
theorem w_ready_ok : exL (ev (spW w B oW) 40) scW (bodyW.drop 1) (wM1 t true vs j kk i) σ (.call (.ok (.d (.list ps))) σa :: .call (.ok (.d d)) σb :: ω) K X =
    (CWp w B 276 [.d t] σ (.ok (.d (.list ps))) σa ∧ lens vs ps (slC vs ps (CWp w B 325 [.d t, .d (.list (vs.drop (bg vs ps).toNat)), .hk kk i] σa (.ok (.d d)) σb ∧ slC vs ps (chk true (chk (Nat.ble ((vs.take (bg vs ps).toNat).length + 1) 4096)
      (K .next ((T "values", .d (.list (vs.take (bg vs ps).toNat ++ [d]))) :: (T "found", .d d) :: (T "begin", vi (bg vs ps)) :: (T "parts", .d (.list ps)) :: wM1 t true vs j kk i) σb ω)))))) := by kernel_rfl
theorem w_ready_bad (cd : Str) : exL (ev (spW w B oW) 40) scW (bodyW.drop 1) (wM1 t true vs j kk i) σ (.call (.ok (.d (.list ps))) σa :: .call (.exc cd) σb :: ω) K X =
    (CWp w B 276 [.d t] σ (.ok (.d (.list ps))) σa ∧ lens vs ps (slC vs ps (CWp w B 325 [.d t, .d (.list (vs.drop (bg vs ps).toNat)), .hk kk i] σa (.exc cd) σb ∧ X cd σb ω))) := by kernel_rfl
noncomputable abbrev emp (ps : List Dat) (b : Bool) (p : Prop) : Prop := chk (Nat.ble ps.length 4096) (g (((ps.length : Int)) == 0) b p)
theorem w_leaf_ok : exL (ev (spW w B oW) 40) scW (bodyW.drop 1) (wM1 t false vs j kk i) σ (.call (.ok (.d (.list ps))) σa :: .b true :: .call (.ok (.d d)) σb :: ω) K X =
    (CWp w B 276 [.d t] σ (.ok (.d (.list ps))) σa ∧ emp ps true (lens vs ps (slC vs ps (CWp w B 325 [.d t, .d (.list (vs.drop (bg vs ps).toNat)), .hk kk i] σa (.ok (.d d)) σb ∧ slC vs ps (chk true (chk (Nat.ble ((vs.take (bg vs ps).toNat).length + 1) 4096)
      (K .next ((T "values", .d (.list (vs.take (bg vs ps).toNat ++ [d]))) :: (T "found", .d d) :: (T "begin", vi (bg vs ps)) :: (T "parts", .d (.list ps)) :: wM1 t false vs j kk i) σb ω))))))) := by kernel_rfl
theorem w_leaf_bad (cd : Str) : exL (ev (spW w B oW) 40) scW (bodyW.drop 1) (wM1 t false vs j kk i) σ (.call (.ok (.d (.list ps))) σa :: .b true :: .call (.exc cd) σb :: ω) K X =
    (CWp w B 276 [.d t] σ (.ok (.d (.list ps))) σa ∧ emp ps true (lens vs ps (slC vs ps (CWp w B 325 [.d t, .d (.list (vs.drop (bg vs ps).toNat)), .hk kk i] σa (.exc cd) σb ∧ X cd σb ω)))) := by kernel_rfl
noncomputable abbrev wM2 (t : Dat) (ps : List Dat) (vs : List Dat) (j kk i : Nat) : Loc := (T "parts", .d (.list ps)) :: wM1 t false vs j kk i
theorem w_push : exL (ev (spW w B oW) 40) scW (bodyW.drop 1) (wM1 t false vs j kk i) σ (.call (.ok (.d (.list ps))) σa :: .b false :: .ex (.ok (.d (.list q))) σc :: ω) K X =
    (CWp w B 276 [.d t] σ (.ok (.d (.list ps))) σa ∧ emp ps false (chk true (atS σa j fun l => EWp w B scW (wM2 t ps vs j kk i) (σa.set j (l ++ [.tuple [t, .bool true]])) compW (.ok (.d (.list q))) σc ∧ extK σc j q fun σd => K .next (wM2 t ps vs j kk i) σd ω))) := by kernel_rfl
theorem w_main (r : RsS) : (ev (spW w B noOrc) 40).c 330 [.d t, .hk kk i] σ (.st (.ok .next [(T "values", .d (.list [d]))]) σa :: ω) (fun v σ ω => K (.ret v) [] σ ω) X =
    (SWp w B scW [(T "waiting", .loc σ.length), (T "values", .d (.list [])), (T "hooks", .hk kk i), (T "tree", .d t)] (σ ++ [[.tuple [t, .bool false]]]) wSt (.ok .next [(T "values", .d (.list [d]))]) σa ∧ K (.ret (.d d)) [] σa ω) := by kernel_rfl
end
end Mine
end
section
open PySem PySem.W PyProof.Rows PySem.Calls PySem.Spec
set_option maxRecDepth 100000
set_option linter.unusedVariables false
namespace Mine
noncomputable abbrev scPart : Scope := ⟨.function, [(T ".0", .local), (T "part", .local)], false, false, []⟩
theorem compW_eq : ∃ p1 p2 p3 p4 p5 p6 p7 p8, compW = .ListComp (.Tuple [.Name (T "part") p1, .Constant (.bool false) 0 p2] 0 p3) [⟨.Name (T "part") p4, .Call (.Name (T "reversed") p5) [.Name (T "parts") p6] [] p7, [], 0⟩] scPart p8 :=
  ⟨_, _, _, _, _, _, _, _, rfl⟩
noncomputable def rdy (p : Dat) : Dat := .tuple [p, .bool false]
theorem comp_rev {w : World} {B : Nat} {t : Dat} {ps vs : List Dat} {j kk i : Nat} {σ : Sto} (hl : ps.length ≤ 4096) : EWp w B scW (wM2 t ps vs j kk i) σ compW (.ok (.d (.list (ps.reverse.map rdy)))) σ := by
  refine ⟨?_⟩
  intro x c s Q E O hsc S P PX
  obtain ⟨p1, p2, p3, p4, p5, p6, p7, p8, e⟩ := compW_eq
  rw [e]
  have SC : ScOk x scPart (T "part") := ⟨rfl, by decide, rfl, by decide, by decide⟩
  have n1 : nameV x.sc (wM2 t ps vs j kk i) (T "parts") = some (.d (.list ps)) := by rw [hsc]; kernel_rfl
  have hk : x.sc.names.lookup (T "reversed") = some .globalImplicit := by rw [hsc]; kernel_rfl
  refine eval_comp SC (fun _ => rfl) ?_
  refine wpAny_Call_NameR (nameX_B (cl := []) S.F O.X (topRead_of O.T) (v := .type "reversed") (by kernel_rfl) (by kernel_rfl) (by decide) ?_ O.kind hk)
  refine Pv.callWith_type1 (spliced_more (name_sound O S n1 fun vp rp => spliced_none ?_))
  have hex : EltOk w x (wM2 t ps vs j kk i) σ scPart (T "part") (.Tuple [.Name (T "part") p1, .Constant (.bool false) 0 p2] 0 p3) rdy ps.reverse := by
    intro c s C oC mC v d Q E S hC hn hv hd hm hQ
    refine Tuple_ (spliced_more (cname_own SC S hC hn hv (by decide) (spliced_more (Constant_bool (spliced_none ?_)))))
    have hdd : DatAll c.fz [v, .bool false] [d, .bool false] := .cons hd (.cons (.bool _) .nil)
    refine newTuple_N S.F S.N (fun h' F' N' => ?_)
    obtain ⟨S1, R1⟩ := push_tup (k := 0) S hdd F' N' (size_ne S.N)
    exact hQ _ _ h' s.toks S1 (grow_frozen _ _) rfl R1
  refine src_rev O SC S rp hl hex fun h2 S2 => ?_
  exact comp_none (s₂ := s) S (P _ rfl)
theorem SR.sub {w : World} {h₀ h : Heap} {L : Addr} {m m' : Loc} {σ : Sto} {c : Cfg} (S : SR w h₀ L m σ c h) (hs : ∀ y v, look y m' = some v → look y m = some v) : SR w h₀ L m' σ c h := ⟨S.F, S.N, fun y v e => S.lo y v (hs y v e), S.st⟩
/-! the trees -/
inductive Tr where
  | whole (n : Int)
  | text (s : Str)
  | name (j : Fin 4)
  | un (neg : Bool) (t : Tr)
  | bk (kd : Fin 3) (k : Fin 4)
  | two (op : Op) (l r : Tr)
noncomputable def nmS : Fin 4 → String
  | 0 => "A"
  | 1 => "B%"
  | 2 => "C$"
  | 3 => "NONE"
noncomputable def kdS : Fin 3 → String
  | 0 => "item"
  | 1 => "call"
  | 2 => "fn"
noncomputable def wdS : Fin 3 → String
  | 0 => "A"
  | 1 => "LEN"
  | 2 => "FNA"
noncomputable def cdS : Fin 3 → String
  | 0 => "BS"
  | 1 => "FC"
  | 2 => "UF"
noncomputable def kI (k : Fin 4) : Int := (k.val : Int)
noncomputable def wholeD (n : Int) : Dat := .tuple [.str (T "whole"), .int n]
noncomputable def enc : Tr → Dat
  | .whole n => wholeD n
  | .text s => .tuple [.str (T "text"), .str s]
  | .name j => .tuple [.str (T "name"), .str (T (nmS j))]
  | .un neg t => .tuple [.str (T (unS neg)), enc t]
  | .bk kd k => .tuple [.str (T (kdS kd)), .str (T (wdS kd)), .list [wholeD (kI k)]]
  | .two op l r => .tuple [.str (T "two"), .str (T op.s), enc l, enc r]
noncomputable def parts : Tr → List Tr
  | .un _ t => [t]
  | .bk _ k => [.whole (kI k)]
  | .two _ l r => [l, r]
  | _ => []
noncomputable def nmR : Fin 4 → Res
  | 0 => .val (.int 5)
  | 1 => .val (.int (-3))
  | 2 => .val (.str (T "ab"))
  | 3 => .bad (T "NM")
noncomputable def bkR (kd : Fin 3) (k : Fin 4) : Res :=
  match kd.val, k.val with
  | 0, 0 => .val (.int 7)
  | 0, 1 => .val (.str (T "t"))
  | 1, 2 => .val (.int 4)
  | 2, 3 => .val (.int 0)
  | _, _ => .bad (T (cdS kd))
noncomputable def nmK (j : Fin 4) : Dat := .str (T (nmS j))
noncomputable def bkK (kd : Fin 3) (k : Fin 4) : Dat := .tuple [.str (T (wdS kd)), .tuple [.int (kI k)]]
/-- a node over the worths of its parts: its worth, and what is asked -/
noncomputable def nodeR : Tr → List Dat → Res × List Dat
  | .whole n, _ => (.val (.int n), [])
  | .text s, _ => (.val (.str s), [])
  | .name j, _ => (nmR j, [nmK j])
  | .un neg _, [a] => (un neg a, [])
  | .bk kd k, _ => (bkR kd k, [bkK kd k])
  | .two op _ _, [a, b] => (op2 op a b, [])
  | _, _ => (.bad (T "??"), [])
noncomputable def W : Tr → Res × List Dat
  | .whole n => (.val (.int n), [])
  | .text s => (.val (.str s), [])
  | .name j => (nmR j, [nmK j])
  | .bk kd k => (bkR kd k, [bkK kd k])
  | .un neg t => match W t with
    | (.val a, q) => (un neg a, q)
    | (.bad c, q) => (.bad c, q)
  | .two op l r => match W l with
    | (.bad c, q) => (.bad c, q)
    | (.val a, q) => match W r with
      | (.bad c, q') => (.bad c, q ++ q')
      | (.val b, q') => (op2 op a b, q ++ q')
/-- what a node needs of the worths of its parts -/
noncomputable def okNode (kk : Nat) : Tr → List Dat → Prop
  | .whole n, [] => Sm 32767 n
  | .text _, [] => True
  | .name _, [] => kk = 0
  | .un _ _, [a] => isV a = true ∧ ∀ i, a = .int i → Sm 32767 i
  | .bk _ k, [a] => kk = 0 ∧ a = .int (kI k)
  | .two op _ _, [a, b] => isV a = true ∧ isV b = true ∧ okArgs op a b
  | _, _ => False
theorem parts_ok {w : World} (R0 : Rules w) (t : Tr) (σ : Sto) : CWp w 40 276 [.d (enc t)] σ (.ok (.d (.list ((parts t).map enc)))) σ := by
  cases t with
  | whole n => exact CWp.of (B := 0) (k := 40) (orc := noOrc) R0 (ofE (pt_whole w 0 σ [] _ _ (.int n)) ⟨rfl, rfl⟩)
  | text s => exact CWp.of (B := 0) (k := 40) (orc := noOrc) R0 (ofE (pt_text w 0 σ [] _ _ (.str s)) ⟨rfl, rfl⟩)
  | name j => exact CWp.of (B := 0) (k := 40) (orc := noOrc) R0 (ofE (pt_name w 0 σ [] _ _ (.str (T (nmS j)))) ⟨rfl, rfl⟩)
  | un neg t => cases neg with
    | true => exact CWp.of (B := 0) (k := 40) (orc := noOrc) R0 (ofE (pt_neg w 0 σ [] _ _ (enc t)) ⟨rfl, rfl⟩)
    | false => exact CWp.of (B := 0) (k := 40) (orc := noOrc) R0 (ofE (pt_not w 0 σ [] _ _ (enc t)) ⟨rfl, rfl⟩)
  | bk kd k => match kd with
    | 0 => exact CWp.of (B := 0) (k := 40) (orc := noOrc) R0 (ofE (pt_item w 0 σ [] _ _ (.str (T "A")) (.list [wholeD (kI k)])) ⟨rfl, rfl⟩)
    | 1 => exact CWp.of (B := 0) (k := 40) (orc := noOrc) R0 (ofE (pt_call w 0 σ [] _ _ (.str (T "LEN")) (.list [wholeD (kI k)])) ⟨rfl, rfl⟩)
    | 2 => exact CWp.of (B := 0) (k := 40) (orc := noOrc) R0 (ofE (pt_fn w 0 σ [] _ _ (.str (T "FNA")) (.list [wholeD (kI k)])) ⟨rfl, rfl⟩)
  | two op l r => exact CWp.of (B := 0) (k := 40) (orc := noOrc) R0 (ofE (pt_two w 0 σ [] _ _ (T op.s) (enc l) (enc r)) ⟨rfl, rfl⟩)
theorem set_same {σ : Sto} {i : Nat} {l : List Dat} (h : σ[i]? = some l) : σ.set i (l ++ []) = σ := by
  rw [List.append_nil]
  refine List.ext_getElem? fun j => ?_
  by_cases hij : i = j
  · subst hij
    rw [List.getElem?_set_self (List.getElem?_eq_some_iff.mp h).1, h]
  · rw [List.getElem?_set_ne hij]
theorem node_ok {w : World} (R0 : Rules w) {kk : Nat} (t : Tr) {as : List Dat} (h : okNode kk t as) {σ : Sto} {i : Nat} {l : List Dat} (hi : σ[i]? = some l) (hl : l.length ≤ 4096) :
    CWp w 120 325 [.d (enc t), .d (.list as), .hk kk i] σ (nodeR t as).1.rs (σ.set i (l ++ (nodeR t as).2)) := by
  cases t with
  | whole n => cases as with
    | nil =>
      rw [show (nodeR (.whole n) []).2 = [] from rfl, set_same hi]
      have := h.lo; have := h.hi
      exact CWp.of (B := 80) (k := 40) (orc := oWT) R0 (ofE (tr_whole w 80 σ [] _ _ n i kk) (fitB_of (by omega) (by omega) ⟨rfl, rfl⟩))
    | cons _ _ => exact h.elim
  | text s => cases as with
    | nil =>
      rw [show (nodeR (.text s) []).2 = [] from rfl, set_same hi]
      exact CWp.of (B := 80) (k := 40) (orc := oWT) R0 (ofE (tr_text w 80 σ [] _ _ s i kk) ⟨rfl, rfl⟩)
    | cons _ _ => exact h.elim
  | name j => cases as with
    | nil =>
      have hk : kk = 0 := h
      subst hk
      match j with
      | 0 => exact CWp.of (B := 80) (k := 40) (orc := oWT) R0 (ofE (tr_name0 w 80 σ [] _ _ i) (atS_of hi hl ⟨rfl, rfl⟩))
      | 1 => exact CWp.of (B := 80) (k := 40) (orc := oWT) R0 (ofE (tr_name1 w 80 σ [] _ _ i) (atS_of hi hl ⟨rfl, rfl⟩))
      | 2 => exact CWp.of (B := 80) (k := 40) (orc := oWT) R0 (ofE (tr_name2 w 80 σ [] _ _ i) (atS_of hi hl ⟨rfl, rfl⟩))
      | 3 => exact CWp.of (B := 80) (k := 40) (orc := oWT) R0 (ofE (tr_name3 w 80 σ [] _ _ i) (atS_of hi hl ⟨rfl, rfl⟩))
    | cons _ _ => exact h.elim
  | un neg t => match as, h with
    | [a], h =>
      rw [show (nodeR (.un neg t) [a]).2 = [] from rfl, set_same hi]
      have c := (w1_ok R0 neg h.1 h.2 σ).le (B' := 80) (by omega)
      have fin : rsK (un neg a).rs (rK (un neg a).rs σ) (rX (un neg a).rs σ) σ [] := by
        cases h : (un neg a) <;> exact ⟨rfl, rfl⟩
      cases neg with
      | true => exact CWp.of (B := 80) (k := 40) (orc := oWT) R0 (ofE (tr_neg w 80 σ [] _ _ (enc t) a i kk _ σ) ⟨c, fin⟩)
      | false => exact CWp.of (B := 80) (k := 40) (orc := oWT) R0 (ofE (tr_not w 80 σ [] _ _ (enc t) a i kk _ σ) ⟨c, fin⟩)
  | two op p q => match as, h with
    | [a, b], h =>
      rw [show (nodeR (.two op p q) [a, b]).2 = [] from rfl, set_same hi]
      have c := wt_ok R0 op h.1 h.2.1 h.2.2 σ
      have fin : rsK (op2 op a b).rs (rK (op2 op a b).rs σ) (rX (op2 op a b).rs σ) σ [] := by
        cases h : (op2 op a b) <;> exact ⟨rfl, rfl⟩
      exact CWp.of (B := 80) (k := 40) (orc := oWT) R0 (ofE (tr_two w 80 σ [] _ _ (T op.s) (enc p) (enc q) a b i kk _ σ) ⟨c, fin⟩)
  | bk kd k => match as, h with
    | [a], h =>
      obtain ⟨hk, ha⟩ := h
      subst hk ha
      match kd, k with
      | 0, 0 => exact CWp.of (B := 80) (k := 40) (orc := oWT) R0 (ofE (tr_item0 w 80 σ [] _ _ i (.list [wholeD 0])) (atS_of hi hl ⟨rfl, rfl⟩))
      | 0, 1 => exact CWp.of (B := 80) (k := 40) (orc := oWT) R0 (ofE (tr_item1 w 80 σ [] _ _ i (.list [wholeD 1])) (atS_of hi hl ⟨rfl, rfl⟩))
      | 0, 2 => exact CWp.of (B := 80) (k := 40) (orc := oWT) R0 (ofE (tr_item2 w 80 σ [] _ _ i (.list [wholeD 2])) (atS_of hi hl ⟨rfl, rfl⟩))
      | 0, 3 => exact CWp.of (B := 80) (k := 40) (orc := oWT) R0 (ofE (tr_item3 w 80 σ [] _ _ i (.list [wholeD 3])) (atS_of hi hl ⟨rfl, rfl⟩))
      | 1, 0 => exact CWp.of (B := 80) (k := 40) (orc := oWT) R0 (ofE (tr_call0 w 80 σ [] _ _ i (.list [wholeD 0])) (atS_of hi hl ⟨rfl, rfl⟩))
      | 1, 1 => exact CWp.of (B := 80) (k := 40) (orc := oWT) R0 (ofE (tr_call1 w 80 σ [] _ _ i (.list [wholeD 1])) (atS_of hi hl ⟨rfl, rfl⟩))
      | 1, 2 => exact CWp.of (B := 80) (k := 40) (orc := oWT) R0 (ofE (tr_call2 w 80 σ [] _ _ i (.list [wholeD 2])) (atS_of hi hl ⟨rfl, rfl⟩))
      | 1, 3 => exact CWp.of (B := 80) (k := 40) (orc := oWT) R0 (ofE (tr_call3 w 80 σ [] _ _ i (.list [wholeD 3])) (atS_of hi hl ⟨rfl, rfl⟩))
      | 2, 0 => exact CWp.of (B := 80) (k := 40) (orc := oWT) R0 (ofE (tr_fn0 w 80 σ [] _ _ i (.list [wholeD 0])) (atS_of hi hl ⟨rfl, rfl⟩))
      | 2, 1 => exact CWp.of (B := 80) (k := 40) (orc := oWT) R0 (ofE (tr_fn1 w 80 σ [] _ _ i (.list [wholeD 1])) (atS_of hi hl ⟨rfl, rfl⟩))
      | 2, 2 => exact CWp.of (B := 80) (k := 40) (orc := oWT) R0 (ofE (tr_fn2 w 80 σ [] _ _ i (.list [wholeD 2])) (atS_of hi hl ⟨rfl, rfl⟩))
      | 2, 3 => exact CWp.of (B := 80) (k := 40) (orc := oWT) R0 (ofE (tr_fn3 w 80 σ [] _ _ i (.list [wholeD 3])) (atS_of hi hl ⟨rfl, rfl⟩))
end Mine
end
section
open PySem PySem.W PyProof.Rows PySem.Calls PySem.Spec
set_option maxRecDepth 100000
set_option linter.unusedVariables false
namespace Mine
/-! the stack machine, in plain Lean -/
noncomputable abbrev Item := Tr × Bool
noncomputable def encI (p : Item) : Dat := .tuple [enc p.1, .bool p.2]
noncomputable def stkD (S : List Item) : List Dat := (S.map encI).reverse
inductive Out where
  | ok (vs as : List Dat)
  | bad (c : Str) (as : List Dat)
noncomputable abbrev lastN (k : Nat) (vs : List Dat) : List Dat := vs.drop (vs.length - k)
noncomputable abbrev headN (k : Nat) (vs : List Dat) : List Dat := vs.take (vs.length - k)
noncomputable def cont (p : Res × List Dat) (as : List Dat) (f : Dat → List Dat → Out) : Out := match p with
  | (.val v, q) => f v (as ++ q)
  | (.bad c, q) => .bad c (as ++ q)
noncomputable def runS : List Item → List Dat → List Dat → Out
  | [], vs, as => .ok vs as
  | (t, false) :: S, vs, as => cont (W t) as fun v as => runS S (vs ++ [v]) as
  | (t, true) :: S, vs, as => cont (nodeR t (lastN (parts t).length vs)) as fun v as => runS S (headN (parts t).length vs ++ [v]) as
theorem run_f (t : Tr) (S : List Item) (vs as : List Dat) : runS ((t, false) :: S) vs as = cont (W t) as fun v as => runS S (vs ++ [v]) as := by rw [runS]
theorem run_t (t : Tr) (S : List Item) (vs as : List Dat) : runS ((t, true) :: S) vs as = cont (nodeR t (lastN (parts t).length vs)) as fun v as => runS S (headN (parts t).length vs ++ [v]) as := by rw [runS]
theorem W_un (neg : Bool) (t : Tr) : W (.un neg t) = match W t with
    | (.val a, q) => (un neg a, q)
    | (.bad c, q) => (.bad c, q) := by first | (rw [W]; done) | (rw [W]; rfl)
theorem W_two (op : Op) (l r : Tr) : W (.two op l r) = match W l with
    | (.bad c, q) => (.bad c, q)
    | (.val a, q) => match W r with
      | (.bad c, q') => (.bad c, q ++ q')
      | (.val b, q') => (op2 op a b, q ++ q') := by first | (rw [W]; done) | (rw [W]; rfl)
theorem W_whole (n : Int) : W (.whole n) = (.val (.int n), []) := by rw [W]
theorem W_bk (kd : _root_.Fin 3) (k : _root_.Fin 4) : W (.bk kd k) = (bkR kd k, [bkK kd k]) := by rw [W]
theorem cont_val (v : Dat) (q as : List Dat) (f : Dat → List Dat → Out) : cont (.val v, q) as f = f v (as ++ q) := rfl
theorem cont_bad (c : Str) (q as : List Dat) (f : Dat → List Dat → Out) : cont (.bad c, q) as f = .bad c (as ++ q) := rfl
noncomputable def OKT (kk : Nat) : Tr → Prop
  | .whole n => Sm 32767 n
  | .text _ => True
  | .name _ => kk = 0
  | .bk _ _ => kk = 0
  | .un _ t => OKT kk t ∧ ∀ a, (W t).1 = .val a → isV a = true ∧ ∀ i, a = .int i → Sm 32767 i
  | .two op l r => OKT kk l ∧ OKT kk r ∧ ∀ a b, (W l).1 = .val a → (W r).1 = .val b → isV a = true ∧ isV b = true ∧ okArgs op a b
noncomputable def Safe (kk : Nat) : List Item → List Dat → Prop
  | [], _ => True
  | (t, false) :: S, vs => OKT kk t ∧ ∀ v, (W t).1 = .val v → Safe kk S (vs ++ [v])
  | (t, true) :: S, vs => (parts t).length ≤ vs.length ∧ okNode kk t (lastN (parts t).length vs) ∧ ∀ v, (nodeR t (lastN (parts t).length vs)).1 = .val v → Safe kk S (headN (parts t).length vs ++ [v])
noncomputable def szT : Tr → Nat
  | .un _ t => 2 + szT t
  | .bk _ _ => 3
  | .two _ l r => 2 + szT l + szT r
  | _ => 1
noncomputable def wtI : Item → Nat
  | (t, false) => szT t
  | (_, true) => 1
noncomputable def wtS : List Item → Nat
  | [] => 0
  | p :: S => wtI p + wtS S
theorem szT_pos : ∀ t, 1 ≤ szT t
  | .whole _ => Nat.le_refl _
  | .text _ => Nat.le_refl _
  | .name _ => Nat.le_refl _
  | .un _ t => by unfold szT; omega
  | .bk _ _ => by unfold szT; omega
  | .two _ l r => by unfold szT; omega
theorem wtI_pos (p : Item) : 1 ≤ wtI p := by
  obtain ⟨t, b⟩ := p
  cases b
  · exact szT_pos t
  · exact Nat.le_refl _
theorem wtS_len : ∀ S, S.length ≤ wtS S
  | [] => Nat.le_refl _
  | p :: S => by
    have := wtS_len S
    have := wtI_pos p
    unfold wtS
    rw [List.length_cons]; omega
theorem leaf_W {t : Tr} (h : parts t = []) : W t = nodeR t [] := by
  cases t <;> first | rfl | cases h
theorem drop_last {vs : List Dat} {k : Nat} {q : List Dat} (h : q.length = k) : lastN k (vs ++ q) = q := by
  subst h
  unfold lastN
  rw [List.length_append, Nat.add_sub_cancel, List.drop_left]
theorem take_last {vs : List Dat} {k : Nat} {q : List Dat} (h : q.length = k) : headN k (vs ++ q) = vs := by
  subst h
  unfold headN
  rw [List.length_append, Nat.add_sub_cancel, List.take_left]
noncomputable abbrev pushed (t : Tr) (S : List Item) : List Item := (parts t).map (fun p => (p, false)) ++ (t, true) :: S
theorem run_push {t : Tr} (h : parts t ≠ []) (S : List Item) (vs as : List Dat) : runS (pushed t S) vs as = runS ((t, false) :: S) vs as := by
  cases t with
  | whole _ => exact absurd rfl h
  | text _ => exact absurd rfl h
  | name _ => exact absurd rfl h
  | un neg p =>
    show runS ((p, false) :: (.un neg p, true) :: S) vs as = _
    rw [run_f, run_f, W_un]
    rcases e : W p with ⟨r, q⟩
    cases r with
    | bad c => rfl
    | val a =>
      rw [cont_val, run_t, drop_last (k := (parts (.un neg p)).length) (q := [a]) rfl, take_last (k := (parts (.un neg p)).length) (q := [a]) rfl]
      show cont (un neg a, []) (as ++ q) _ = cont (un neg a, q) as _
      cases un neg a with
      | val v => rw [cont_val, cont_val, List.append_nil]
      | bad c => rw [cont_bad, cont_bad, List.append_nil]
  | bk kd k =>
    show runS ((.whole (kI k), false) :: (.bk kd k, true) :: S) vs as = _
    rw [run_f, run_f, W_whole, cont_val, run_t, drop_last (k := (parts (.bk kd k)).length) (q := [.int (kI k)]) rfl, take_last (k := (parts (.bk kd k)).length) (q := [.int (kI k)]) rfl, List.append_nil, W_bk]
    rfl
  | two op l r =>
    show runS ((l, false) :: (r, false) :: (.two op l r, true) :: S) vs as = _
    rw [run_f, run_f, W_two]
    rcases e : W l with ⟨x, q⟩
    cases x with
    | bad c => rfl
    | val a =>
      rw [cont_val, run_f]
      rcases e2 : W r with ⟨y, q'⟩
      cases y with
      | bad c =>
        rw [cont_bad]
        show _ = cont (.bad c, q ++ q') as _
        rw [cont_bad, List.append_assoc]
      | val b =>
        have e3 : vs ++ [a] ++ [b] = vs ++ [a, b] := by simp
        rw [cont_val, run_t, e3, drop_last (k := (parts (.two op l r)).length) (q := [a, b]) rfl, take_last (k := (parts (.two op l r)).length) (q := [a, b]) rfl]
        show cont (op2 op a b, []) (as ++ q ++ q') _ = cont (op2 op a b, q ++ q') as _
        cases op2 op a b with
        | val v => rw [cont_val, cont_val, List.append_nil, List.append_assoc]
        | bad c => rw [cont_bad, cont_bad, List.append_nil, List.append_assoc]
theorem safe_push {kk : Nat} {t : Tr} (h : parts t ≠ []) {S : List Item} {vs : List Dat} (s : Safe kk ((t, false) :: S) vs) : Safe kk (pushed t S) vs := by
  cases t with
  | whole _ => exact absurd rfl h
  | text _ => exact absurd rfl h
  | name _ => exact absurd rfl h
  | un neg p =>
    obtain ⟨⟨o1, o2⟩, o3⟩ := s
    refine ⟨o1, fun a ha => ?_⟩
    show _ ∧ _
    rw [drop_last (k := (parts (.un neg p)).length) (q := [a]) rfl, take_last (k := (parts (.un neg p)).length) (q := [a]) rfl]
    refine ⟨by simp [parts], o2 a ha, fun v hv => o3 v ?_⟩
    rw [W_un]
    rcases e : W p with ⟨r, q⟩
    rw [e] at ha
    have ha' : r = .val a := ha
    subst ha'
    exact hv
  | bk kd k =>
    obtain ⟨o1, o3⟩ := s
    have hs : Sm 32767 (kI k) := by
      have := k.isLt
      unfold kI
      exact ⟨by omega, by omega⟩
    refine ⟨hs, fun a ha => ?_⟩
    cases ha
    show _ ∧ _
    rw [drop_last (k := (parts (.bk kd k)).length) (q := [.int (kI k)]) rfl, take_last (k := (parts (.bk kd k)).length) (q := [.int (kI k)]) rfl]
    exact ⟨by simp [parts], ⟨o1, rfl⟩, fun v hv => o3 v hv⟩
  | two op l r =>
    obtain ⟨⟨o1, o2, o3⟩, o4⟩ := s
    refine ⟨o1, fun a ha => ⟨o2, fun b hb => ?_⟩⟩
    show _ ∧ _
    have e3 : vs ++ [a] ++ [b] = vs ++ [a, b] := by simp
    rw [e3, drop_last (k := (parts (.two op l r)).length) (q := [a, b]) rfl, take_last (k := (parts (.two op l r)).length) (q := [a, b]) rfl]
    refine ⟨by simp [parts], o3 a b ha hb, fun v hv => o4 v ?_⟩
    rw [W_two]
    rcases e : W l with ⟨x, q⟩
    rw [e] at ha
    have ha' : x = .val a := ha
    subst ha'
    rcases e2 : W r with ⟨y, q'⟩
    rw [e2] at hb
    have hb' : y = .val b := hb
    subst hb'
    exact hv
theorem wt_push {t : Tr} (h : parts t ≠ []) (S : List Item) : wtS (pushed t S) + 1 = wtS ((t, false) :: S) := by
  cases t with
  | whole _ => exact absurd rfl h
  | text _ => exact absurd rfl h
  | name _ => exact absurd rfl h
  | un neg p =>
    show wtI (p, false) + (wtI (.un neg p, true) + wtS S) + 1 = wtI (.un neg p, false) + wtS S
    show szT p + (1 + wtS S) + 1 = 2 + szT p + wtS S
    omega
  | bk kd k =>
    show szT (.whole (kI k)) + (1 + wtS S) + 1 = 3 + wtS S
    show 1 + (1 + wtS S) + 1 = 3 + wtS S
    omega
  | two op l r =>
    show szT l + (szT r + (1 + wtS S)) + 1 = 2 + szT l + szT r + wtS S
    omega
theorem stk_push (t : Tr) (S : List Item) : stkD (pushed t S) = (stkD S ++ [.tuple [enc t, .bool true]]) ++ ((parts t).map enc).reverse.map rdy := by
  unfold stkD pushed
  simp only [List.map_append, List.map_cons, List.map_map, List.reverse_append, List.reverse_cons, List.map_reverse]
  rfl
theorem stk_cons (p : Item) (S : List Item) : stkD (p :: S) = stkD S ++ [encI p] := by
  unfold stkD; simp
theorem stk_len (S : List Item) : (stkD S).length = S.length := by unfold stkD; simp
end Mine
end
section
open PySem PySem.W PyProof.Rows PySem.Calls PySem.Spec
set_option maxRecDepth 100000
set_option linter.unusedVariables false
namespace Mine
theorem wSt_eq : ∃ pos, wSt = .While (whTest wSt) bodyW [] pos := ⟨_, rfl⟩
theorem set_end (A : Sto) (x y : List Dat) : (A ++ [x]).set A.length y = A ++ [y] := by
  rw [List.set_append_right _ _ (Nat.le_refl _), Nat.sub_self]; rfl
theorem set_in {A : Sto} {i : Nat} (h : i < A.length) (x y : List Dat) : (A ++ [x]).set i y = A.set i y ++ [x] := by
  rw [List.set_append_left _ _ h]
theorem get_end (A : Sto) (x : List Dat) : (A ++ [x])[A.length]? = some x := by
  rw [List.getElem?_append_right (Nat.le_refl _), Nat.sub_self]; rfl
theorem pop_of {σ : Sto} {j : Nat} {f : Dat → Sto → Prop} {l : List Dat} {d : Dat} (h : σ[j]? = some (l ++ [d])) (hl : l.length + 1 ≤ 4096) (k : f d (σ.set j l)) : popK σ j f := by
  unfold popK
  rw [h]
  simp only [List.getLast?_concat, List.dropLast_concat]
  exact chk_of (nble (by rw [List.length_append]; exact hl)) k
theorem ext_of {σ : Sto} {j : Nat} {q l : List Dat} {f : Sto → Prop} (h : σ[j]? = some l) (hl : l.length + q.length ≤ 4096) (k : f (σ.set j (l ++ q))) : extK σ j q f := by
  unfold extK
  rw [h]
  exact chk_of (nble hl) k
theorem bg_nat {vs ps : List Dat} (h : ps.length ≤ vs.length) : (bg vs ps).toNat = vs.length - ps.length := by unfold bg; omega
theorem slC_of {vs ps : List Dat} {p : Prop} (h : ps.length ≤ vs.length) (hl : vs.length ≤ 4096) (k : p) : slC vs ps p :=
  chk_of (by rw [nble hl, decide_eq_true (show 0 ≤ bg vs ps from by unfold bg; omega), decide_eq_true (show bg vs ps ≤ (vs.length : Int) from by unfold bg; omega)]; rfl) k
theorem lens_of {vs ps : List Dat} {p : Prop} (h : ps.length ≤ 4096) (hl : vs.length ≤ 4096) (k : p) : lens vs ps p := chk_of (nble hl) (chk_of (nble h) k)
theorem nameVals {y : Str} {v : V} {vs : List Dat} {j kk i : Nat} {m : Loc} (hv : look (T "values") m = some (.d (.list vs))) (hw : look (T "waiting") m = some (.loc j)) (hh : look (T "hooks") m = some (.hk kk i)) (e : look y (wM vs j kk i) = some v) : look y m = some v := by
  unfold wM look at e
  split at e
  · rename_i q; cases eq_of_beq q; cases e; exact hv
  · unfold look at e
    split at e
    · rename_i q; cases eq_of_beq q; cases e; exact hw
    · unfold look at e
      split at e
      · rename_i q; cases eq_of_beq q; cases e; exact hh
      · cases e
theorem nodeAsk {t : Tr} {as : List Dat} {r : Res} {q : List Dat} (h : nodeR t as = (r, q)) : q.length ≤ 1 := by
  cases t with
  | whole _ => cases h; simp
  | text _ => cases h; simp
  | name _ => cases h; simp
  | bk _ _ => cases h; simp
  | un _ _ => rcases as with _ | ⟨a, _ | ⟨b, as⟩⟩ <;> (cases h; simp)
  | two _ _ _ => rcases as with _ | ⟨a, _ | ⟨b, _ | ⟨d, as⟩⟩⟩ <;> (cases h; simp)
theorem okLeaf {kk : Nat} {t : Tr} (hp : parts t = []) (h : OKT kk t) : okNode kk t [] := by
  cases t with
  | whole _ => exact h
  | text _ => trivial
  | name _ => exact h
  | _ => cases hp
section
variable {w : World} {x : Amb} {c : Cfg} {s : Shared} {E : Value → Shared → Prop}
noncomputable def InvW (w : World) (x : Amb) (c : Cfg) (s : Shared) (kk i : Nat) (σ0 : Sto) (l : List Dat) (out : Out) (n : Nat) (s' : Shared) : Prop :=
  ∃ S vs as c' h' tk', s' = { s with heap := h', toks := tk' } ∧ n = wtS S ∧ runS S vs as = out ∧ Safe kk S vs ∧ vs.length + wtS S ≤ 3000 ∧ l.length + as.length + wtS S ≤ 3000 ∧
    SR w x.h₀ x.L (wM vs σ0.length kk i) (σ0.set i (l ++ as) ++ [stkD S]) c' h' ∧ Grow c c'
set_option maxHeartbeats 400000 in
theorem while_wp (R0 : Rules w) (O : x.Ok w 160) (hsc : x.sc = scW) {kk i : Nat} {σ0 : Sto} {l : List Dat} (hi : i < σ0.length) {out : Out} {S0 : List Item} {vs0 as0 : List Dat} (hout : runS S0 vs0 as0 = out) (safe : Safe kk S0 vs0)
    (b1 : vs0.length + wtS S0 ≤ 3000) (b2 : l.length + as0.length + wtS S0 ≤ 3000) (S : SR w x.h₀ x.L (wM vs0 σ0.length kk i) (σ0.set i (l ++ as0) ++ [stkD S0]) c s.heap) {Q : Flow → Shared → Prop}
    (P : ∀ vs as wl, out = .ok vs as → PostS w x c s Q .next [(T "values", .d (.list vs))] (σ0.set i (l ++ as) ++ [wl]))
    (PX : ∀ cd as wl, out = .bad cd as → PostY x c s E cd (σ0.set i (l ++ as) ++ [wl])) : wpAny (model pw w) x.A (exec wSt x.env) Q E s := by
  obtain ⟨pos, e⟩ := wSt_eq
  rw [e]
  have H := ev_sound R0 (spOk w 120 oW) 40
  refine wpAny_While (codeAny_whileLoop (InvW w x c s kk i σ0 l out) ?_ (wtS S0) ⟨S0, vs0, as0, c, s.heap, s.toks, rfl, rfl, hout, safe, b1, b2, S, Grow.refl c⟩)
  rintro n s' ⟨S, vs, as, c', h', tk', rfl, rfl, hrun, sf, k1, k2, S1, G1⟩
  have lenA : (σ0.set i (l ++ as)).length = σ0.length := List.length_set
  have hj : (σ0.set i (l ++ as) ++ [stkD S])[σ0.length]? = some (stkD S) := by rw [← lenA]; exact get_end _ _
  have hSl := wtS_len S
  have hk : (stkD S).length ≤ 4096 := by rw [stk_len]; omega
  refine H.t (s := { s with heap := h', toks := tk' }) O S1 (K := fun b σ' _ => b = decide ((0 : Int) < ((stkD S).length : Int)) ∧ σ' = σ0.set i (l ++ as) ++ [stkD S]) (X := fun _ _ _ => False)
    (by rw [hsc]; exact ofE (w_test w 120 _ [] _ vs σ0.length kk i _ (decide ((0 : Int) < ((stkD S).length : Int)))) (atS_of hj hk (g_of rfl ⟨rfl, rfl⟩))) ?_ (fun _ _ _ f => f.elim)
  rintro b σ' ω' ⟨rfl, rfl⟩ c1 h1 t1 S2 G2 e2
  cases S with
  | nil =>
    rw [if_neg (by decide)]
    refine wpAny_execs_nil ?_
    have : out = .ok vs as := by rw [← hrun]; rfl
    exact P vs as _ this _ c1 h1 t1 (S2.sub fun y v hy => by
      unfold look at hy
      split at hy
      · rename_i q; cases eq_of_beq q; cases hy; rfl
      · cases hy) (G1.trans G2) rfl
  | cons p S' =>
    rw [if_pos (by rw [stk_len, List.length_cons]; simp)]
    obtain ⟨t, b⟩ := p
    rw [stk_cons] at S2 hj hk
    have hk' : (stkD S').length + 1 ≤ 4096 := by rw [List.length_append] at hk; exact hk
    have sete : (σ0.set i (l ++ as) ++ [stkD S' ++ [encI (t, b)]]).set σ0.length (stkD S') = σ0.set i (l ++ as) ++ [stkD S'] := by rw [← lenA]; exact set_end _ _ _
    have hi2 : (σ0.set i (l ++ as) ++ [stkD S'])[i]? = some (l ++ as) := by
      rw [List.getElem?_append_left (by rw [lenA]; exact hi), List.getElem?_set_self hi]
    have seti : ∀ q, (σ0.set i (l ++ as) ++ [stkD S']).set i (l ++ as ++ q) = σ0.set i (l ++ (as ++ q)) ++ [stkD S'] := fun q => by
      rw [set_in (by rw [lenA]; exact hi), List.set_set, List.append_assoc]
    have hwt : wtS ((t, b) :: S') = wtI (t, b) + wtS S' := rfl
    have hps : ((parts t).map enc).length = (parts t).length := List.length_map _
    have pl : (parts t).length ≤ 2 := by cases t <;> simp [parts]
    -- the exception of a node
    have bad : ∀ {cd : Str} {q : List Dat}, out = .bad cd (as ++ q) → ∀ (d : Str) (σ' : Sto) (ω' : Om), (d = cd ∧ σ' = σ0.set i (l ++ (as ++ q)) ++ [stkD S']) →
        PostY x c1 { s with heap := h1, toks := t1 } (notedBy (model pw w) x.A x.env fun e s' => cameBackBy (model pw w) x.A x.env E e s') d σ' := by
      rintro cd q ho d σ' ω' ⟨rfl, rfl⟩ e c3 h3 t3 G3 M3 X3
      refine note_xr O (s' := { s with heap := h3, toks := t3 }) X3 fun h4 X4 => ?_
      exact came_xn O (s' := { s with heap := h4, toks := t3 }) X4 fun h5 X5 => PX _ _ _ ho e c3 h5 t3 (G1.trans (G2.trans G3)) M3 X5.xr
    -- the end of a turn that puts a worth down
    have good : ∀ {v : Dat} {q vs' : List Dat}, runS S' (vs' ++ [v]) (as ++ q) = out → Safe kk S' (vs' ++ [v]) → vs'.length ≤ vs.length → q.length ≤ 1 →
        ∀ (f : Fl) (m' : Loc) (σ' : Sto), (f = .next ∧ σ' = σ0.set i (l ++ (as ++ q)) ++ [stkD S'] ∧ look (T "values") m' = some (.d (.list (vs' ++ [v]))) ∧ look (T "waiting") m' = some (.loc σ0.length) ∧ look (T "hooks") m' = some (.hk kk i)) →
        PostS w x c1 { s with heap := h1, toks := t1 } (fun f s₃ => match f with
            | .next | .cont => ∃ m, m < wtS ((t, b) :: S') ∧ InvW w x c s kk i σ0 l out m s₃
            | .brk => (fun r s' => match r with | .ok f => Q f s' | .error e => cameBackBy (model pw w) x.A x.env E e s' : Result → Shared → Prop) (.ok .next) s₃
            | .ret v => (fun r s' => match r with | .ok f => Q f s' | .error e => cameBackBy (model pw w) x.A x.env E e s' : Result → Shared → Prop) (.ok (.ret v)) s₃) f m' σ' := by
      rintro v q vs' hr hs hv hq f m' σ' ⟨rfl, rfl, l1, l2, l3⟩ fv c3 h3 t3 S3 G3 R3
      have e : fv = .next := R3
      subst e
      have := wtI_pos (t, b)
      exact ⟨wtS S', by rw [hwt]; omega, S', vs' ++ [v], as ++ q, c3, h3, t3, rfl, rfl, hr, hs, by rw [List.length_append]; simp only [List.length_cons, List.length_nil]; omega, by rw [List.length_append]; omega,
        S3.sub fun y u hy => nameVals l1 l2 l3 hy, G1.trans (G2.trans G3)⟩
    cases b with
    | true =>
      obtain ⟨s1, s2, s3⟩ := sf
      have hle : ((parts t).map enc).length ≤ vs.length := by rw [hps]; exact s1
      have hdr : vs.drop (bg vs ((parts t).map enc)).toNat = lastN (parts t).length vs := by rw [bg_nat hle, hps]
      have htk : vs.take (bg vs ((parts t).map enc)).toNat = headN (parts t).length vs := by rw [bg_nat hle, hps]
      have nd := node_ok R0 t s2 hi2 (by rw [List.length_append]; omega)
      rw [seti] at nd
      have hr0 := hrun
      rw [run_t] at hr0
      rcases hn : nodeR t (lastN (parts t).length vs) with ⟨r, q⟩
      rw [hn] at nd hr0 s3
      have hq : q.length ≤ 1 := nodeAsk hn
      cases r with
      | val v =>
        rw [cont_val] at hr0
        refine exL_sound H O _ S2 (X := fun _ _ _ => False) (K := fun f m' σ' _ => f = .next ∧ σ' = σ0.set i (l ++ (as ++ q)) ++ [stkD S'] ∧ look (T "values") m' = some (.d (.list (headN (parts t).length vs ++ [v]))) ∧ look (T "waiting") m' = some (.loc σ0.length) ∧ look (T "hooks") m' = some (.hk kk i)) (by
          rw [hsc]
          refine ofE (w_pop w 120 _ (.call (.ok (.d (.list ((parts t).map enc)))) (σ0.set i (l ++ as) ++ [stkD S']) :: .call (.ok (.d v)) (σ0.set i (l ++ (as ++ q)) ++ [stkD S']) :: []) _ _ vs σ0.length kk i) (pop_of hj hk' ?_)
          rw [sete]
          refine ofE (w_ready_ok w 120 _ (σ0.set i (l ++ as) ++ [stkD S']) (σ0.set i (l ++ (as ++ q)) ++ [stkD S']) [] _ (fun _ _ _ => False) vs σ0.length kk i (enc t) v ((parts t).map enc)) ⟨(parts_ok R0 t _).le (by omega), lens_of (by rw [hps]; omega) (by omega) (slC_of hle (by omega) ⟨?_, slC_of hle (by omega) (chk_of rfl (chk_of (nble (by rw [List.length_take]; omega)) ?_))⟩)⟩
          · rw [hdr]; exact nd
          · exact ⟨rfl, rfl, by rw [htk]; rfl, rfl, rfl⟩) (fun f m' σ' ω' kk => good hr0 (s3 v rfl) (by rw [List.length_take]; omega) hq f m' σ' kk) (fun _ _ _ f => f.elim)
      | bad cd =>
        rw [cont_bad] at hr0
        refine exL_sound H O _ S2 (K := fun _ _ _ _ => False) (by
          rw [hsc]
          refine ofE (w_pop w 120 _ (.call (.ok (.d (.list ((parts t).map enc)))) (σ0.set i (l ++ as) ++ [stkD S']) :: .call (.exc cd) (σ0.set i (l ++ (as ++ q)) ++ [stkD S']) :: []) _ _ vs σ0.length kk i) (pop_of hj hk' ?_)
          rw [sete]
          refine ofE (w_ready_bad w 120 _ (σ0.set i (l ++ as) ++ [stkD S']) (σ0.set i (l ++ (as ++ q)) ++ [stkD S']) [] _ (fun d σ' _ => d = cd ∧ σ' = σ0.set i (l ++ (as ++ q)) ++ [stkD S']) vs σ0.length kk i (enc t) ((parts t).map enc) cd) ⟨(parts_ok R0 t _).le (by omega), lens_of (by rw [hps]; omega) (by omega) (slC_of hle (by omega) ⟨?_, rfl, rfl⟩)⟩
          rw [hdr]; exact nd) (fun _ _ _ _ f => f.elim) (bad hr0.symm)
    | false =>
      obtain ⟨s1, s2⟩ := sf
      by_cases hp : parts t = []
      · have hz : ((parts t).map enc).length = 0 := by rw [hps, hp]; rfl
        have hle : ((parts t).map enc).length ≤ vs.length := by omega
        have hdr : vs.drop (bg vs ((parts t).map enc)).toNat = [] := by rw [bg_nat hle, hz]; simp
        have htk : vs.take (bg vs ((parts t).map enc)).toNat = vs := by rw [bg_nat hle, hz]; simp
        have nd := node_ok R0 (kk := kk) t (as := []) (okLeaf hp s1) hi2 (by rw [List.length_append]; omega)
        rw [seti] at nd
        have hr0 := hrun
        rw [run_f, leaf_W hp] at hr0
        rw [leaf_W hp] at s2
        rcases hn : nodeR t [] with ⟨r, q⟩
        rw [hn] at nd hr0 s2
        have hq : q.length ≤ 1 := nodeAsk hn
        have em : ∀ {p : Prop}, p → emp ((parts t).map enc) true p := fun k => chk_of (nble (by omega)) (g_of (by rw [hz]; rfl) k)
        cases r with
        | val v =>
          rw [cont_val] at hr0
          refine exL_sound H O _ S2 (X := fun _ _ _ => False) (K := fun f m' σ' _ => f = .next ∧ σ' = σ0.set i (l ++ (as ++ q)) ++ [stkD S'] ∧ look (T "values") m' = some (.d (.list (vs ++ [v]))) ∧ look (T "waiting") m' = some (.loc σ0.length) ∧ look (T "hooks") m' = some (.hk kk i)) (by
            rw [hsc]
            refine ofE (w_pop w 120 _ (.call (.ok (.d (.list ((parts t).map enc)))) (σ0.set i (l ++ as) ++ [stkD S']) :: .b true :: .call (.ok (.d v)) (σ0.set i (l ++ (as ++ q)) ++ [stkD S']) :: []) _ _ vs σ0.length kk i) (pop_of hj hk' ?_)
            rw [sete]
            refine ofE (w_leaf_ok w 120 _ (σ0.set i (l ++ as) ++ [stkD S']) (σ0.set i (l ++ (as ++ q)) ++ [stkD S']) [] _ (fun _ _ _ => False) vs σ0.length kk i (enc t) v ((parts t).map enc)) ⟨(parts_ok R0 t _).le (by omega), em (lens_of (by omega) (by omega) (slC_of hle (by omega) ⟨?_, slC_of hle (by omega) (chk_of rfl (chk_of (nble (by rw [List.length_take]; omega)) ?_))⟩))⟩
            · rw [hdr]; exact nd
            · exact ⟨rfl, rfl, by rw [htk]; rfl, rfl, rfl⟩) (fun f m' σ' ω' kk => good hr0 (s2 v rfl) (Nat.le_refl _) hq f m' σ' kk) (fun _ _ _ f => f.elim)
        | bad cd =>
          rw [cont_bad] at hr0
          refine exL_sound H O _ S2 (K := fun _ _ _ _ => False) (by
            rw [hsc]
            refine ofE (w_pop w 120 _ (.call (.ok (.d (.list ((parts t).map enc)))) (σ0.set i (l ++ as) ++ [stkD S']) :: .b true :: .call (.exc cd) (σ0.set i (l ++ (as ++ q)) ++ [stkD S']) :: []) _ _ vs σ0.length kk i) (pop_of hj hk' ?_)
            rw [sete]
            refine ofE (w_leaf_bad w 120 _ (σ0.set i (l ++ as) ++ [stkD S']) (σ0.set i (l ++ (as ++ q)) ++ [stkD S']) [] _ (fun d σ' _ => d = cd ∧ σ' = σ0.set i (l ++ (as ++ q)) ++ [stkD S']) vs σ0.length kk i (enc t) ((parts t).map enc) cd) ⟨(parts_ok R0 t _).le (by omega), em (lens_of (by omega) (by omega) (slC_of hle (by omega) ⟨?_, rfl, rfl⟩))⟩
            rw [hdr]; exact nd) (fun _ _ _ _ f => f.elim) (bad hr0.symm)
      · have hnz : ((parts t).map enc).length ≠ 0 := by rw [hps]; intro z; exact hp (List.length_eq_zero_iff.mp z)
        have hj2 : (σ0.set i (l ++ as) ++ [stkD S'])[σ0.length]? = some (stkD S') := by rw [← lenA]; exact get_end _ _
        have hwp := wt_push hp S'
        have hw2 := wtS_len S'
        refine exL_sound H O _ S2 (X := fun _ _ _ => False) (K := fun f m' σ' _ => f = .next ∧ σ' = σ0.set i (l ++ as) ++ [stkD (pushed t S')] ∧ m' = wM2 (enc t) ((parts t).map enc) vs σ0.length kk i) (by
          rw [hsc]
          refine ofE (w_pop w 120 _ (.call (.ok (.d (.list ((parts t).map enc)))) (σ0.set i (l ++ as) ++ [stkD S']) :: .b false :: .ex (.ok (.d (.list (((parts t).map enc).reverse.map rdy)))) (σ0.set i (l ++ as) ++ [stkD S' ++ [Dat.tuple [enc t, Dat.bool true]]]) :: []) _ _ vs σ0.length kk i) (pop_of hj hk' ?_)
          rw [sete]
          have e1 : (σ0.set i (l ++ as) ++ [stkD S']).set σ0.length (stkD S' ++ [Dat.tuple [enc t, Dat.bool true]]) = σ0.set i (l ++ as) ++ [stkD S' ++ [Dat.tuple [enc t, Dat.bool true]]] := by rw [← lenA]; exact set_end _ _ _
          refine ofE (w_push w 120 _ (σ0.set i (l ++ as) ++ [stkD S']) (σ0.set i (l ++ as) ++ [stkD S' ++ [Dat.tuple [enc t, Dat.bool true]]]) [] _ _ vs σ0.length kk i (enc t) ((parts t).map enc) (((parts t).map enc).reverse.map rdy)) ⟨(parts_ok R0 t _).le (by omega), chk_of (nble (by omega)) (g_of (by simp only [beq_eq_false_iff_ne, ne_eq]; omega) (chk_of rfl (atS_of hj2 (by omega) ⟨?_, ?_⟩)))⟩
          · rw [e1]; exact comp_rev (by omega)
          · refine ext_of (l := stkD S' ++ [Dat.tuple [enc t, Dat.bool true]]) (by rw [← lenA]; exact get_end _ _) (by simp only [List.length_append, List.length_cons, List.length_nil, List.length_map, List.length_reverse, stk_len]; omega) ?_
            refine ⟨rfl, ?_, rfl⟩
            rw [← lenA, set_end, stk_push]) ?_ (fun _ _ _ f => f.elim)
        rintro f m' σ' ω' ⟨rfl, rfl, rfl⟩ fv c3 h3 t3 S3 G3 R3
        have e : fv = .next := R3
        subst e
        refine ⟨wtS (pushed t S'), by omega, pushed t S', vs, as, c3, h3, t3, rfl, rfl, (run_push hp S' vs as).trans hrun, safe_push hp ⟨s1, s2⟩, by omega, by omega, S3.sub fun y u hy => nameVals rfl rfl rfl hy, G1.trans (G2.trans G3)⟩
end
end Mine
end
section
open PySem PySem.W PyProof.Rows PySem.Calls PySem.Spec
set_option maxRecDepth 100000
set_option linter.unusedVariables false
namespace Mine
section
variable {w : World} {x : Amb} {n : Nat} {m : Loc} {σ : Sto} {c : Cfg} {s : Shared} {Q : Value → Shared → Prop} {E : Value → Shared → Prop}
/-- a def that is called: its body in a frame of its own -/
theorem call_wp (O : x.Ok w (n + 1)) {f : Addr} {st : Stmt} {args : List V} {vals : List Value} (S : SR w x.h₀ x.L m σ c s.heap) (ha : RVs w c args vals) (hf : lookA f defs = some st) (hlen : (fnOfS st).names.length = args.length)
    {R : V → Sto → Prop} {XR : Str → Sto → Prop}
    (body : ∀ {x' : Amb} {c' : Cfg} {s' : Shared} {Qf : Flow → Shared → Prop} {Ef : Value → Shared → Prop}, x'.Ok w n → x'.sc = sScope st → SR w x'.h₀ x'.L (putAll (fnOfS st).names args []) σ c' s'.heap →
      (∀ v m' σ', R v σ' → PostS w x' c' s' Qf (.ret v) m' σ') → (∀ d σ', XR d σ' → PostY x' c' s' Ef d σ') → wpAny (model pw w) x'.A (execs (sBody st) x'.env) Qf Ef s')
    (P : ∀ v σ', R v σ' → PostE w x m c s Q v σ') (PX : ∀ d σ', XR d σ' → PostX x c s E d σ') : wpAny (model pw w) x.A (call (.ref f) vals) Q E s := by
  obtain ⟨name, qual, dV, kV, doc, pm, an, cdv, ct, oc, od, osl, f1, f2, f3, f4, f5, f6, f7, f8⟩ := fnOk_of w.params hf
  refine wpAny_call (code_def O.B S.F O.X S.N O.T O.frames rfl O.kind f1 f2 (by have := O.dp; omega) (f3 s vals (by rw [ha.length, hlen])) ?_ ?_ f5 f6 f7 ?_)
  · intro y hy
    have := List.all_eq_true.mp f4 y.1 (List.of_mem_zip hy).1
    simpa using this
  · intro g L' h₁ FG F' N' B' X' T'
    have O' : Amb.Ok w ⟨x.mean, x.mg, x.mb, x.A.deeper (envOf qual (sScope st) L' f cdv), x.A, x.env :: x.outer, x.base, g, L', sScope st, qual, f, cdv⟩ n :=
      ⟨B', rfl, X', T', O.hh, by have := O.dp; show x.A.depth + 1 + n < _; omega, by have := O.un; show x.A.units + 3 + 8 * n + 200 < _; omega, f7, O.gd⟩
    have M0 : MuR ⟨fun y => ((fnOfS st).names.zip vals).reverse.lookup y, c.mu, c.fz, c.ex⟩ σ := ⟨S.st.len, S.st.at_, S.st.nd, S.st.dj, S.st.dx, S.st.fx⟩
    have gr : Grow c ⟨fun y => ((fnOfS st).names.zip vals).reverse.lookup y, c.mu, c.fz, c.ex⟩ := ⟨fun _ h => h, fun _ _ o h => ⟨o, h⟩, rfl⟩
    have S0 : SR w g L' (putAll (fnOfS st).names args []) σ ⟨fun y => ((fnOfS st).names.zip vals).reverse.lookup y, c.mu, c.fz, c.ex⟩ h₁ := by
      refine ⟨F', N', fun y v hv => ?_, M0⟩
      have := (LR.put (m := []) (l := []) hlen (ha.mono gr) .nil).look y v hv
      rw [List.append_nil] at this
      exact this
    refine body (s' := { s with heap := h₁, toks := s.toks + ((fnOfS st).names.zip vals).length }) O' rfl S0 (fun v m' σ' k' fv c' h' tk' S' G' R' => ?_) (fun d σ' k' e c' h' tk' G' M' XX => ?_)
    · have G'' : Grow c { c' with mc := c.mc } := ⟨G'.fz, G'.mu, G'.ex⟩
      have gc : Grow c' { c' with mc := c.mc } := ⟨fun _ h => h, fun _ _ o h => ⟨o, h⟩, rfl⟩
      have M'' : MuR { c' with mc := c.mc } σ' := ⟨S'.st.len, S'.st.at_, S'.st.nd, S'.st.dj, S'.st.dx, S'.st.fx⟩
      obtain ⟨val, rfl, R⟩ := R'
      exact leaveK_ S'.F S'.N fun F'' N'' => P _ _ k' _ { c' with mc := c.mc } h' tk' ⟨F'', N'', S.lo.grow rfl G'', M''⟩ G'' rfl (R.mono gc)
    · have G'' : Grow c { c' with mc := c.mc } := ⟨G'.fz, G'.mu, G'.ex⟩
      have M'' : MuR { c' with mc := c.mc } σ' := ⟨M'.len, M'.at_, M'.nd, M'.dj, M'.dx, M'.fx⟩
      cases XX with
      | made F1 N1 MD => exact leave_made B' MD F1 N1 f7 fun h2 RD up => PX _ _ k' e { c' with mc := c.mc } h2 tk' G'' rfl M'' (.fly FG RD up)
      | noted F1 RD0 up0 => exact leave_noted B' F1 RD0 up0 fun h2 RD up => PX _ _ k' e { c' with mc := c.mc } h2 tk' G'' rfl M'' (.fly FG RD up)
      | fly F1 RD0 up0 => exact leave_fly B' F1 RD0 up0 fun h2 RD up => PX _ _ k' e { c' with mc := c.mc } h2 tk' G'' rfl M'' (.fly FG RD up)
  · intro y hy
    have := List.all_eq_true.mp f8 y hy
    intro e
    rw [e] at this
    simp at this
/-- the last of the changed lists is forgotten -/
noncomputable abbrev Cfg.less (c : Cfg) : Cfg := { c with mu := c.mu.dropLast }
theorem less_mem {c : Cfg} {p : Addr × Obj} (h : p ∈ c.less.all) : p ∈ c.all := by
  rcases List.mem_append.mp h with h | h
  · exact List.mem_append.mpr (.inl (List.dropLast_subset _ h))
  · exact List.mem_append.mpr (.inr h)
theorem MuR.less {c : Cfg} {σ : Sto} {wl : List Dat} (h : MuR c (σ ++ [wl])) : MuR c.less σ := by
  have hl := h.len
  rw [List.length_append] at hl
  refine ⟨by show c.mu.dropLast.length = _; rw [List.length_dropLast, hl]; rfl, fun i ds e => ?_, ?_, fun p hp => h.dj p (List.dropLast_subset _ hp), fun p hp => h.dx p (List.dropLast_subset _ hp), h.fx⟩
  · have hi := (List.getElem?_eq_some_iff.mp e).1
    obtain ⟨a, vals, k, h1, h2⟩ := h.at_ i ds (by rw [List.getElem?_append_left hi]; exact e)
    refine ⟨a, vals, k, ?_, h2⟩
    show c.mu.dropLast[i]? = _
    rw [List.getElem?_dropLast, if_pos (by rw [hl]; simp; exact hi)]
    exact h1
  · exact h.nd.sublist ((List.dropLast_sublist _).map _)
theorem grow_less {c c' : Cfg} {σ : Sto} {wl : List Dat} (hc : c.mu.length ≤ σ.length) (G : Grow c c') (M : MuR c' (σ ++ [wl])) : Grow c c'.less := by
  refine ⟨G.fz, fun i a o e => ?_, G.ex⟩
  obtain ⟨o', h⟩ := G.mu i a o e
  have hl := M.len
  rw [List.length_append] at hl
  have hi := (List.getElem?_eq_some_iff.mp e).1
  refine ⟨o', ?_⟩
  show c'.mu.dropLast[i]? = _
  rw [List.getElem?_dropLast, if_pos (by rw [hl]; simp; omega)]
  exact h
theorem postE_less {σ1 : Sto} {wl : List Dat} {d : Dat} (S : SR w x.h₀ x.L m σ c s.heap) (hs : σ.length ≤ σ1.length) (P : PostE w x m c s Q (.d d) σ1) : PostE w x m c s Q (.d d) (σ1 ++ [wl]) := fun val c' h' tk' S' G' e' R' => by
  have G2 : Grow c c'.less := grow_less (by rw [S.st.len]; exact hs) G' S'.st
  exact P val c'.less h' tk' ⟨S'.F, fun p hp => S'.N p (less_mem hp), S.lo.grow e' G2, S'.st.less⟩ G2 e' R'
theorem XR.sub {code : Str} {c c' : Cfg} {e : Addr} {h' : Heap} (h : XR x code c e h') (hm : c'.mc = c.mc) (hs : ∀ p ∈ c'.all, p ∈ c.all) : XR x code c' e h' := by
  cases h with
  | made F N M => exact .made (by rw [hm]; exact F) (fun p hp => N p (hs p hp)) M
  | fly F R up =>
    obtain ⟨B, d, r1, r2, r3, r4⟩ := R.ex
    exact .fly (by rw [hm]; exact F) ⟨B, d, r1, r2, fun q hq => r3 q (hs q hq), r4⟩ up
  | noted F R up =>
    obtain ⟨B, d, r1, r2, r3, r4⟩ := R.ex
    exact .noted (by rw [hm]; exact F) ⟨B, d, r1, r2, fun q hq => r3 q (hs q hq), r4⟩ up
theorem postX_less {σ1 : Sto} {wl : List Dat} {d : Str} (S : SR w x.h₀ x.L m σ c s.heap) (hs : σ.length ≤ σ1.length) (P : PostX x c s E d σ1) : PostX x c s E d (σ1 ++ [wl]) := fun e c' h' tk' G' e' M' X' =>
  P e c'.less h' tk' (grow_less (by rw [S.st.len]; exact hs) G' M') e' M'.less (X'.sub rfl fun p hp => less_mem hp)
end
noncomputable def retO (K : KE) : Fl → Loc → Sto → Om → Prop := fun fl _ σ ω => match fl with
  | .ret v => K v σ ω
  | .next => False
theorem CWp.body {w : World} (R0 : Rules w) {B k : Nat} {orc : Addr → Bool} {f : Addr} {st : Stmt} {args : List V} {σ σ' : Sto} {r : Rs} {ω : Om} (hf : lookA f defs = some st) (hlen : (fnOfS st).names.length = args.length)
    (h : exL (ev (spW w B orc) k) (sScope st) (sBody st) (putAll (fnOfS st).names args []) σ ω (retO (rK r σ')) (rX r σ')) : CWp w (k + B + 1) f args σ r σ' := by
  refine ⟨?_⟩
  intro x m c s Q E vals O S ha P PX
  refine call_wp O S ha hf hlen (R := fun v σ'' => r = .ok v ∧ σ'' = σ') (XR := fun d σ'' => r = .exc d ∧ σ'' = σ') ?_ (fun v σ'' kk => ?_) (fun d σ'' kk => ?_)
  · intro x' c' s' Qf Ef O' e S' P' PX'
    refine exL_sound (ev_sound R0 (spOk w B orc) k) O' _ S' (by rw [e]; exact h) (fun fl m' σ'' ω' kk => ?_) fun d σ'' ω' kk => PX' d σ'' kk
    cases fl with
    | next => exact kk.elim
    | ret v => exact P' v m' σ'' kk
  · obtain ⟨e, rfl⟩ := kk; exact P v e
  · obtain ⟨e, rfl⟩ := kk; exact PX d e
/-! worth -/
noncomputable def wInit : Stmt := ((sBody (stm 53))[0]?).getD noStm
noncomputable def wRet : Stmt := ((sBody (stm 53))[2]?).getD noStm
theorem wBody_eq : sBody (stm 53) = [wInit, wSt, wRet] := rfl
theorem w_init (w : World) (B : Nat) (t : Dat) (kk i : Nat) (σ : Sto) (K : Fl → Loc → Sto → Om → Prop) (X : KX) : (ev (spW w B noOrc) 40).s scW [(T "hooks", .hk kk i), (T "tree", .d t)] σ [] wInit K X =
    K .next [(T "waiting", .loc σ.length), (T "values", .d (.list [])), (T "hooks", .hk kk i), (T "tree", .d t)] (σ ++ [[.tuple [t, .bool false]]]) [] := by kernel_rfl
theorem w_ret (w : World) (B : Nat) (d : Dat) (σ : Sto) (K : Fl → Loc → Sto → Om → Prop) (X : KX) : (ev (spW w B noOrc) 40).s scW [(T "values", .d (.list [d]))] σ [] wRet K X = K (.ret (.d d)) [(T "values", .d (.list [d]))] σ [] := by kernel_rfl
theorem lookSub {y : Str} {v : V} {t : Dat} {vs : List Dat} {j kk i : Nat} (e : look y (wM vs j kk i) = some v) : look y [(T "waiting", .loc j), (T "values", .d (.list vs)), (T "hooks", .hk kk i), (T "tree", .d t)] = some v := nameVals rfl rfl rfl e
theorem worth_ok {w : World} (R0 : Rules w) {kk : Nat} {t : Tr} (ok : OKT kk t) {σ : Sto} {i : Nat} {l : List Dat} (hi : σ[i]? = some l) (hb : l.length + szT t ≤ 2900) : CWp w 220 330 [.d (enc t), .hk kk i] σ (W t).1.rs (σ.set i (l ++ (W t).2)) := by
  refine ⟨?_⟩
  intro x m c s Q E vals O S ha P PX
  have hlt := (List.getElem?_eq_some_iff.mp hi).1
  rcases hW : W t with ⟨r, q⟩
  rw [hW] at P PX
  have hz : wtS [(t, false)] = szT t + 0 := rfl
  have H := ev_sound R0 (spOk w 120 noOrc) 40
  refine call_wp (n := 160) (O.less (by omega)) S ha (show lookA 330 defs = some (stm 53) from rfl) rfl (R := fun v σ' => r.rs = .ok v ∧ ∃ wl, σ' = σ.set i (l ++ q) ++ [wl]) (XR := fun d σ' => r.rs = .exc d ∧ ∃ wl, σ' = σ.set i (l ++ q) ++ [wl]) ?_ (fun v σ' kk => ?_) (fun d σ' kk => ?_)
  · intro x' c' s' Qf Ef O' hsc S' P' PX'
    rw [wBody_eq]
    refine wpAny_execs_cons (H.s (X := fun _ _ _ => False) O' S' (by rw [hsc]; exact ofE (w_init w 120 (enc t) kk i σ (fun f m' σ' _ => f = .next ∧ m' = [(T "waiting", .loc σ.length), (T "values", .d (.list [])), (T "hooks", .hk kk i), (T "tree", .d (enc t))] ∧ σ' = σ ++ [[.tuple [enc t, .bool false]]]) (fun _ _ _ => False)) ⟨rfl, rfl, rfl⟩) ?_ (fun _ _ _ f => False.elim f))
    rintro f m' σ' ω' ⟨rfl, rfl, rfl⟩ fv c1 h1 t1 S1 G1 R1
    have e1 : fv = .next := R1
    subst e1
    have st0 : σ.set i (l ++ []) ++ [stkD [(t, false)]] = σ ++ [[.tuple [enc t, .bool false]]] := by rw [set_same hi]; rfl
    refine wpAny_execs_cons (while_wp (s := { s' with heap := h1, toks := t1 }) R0 O' hsc hlt (S0 := [(t, false)]) (vs0 := []) (as0 := []) (l := l) rfl ⟨ok, fun v _ => trivial⟩ (by rw [hz]; simp; omega) (by rw [hz]; simp; omega) (by rw [st0]; exact S1.sub fun y v hy => lookSub hy) ?_ ?_)
    · intro vs as wl ho fv c2 h2 t2 S2 G2 R2
      have e2 : fv = .next := R2
      subst e2
      rw [run_f, hW] at ho
      cases r with
      | bad cd => cases ho
      | val v =>
        cases ho
        refine wpAny_execs_cons (H.s (X := fun _ _ _ => False) (s := { s' with heap := h2, toks := t2 }) O' S2 (by rw [hsc]; exact ofE (w_ret w 120 v _ (fun f m' σ' _ => f = .ret (.d v) ∧ σ' = σ.set i (l ++ ([] ++ q)) ++ [wl]) (fun _ _ _ => False)) ⟨rfl, rfl⟩) ?_ (fun _ _ _ f => False.elim f))
        rintro f m' σ' ω' ⟨rfl, rfl⟩ fv c3 h3 t3 S3 G3 R3
        obtain ⟨val, rfl, R3⟩ := R3
        exact P' (.d v) m' _ ⟨rfl, wl, rfl⟩ _ c3 h3 t3 S3 (G1.trans (G2.trans G3)) ⟨val, rfl, R3⟩
    · intro cd as wl ho
      rw [run_f, hW] at ho
      cases r with
      | val v => cases ho
      | bad cd' =>
        cases ho
        exact fromY G1 (PX' _ _ ⟨rfl, wl, rfl⟩)
  · obtain ⟨e, wl, rfl⟩ := kk
    cases r with
    | bad _ => cases e
    | val v => cases e; exact postE_less S (by simp) (P _ rfl)
  · obtain ⟨e, wl, rfl⟩ := kk
    exact postX_less S (by simp) (PX _ e)
end Mine
end
section
open PySem PySem.W PyProof.Rows PySem.Calls PySem.Spec
set_option maxRecDepth 100000
set_option linter.unusedVariables false
namespace Mine
/-! the law's draws and trees -/
noncomputable def nthK (l : List Dat) (k : Nat) (f : Dat → Prop) : Prop := match l[k]? with
  | some x => f x
  | none => False
noncomputable def oDr : Addr → Bool := fun f => Nat.beq f 400
noncomputable def oTr : Addr → Bool := fun f => Nat.beq f 400 || Nat.beq f 407 || Nat.beq f 414 || Nat.beq f 393
noncomputable def Op.ix : Op → Int
  | .add => 0
  | .sub => 1
  | .mul => 2
  | .div => 3
  | .mod => 4
  | .eq => 5
  | .ne => 6
  | .lt => 7
  | .and => 8
  | .or => 9
  | .xor => 10
  | .eqv => 11
  | .imp => 12
  | .ge => 13
  | .le => 14
  | .gt => 15
noncomputable def wordsD : List Dat := [.str (T "+"), .str (T "-"), .str (T "*"), .str (T "\\"), .str (T "MOD"), .str (T "="), .str (T "<>"), .str (T "<"), .str (T "AND"), .str (T "OR"), .str (T "XOR"), .str (T "EQV"), .str (T "IMP"), .str (T ">="), .str (T "<="), .str (T ">")]
noncomputable def txtS : _root_.Fin 4 → Str
  | 0 => T ""
  | 1 => T "ab"
  | 2 => T "b"
  | 3 => Txt.mul (T "x") 200
section
variable (w : World) (B : Nat) (σ σa σb σc σd σe : Sto) (ω : Om) (K : KE) (X : KX) (cl : List Dat) (k sd many f r dp : Int) (d d2 : Dat)
theorem dr_t : (ev (spW w B noOrc) 40).c 400 [.loc 0, vi many] ([.list cl, .int k, .int sd] :: σ) (.b true :: ω) K X =
    chk (Nat.ble cl.length 4096) (g (decide (k + 1 < (cl.length : Int))) true (chk (decide (0 ≤ k + 1) && decide (k + 1 ≤ 4096)) (nthK cl (k + 1).toNat fun x => bop .Mod (.d x) (vi many) fun v => K v ([.list cl, .int (k + 1), .int sd] :: σ) ω))) := by kernel_rfl
theorem dr_f : (ev (spW w B noOrc) 40).c 400 [.loc 0, vi many] ([.list cl, .int k, .int sd] :: σ) (.b false :: ω) K X =
    chk (Nat.ble cl.length 4096) (g (decide (k + 1 < (cl.length : Int))) false (chk (Nat.ble (5 : Int).natAbs 4294967295 && Nat.ble (k + 1).natAbs 4294967295) (chk (!((4 : Int) == 0) && Nat.ble (k + 1).natAbs 1073741823 && Nat.ble (4 : Int).natAbs 1073741823) (chk (!(many == 0))
      (K (vi (Int.fmod (5 * (k + 1) + Int.fdiv (k + 1) 4 + sd) many)) ([.list cl, .int (k + 1), .int sd] :: σ) ω))))) := by kernel_rfl
noncomputable abbrev lfL (ω : Om) : Prop := (ev (spW w B oDr) 40).c 407 [.loc 0] σ (.call (.ok (vi f)) σa :: ω) K X
theorem lf_w : lfL w B σ σa K X f (.b true :: .call (.ok (vi r)) σb :: ω) = (CWp w B 400 [.loc 0, vi 6] σ (.ok (vi f)) σa ∧ g (decide (f < 3)) true (CWp w B 400 [.loc 0, vi 9] σa (.ok (vi r)) σb ∧ K (.d (.tuple [.str (T "whole"), .int r])) σb ω)) := by kernel_rfl
theorem lf_t (j : _root_.Fin 4) : lfL w B σ σa K X f (.b false :: .b true :: .call (.ok (vi (kI j))) σb :: ω) = (CWp w B 400 [.loc 0, vi 6] σ (.ok (vi f)) σa ∧ g (decide (f < 3)) false (g (f == 3) true (CWp w B 400 [.loc 0, vi 4] σa (.ok (vi (kI j))) σb ∧ K (.d (.tuple [.str (T "text"), .str (txtS j)])) σb ω))) := by
  match j with
  | 0 => kernel_rfl
  | 1 => kernel_rfl
  | 2 => kernel_rfl
  | 3 => kernel_rfl
theorem lf_n (j : _root_.Fin 4) : lfL w B σ σa K X f (.b false :: .b false :: .call (.ok (vi (kI j))) σb :: ω) = (CWp w B 400 [.loc 0, vi 6] σ (.ok (vi f)) σa ∧ g (decide (f < 3)) false (g (f == 3) false (CWp w B 400 [.loc 0, vi 4] σa (.ok (vi (kI j))) σb ∧ K (.d (.tuple [.str (T "name"), .str (T (nmS j))])) σb ω))) := by
  match j with
  | 0 => kernel_rfl
  | 1 => kernel_rfl
  | 2 => kernel_rfl
  | 3 => kernel_rfl
theorem words_w : (ev (spW w B noOrc) 40).c 393 [] σ ω K X = K (.d (.list wordsD)) σ ω := by kernel_rfl
noncomputable abbrev trL (ω : Om) : Prop := exL (ev (spW w B oTr) 40) (sScope (stm 60)) (sBody (stm 60)) (putAll (fnOfS (stm 60)).names [.loc 0, vi dp] []) σ ω (retO K) X
theorem tl_0 : trL w B σ K X dp (.b false :: .b true :: .call (.ok (.d d)) σa :: ω) = g (decide (0 < dp)) false (g (decide ((0 : Int) < 3)) true (CWp w B 407 [.loc 0] σ (.ok (.d d)) σa ∧ K (.d d) σa ω)) := by kernel_rfl
noncomputable abbrev tD (p : Prop) : Prop := g (decide (0 < dp)) true (CWp w B 400 [.loc 0, vi 9] σ (.ok (vi f)) σa ∧ p)
theorem tl_leaf : trL w B σ K X dp (.b true :: .call (.ok (vi f)) σa :: .b true :: .call (.ok (.d d)) σb :: ω) = tD w B σ σa f dp (g (decide (f < 3)) true (CWp w B 407 [.loc 0] σa (.ok (.d d)) σb ∧ K (.d d) σb ω)) := by kernel_rfl
noncomputable abbrev ngI (neg : Bool) : Int := if neg then 0 else 1
theorem tl_un (neg : Bool) : trL w B σ K X dp (.b true :: .call (.ok (vi f)) σa :: .b false :: .b true :: .call (.ok (vi (ngI neg))) σb :: .call (.ok (.d d)) σc :: ω) =
    tD w B σ σa f dp (g (decide (f < 3)) false (g (f == 3) true (CWp w B 400 [.loc 0, vi 2] σa (.ok (vi (ngI neg))) σb ∧ CWp w B 414 [.loc 0, vi (dp - 1)] σb (.ok (.d d)) σc ∧ K (.d (.tuple [.str (T (unS neg)), d])) σc ω))) := by
  match neg with
  | true => kernel_rfl
  | false => kernel_rfl
theorem tl_bk (kd : _root_.Fin 3) : trL w B σ K X dp (.b true :: .call (.ok (vi f)) σa :: .b false :: .b false :: .b true :: .call (.ok (vi r)) σb :: .call (.ok (vi (kd.val : Int))) σc :: ω) =
    tD w B σ σa f dp (g (decide (f < 3)) false (g (f == 3) false (g (f == 4) true (CWp w B 400 [.loc 0, vi 4] σa (.ok (vi r)) σb ∧ CWp w B 400 [.loc 0, vi 3] σb (.ok (vi (kd.val : Int))) σc ∧ K (.d (.tuple [.str (T (kdS kd)), .str (T (wdS kd)), .list [.tuple [.str (T "whole"), .int r]]])) σc ω)))) := by
  match kd with
  | 0 => kernel_rfl
  | 1 => kernel_rfl
  | 2 => kernel_rfl
theorem tl_two (op : Op) : trL w B σ K X dp (.b true :: .call (.ok (vi f)) σa :: .b false :: .b false :: .b false :: .call (.ok (.d (.list wordsD))) σb :: .call (.ok (vi op.ix)) σc :: .call (.ok (.d d)) σd :: .call (.ok (.d d2)) σe :: ω) =
    tD w B σ σa f dp (g (decide (f < 3)) false (g (f == 3) false (g (f == 4) false (CWp w B 393 [] σa (.ok (.d (.list wordsD))) σb ∧ CWp w B 400 [.loc 0, vi 16] σb (.ok (vi op.ix)) σc ∧ CWp w B 414 [.loc 0, vi (dp - 1)] σc (.ok (.d d)) σd ∧ CWp w B 414 [.loc 0, vi (dp - 1)] σd (.ok (.d d2)) σe ∧
      K (.d (.tuple [.str (T "two"), .str (T op.s), d, d2])) σe ω)))) := by
  cases op <;> kernel_rfl
end
/-- the box the law draws from -/
structure Bx where
  cl : List Int
  k : Int
  sd : Int
noncomputable def bxL (b : Bx) : List Dat := [.list (b.cl.map .int), .int b.k, .int b.sd]
structure WfB (b : Bx) (m : Int) : Prop where
  cl : b.cl.length ≤ 24
  lo : -1 ≤ b.k
  hi : b.k ≤ m
theorem WfB.le {b : Bx} {m m' : Int} (h : WfB b m) (l : m ≤ m') : WfB b m' := ⟨h.cl, h.lo, Int.le_trans h.hi l⟩
theorem nthK_of {l : List Dat} {k : Nat} {x : Dat} {f : Dat → Prop} (h : l[k]? = some x) (q : f x) : nthK l k f := by unfold nthK; rw [h]; exact q
theorem draw_ok {w : World} (R0 : Rules w) {b : Bx} {m : Int} (h : WfB b m) (hm : m ≤ 1000) {many : Int} (h0 : 0 < many) :
    ∃ r b', 0 ≤ r ∧ r < many ∧ WfB b' (m + 1) ∧ ∀ σ, CWp w 40 400 [.loc 0, vi many] (bxL b :: σ) (.ok (vi r)) (bxL b' :: σ) := by
  have hl : (b.cl.map Dat.int).length = b.cl.length := List.length_map _
  have c := h.cl
  have lo := h.lo
  have hi := h.hi
  have wf : WfB ⟨b.cl, b.k + 1, b.sd⟩ (m + 1) := ⟨h.cl, by show -1 ≤ b.k + 1; omega, by show b.k + 1 ≤ m + 1; omega⟩
  by_cases hb : b.k + 1 < ((b.cl.map Dat.int).length : Int)
  · have hn : (b.k + 1).toNat < b.cl.length := by omega
    refine ⟨Int.fmod (b.cl[(b.k + 1).toNat]) many, ⟨b.cl, b.k + 1, b.sd⟩, Int.fmod_nonneg_of_pos _ h0, Int.fmod_lt_of_pos _ h0, wf, fun σ => ?_⟩
    refine CWp.of (B := 0) (k := 40) (orc := noOrc) R0 (ofE (dr_t w 0 σ [] _ _ (b.cl.map .int) b.k b.sd many) (chk_of (nble (by omega)) (g_of (decide_eq_true hb) (chk_of (by rw [decide_eq_true (by omega), decide_eq_true (by omega)]; rfl) (nthK_of (x := .int (b.cl[(b.k + 1).toNat])) ?_ ?_)))))
    · rw [List.getElem?_map, List.getElem?_eq_getElem hn]; rfl
    · show chk (!(many == 0)) _
      exact chk_of (by simp; omega) ⟨rfl, rfl⟩
  · refine ⟨Int.fmod (5 * (b.k + 1) + Int.fdiv (b.k + 1) 4 + b.sd) many, ⟨b.cl, b.k + 1, b.sd⟩, Int.fmod_nonneg_of_pos _ h0, Int.fmod_lt_of_pos _ h0, wf, fun σ => ?_⟩
    exact CWp.of (B := 0) (k := 40) (orc := noOrc) R0 (ofE (dr_f w 0 σ [] _ _ (b.cl.map .int) b.k b.sd many) (chk_of (nble (by omega)) (g_of (decide_eq_false hb) (chk_of (by rw [nble (by decide), nble (by omega)]; rfl) (chk_of (by rw [nble (by omega), nble (by decide)]; rfl) (chk_of (by simp; omega) ⟨rfl, rfl⟩))))))
/-- the trees that are drawn -/
inductive Shape : Nat → Tr → Prop
  | whole {n : Nat} {i : Int} : 0 ≤ i → i ≤ 8 → Shape n (.whole i)
  | text {n : Nat} (j : _root_.Fin 4) : Shape n (.text (txtS j))
  | name {n : Nat} (j : _root_.Fin 4) : Shape n (.name j)
  | un {n : Nat} {neg : Bool} {t : Tr} : Shape n t → Shape (n + 1) (.un neg t)
  | bk {n : Nat} (kd : _root_.Fin 3) (k : _root_.Fin 4) : Shape (n + 1) (.bk kd k)
  | two {n : Nat} {op : Op} {l r : Tr} : Shape n l → Shape n r → Shape (n + 1) (.two op l r)
theorem fin4 {r : Int} (h0 : 0 ≤ r) (h4 : r < 4) : ∃ j : _root_.Fin 4, r = kI j := ⟨⟨r.toNat, by omega⟩, by show r = ((r.toNat : Nat) : Int); omega⟩
theorem fin3 {r : Int} (h0 : 0 ≤ r) (h4 : r < 3) : ∃ j : _root_.Fin 3, r = (j.val : Int) := ⟨⟨r.toNat, by omega⟩, by show r = ((r.toNat : Nat) : Int); omega⟩
noncomputable def opA (i : _root_.Fin 16) : Op := (([.add, .sub, .mul, .div, .mod, .eq, .ne, .lt, .and, .or, .xor, .eqv, .imp, .ge, .le, .gt] : List Op)[i.val]?).getD .add
theorem opA_ix : ∀ i : _root_.Fin 16, (opA i).ix = (i.val : Int) := by decide
theorem op16 {r : Int} (h0 : 0 ≤ r) (h4 : r < 16) : ∃ op : Op, r = op.ix := ⟨opA ⟨r.toNat, by omega⟩, by rw [opA_ix]; show r = ((r.toNat : Nat) : Int); omega⟩
theorem leaf_ok {w : World} (R0 : Rules w) {b : Bx} {m : Int} (h : WfB b m) (hm : m ≤ 900) :
    ∃ t b', (∀ n, Shape n t) ∧ WfB b' (m + 2) ∧ ∀ σ, CWp w 80 407 [.loc 0] (bxL b :: σ) (.ok (.d (enc t))) (bxL b' :: σ) := by
  obtain ⟨f, b1, f0, f1, w1, c1⟩ := draw_ok R0 h (by omega) (many := 6) (by decide)
  by_cases hf : f < 3
  · obtain ⟨r, b2, r0, r1, w2, c2⟩ := draw_ok R0 w1 (by omega) (many := 9) (by decide)
    exact ⟨.whole r, b2, fun n => .whole r0 (by omega), w2.le (by omega), fun σ => CWp.of (B := 40) (k := 40) (orc := oDr) R0 (ofE (lf_w w 40 _ (bxL b1 :: σ) (bxL b2 :: σ) [] _ _ f r) ⟨c1 σ, g_of (decide_eq_true hf) ⟨c2 σ, rfl, rfl⟩⟩)⟩
  · obtain ⟨r, b2, r0, r1, w2, c2⟩ := draw_ok R0 w1 (by omega) (many := 4) (by decide)
    obtain ⟨j, rfl⟩ := fin4 r0 r1
    by_cases h3 : f = 3
    · exact ⟨.text (txtS j), b2, fun n => .text j, w2.le (by omega), fun σ => CWp.of (B := 40) (k := 40) (orc := oDr) R0 (ofE (lf_t w 40 _ (bxL b1 :: σ) (bxL b2 :: σ) [] _ _ f j) ⟨c1 σ, g_of (decide_eq_false hf) (g_of (by simp [h3]) ⟨c2 σ, rfl, rfl⟩)⟩)⟩
    · exact ⟨.name j, b2, fun n => .name j, w2.le (by omega), fun σ => CWp.of (B := 40) (k := 40) (orc := oDr) R0 (ofE (lf_n w 40 _ (bxL b1 :: σ) (bxL b2 :: σ) [] _ _ f j) ⟨c1 σ, g_of (decide_eq_false hf) (g_of (by simp [h3]) ⟨c2 σ, rfl, rfl⟩)⟩)⟩
noncomputable def trB : Nat → Nat
  | 0 => 121
  | n + 1 => trB n + 41
noncomputable def trC : Nat → Int
  | 0 => 4
  | n + 1 => 2 * trC n + 4
theorem trB_ge : ∀ n, 121 ≤ trB n
  | 0 => Nat.le_refl _
  | n + 1 => by have := trB_ge n; show 121 ≤ trB n + 41; omega
theorem trC_ge : ∀ n, 4 ≤ trC n
  | 0 => by decide
  | n + 1 => by have := trC_ge n; show 4 ≤ 2 * trC n + 4; omega
theorem words_ok {w : World} (R0 : Rules w) (σ : Sto) : CWp w 40 393 [] σ (.ok (.d (.list wordsD))) σ := CWp.of (B := 0) (k := 40) (orc := noOrc) R0 (ofE (words_w w 0 σ [] _ _) ⟨rfl, rfl⟩)
theorem tree_ok {w : World} (R0 : Rules w) : ∀ (n : Nat) {b : Bx} {m : Int}, WfB b m → m + trC n ≤ 900 →
    ∃ t b', Shape n t ∧ WfB b' (m + trC n) ∧ ∀ σ, CWp w (trB n) 414 [.loc 0, vi (n : Int)] (bxL b :: σ) (.ok (.d (enc t))) (bxL b' :: σ)
  | 0, b, m, h, hm => by
    obtain ⟨t, b1, s1, w1, c1⟩ := leaf_ok R0 h (by have : trC 0 = 4 := rfl; omega)
    refine ⟨t, b1, s1 0, w1.le (by have : trC 0 = 4 := rfl; omega), fun σ => ?_⟩
    exact CWp.body (B := 80) (k := 40) (orc := oTr) R0 (st := stm 60) rfl rfl (ofE (tl_0 w 80 _ (bxL b1 :: σ) [] _ _ 0 (enc t)) (g_of rfl (g_of rfl ⟨c1 σ, rfl, rfl⟩)))
  | n + 1, b, m, h, hm => by
    have hc : trC (n + 1) = 2 * trC n + 4 := rfl
    have c0 := trC_ge n
    have hB := trB_ge n
    have dp : (decide (0 < (((n + 1 : Nat)) : Int))) = true := decide_eq_true (by omega)
    have ed : (((n + 1 : Nat) : Int) - 1) = (n : Int) := by omega
    obtain ⟨f, b1, f0, f1, w1, c1⟩ := draw_ok R0 h (by omega) (many := 9) (by decide)
    by_cases hf : f < 3
    · obtain ⟨t, b2, s2, w2, c2⟩ := leaf_ok R0 w1 (by omega)
      refine ⟨t, b2, s2 _, w2.le (by omega), fun σ => ?_⟩
      exact (CWp.body (B := trB n) (k := 40) (orc := oTr) R0 (st := stm 60) rfl rfl (ofE (tl_leaf w (trB n) _ (bxL b1 :: σ) (bxL b2 :: σ) [] _ _ f _ (enc t)) (g_of dp ⟨(c1 σ).le (by omega), g_of (decide_eq_true hf) ⟨(c2 σ).le (by omega), rfl, rfl⟩⟩))).le (by show _ ≤ trB n + 41; omega)
    · by_cases h3 : f = 3
      · obtain ⟨r, b2, r0, r1, w2, c2⟩ := draw_ok R0 w1 (by omega) (many := 2) (by decide)
        obtain ⟨neg, hneg⟩ : ∃ neg : Bool, r = ngI neg := by
          rcases (show r = 0 ∨ r = 1 by omega) with q | q
          · exact ⟨true, q⟩
          · exact ⟨false, q⟩
        subst hneg
        obtain ⟨t, b3, s3, w3, c3⟩ := tree_ok R0 n w2 (by omega)
        refine ⟨.un neg t, b3, .un s3, w3.le (by omega), fun σ => ?_⟩
        exact (CWp.body (B := trB n) (k := 40) (orc := oTr) R0 (st := stm 60) rfl rfl (ofE (tl_un w (trB n) _ (bxL b1 :: σ) (bxL b2 :: σ) (bxL b3 :: σ) [] _ _ f _ (enc t) neg) (g_of dp ⟨(c1 σ).le (by omega), g_of (decide_eq_false hf) (g_of (by simp [h3]) ⟨(c2 σ).le (by omega), by rw [ed]; exact c3 σ, rfl, rfl⟩)⟩))).le (by show _ ≤ trB n + 41; omega)
      · by_cases h4 : f = 4
        · obtain ⟨r, b2, r0, r1, w2, c2⟩ := draw_ok R0 w1 (by omega) (many := 4) (by decide)
          obtain ⟨k, rfl⟩ := fin4 r0 r1
          obtain ⟨q, b3, q0, q1, w3, c3⟩ := draw_ok R0 w2 (by omega) (many := 3) (by decide)
          obtain ⟨kd, rfl⟩ := fin3 q0 q1
          refine ⟨.bk kd k, b3, .bk kd k, w3.le (by omega), fun σ => ?_⟩
          exact (CWp.body (B := trB n) (k := 40) (orc := oTr) R0 (st := stm 60) rfl rfl (ofE (tl_bk w (trB n) _ (bxL b1 :: σ) (bxL b2 :: σ) (bxL b3 :: σ) [] _ _ f (kI k) _ kd) (g_of dp ⟨(c1 σ).le (by omega), g_of (decide_eq_false hf) (g_of (by simp [h3]) (g_of (by simp [h4]) ⟨(c2 σ).le (by omega), (c3 σ).le (by omega), rfl, rfl⟩))⟩))).le (by show _ ≤ trB n + 41; omega)
        · obtain ⟨r, b2, r0, r1, w2, c2⟩ := draw_ok R0 w1 (by omega) (many := 16) (by decide)
          obtain ⟨op, rfl⟩ := op16 r0 r1
          obtain ⟨t, b3, s3, w3, c3⟩ := tree_ok R0 n w2 (by omega)
          obtain ⟨u, b4, s4, w4, c4⟩ := tree_ok R0 n w3 (by omega)
          refine ⟨.two op t u, b4, .two s3 s4, w4.le (by omega), fun σ => ?_⟩
          exact (CWp.body (B := trB n) (k := 40) (orc := oTr) R0 (st := stm 60) rfl rfl (ofE (tl_two w (trB n) _ (bxL b1 :: σ) (bxL b1 :: σ) (bxL b2 :: σ) (bxL b3 :: σ) (bxL b4 :: σ) [] _ _ f _ (enc t) (enc u) op) (g_of dp ⟨(c1 σ).le (by omega), g_of (decide_eq_false hf) (g_of (by simp [h3]) (g_of (by simp [h4]) ⟨(words_ok R0 _).le (by omega), (c2 σ).le (by omega), by rw [ed]; exact c3 σ, by rw [ed]; exact c4 σ, rfl, rfl⟩))⟩))).le (by show _ ≤ trB n + 41; omega)
end Mine
end
section
open PySem PySem.W PyProof.Rows PySem.Calls PySem.Spec
set_option maxRecDepth 100000
set_option linter.unusedVariables false
namespace Mine
/-! loops over a range -/
noncomputable abbrev rIt (a n : Int) : Obj := { cls := .type "range_iterator", data := .fields #[rawInt a, rawInt n, rawInt 1] }
section
variable {w : World} {x : Amb} {n : Nat} {m0 : Loc} {σ0 : Sto} {c : Cfg} {s : Shared} {E : Value → Shared → Prop}
theorem SR.exSwap {m : Loc} {σ : Sto} {c' : Cfg} {h h' : Heap} {I : Addr} {o o' : Obj} {ex : List (Addr × Obj)} (S : SR w x.h₀ x.L m σ c' h) (he : c'.ex = (I, o) :: ex) (hne : ∀ p ∈ ex, p.1 ≠ I) (k : ∀ b q, b ≠ I → h.get? b = some q → h'.get? b = some q) (hI : h'.get? I = some o') :
    SR w x.h₀ x.L m σ { c' with ex := (I, o') :: ex } h' := by
  have hin : (I, o) ∈ c'.ex := by rw [he]; exact .head _
  have hn := S.N (I, o) (List.mem_append.mpr (.inr (List.mem_append.mpr (.inr hin))))
  obtain ⟨oL, eL, pL, hL, r⟩ := S.F.ns
  refine ⟨⟨⟨oL, eL, pL, k _ _ (fun q => hn.2.1 q.symm) hL, r⟩, fun b q e => k b q (fun z => by rw [z, hn.2.2] at e; cases e) (S.F.keep b q e), S.F.above⟩, fun p hp => ?_, fun y v hy => ?_, ⟨S.st.len, S.st.at_, S.st.nd, S.st.dj, fun p hp q hq => ?_, fun p hp q hq => ?_⟩⟩
  · rcases List.mem_append.mp hp with hp | hp
    · exact ⟨k _ _ (S.st.dx p hp _ hin) (S.N p (List.mem_append.mpr (.inl hp))).1, (S.N p (List.mem_append.mpr (.inl hp))).2⟩
    · rcases List.mem_append.mp hp with hp | hp
      · have := S.N p (List.mem_append.mpr (.inr (List.mem_append.mpr (.inl hp))))
        exact ⟨k _ _ (S.st.fx p hp _ hin) this.1, this.2⟩
      · rcases List.mem_cons.mp hp with rfl | hp
        · exact ⟨hI, hn.2⟩
        · have := S.N p (List.mem_append.mpr (.inr (List.mem_append.mpr (.inr (by rw [he]; exact .tail _ hp)))))
          exact ⟨k _ _ (hne p hp) this.1, this.2⟩
  · obtain ⟨val, h1, h2⟩ := S.lo y v hy
    exact ⟨val, h1, h2.ex⟩
  · rcases List.mem_cons.mp hq with rfl | hq
    · exact S.st.dx p hp (I, o) hin
    · exact S.st.dx p hp q (by rw [he]; exact .tail _ hq)
  · rcases List.mem_cons.mp hq with rfl | hq
    · exact S.st.fx p hp (I, o) hin
    · exact S.st.fx p hp q (by rw [he]; exact .tail _ hq)
theorem SR.exAdd {m : Loc} {σ : Sto} {h h' : Heap} {I : Addr} {o : Obj} (S : SR w x.h₀ x.L m σ c h) (k : ∀ b q, h.get? b = some q → h'.get? b = some q) (hn : h.get? I = none) (hI : h'.get? I = some o) : SR w x.h₀ x.L m σ { c with ex := (I, o) :: c.ex } h' := by
  have z := fresh_new S.F k hn hI
  have ne : ∀ p ∈ c.all, p.1 ≠ I := fun p hp q => by have := (S.N p hp).1; rw [q, hn] at this; cases this
  refine ⟨S.F.grownK k, fun p hp => ?_, fun y v hy => ?_, ⟨S.st.len, S.st.at_, S.st.nd, S.st.dj, fun p hp q hq => ?_, fun p hp q hq => ?_⟩⟩
  · rcases List.mem_append.mp hp with hp | hp
    · exact ⟨k _ _ (S.N p (List.mem_append.mpr (.inl hp))).1, (S.N p (List.mem_append.mpr (.inl hp))).2⟩
    · rcases List.mem_append.mp hp with hp | hp
      · have := S.N p (List.mem_append.mpr (.inr (List.mem_append.mpr (.inl hp))))
        exact ⟨k _ _ this.1, this.2⟩
      · rcases List.mem_cons.mp hp with rfl | hp
        · exact z
        · have := S.N p (List.mem_append.mpr (.inr (List.mem_append.mpr (.inr hp))))
          exact ⟨k _ _ this.1, this.2⟩
  · obtain ⟨val, h1, h2⟩ := S.lo y v hy
    exact ⟨val, h1, h2.ex⟩
  · rcases List.mem_cons.mp hq with rfl | hq
    · exact ne p (List.mem_append.mpr (.inl hp))
    · exact S.st.dx p hp q hq
  · rcases List.mem_cons.mp hq with rfl | hq
    · exact ne p (List.mem_append.mpr (.inr (List.mem_append.mpr (.inl hp))))
    · exact S.st.fx p hp q hq
theorem SR.exBack {m : Loc} {σ : Sto} {c' : Cfg} {h : Heap} {ex : List (Addr × Obj)} (S : SR w x.h₀ x.L m σ c' h) (hs : ∀ p ∈ ex, p ∈ c'.ex) : SR w x.h₀ x.L m σ { c' with ex := ex } h := by
  refine ⟨S.F, fun p hp => S.N p ?_, fun y v hy => ?_, ⟨S.st.len, S.st.at_, S.st.nd, S.st.dj, fun p hp q hq => S.st.dx p hp q (hs q hq), fun p hp q hq => S.st.fx p hp q (hs q hq)⟩⟩
  · rcases List.mem_append.mp hp with hp | hp
    · exact List.mem_append.mpr (.inl hp)
    · rcases List.mem_append.mp hp with hp | hp
      · exact List.mem_append.mpr (.inr (List.mem_append.mpr (.inl hp)))
      · exact List.mem_append.mpr (.inr (List.mem_append.mpr (.inr (hs p hp))))
  · obtain ⟨val, h1, h2⟩ := S.lo y v hy
    exact ⟨val, h1, h2.ex⟩
theorem for_range (O : x.Ok w n) (S : SR w x.h₀ x.L m0 σ0 c s.heap) {v : Str} (hv : x.sc.names.lookup v = some .local) (hr : x.sc.names.lookup (T "range") = some .globalImplicit) {ar : Expr} {p pos rp rpos : Pos} {body : List Stmt} {N : Nat} (hN : N ≤ 100000) {J : Nat → Loc → Sto → Prop} {σ1 : Sto}
    (hst : isStarred ar = false)
    (hev : ∀ {Q' : Value → Shared → Prop}, PostE w x m0 c s Q' (vi (N : Int)) σ1 → wpAny (model pw w) x.A (eval ar x.env) Q' E s) (h0 : J 0 m0 σ1)
    (turn : ∀ (i : Nat), i < N → ∀ {m : Loc} {σ : Sto} {c' : Cfg} {s' : Shared} {Qf : Flow → Shared → Prop} {Ef : Value → Shared → Prop}, J i m σ → SR w x.h₀ x.L (putL v (vi (i : Int)) m) σ c' s'.heap →
      (∀ m' σ', J (i + 1) m' σ' → PostS w x c' s' Qf .next m' σ') → wpAny (model pw w) x.A (execs body x.env) Qf Ef s')
    {Q : Flow → Shared → Prop} (P : ∀ m σ, J N m σ → PostS w x c s Q .next m σ) :
    wpAny (model pw w) x.A (exec (.For (.Name v p) (.Call (.Name (T "range") rp) [ar] [] rpos) body [] pos) x.env) Q E s := by
  refine wpAny_For (wpAny_Call_NameR (nameX_B (cl := []) S.F O.X (topRead_of O.T) (v := .type "range") (by kernel_rfl) (by kernel_rfl) (by decide) ?_ O.kind hr)) (fun _ => rfl)
  refine Pv.callWith_type1 (he := starEach_of [] x.env hst) (spliced_more (hev fun val c1 h1 t1 S1 G1 e1 R1 => spliced_none ?_) (starEach_of [] x.env hst))
  obtain ⟨t, rfl⟩ := datD R1
  refine call_range_1 ?_
  refine wpAny_pyIter_range (IsRange.new ..) (small_one (by decide) (by decide) (by omega) (by omega)) ?_
  have hsz : Builtin.Range.rangeSize 0 (N : Int) 1 = (N : Int) := by rw [rangeSize_one]; split <;> omega
  rw [hsz]
  have S2 : SR w x.h₀ x.L m0 σ1 c1 (h1.push { cls := .type "range", data := .fields #[.int 0 t1, .int (N : Int) t, .int 1 (t1 + 1)] }) := ⟨S1.F.push _, fun p hp => ⟨Heap.get?_push_of_some _ (S1.N p hp).1, (S1.N p hp).2⟩, S1.lo, S1.st⟩
  generalize hI : (h1.push { cls := .type "range", data := .fields #[.int 0 t1, .int (N : Int) t, .int 1 (t1 + 1)] }) = hr1 at S2 ⊢
  have S3 := S2.exAdd (h' := hr1.push { cls := .type "range_iterator", data := .fields #[rawInt 0, rawInt (N : Int), rawInt 1] }) (I := hr1.objs.size) (o := rIt ((0 : Nat) : Int) ((N : Int) - ((0 : Nat) : Int))) (fun b q e => Heap.get?_push_of_some _ e) (Heap.get?_none_of_le (Nat.le_refl _)) (by rw [show ((N : Int) - ((0 : Nat) : Int)) = (N : Int) from by omega]; exact Heap.get?_push_size _ rfl)
  have hIx : ∀ p ∈ c1.ex, p.1 ≠ hr1.objs.size := fun p hp => Nat.ne_of_lt (Heap.lt_size (S2.N p (List.mem_append.mpr (.inr (List.mem_append.mpr (.inr hp))))).1)
  have W := Walks.range (prog := pw) (w := w) O.hh hr1.objs.size 0 1 N
  refine codeAny_forLoop_any (fun k s' => ∃ i m σ c' h' tk', k = N - i ∧ i ≤ N ∧ s' = { s with heap := h', toks := tk' } ∧ J i m σ ∧ SR w x.h₀ x.L m σ c' h' ∧ c'.ex = (hr1.objs.size, rIt (i : Int) ((N : Int) - (i : Int))) :: c1.ex ∧ Grow c1 { c' with ex := c1.ex }) ?_ (N - 0)
    ⟨0, m0, σ1, _, _, _, rfl, Nat.zero_le _, rfl, h0, S3, rfl, ⟨fun _ h => h, fun _ _ o h => ⟨o, h⟩, rfl⟩⟩
  rintro k s' ⟨i, m, σ, c', h', tk', rfl, hi, rfl, hJ, S', hex, G'⟩
  have hin : (hr1.objs.size, rIt (i : Int) ((N : Int) - (i : Int))) ∈ c'.all := List.mem_append.mpr (.inr (List.mem_append.mpr (.inr (by rw [hex]; exact .head _))))
  have hit : IsRangeIter h' hr1.objs.size (0 + ((i : Nat) : Int) * 1) ((N : Int) - (i : Nat)) 1 := by
    rw [show (0 + ((i : Nat) : Int) * 1) = (i : Int) from by omega]
    exact (S'.N _ hin).1
  by_cases hlt : i < N
  · refine W.item i { s with heap := h', toks := tk' } _ _ hlt hit ?_
    rintro v' h2 tk2 ⟨t', rfl⟩ hit2 hk2
    have S4 := S'.exSwap (h' := h2) (o' := rIt ((i + 1 : Nat) : Int) ((N : Int) - ((i + 1 : Nat) : Int))) hex hIx (fun b q hb e => hk2 b q (by simpa using hb) e) (by
      have : IsRangeIter h2 hr1.objs.size (0 + ((i + 1 : Nat) : Int) * 1) ((N : Int) - ((i + 1 : Nat) : Int)) 1 := hit2
      rw [show (0 + ((i + 1 : Nat) : Int) * 1) = ((i + 1 : Nat) : Int) from by omega] at this
      exact this)
    refine wpAny_of_eq (a := ()) rfl ?_
    refine assign_Name (store_sound O (s := { s with heap := h2, toks := tk2 }) S4 hv (v := vi (i : Int)) (by rw [show (0 + ((i : Nat) : Int) * 1) = (i : Int) from by omega]; exact DatIn.int _ _) fun c5 h5 t5 S5 G5 => ?_)
    refine turn i hlt (s' := { s with heap := h5, toks := t5 }) hJ S5 fun m' σ' hJ' fv c6 h6 t6 S6 G6 R6 => ?_
    have e6 : fv = .next := R6
    subst e6
    have x6 : c6.ex = (hr1.objs.size, rIt ((i + 1 : Nat) : Int) ((N : Int) - ((i + 1 : Nat) : Int))) :: c1.ex := G6.ex.trans G5.ex
    exact ⟨N - (i + 1), by omega, i + 1, m', σ', c6, h6, t6, rfl, hlt, rfl, hJ', S6, x6, ⟨fun p hp => G6.fz p (G5.fz p (G'.fz p hp)), fun j a o e => by
      obtain ⟨o1, e1⟩ := G'.mu j a o e
      obtain ⟨o2, e2⟩ := G5.mu j a o1 e1
      exact G6.mu j a o2 e2, rfl⟩⟩
  · have hiN : i = N := by omega
    subst hiN
    refine W.done { s with heap := h', toks := tk' } _ _ hit fun h2 tk2 hk2 => ?_
    have S4 : SR w x.h₀ x.L m σ { c' with ex := c1.ex } h' := S'.exBack fun p hp => by rw [hex]; exact .tail _ hp
    have z := S'.N _ hin
    obtain ⟨F5, N5⟩ := keep_but S4.F S4.N z.2.2 (fun q => z.2.1 q.symm) (fun p hp => by
      have hin' : (hr1.objs.size, rIt (i : Int) ((i : Int) - (i : Int))) ∈ c'.ex := by rw [hex]; exact .head _
      rcases List.mem_append.mp hp with hp | hp
      · exact S'.st.dx p hp _ hin'
      · rcases List.mem_append.mp hp with hp | hp
        · exact S'.st.fx p hp _ hin'
        · exact hIx p hp) (fun b q hb e => hk2 b q (by simpa using hb) e)
    refine wpAny_execs_nil ?_
    exact P m σ hJ _ { c' with ex := c1.ex } h2 tk2 (S4.same F5 N5) (G1.trans G') rfl
end
end Mine
end
section
open PySem PySem.W
set_option maxRecDepth 100000
set_option linter.unusedVariables false
namespace Mine
/-! bits one by one -/
noncomputable def bitA (x : Int) (i : Nat) : Int := Int.fmod (Int.fdiv x (2 ^ i)) 2
theorem pow_pos2 (i : Nat) : (0 : Int) < 2 ^ i := Int.pow_pos (by decide)
theorem bitA_eq (x : Int) (i : Nat) : bitA x i = (x / 2 ^ i) % 2 := by
  unfold bitA
  rw [Int.fdiv_eq_ediv_of_nonneg _ (Int.le_of_lt (pow_pos2 i)), Int.fmod_eq_emod_of_nonneg _ (by decide)]
theorem bitA_01 (x : Int) (i : Nat) : bitA x i = 0 ∨ bitA x i = 1 := by
  rw [bitA_eq]; omega
theorem nat_and (m n : Nat) : m &&& n = 2 * ((m / 2) &&& (n / 2)) + (if m % 2 = 1 ∧ n % 2 = 1 then 1 else 0) := by
  have h1 : (m &&& n) / 2 = (m / 2) &&& (n / 2) := Nat.and_div_two
  have h2 := @Nat.and_mod_two_eq_one m n
  have h3 : (m &&& n) % 2 = 0 ∨ (m &&& n) % 2 = 1 := by omega
  split <;> rename_i h
  · have := h2.mpr h; omega
  · rcases h3 with h3 | h3
    · omega
    · exact absurd (h2.mp h3) h
theorem nat_or (m n : Nat) : m ||| n = 2 * ((m / 2) ||| (n / 2)) + (if m % 2 = 1 ∨ n % 2 = 1 then 1 else 0) := by
  have h1 : (m ||| n) / 2 = (m / 2) ||| (n / 2) := Nat.or_div_two
  have h2 := @Nat.or_mod_two_eq_one m n
  have h3 : (m ||| n) % 2 = 0 ∨ (m ||| n) % 2 = 1 := by omega
  split <;> rename_i h
  · have := h2.mpr h; omega
  · rcases h3 with h3 | h3
    · omega
    · exact absurd (h2.mp h3) h
theorem ba_pp (m n : Nat) : Builtin.bitAnd (m : Int) (n : Int) = ((m &&& n : Nat) : Int) := by
  unfold Builtin.bitAnd
  rw [decide_eq_true (Int.natCast_nonneg m), decide_eq_true (Int.natCast_nonneg n)]; rfl
theorem neg_lt (n : Nat) : ¬ 0 ≤ -(n : Int) - 1 := by omega
theorem neg_not (n : Nat) : Builtin.bitNot (-(n : Int) - 1) = (n : Int) := by unfold Builtin.bitNot; omega
theorem ba_pn (m n : Nat) : Builtin.bitAnd (m : Int) (-(n : Int) - 1) = (m : Int) - ((m &&& n : Nat) : Int) := by
  unfold Builtin.bitAnd
  rw [decide_eq_true (Int.natCast_nonneg m), decide_eq_false (neg_lt n), neg_not]; rfl
theorem ba_np (m n : Nat) : Builtin.bitAnd (-(m : Int) - 1) (n : Int) = (n : Int) - ((n &&& m : Nat) : Int) := by
  unfold Builtin.bitAnd
  rw [decide_eq_true (Int.natCast_nonneg n), decide_eq_false (neg_lt m), neg_not]; rfl
theorem ba_nn (m n : Nat) : Builtin.bitAnd (-(m : Int) - 1) (-(n : Int) - 1) = -((m ||| n : Nat) : Int) - 1 := by
  unfold Builtin.bitAnd
  rw [decide_eq_false (neg_lt m), decide_eq_false (neg_lt n), neg_not, neg_not]; rfl
theorem half_n (m : Nat) : (m : Int) / 2 = ((m / 2 : Nat) : Int) := rfl
theorem half_m (m : Nat) : (-(m : Int) - 1) / 2 = -((m / 2 : Nat) : Int) - 1 := by omega
theorem par_n (m : Nat) : (m : Int) % 2 = 1 ↔ m % 2 = 1 := by omega
theorem par_m (m : Nat) : (-(m : Int) - 1) % 2 = 1 ↔ m % 2 = 0 := by omega
theorem sgn (x : Int) : (∃ m : Nat, x = (m : Int)) ∨ ∃ m : Nat, x = -(m : Int) - 1 := by
  rcases Int.lt_or_le x 0 with h | h
  · exact .inr ⟨(-x - 1).toNat, by omega⟩
  · exact .inl ⟨x.toNat, by omega⟩
theorem p01 (m : Nat) : m % 2 = 0 ∨ m % 2 = 1 := by omega
theorem dec2 (m : Nat) : (m : Int) = 2 * ((m / 2 : Nat) : Int) + ((m % 2 : Nat) : Int) := by omega
theorem band_step (x y : Int) : Builtin.bitAnd x y = 2 * Builtin.bitAnd (x / 2) (y / 2) + (if x % 2 = 1 ∧ y % 2 = 1 then 1 else 0) := by
  rcases sgn x with ⟨m, rfl⟩ | ⟨m, rfl⟩ <;> rcases sgn y with ⟨n, rfl⟩ | ⟨n, rfl⟩ <;> have dm := dec2 m <;> have dn := dec2 n
  · rw [half_n, half_n, ba_pp, ba_pp, nat_and m n]
    generalize (m / 2 &&& n / 2 : Nat) = K
    simp only [par_n]
    split <;> simp
  · rw [half_n, half_m, ba_pn, ba_pn, nat_and m n]
    generalize (m / 2 &&& n / 2 : Nat) = K
    simp only [par_n, par_m]
    rcases p01 m with h1 | h1 <;> rcases p01 n with h2 | h2 <;> rw [h1] at dm <;> simp only [h1, h2] <;> simp <;> omega
  · rw [half_m, half_n, ba_np, ba_np, nat_and n m]
    generalize (n / 2 &&& m / 2 : Nat) = K
    simp only [par_n, par_m]
    rcases p01 m with h1 | h1 <;> rcases p01 n with h2 | h2 <;> rw [h2] at dn <;> simp only [h1, h2] <;> simp <;> omega
  · rw [half_m, half_m, ba_nn, ba_nn, nat_or m n]
    generalize (m / 2 ||| n / 2 : Nat) = K
    simp only [par_m]
    rcases p01 m with h1 | h1 <;> rcases p01 n with h2 | h2 <;> simp only [h1, h2] <;> simp <;> omega
theorem nat_or_and (m n : Nat) : (m ||| n) + (m &&& n) = m + n := by
  induction m using Nat.strongRecOn generalizing n with
  | _ m ih =>
    by_cases h : m = 0
    · subst h; simp
    · have := ih (m / 2) (by omega) (n / 2)
      rw [nat_or m n, nat_and m n]
      by_cases h1 : m % 2 = 1 <;> by_cases h2 : n % 2 = 1 <;> simp [h1, h2] <;> omega
theorem band_not (x y : Int) : Builtin.bitAnd x (Builtin.bitNot y) = x - Builtin.bitAnd x y := by
  unfold Builtin.bitAnd Builtin.bitNot
  by_cases hx : 0 ≤ x <;> by_cases hy : 0 ≤ y
  · have hn : ¬ 0 ≤ -y - 1 := by omega
    rw [decide_eq_true hx, decide_eq_true hy, decide_eq_false hn]
    dsimp only
    have e : (-(-y - 1) - 1).toNat = y.toNat := by omega
    rw [e]
  · have hn : 0 ≤ -y - 1 := by omega
    rw [decide_eq_true hx, decide_eq_false hy, decide_eq_true hn]
    dsimp only
    omega
  · have hn : ¬ 0 ≤ -y - 1 := by omega
    rw [decide_eq_false hx, decide_eq_true hy, decide_eq_false hn]
    dsimp only
    have e : (-(-y - 1) - 1).toNat = y.toNat := by omega
    rw [e]
    have := nat_or_and (-x - 1).toNat y.toNat
    rw [Nat.and_comm] at this
    omega
  · have hn : 0 ≤ -y - 1 := by omega
    rw [decide_eq_false hx, decide_eq_false hy, decide_eq_true hn]
    dsimp only
    have := nat_or_and (-x - 1).toNat (-y - 1).toNat
    rw [Nat.and_comm] at this
    omega
noncomputable def sB (f : Nat → Int) : Nat → Int
  | 0 => 0
  | n + 1 => sB f n + f n * 2 ^ n
theorem ediv_pow_succ (x : Int) (n : Nat) : x / 2 ^ (n + 1) = x / 2 ^ n / 2 := by
  rw [Int.pow_succ, ← Int.ediv_ediv_of_nonneg (Int.le_of_lt (pow_pos2 n))]
theorem sum_one (x : Int) : ∀ n, x = sB (bitA x) n + x / 2 ^ n * 2 ^ n
  | 0 => by simp [sB]
  | n + 1 => by
    have ih := sum_one x n
    have e := Int.mul_ediv_add_emod (x / 2 ^ n) 2
    rw [← bitA_eq, ← ediv_pow_succ] at e
    show x = sB (bitA x) n + bitA x n * 2 ^ n + x / 2 ^ (n + 1) * 2 ^ (n + 1)
    have : x / 2 ^ n * 2 ^ n = (2 * (x / 2 ^ (n + 1)) + bitA x n) * 2 ^ n := by rw [e]
    rw [Int.add_mul] at this
    generalize x / 2 ^ (n + 1) = q at this ⊢
    rw [Int.pow_succ]
    have h2 : q * (2 ^ n * 2) = 2 * q * 2 ^ n := by rw [← Int.mul_assoc, Int.mul_comm _ 2, ← Int.mul_assoc]
    omega
theorem sum_and (x y : Int) : ∀ n, Builtin.bitAnd x y = sB (fun i => bitA x i * bitA y i) n + Builtin.bitAnd (x / 2 ^ n) (y / 2 ^ n) * 2 ^ n
  | 0 => by simp [sB]
  | n + 1 => by
    have ih := sum_and x y n
    have e := band_step (x / 2 ^ n) (y / 2 ^ n)
    rw [← ediv_pow_succ, ← ediv_pow_succ, ← bitA_eq, ← bitA_eq] at e
    show _ = sB (fun i => bitA x i * bitA y i) n + bitA x n * bitA y n * 2 ^ n + _ * 2 ^ (n + 1)
    have hb : (if bitA x n = 1 ∧ bitA y n = 1 then (1 : Int) else 0) = bitA x n * bitA y n := by
      rcases bitA_01 x n with h1 | h1 <;> rcases bitA_01 y n with h2 | h2 <;> rw [h1, h2] <;> rfl
    rw [hb] at e
    rw [e, Int.add_mul] at ih
    generalize Builtin.bitAnd (x / 2 ^ (n + 1)) (y / 2 ^ (n + 1)) = q at ih ⊢
    rw [Int.pow_succ]
    have h2 : q * (2 ^ n * 2) = 2 * q * 2 ^ n := by rw [← Int.mul_assoc, Int.mul_comm _ 2, ← Int.mul_assoc]
    omega
inductive LOp where
  | and
  | or
  | xor
  | eqv
  | imp
noncomputable def bt : LOp → Int → Int → Int
  | .and, h, t => h * t
  | .or, h, t => if t > h then t else h
  | .xor, h, t => if (h != t) = true then 1 else 0
  | .eqv, h, t => if (h == t) = true then 1 else 0
  | .imp, h, t => if t > 1 - h then t else 1 - h
noncomputable def bF (l : LOp) (a b : Int) : Nat → Int
  | 0 => 0
  | n + 1 => bF l a b n + bt l (bitA a n) (bitA b n) * 2 ^ n
noncomputable def bitsR (l : LOp) (a b : Int) : Int := if bF l a b 16 > 32767 then bF l a b 16 - 65536 else bF l a b 16
noncomputable def lop : LOp → Int → Int → Int
  | .and, a, b => Builtin.bitAnd a b
  | .or, a, b => Builtin.bitOr a b
  | .xor, a, b => Builtin.bitXor a b
  | .eqv, a, b => -1 - Builtin.bitXor a b
  | .imp, a, b => Builtin.bitOr (-1 - a) b
theorem bt_01 (l : LOp) {h t : Int} (hh : h = 0 ∨ h = 1) (ht : t = 0 ∨ t = 1) : bt l h t = 0 ∨ bt l h t = 1 := by
  rcases hh with rfl | rfl <;> rcases ht with rfl | rfl <;> cases l <;> decide
theorem bF_bound (l : LOp) (a b : Int) : ∀ n, 0 ≤ bF l a b n ∧ bF l a b n < 2 ^ n
  | 0 => by simp [bF]
  | n + 1 => by
    have ih := bF_bound l a b n
    have hp := pow_pos2 n
    show 0 ≤ bF l a b n + bt l (bitA a n) (bitA b n) * 2 ^ n ∧ bF l a b n + bt l (bitA a n) (bitA b n) * 2 ^ n < 2 ^ (n + 1)
    rw [Int.pow_succ]
    rcases bt_01 l (bitA_01 a n) (bitA_01 b n) with q | q <;> rw [q] <;> omega
theorem bt_lin (l : LOp) {h t : Int} (hh : h = 0 ∨ h = 1) (ht : t = 0 ∨ t = 1) : bt l h t = match l with
    | .and => h * t
    | .or => h + t - h * t
    | .xor => h + t - 2 * (h * t)
    | .eqv => 1 - (h + t - 2 * (h * t))
    | .imp => 1 - h + h * t := by
  rcases hh with rfl | rfl <;> rcases ht with rfl | rfl <;> cases l <;> decide
theorem bF_lin (l : LOp) (a b : Int) : ∀ n, bF l a b n = match l with
    | .and => sB (fun i => bitA a i * bitA b i) n
    | .or => sB (bitA a) n + sB (bitA b) n - sB (fun i => bitA a i * bitA b i) n
    | .xor => sB (bitA a) n + sB (bitA b) n - 2 * sB (fun i => bitA a i * bitA b i) n
    | .eqv => 2 ^ n - 1 - (sB (bitA a) n + sB (bitA b) n - 2 * sB (fun i => bitA a i * bitA b i) n)
    | .imp => 2 ^ n - 1 - sB (bitA a) n + sB (fun i => bitA a i * bitA b i) n
  | 0 => by cases l <;> rfl
  | n + 1 => by
    have ih := bF_lin l a b n
    show bF l a b n + bt l (bitA a n) (bitA b n) * 2 ^ n = _
    have hp : (2 : Int) ^ (n + 1) = 2 ^ n * 2 := Int.pow_succ ..
    rw [bt_lin l (bitA_01 a n) (bitA_01 b n), ih]
    clear ih
    cases l <;> simp only [sB, hp, Int.add_mul, Int.sub_mul, Int.mul_assoc 2, Int.one_mul] <;> omega
theorem top_one {a : Int} (a1 : -32768 ≤ a) (a2 : a ≤ 32767) : a = sB (bitA a) 15 - 32768 * bitA a 15 ∧ ((a / 32768 = 0 ∧ bitA a 15 = 0) ∨ (a / 32768 = -1 ∧ bitA a 15 = 1)) := by
  have p15 : (2 : Int) ^ 15 = 32768 := by decide
  have s := sum_one a 15
  have e := bitA_eq a 15
  rw [p15] at s e
  generalize sB (bitA a) 15 = S at s ⊢
  generalize bitA a 15 = t at e ⊢
  exact ⟨by omega, by omega⟩
theorem top_and {a b : Int} (a1 : -32768 ≤ a) (a2 : a ≤ 32767) (b1 : -32768 ≤ b) (b2 : b ≤ 32767) : Builtin.bitAnd a b = sB (fun i => bitA a i * bitA b i) 15 - 32768 * (bitA a 15 * bitA b 15) := by
  have p15 : (2 : Int) ^ 15 = 32768 := by decide
  have s := sum_and a b 15
  rw [p15] at s
  rw [s]
  rcases (top_one a1 a2).2 with ⟨h1, h2⟩ | ⟨h1, h2⟩ <;> rcases (top_one b1 b2).2 with ⟨h3, h4⟩ | ⟨h3, h4⟩ <;> rw [h1, h2, h3, h4]
  · rw [show Builtin.bitAnd 0 0 = 0 from by decide]; omega
  · rw [show Builtin.bitAnd 0 (-1) = 0 from by decide]; omega
  · rw [show Builtin.bitAnd (-1) 0 = 0 from by decide]; omega
  · rw [show Builtin.bitAnd (-1) (-1) = -1 from by decide]; omega
theorem bitsR_top (l : LOp) (a b : Int) : bitsR l a b = bF l a b 15 - 32768 * bt l (bitA a 15) (bitA b 15) := by
  have p15 : (2 : Int) ^ 15 = 32768 := by decide
  have hP := bF_bound l a b 15
  have e16 : bF l a b 16 = bF l a b 15 + bt l (bitA a 15) (bitA b 15) * 2 ^ 15 := rfl
  unfold bitsR
  rw [e16]
  rw [p15] at hP ⊢
  generalize bF l a b 15 = P at hP ⊢
  rcases bt_01 l (bitA_01 a 15) (bitA_01 b 15) with q | q <;> rw [q] <;> split <;> omega
theorem bits_law (l : LOp) {a b : Int} (a1 : -32768 ≤ a) (a2 : a ≤ 32767) (b1 : -32768 ≤ b) (b2 : b ≤ 32767) : bitsR l a b = lop l a b := by
  have p15 : (2 : Int) ^ 15 = 32768 := by decide
  have sa := (top_one a1 a2).1
  have sb := (top_one b1 b2).1
  have sab := top_and a1 a2 b1 b2
  have xo := PyProof.Rows.bitXor_and a b
  have orx : Builtin.bitOr a b = Builtin.bitXor a b + Builtin.bitAnd a b := by unfold Builtin.bitXor; omega
  have imp : Builtin.bitOr (-1 - a) b = -1 - a + Builtin.bitAnd a b := by
    unfold Builtin.bitOr
    have e : Builtin.bitNot (-1 - a) = a := by unfold Builtin.bitNot; omega
    rw [e]
    rw [band_not]
    unfold Builtin.bitNot
    omega
  rw [bitsR_top, bF_lin, bt_lin l (bitA_01 a 15) (bitA_01 b 15)]
  generalize sB (fun i => bitA a i * bitA b i) 15 = Z at sab ⊢
  generalize sB (bitA a) 15 = Sa at sa ⊢
  generalize sB (bitA b) 15 = Sb at sb ⊢
  generalize bitA a 15 * bitA b 15 = m at sab ⊢
  generalize bitA a 15 = ta at sa ⊢
  generalize bitA b 15 = tb at sb ⊢
  cases l <;> simp only [lop, p15]
  · omega
  · clear imp; omega
  · clear imp orx; omega
  · clear imp orx; omega
  · rw [imp]; clear imp orx xo sb; omega
end Mine
end
section
open PySem PySem.W PyProof.Rows PySem.Calls PySem.Spec
set_option maxRecDepth 100000
set_option linter.unusedVariables false
namespace Mine
/-! _law_bits -/
noncomputable def forB : Stmt → List Stmt
  | .For _ _ b _ _ => b
  | _ => []
noncomputable def bSt (i : Nat) : Stmt := ((sBody (stm 61))[i]?).getD noStm
noncomputable abbrev scB : Scope := sScope (stm 61)
noncomputable def LOp.s : LOp → String
  | .and => "AND"
  | .or => "OR"
  | .xor => "XOR"
  | .eqv => "EQV"
  | .imp => "IMP"
noncomputable abbrev bM0 (l : LOp) (f a b : Int) : Mine.Loc := [(T "found", vi f), (T "other", vi b), (T "one", vi a), (T "word", vs (T l.s))]
noncomputable abbrev bM (l : LOp) (i : Nat) (f a b : Int) : Mine.Loc := (T "at", vi (i : Int)) :: bM0 l f a b
noncomputable abbrev hh (a : Int) (i : Nat) : Int := Int.fmod (Int.fdiv a (2 ^ i)) 2
noncomputable abbrev bMe (l : LOp) (i : Nat) (f a b : Int) : Mine.Loc := (T "found", vi (f + bt l (hh a i) (hh b i) * 2 ^ i)) ::
  (T "told", .dc [(T "AND", .int (hh a i * hh b i)), (T "OR", .int (if hh b i > hh a i then hh b i else hh a i)), (T "XOR", .int (if (hh a i != hh b i) = true then 1 else 0)), (T "EQV", .int (if (hh a i == hh b i) = true then 1 else 0))]) ::
  (T "here", vi (hh a i)) :: (T "there", vi (hh b i)) :: bM l i f a b
section
variable (w : World) (B : Nat) (σ : Sto) (ω : Om) (K : Fl → Mine.Loc → Sto → Om → Prop) (X : KX) (f a b : Int) (i : Nat)
noncomputable abbrev pw2 (p : Prop) : Prop := chk ((2 : Int) == 2 && decide (0 ≤ (i : Int)) && decide ((i : Int) ≤ 63)) p
noncomputable abbrev dv2 (a : Int) (p : Prop) : Prop := chk (!((2 : Int) ^ i == 0) && Nat.ble a.natAbs 1073741823 && Nat.ble ((2 : Int) ^ i).natAbs 1073741823) (chk (!((2 : Int) == 0)) p)
noncomputable abbrev ml2 (x y : Int) (p : Prop) : Prop := chk (Nat.ble x.natAbs 4294967295 && Nat.ble y.natAbs 4294967295) p
theorem bb (l : LOp) : exL (ev (spW w B noOrc) 40) scB (forB (bSt 1)) (bM l i f a b) σ ω K X =
    pw2 i (dv2 i a (pw2 i (dv2 i b (ml2 (hh a i) (hh b i) (pw2 i (ml2 (bt l (hh a i) (hh b i)) ((2 : Int) ^ i) (K .next (bMe l i f a b) σ ω))))))) := by
  cases l <;> kernel_rfl
theorem b_init (l : LOp) : (ev (spW w B noOrc) 40).s scB [(T "other", vi b), (T "one", vi a), (T "word", vs (T l.s))] σ ω (bSt 0) K X = K .next [(T "found", vi 0), (T "other", vi b), (T "one", vi a), (T "word", vs (T l.s))] σ ω := by kernel_rfl
theorem b_ret (d : Bool) : (ev (spW w B noOrc) 40).s scB [(T "found", vi f)] σ (.b d :: ω) (bSt 2) K X = g (decide ((32767 : Int) < f)) d (K (.ret (vi (if d then f - 65536 else f))) [(T "found", vi f)] σ ω) := by
  cases d <;> kernel_rfl
theorem b_16 (sc : Scope) (m : Mine.Loc) (k : Nat) (p : Pos) (KK : KE) : (ev (spW w B noOrc) 40).e sc m σ ω (.Constant (.int 16) k p) KK X = KK (vi 16) σ ω := by kernel_rfl
end
theorem bBody_eq : sBody (stm 61) = [bSt 0, bSt 1, bSt 2] := rfl
theorem bFor_eq : ∃ p rp rpos k p' pos, bSt 1 = .For (.Name (T "at") p) (.Call (.Name (T "range") rp) [.Constant (.int 16) k p'] [] rpos) (forB (bSt 1)) [] pos := ⟨_, _, _, _, _, _, rfl⟩
theorem bits_ok {w : World} (R0 : Rules w) (l : LOp) {a b : Int} (ha : Sm 40000 a) (hb : Sm 40000 b) (σ : Sto) : CWp w 60 421 [vs (T l.s), vi a, vi b] σ (.ok (vi (bitsR l a b))) σ := by
  refine ⟨?_⟩
  intro x m c s Q E vals O S hargs P PX
  have H := ev_sound R0 (spOk w 0 noOrc) 40
  have a1 := ha.lo; have a2 := ha.hi; have b1 := hb.lo; have b2 := hb.hi
  refine call_wp (n := 59) (O.less (by omega)) S hargs (show lookA 421 defs = some (stm 61) from rfl) rfl (R := fun v σ' => v = vi (bitsR l a b) ∧ σ' = σ) (XR := fun _ _ => False) ?_ (fun v σ' kk => ?_) (fun d σ' kk => kk.elim)
  · intro x' c' s' Qf Ef O' hsc S' P' PX'
    have O2 := O'.less (show 40 ≤ 59 by omega)
    rw [bBody_eq]
    refine wpAny_execs_cons (H.s (X := fun _ _ _ => False) O2 S' (by rw [hsc]; exact ofE (b_init w 0 σ [] (fun f m' σ' _ => f = .next ∧ m' = bM0 l 0 a b ∧ σ = σ') (fun _ _ _ => False) a b l) ⟨rfl, rfl, rfl⟩) ?_ (fun _ _ _ f => False.elim f))
    rintro f m' σ' ω' ⟨rfl, rfl, rfl⟩ fv c1 h1 t1 S1 G1 R1
    have e1 : fv = .next := R1
    subst e1
    obtain ⟨p, rp, rpos, k, p', pos, e⟩ := bFor_eq
    rw [e]
    refine wpAny_execs_cons (for_range (s := { s' with heap := h1, toks := t1 }) (N := 16) O2 S1 (J := fun i m σ' => σ = σ' ∧ ∀ y v, look y (bM0 l (bF l a b i) a b) = some v → look y m = some v) (by rw [hsc]; kernel_rfl) (by rw [hsc]; kernel_rfl) (by decide) rfl (σ1 := σ) ?_ ⟨rfl, fun y v h => h⟩ ?_ ?_)
    · intro Q' hp
      refine H.e (X := fun _ _ _ => False) (s := { s' with heap := h1, toks := t1 }) O2 S1 (by rw [hsc]; exact ofE (b_16 w 0 σ [] (fun _ _ _ => False) _ _ k p' (fun v σ' _ => v = vi 16 ∧ σ = σ')) ⟨rfl, rfl⟩) ?_ (fun _ _ _ f => False.elim f)
      rintro v σ' ω' ⟨rfl, rfl⟩
      exact hp
    · rintro i hi m2 σ2 c2 s2 Qf2 Ef2 ⟨rfl, hl⟩ S2 P2
      have S3 := S2.sub (m' := bM l i (bF l a b i) a b) fun y v hy => by
        unfold putL look
        unfold bM look at hy
        split at hy
        · first | exact hy | (rename_i q; rw [q]; exact hy)
        · first | exact hl y v hy | (rename_i q; rw [q]; exact hl y v hy)
      have hp : (2 : Int) ^ i ≤ 32768 := (show ∀ j : Nat, j < 16 → (2 : Int) ^ j ≤ 32768 by decide) i hi
      have hp0 := pow_pos2 i
      have A := bitA_01 a i
      have Bb := bitA_01 b i
      have Tt := bt_01 l A Bb
      have eh : hh a i = bitA a i := rfl
      have eh2 : hh b i = bitA b i := rfl
      refine exL_sound H O2 _ S3 (K := fun f m' σ' _ => f = .next ∧ m' = bMe l i (bF l a b i) a b ∧ σ = σ') (X := fun _ _ _ => False) (by
        rw [hsc]
        refine ofE (bb w 0 σ [] _ _ (bF l a b i) a b i l) ?_
        have q1 : ((2 : Int) == 2 && decide (0 ≤ (i : Int)) && decide ((i : Int) ≤ 63)) = true := by rw [decide_eq_true (by omega), decide_eq_true (by omega)]; rfl
        have q2 : ∀ {z : Int}, z.natAbs ≤ 1073741823 → (!((2 : Int) ^ i == 0) && Nat.ble z.natAbs 1073741823 && Nat.ble ((2 : Int) ^ i).natAbs 1073741823) = true := fun hz => by
          rw [nble hz, nble (by omega)]
          have : ((2 : Int) ^ i == 0) = false := by simp only [beq_eq_false_iff_ne, ne_eq]; omega
          rw [this]; rfl
        refine chk_of q1 (chk_of (q2 (by omega)) (chk_of rfl (chk_of q1 (chk_of (q2 (by omega)) (chk_of rfl (chk_of ?_ (chk_of q1 (chk_of ?_ ⟨rfl, rfl, rfl⟩))))))))
        · rw [eh, eh2, nble (by omega), nble (by omega)]; rfl
        · rw [eh, eh2, nble (by omega), nble (by omega)]; rfl) ?_ (fun _ _ _ f => False.elim f)
      rintro f m' σ' ω' ⟨rfl, rfl, rfl⟩ fv c3 h3 t3 S4 G4 R4
      have e4 : fv = .next := R4
      subst e4
      refine P2 _ _ ⟨rfl, ?_⟩ _ c3 h3 t3 S4 G4 rfl
      intro y v hy
      unfold bM0 look at hy
      split at hy
      · rename_i q; cases eq_of_beq q; cases hy; rfl
      · unfold look at hy
        split at hy
        · rename_i q; cases eq_of_beq q; cases hy; rfl
        · unfold look at hy
          split at hy
          · rename_i q; cases eq_of_beq q; cases hy; rfl
          · unfold look at hy
            split at hy
            · rename_i q; cases eq_of_beq q; cases hy; rfl
            · cases hy
    · rintro m2 σ2 ⟨rfl, hl⟩ fv c2 h2 t2 S2 G2 R2
      have e2 : fv = .next := R2
      subst e2
      have S3 := S2.sub (m' := [(T "found", vi (bF l a b 16))]) fun y v hy => by
        unfold look at hy
        split at hy
        · rename_i q; cases eq_of_beq q; cases hy; exact hl _ _ rfl
        · cases hy
      refine wpAny_execs_cons (H.s (X := fun _ _ _ => False) (s := { s' with heap := h2, toks := t2 }) O2 S3 (by rw [hsc]; exact ofE (b_ret w 0 σ [] (fun f m' σ' _ => f = .ret (vi (bitsR l a b)) ∧ σ = σ') (fun _ _ _ => False) (bF l a b 16) (decide ((32767 : Int) < bF l a b 16))) (g_of rfl ⟨by
          unfold bitsR
          by_cases h : (32767 : Int) < bF l a b 16
          · rw [decide_eq_true h]; simp [h]
          · rw [decide_eq_false h]; simp [h], rfl⟩)) ?_ (fun _ _ _ f => False.elim f))
      rintro f m' σ' ω' ⟨rfl, rfl⟩ fv c3 h3 t3 S4 G4 R4
      obtain ⟨val, rfl, R4⟩ := R4
      exact P' _ m' _ ⟨rfl, rfl⟩ _ c3 h3 t3 S4 (G1.trans (G2.trans G4)) ⟨val, rfl, R4⟩
  · obtain ⟨rfl, rfl⟩ := kk
    exact P _ rfl
end Mine
end
section
open PySem PySem.W PyProof.Rows PySem.Calls PySem.Spec
set_option maxRecDepth 100000
set_option linter.unusedVariables false
namespace Mine
/-! _law_two -/
noncomputable def oBt : Addr → Bool := fun f => Nat.beq f 421
noncomputable def resD : Res → Dat
  | .val d => .tuple [.str (T "value"), d]
  | .bad c => .tuple [.str (T "bad"), .str c]
noncomputable def metL : Op → List Int
  | .eq => [0]
  | .ne => [1, 0 - 1]
  | .lt => [0 - 1]
  | .ge => [0, 1]
  | .le => [0, 0 - 1]
  | .gt => [1]
  | _ => []
noncomputable abbrev ci (x y : Bool) : Int := (if x = true then 1 else 0) - (if y = true then 1 else 0)
noncomputable abbrev cmpR (op : Op) (o : Int) : Int := 0 - (if ((metL op).any fun y => y == o) = true then 1 else 0)
noncomputable def toL : Op → LOp
  | .or => .or
  | .xor => .xor
  | .eqv => .eqv
  | .imp => .imp
  | _ => .and
noncomputable def isLog : Op → Bool
  | .and | .or | .xor | .eqv | .imp => true
  | _ => false
section
variable (w : World) (B : Nat) (a b r : Int) (s t : Str) (σ σa : Sto) (ω : Om) (K : KE) (X : KX)
noncomputable abbrev l2 (op : Op) (a b : Dat) (ω : Om) : Prop := (ev (spW w B oBt) 40).c 428 [vs (T op.s), .d a, .d b] σ ω K X
noncomputable abbrev vK (d : Dat) (ω : Om) : Prop := K (.d (.tuple [.str (T "value"), d])) σ ω
noncomputable abbrev bK (c : String) (ω : Om) : Prop := K (.d (.tuple [.str (T "bad"), .str (T c)])) σ ω
theorem l2_cmp (op : Op) (h : isCmp op = true) : l2 w B σ K X op (.int a) (.int b) ω = vK σ K (.int (cmpR op (ci (decide (b < a)) (decide (a < b))))) ω := by
  cases op <;> first | exact absurd h (by decide) | kernel_rfl
theorem l2_cmpS (op : Op) (h : isCmp op = true) : l2 w B σ K X op (.str s) (.str t) ω = vK σ K (.int (cmpR op (ci (decide (t.cps.toList < s.cps.toList)) (decide (s.cps.toList < t.cps.toList))))) ω := by
  cases op <;> first | exact absurd h (by decide) | kernel_rfl
theorem l2_add : l2 w B σ K X .add (.int a) (.int b) ω = ml2 a b (vK σ K (.int (a + b)) ω) := by kernel_rfl
theorem l2_sub : l2 w B σ K X .sub (.int a) (.int b) ω = ml2 a b (vK σ K (.int (a - b)) ω) := by kernel_rfl
theorem l2_mul : l2 w B σ K X .mul (.int a) (.int b) ω = ml2 a b (vK σ K (.int (a * b)) ω) := by kernel_rfl
theorem l2_dz : l2 w B σ K X .div (.int a) (.int b) (.b true :: ω) = g (b == 0) true (bK σ K "DZ" ω) := by kernel_rfl
theorem l2_mz : l2 w B σ K X .mod (.int a) (.int b) (.b true :: ω) = g (b == 0) true (bK σ K "DZ" ω) := by kernel_rfl
noncomputable abbrev dvC (p : Prop) : Prop := divC a b p
theorem l2_dt : l2 w B σ K X .div (.int a) (.int b) (.b false :: .b true :: ω) = g (b == 0) false (divC a b (g (decide (a < 0) == decide (b < 0)) true (ml2 (quot a b) 1 (vK σ K (.int (quot a b * 1)) ω)))) := by kernel_rfl
theorem l2_df : l2 w B σ K X .div (.int a) (.int b) (.b false :: .b false :: ω) = g (b == 0) false (divC a b (g (decide (a < 0) == decide (b < 0)) false (ml2 (quot a b) (0 - 1) (vK σ K (.int (quot a b * (0 - 1))) ω)))) := by kernel_rfl
theorem l2_mt : l2 w B σ K X .mod (.int a) (.int b) (.b false :: .b true :: ω) = g (b == 0) false (divC a b (g (decide (a < 0) == decide (b < 0)) true (ml2 (quot a b) 1 (ml2 (quot a b * 1) b (vK σ K (.int (a - quot a b * 1 * b)) ω))))) := by kernel_rfl
theorem l2_mf : l2 w B σ K X .mod (.int a) (.int b) (.b false :: .b false :: ω) = g (b == 0) false (divC a b (g (decide (a < 0) == decide (b < 0)) false (ml2 (quot a b) (0 - 1) (ml2 (quot a b * (0 - 1)) b (vK σ K (.int (a - quot a b * (0 - 1) * b)) ω))))) := by kernel_rfl
theorem l2_log (op : Op) (h : isLog op = true) : l2 w B σ K X op (.int a) (.int b) (.call (.ok (vi r)) σa :: ω) = (CWp w B 421 [vs (T (toL op).s), vi a, vi b] σ (.ok (vi r)) σa ∧ vK σa K (.int r) ω) := by
  cases op <;> first | exact absurd h (by decide) | kernel_rfl
theorem l2_catT : l2 w B σ K X .add (.str s) (.str t) (.b true :: ω) = chk (Nat.ble (s.length + t.length) 4096) (chk (Nat.ble (s ++ t).length 4096) (g (decide (((s ++ t).length : Int) ≤ 255)) true (chk (Nat.ble (s.length + t.length) 4096) (vK σ K (.str (s ++ t)) ω)))) := by kernel_rfl
theorem l2_catF : l2 w B σ K X .add (.str s) (.str t) (.b false :: ω) = chk (Nat.ble (s.length + t.length) 4096) (chk (Nat.ble (s ++ t).length 4096) (g (decide (((s ++ t).length : Int) ≤ 255)) false (bK σ K "LS" ω))) := by kernel_rfl
theorem l2_tmS (op : Op) (h : isCmp op = false) (h2 : op ≠ .add) : l2 w B σ K X op (.str s) (.str t) ω = bK σ K "TM" ω := by
  cases op <;> first | exact absurd h (by decide) | exact absurd rfl h2 | kernel_rfl
theorem l2_is (op : Op) : l2 w B σ K X op (.int a) (.str t) ω = bK σ K "TM" ω := by cases op <;> kernel_rfl
theorem l2_si (op : Op) : l2 w B σ K X op (.str s) (.int b) ω = bK σ K "TM" ω := by cases op <;> kernel_rfl
end
theorem ci_01 (x y : Bool) : ci x y = 0 ∨ ci x y = 1 ∨ ci x y = -1 := by cases x <;> cases y <;> decide
theorem b2i_eq (x : Bool) : b2i x = if x = true then (1 : Int) else 0 := by cases x <;> rfl
theorem cmp_eq (op : Op) (h : isCmp op = true) {o : Int} (ho : o = 0 ∨ o = 1 ∨ o = -1) : cmpR op o = if cmpT o op = true then -1 else 0 := by
  rcases ho with rfl | rfl | rfl <;> cases op <;> first | exact absurd h (by decide) | decide
theorem op2_cmp (op : Op) (h : isCmp op = true) (a b : Int) : op2 op (.int a) (.int b) = .val (.int (cmpR op (ci (decide (b < a)) (decide (a < b))))) := by
  have e : ordr a b = ci (decide (b < a)) (decide (a < b)) := by unfold ordr ci; rw [b2i_eq, b2i_eq]
  rw [cmp_eq op h (ci_01 _ _), ← e]
  cases op <;> first | exact absurd h (by decide) | rfl
theorem op2_cmpS (op : Op) (h : isCmp op = true) (s t : Str) : op2 op (.str s) (.str t) = .val (.int (cmpR op (ci (decide (t.cps.toList < s.cps.toList)) (decide (s.cps.toList < t.cps.toList))))) := by
  have e : ordS s t = ci (decide (t.cps.toList < s.cps.toList)) (decide (s.cps.toList < t.cps.toList)) := by unfold ordS ci; rw [b2i_eq, b2i_eq]
  rw [cmp_eq op h (ci_01 _ _), ← e]
  cases op <;> first | exact absurd h (by decide) | rfl
theorem op2_log (op : Op) (h : isLog op = true) {a b : Int} (ha : Sm 2000 a) (hb : Sm 2000 b) : op2 op (.int a) (.int b) = .val (.int (bitsR (toL op) a b)) := by
  have := ha.lo; have := ha.hi; have := hb.lo; have := hb.hi
  rw [bits_law (toL op) (by omega) (by omega) (by omega) (by omega)]
  cases op <;> first | exact absurd h (by decide) | rfl
theorem two_ok {w : World} (R0 : Rules w) (op : Op) {a b : Dat} (ha : isV a = true) (hb : isV b = true) (h : okArgs op a b) (σ : Sto) : CWp w 100 428 [vs (T op.s), .d a, .d b] σ (.ok (.d (resD (op2 op a b)))) σ := by
  cases a with
  | int a => cases b with
    | int b =>
      obtain ⟨ha', hb', hm⟩ := h
      have a1 := ha'.lo; have a2 := ha'.hi; have b1 := hb'.lo; have b2 := hb'.hi
      have mk : ∀ {p : Prop}, p → ml2 a b p := fun k => chk_of (by rw [nble (by omega), nble (by omega)]; rfl) k
      have dc : b ≠ 0 → ∀ {p : Prop}, p → divC a b p := fun hz _ k => chk_of (by
        have h1 := iabs_le ha'; have h2 := iabs_le hb'
        have h3 : iabs b ≠ 0 := by unfold iabs; split <;> omega
        rw [nble (by omega), nble (by omega)]; simp [h3]) k
      by_cases hc : isCmp op = true
      · rw [op2_cmp op hc]
        exact CWp.of (B := 60) (k := 40) (orc := oBt) R0 (ofE (l2_cmp w 60 a b σ [] _ _ op hc) ⟨rfl, rfl⟩)
      · by_cases hl : isLog op = true
        · rw [op2_log op hl ha' hb']
          exact CWp.of (B := 60) (k := 40) (orc := oBt) R0 (ofE (l2_log w 60 a b _ σ σ [] _ _ op hl) ⟨bits_ok R0 _ ⟨by omega, by omega⟩ ⟨by omega, by omega⟩ σ, rfl, rfl⟩)
        · cases op with
          | add => exact CWp.of (B := 60) (k := 40) (orc := oBt) R0 (ofE (l2_add w 60 a b σ [] _ _) (mk ⟨rfl, rfl⟩))
          | sub => exact CWp.of (B := 60) (k := 40) (orc := oBt) R0 (ofE (l2_sub w 60 a b σ [] _ _) (mk ⟨rfl, rfl⟩))
          | mul => exact CWp.of (B := 60) (k := 40) (orc := oBt) R0 (ofE (l2_mul w 60 a b σ [] _ _) (mk ⟨rfl, rfl⟩))
          | div =>
            rw [show op2 .div (.int a) (.int b) = (if b = 0 then .bad (T "DZ") else .val (.int (sq a b))) from rfl]
            by_cases hz : b = 0
            · rw [if_pos hz]
              exact CWp.of (B := 60) (k := 40) (orc := oBt) (ω := .b true :: []) R0 (ofE (l2_dz w 60 a b σ [] _ _) (g_of (by simp [hz]) ⟨rfl, rfl⟩))
            · rw [if_neg hz]
              have q0 := quot_le (b := b) ha' hz
              cases hs : (decide (a < 0) == decide (b < 0)) with
              | true =>
                rw [show sq a b = quot a b * 1 from by unfold sq; rw [hs]; simp]
                exact CWp.of (B := 60) (k := 40) (orc := oBt) (ω := .b false :: .b true :: []) R0 (ofE (l2_dt w 60 a b σ [] _ _) (g_of (by simp [hz]) (dc hz (g_of hs (chk_of (by rw [nble (by omega), nble (by omega)]; rfl) ⟨rfl, rfl⟩)))))
              | false =>
                rw [show sq a b = quot a b * (0 - 1) from by unfold sq; rw [hs]; simp only [Bool.false_eq_true, if_false]; omega]
                exact CWp.of (B := 60) (k := 40) (orc := oBt) (ω := .b false :: .b false :: []) R0 (ofE (l2_df w 60 a b σ [] _ _) (g_of (by simp [hz]) (dc hz (g_of hs (chk_of (by rw [nble (by omega), nble (by omega)]; rfl) ⟨rfl, rfl⟩)))))
          | mod =>
            rw [show op2 .mod (.int a) (.int b) = (if b = 0 then .bad (T "DZ") else .val (.int (a - b * sq a b))) from rfl]
            by_cases hz : b = 0
            · rw [if_pos hz]
              exact CWp.of (B := 60) (k := 40) (orc := oBt) (ω := .b true :: []) R0 (ofE (l2_mz w 60 a b σ [] _ _) (g_of (by simp [hz]) ⟨rfl, rfl⟩))
            · rw [if_neg hz]
              have q0 := quot_le (b := b) ha' hz
              cases hs : (decide (a < 0) == decide (b < 0)) with
              | true =>
                rw [show b * sq a b = quot a b * 1 * b from by unfold sq; rw [hs]; simp [Int.mul_comm]]
                exact CWp.of (B := 60) (k := 40) (orc := oBt) (ω := .b false :: .b true :: []) R0 (ofE (l2_mt w 60 a b σ [] _ _) (g_of (by simp [hz]) (dc hz (g_of hs (chk_of (by rw [nble (by omega), nble (by omega)]; rfl) (chk_of (by rw [nble (by omega), nble (by omega)]; rfl) ⟨rfl, rfl⟩))))))
              | false =>
                rw [show b * sq a b = quot a b * (0 - 1) * b from by
                  unfold sq; rw [hs]
                  have : (0 - quot a b) = quot a b * (0 - 1) := by omega
                  simp only [Bool.false_eq_true, if_false]
                  rw [this, Int.mul_comm]]
                exact CWp.of (B := 60) (k := 40) (orc := oBt) (ω := .b false :: .b false :: []) R0 (ofE (l2_mf w 60 a b σ [] _ _) (g_of (by simp [hz]) (dc hz (g_of hs (chk_of (by rw [nble (by omega), nble (by omega)]; rfl) (chk_of (by rw [nble (by omega), nble (by omega)]; rfl) ⟨rfl, rfl⟩))))))
          | _ => first | exact absurd rfl hc | exact absurd rfl hl
    | str t => exact CWp.of (B := 60) (k := 40) (orc := oBt) R0 (ofE (l2_is w 60 a t σ [] _ _ op) ⟨rfl, rfl⟩)
    | _ => cases hb
  | str s => cases b with
    | int b => exact CWp.of (B := 60) (k := 40) (orc := oBt) R0 (ofE (l2_si w 60 b s σ [] _ _ op) ⟨rfl, rfl⟩)
    | str t =>
      obtain ⟨h1, h2⟩ := h
      have hl : (s ++ t).length = s.length + t.length := by show (s.cps ++ t.cps).size = s.cps.size + t.cps.size; simp
      by_cases hc : isCmp op = true
      · rw [op2_cmpS op hc]
        exact CWp.of (B := 60) (k := 40) (orc := oBt) R0 (ofE (l2_cmpS w 60 s t σ [] _ _ op hc) ⟨rfl, rfl⟩)
      · by_cases ho : op = .add
        · subst ho
          have c1 : Nat.ble (s.length + t.length) 4096 = true := nble (by omega)
          have c2 : Nat.ble (s ++ t).length 4096 = true := nble (by rw [hl]; omega)
          rw [show op2 .add (.str s) (.str t) = (if (s ++ t).length ≤ 255 then .val (.str (s ++ t)) else .bad (T "LS")) from rfl]
          by_cases hx : (s ++ t).length ≤ 255
          · rw [if_pos hx]
            exact CWp.of (B := 60) (k := 40) (orc := oBt) (ω := .b true :: []) R0 (ofE (l2_catT w 60 s t σ [] _ _) (chk_of c1 (chk_of c2 (g_of (by simp; omega) (chk_of c1 ⟨rfl, rfl⟩)))))
          · rw [if_neg hx]
            exact CWp.of (B := 60) (k := 40) (orc := oBt) (ω := .b false :: []) R0 (ofE (l2_catF w 60 s t σ [] _ _) (chk_of c1 (chk_of c2 (g_of (by simp; omega) ⟨rfl, rfl⟩))))
        · have e : op2 op (.str s) (.str t) = .bad (T "TM") := by cases op <;> first | rfl | exact absurd rfl hc | exact absurd rfl ho
          rw [e]
          exact CWp.of (B := 60) (k := 40) (orc := oBt) R0 (ofE (l2_tmS w 60 s t σ [] _ _ op (Bool.eq_false_iff.mpr hc) ho) ⟨rfl, rfl⟩)
    | _ => cases hb
  | _ => cases ha
end Mine
end
section
open PySem PySem.W PyProof.Rows PySem.Calls PySem.Spec
set_option maxRecDepth 100000
set_option linter.unusedVariables false
namespace Mine
/-! _law_asked, _law_worth -/
noncomputable def oLw : Addr → Bool := fun f => Nat.beq f 442 || Nat.beq f 435 || Nat.beq f 428
section
variable (w : World) (B : Nat) (a r : Int) (s t : Str) (σ σa σb σc : Sto) (ω : Om) (K : KE) (X : KX) (j : Nat) (d d1 d2 : Dat) (c : Str)
theorem la_name (i : _root_.Fin 4) : (ev (spW w B noOrc) 40).c 435 [.d (.tuple [.str (T "name"), .str (T (nmS i))]), .bk 0, .loc j] σ ω K X = atS σ j fun l => K (.d (resD (nmR i))) (σ.set j (l ++ [nmK i])) ω := by
  match i with
  | 0 => kernel_rfl
  | 1 => kernel_rfl
  | 2 => kernel_rfl
  | 3 => kernel_rfl
theorem la_bk (kd : _root_.Fin 3) (k : _root_.Fin 4) : (ev (spW w B noOrc) 40).c 435 [.d (.tuple [.str (T (kdS kd)), .str (T (wdS kd)), .list [wholeD (kI k)]]), .bk 0, .loc j] σ ω K X = atS σ j fun l => K (.d (resD (bkR kd k))) (σ.set j (l ++ [bkK kd k])) ω := by
  match kd, k with
  | 0, 0 => kernel_rfl
  | 0, 1 => kernel_rfl
  | 0, 2 => kernel_rfl
  | 0, 3 => kernel_rfl
  | 1, 0 => kernel_rfl
  | 1, 1 => kernel_rfl
  | 1, 2 => kernel_rfl
  | 1, 3 => kernel_rfl
  | 2, 0 => kernel_rfl
  | 2, 1 => kernel_rfl
  | 2, 2 => kernel_rfl
  | 2, 3 => kernel_rfl
noncomputable abbrev lwL (d : Dat) (ω : Om) : Prop := exL (ev (spW w B oLw) 40) (sScope (stm 64)) (sBody (stm 64)) (putAll (fnOfS (stm 64)).names [.d d, .bk 0, .loc j] []) σ ω (retO K) X
theorem lw_whole : lwL w B σ K X j (.tuple [.str (T "whole"), .int a]) ω = K (.d (resD (.val (.int a)))) σ ω := by kernel_rfl
theorem lw_text : lwL w B σ K X j (.tuple [.str (T "text"), .str s]) ω = K (.d (resD (.val (.str s)))) σ ω := by kernel_rfl
theorem lw_name : lwL w B σ K X j (.tuple [.str (T "name"), d]) (.call (.ok (.d d1)) σa :: ω) = (CWp w B 435 [.d (.tuple [.str (T "name"), d]), .bk 0, .loc j] σ (.ok (.d d1)) σa ∧ K (.d d1) σa ω) := by kernel_rfl
theorem lw_bk (kd : _root_.Fin 3) : lwL w B σ K X j (.tuple [.str (T (kdS kd)), d, d2]) (.call (.ok (.d d1)) σa :: ω) = (CWp w B 435 [.d (.tuple [.str (T (kdS kd)), d, d2]), .bk 0, .loc j] σ (.ok (.d d1)) σa ∧ K (.d d1) σa ω) := by
  match kd with
  | 0 => kernel_rfl
  | 1 => kernel_rfl
  | 2 => kernel_rfl
theorem lw_unI (neg : Bool) : lwL w B σ K X j (.tuple [.str (T (unS neg)), d]) (.call (.ok (.d (resD (.val (.int a))))) σa :: ω) = (CWp w B 442 [.d d, .bk 0, .loc j] σ (.ok (.d (resD (.val (.int a))))) σa ∧ K (.d (resD (un neg (.int a)))) σa ω) := by
  match neg with
  | true => kernel_rfl
  | false => kernel_rfl
theorem lw_unS (neg : Bool) : lwL w B σ K X j (.tuple [.str (T (unS neg)), d]) (.call (.ok (.d (resD (.val (.str s))))) σa :: ω) = (CWp w B 442 [.d d, .bk 0, .loc j] σ (.ok (.d (resD (.val (.str s))))) σa ∧ K (.d (resD (.bad (T "TM")))) σa ω) := by
  match neg with
  | true => kernel_rfl
  | false => kernel_rfl
theorem lw_unB (neg : Bool) : lwL w B σ K X j (.tuple [.str (T (unS neg)), d]) (.call (.ok (.d (resD (.bad c)))) σa :: ω) = (CWp w B 442 [.d d, .bk 0, .loc j] σ (.ok (.d (resD (.bad c)))) σa ∧ K (.d (resD (.bad c))) σa ω) := by
  match neg with
  | true => kernel_rfl
  | false => kernel_rfl
theorem lw_two1 : lwL w B σ K X j (.tuple [.str (T "two"), .str s, d1, d2]) (.call (.ok (.d (resD (.bad c)))) σa :: ω) = (CWp w B 442 [.d d1, .bk 0, .loc j] σ (.ok (.d (resD (.bad c)))) σa ∧ K (.d (resD (.bad c))) σa ω) := by kernel_rfl
theorem lw_two2 (x : Dat) : lwL w B σ K X j (.tuple [.str (T "two"), .str s, d1, d2]) (.call (.ok (.d (resD (.val x)))) σa :: .call (.ok (.d (resD (.bad c)))) σb :: ω) =
    (CWp w B 442 [.d d1, .bk 0, .loc j] σ (.ok (.d (resD (.val x)))) σa ∧ CWp w B 442 [.d d2, .bk 0, .loc j] σa (.ok (.d (resD (.bad c)))) σb ∧ K (.d (resD (.bad c))) σb ω) := by kernel_rfl
theorem lw_two3 (x y z : Dat) : lwL w B σ K X j (.tuple [.str (T "two"), .str s, d1, d2]) (.call (.ok (.d (resD (.val x)))) σa :: .call (.ok (.d (resD (.val y)))) σb :: .call (.ok (.d z)) σc :: ω) =
    (CWp w B 442 [.d d1, .bk 0, .loc j] σ (.ok (.d (resD (.val x)))) σa ∧ CWp w B 442 [.d d2, .bk 0, .loc j] σa (.ok (.d (resD (.val y)))) σb ∧ CWp w B 428 [vs s, .d x, .d y] σb (.ok (.d z)) σc ∧ K (.d z) σc ω) := by kernel_rfl
end
noncomputable def dep : Tr → Nat
  | .un _ t => dep t + 1
  | .two _ l r => max (dep l) (dep r) + 1
  | _ => 0
noncomputable abbrev lwB (n : Nat) : Nat := 141 + 41 * n
theorem W_len : ∀ t, (W t).2.length ≤ szT t
  | .whole _ => Nat.zero_le _
  | .text _ => Nat.zero_le _
  | .name _ => by rw [W]; simp [szT]
  | .bk _ _ => by rw [W]; simp [szT]
  | .un neg t => by
    have := W_len t
    rw [W_un]
    rcases h : W t with ⟨r, q⟩
    rw [h] at this
    replace this : q.length ≤ szT t := this
    cases r <;> (simp only [szT]; omega)
  | .two op l r => by
    have h1 := W_len l
    have h2 := W_len r
    rw [W_two]
    rcases h : W l with ⟨x, q⟩
    rw [h] at h1
    replace h1 : q.length ≤ szT l := h1
    cases x with
    | bad c => simp only [szT]; omega
    | val a =>
      rcases h' : W r with ⟨y, q'⟩
      rw [h'] at h2
      replace h2 : q'.length ≤ szT r := h2
      cases y <;> (simp only [szT, List.length_append]; omega)
theorem set_set_app (σ : Sto) (i : Nat) (x y : List Dat) : (σ.set i x).set i y = σ.set i y := List.set_set ..
theorem lw_ok {w : World} (R0 : Rules w) : ∀ (t : Tr), OKT 0 t → ∀ {σ : Sto} {j : Nat} {l : List Dat}, σ[j]? = some l → l.length + szT t ≤ 4000 →
    CWp w (lwB (dep t)) 442 [.d (enc t), .bk 0, .loc j] σ (.ok (.d (resD (W t).1))) (σ.set j (l ++ (W t).2))
  | .whole n, ok, σ, j, l, hj, hl => by
    rw [show (W (.whole n)).2 = [] from by rw [W], set_same hj, W]
    exact (CWp.body (B := 0) (k := 40) (orc := oLw) R0 (st := stm 64) rfl rfl (ofE (lw_whole w 0 n σ [] _ _ j) ⟨rfl, rfl⟩)).le (by show _ ≤ 141 + 41 * _; omega)
  | .text s, ok, σ, j, l, hj, hl => by
    rw [show (W (.text s)).2 = [] from by rw [W], set_same hj, W]
    exact (CWp.body (B := 0) (k := 40) (orc := oLw) R0 (st := stm 64) rfl rfl (ofE (lw_text w 0 s σ [] _ _ j) ⟨rfl, rfl⟩)).le (by show _ ≤ 141 + 41 * _; omega)
  | .name i, ok, σ, j, l, hj, hl => by
    rw [W]
    have c : CWp w 40 435 [.d (enc (.name i)), .bk 0, .loc j] σ (.ok (.d (resD (nmR i)))) (σ.set j (l ++ [nmK i])) :=
      CWp.of (B := 0) (k := 40) (orc := noOrc) R0 (ofE (la_name w 0 σ [] _ _ j i) (atS_of hj (by simp [szT] at hl; omega) ⟨rfl, rfl⟩))
    exact (CWp.body (B := 40) (k := 40) (orc := oLw) R0 (st := stm 64) rfl rfl (ofE (lw_name w 40 σ _ [] _ _ j (.str (T (nmS i))) _) ⟨c, rfl, rfl⟩)).le (by show _ ≤ 141 + 41 * _; omega)
  | .bk kd k, ok, σ, j, l, hj, hl => by
    rw [W]
    have c : CWp w 40 435 [.d (enc (.bk kd k)), .bk 0, .loc j] σ (.ok (.d (resD (bkR kd k)))) (σ.set j (l ++ [bkK kd k])) :=
      CWp.of (B := 0) (k := 40) (orc := noOrc) R0 (ofE (la_bk w 0 σ [] _ _ j kd k) (atS_of hj (by simp [szT] at hl; omega) ⟨rfl, rfl⟩))
    exact (CWp.body (B := 40) (k := 40) (orc := oLw) R0 (st := stm 64) rfl rfl (ofE (lw_bk w 40 σ _ [] _ _ j (.str (T (wdS kd))) _ (.list [wholeD (kI k)]) kd) ⟨c, rfl, rfl⟩)).le (by show _ ≤ 141 + 41 * _; omega)
  | .un neg t, ok, σ, j, l, hj, hl => by
    have hsz : szT (.un neg t) = 2 + szT t := rfl
    have c := lw_ok R0 t ok.1 hj (by omega)
    have hd : dep (.un neg t) = dep t + 1 := rfl
    have fin : ∀ {z : Tr} {r : Res} {q : List Dat}, W z = (r, q) → dep z = dep t + 1 → exL (ev (spW w (lwB (dep t)) oLw) 40) (sScope (stm 64)) (sBody (stm 64)) (putAll (fnOfS (stm 64)).names [.d (enc z), .bk 0, .loc j] []) σ (.call (.ok (.d (resD (W t).1))) (σ.set j (l ++ (W t).2)) :: []) (retO (rK (.ok (.d (resD r))) (σ.set j (l ++ q)))) (rX (.ok (.d (resD r))) (σ.set j (l ++ q))) →
        CWp w (lwB (dep z)) 442 [.d (enc z), .bk 0, .loc j] σ (.ok (.d (resD (W z).1))) (σ.set j (l ++ (W z).2)) := fun e e2 h => by
      rw [e]
      exact (CWp.body (B := lwB (dep t)) (k := 40) (orc := oLw) R0 (st := stm 64) rfl rfl h).le (by rw [e2]; show 40 + (141 + 41 * dep t) + 1 ≤ 141 + 41 * (dep t + 1); omega)
    rcases hW : W t with ⟨r, q⟩
    rw [hW] at c fin
    have h2 := ok.2
    rw [hW] at h2
    cases r with
    | bad cc => exact fin (r := .bad cc) (q := q) (by rw [W_un, hW]) hd (ofE (lw_unB w _ σ _ [] _ _ j (enc t) cc neg) ⟨c, rfl, rfl⟩)
    | val d =>
      have hv := (h2 d rfl).1
      cases d with
      | int a => exact fin (r := un neg (.int a)) (q := q) (by rw [W_un, hW]) hd (ofE (lw_unI w _ a σ _ [] _ _ j (enc t) neg) ⟨c, rfl, rfl⟩)
      | str s => exact fin (r := .bad (T "TM")) (q := q) (by rw [W_un, hW]; rfl) hd (ofE (lw_unS w _ s σ _ [] _ _ j (enc t) neg) ⟨c, rfl, rfl⟩)
      | _ => cases hv
  | .two op p r, ok, σ, j, l, hj, hl => by
    have hsz : szT (.two op p r) = 2 + szT p + szT r := rfl
    have wl := W_len p
    have wr := W_len r
    have hd : dep (.two op p r) = max (dep p) (dep r) + 1 := rfl
    have c1 := (lw_ok R0 p ok.1 hj (by omega)).le (B' := lwB (max (dep p) (dep r))) (by show 141 + 41 * _ ≤ 141 + 41 * _; have := Nat.le_max_left (dep p) (dep r); omega)
    have hjlt := (List.getElem?_eq_some_iff.mp hj).1
    have hj2 : (σ.set j (l ++ (W p).2))[j]? = some (l ++ (W p).2) := List.getElem?_set_self hjlt
    have c2 := (lw_ok R0 r ok.2.1 hj2 (by rw [List.length_append]; omega)).le (B' := lwB (max (dep p) (dep r))) (by show 141 + 41 * _ ≤ 141 + 41 * _; have := Nat.le_max_right (dep p) (dep r); omega)
    rw [List.set_set, List.append_assoc] at c2
    have up : lwB (max (dep p) (dep r)) + 41 = lwB (dep (.two op p r)) := by rw [hd]; show 141 + 41 * _ + 41 = 141 + 41 * (_ + 1); omega
    have fin : ∀ {ω : Om} {res : Res} {q : List Dat}, W (.two op p r) = (res, q) → exL (ev (spW w (lwB (max (dep p) (dep r))) oLw) 40) (sScope (stm 64)) (sBody (stm 64)) (putAll (fnOfS (stm 64)).names [.d (enc (.two op p r)), .bk 0, .loc j] []) σ ω (retO (rK (.ok (.d (resD res))) (σ.set j (l ++ q)))) (rX (.ok (.d (resD res))) (σ.set j (l ++ q))) →
        CWp w (lwB (dep (.two op p r))) 442 [.d (enc (.two op p r)), .bk 0, .loc j] σ (.ok (.d (resD (W (.two op p r)).1))) (σ.set j (l ++ (W (.two op p r)).2)) := fun e h => by
      rw [e]
      exact (CWp.body (B := lwB (max (dep p) (dep r))) (k := 40) (orc := oLw) R0 (st := stm 64) rfl rfl h).le (by rw [← up]; omega)
    have h3 := ok.2.2
    rcases hW : W p with ⟨x, q⟩
    rw [hW] at c1 c2 h3
    cases x with
    | bad cc => exact fin (res := .bad cc) (q := q) (by rw [W_two, hW]) (ofE (lw_two1 w _ (T op.s) σ _ [] _ _ j (enc p) (enc r) cc) ⟨c1, rfl, rfl⟩)
    | val a =>
      rcases hW2 : W r with ⟨y, q'⟩
      rw [hW2] at c2 h3
      cases y with
      | bad cc => exact fin (res := .bad cc) (q := q ++ q') (by rw [W_two, hW, hW2]) (ofE (lw_two2 w _ (T op.s) σ _ _ [] _ _ j (enc p) (enc r) cc a) ⟨c1, c2, rfl, rfl⟩)
      | val b =>
        obtain ⟨va, vb, oa⟩ := h3 a b rfl rfl
        have c3 := (two_ok R0 op va vb oa (σ.set j (l ++ (q ++ q')))).le (B' := lwB (max (dep p) (dep r))) (by show 100 ≤ 141 + 41 * _; omega)
        exact fin (res := op2 op a b) (q := q ++ q') (by rw [W_two, hW, hW2]) (ofE (lw_two3 w _ (T op.s) σ _ _ _ [] _ _ j (enc p) (enc r) a b _) ⟨c1, c2, c3, rfl, rfl⟩)
end Mine
end
section
open PySem PySem.W PyProof.Rows PySem.Calls PySem.Spec
set_option maxRecDepth 100000
set_option linter.unusedVariables false
namespace Mine
/-! the law's own frame: the cells and their sum -/
theorem nameB_E {M : Model} {A : Around} {s : Shared} {P : Params} {h₀ : Heap} {L : Addr} {m mg mb : Str → Option Value} {p : Program} {loose : List Str} {y : Str} {pos : Pos} {v : Value} {Q E : Value → Shared → Prop} {env : Env} (F : Fr h₀ L s.heap m) (X : (KF P).In h₀) (T : TopRead p loose mg mb h₀)
    (e : nsIn (KF P) mainGlobals y = some none) (hv : bootBuiltins y = some v) (hn : y ≠ "__name__") (h : Q v s) (hg : env.globals = mainGlobals) (hbn : env.builtins = builtinsNs) (hk : env.scope.kind = .function) (hx : env.kindOf y = some .globalImplicit) (hd : (y == ("__debug__" : Str)) = false) :
    wpAny M A (eval (.Name y pos) env) Q E s :=
  Name_function_global hk hx (loadGlobal_builtin (env := env) (by rw [hg]; exact T.g.keeps F.keep) (mg_none_of X T.g e) (by rw [hbn]; exact T.b.keeps F.keep) ((T.builtins y hn).trans hv) h) hd
theorem ints_dat {fz : List (Addr × Obj)} : ∀ {vs : List Value} {ns : List Int}, DatAll fz vs (ns.map .int) → IntsAre vs ns
  | [], [], _ => .nil
  | v :: vs, [], h => by cases h
  | [], n :: ns, h => by cases h
  | v :: vs, n :: ns, .cons a r => by
    obtain ⟨t, rfl⟩ := datD a
    exact .cons _ _ (ints_dat r)
theorem dat_ints {fz : List (Addr × Obj)} {vs : List Value} {ns : List Int} (h : IntsAre vs ns) : DatAll fz vs (ns.map .int) := by
  induction h with
  | nil => exact .nil
  | cons n t _ ih => exact .cons (DatIn.int _ _) ih
theorem ints_take {vs : List Value} {ns : List Int} (h : IntsAre vs ns) : ∀ k, IntsAre (vs.take k) (ns.take k) := by
  induction h with
  | nil => intro k; cases k <;> exact .nil
  | cons n t _ ih => intro k; cases k with
    | zero => exact .nil
    | succ k => exact .cons n t (ih k)
end Mine
end
section
open PySem PySem.W PyProof.Rows PySem.Calls PySem.Spec
set_option maxRecDepth 100000
set_option linter.unusedVariables false
namespace Mine
/-! the hooks the law makes -/
theorem hkInit_eq : ∃ p1 p2 p3 p4 p5 p6 p7 p8 p9 p10 p11 p12 p13 p14 p15 p16, sBody (cstm 55 0) = [.Assign [.Attribute (.Name (S "self") p1) (S "values") p2] (.Name (S "values") p3) p4, .Assign [.Attribute (.Name (S "self") p5) (S "bits") p6] (.Name (S "bits") p7) p8,
    .Assign [.Attribute (.Name (S "self") p9) (S "digits") p10] (.Name (S "digits") p11) p12, .Assign [.Attribute (.Name (S "self") p13) (S "asked") p14] (.List [] p15) p16] := ⟨_, _, _, _, _, _, _, _, _, _, _, _, _, _, _, _, rfl⟩
section
variable {w : World} {x : Amb} {n : Nat} {m : Loc} {σ : Sto} {c : Cfg} {s : Shared} {Q E : Value → Shared → Prop}
theorem hk_end {X dx l : Addr} {b : Nat} {vb : Value} {t1 t2 t3 t4 t5 t6 : Tok} {h7 : Heap} {tk : Nat} (S0 : SR w x.h₀ x.L m σ c s.heap) (old : ∀ p ∈ c.all, p.1 ≠ dx) (oldX : ∀ p ∈ c.all, p.1 ≠ X) (ol : ∀ p ∈ c.all, p.1 ≠ l) (ne1 : X ≠ dx) (lX : l ≠ X) (lD : l ≠ dx) (hb : BkIn w c.fz b vb)
    (Fx : Fr x.h₀ x.L h7 c.mc) (Nx : News x.h₀ x.L h7 ((l, listOf #[] 0) :: (X, instObj 382 dx) :: (dx, dictOf (hkEnts w.params vb l t1 t2 t3 t4 t5 t6) 4) :: c.all)) (P : PostE w x m c s Q (.hk b σ.length) (σ ++ [[]])) : Q (.ref X) { s with heap := h7, toks := tk } := by
  generalize hD : dictOf (hkEnts w.params vb l t1 t2 t3 t4 t5 t6) 4 = D at Nx
  have M1 : MuR (c.frozen (dx, D)) σ := S0.st.frozen old
  have M2 : MuR ((c.frozen (dx, D)).frozen (X, instObj 382 dx)) σ := M1.frozen (fun p hp => by
    rcases List.mem_append.mp hp with hp | hp
    · exact oldX p (List.mem_append.mpr (.inl hp))
    · rcases List.mem_append.mp hp with hp | hp
      · rcases List.mem_cons.mp hp with rfl | hp
        · exact ne1.symm
        · exact oldX p (List.mem_append.mpr (.inr (List.mem_append.mpr (.inl hp))))
      · exact oldX p (List.mem_append.mpr (.inr (List.mem_append.mpr (.inr hp)))))
  have M3 : MuR (((c.frozen (dx, D)).frozen (X, instObj 382 dx)).made (l, listOf #[] 0)) (σ ++ [[]]) := M2.made (vals := []) .nil (fun p hp => by
    rcases List.mem_append.mp hp with hp | hp
    · exact ol p (List.mem_append.mpr (.inl hp))
    · rcases List.mem_append.mp hp with hp | hp
      · rcases List.mem_cons.mp hp with rfl | hp
        · exact lX.symm
        · rcases List.mem_cons.mp hp with rfl | hp
          · exact lD.symm
          · exact ol p (List.mem_append.mpr (.inr (List.mem_append.mpr (.inl hp))))
      · exact ol p (List.mem_append.mpr (.inr (List.mem_append.mpr (.inr hp)))))
  have G := ((grow_frozen c (dx, D)).trans (grow_frozen _ (X, instObj 382 dx))).trans (grow_made _ (l, listOf #[] 0))
  refine P (.ref X) (((c.frozen (dx, D)).frozen (X, instObj 382 dx)).made (l, listOf #[] 0)) h7 tk ⟨Fx, fun p hp => Nx p ?_, S0.lo.grow rfl G, M3⟩ G rfl ?_
  · rcases List.mem_append.mp hp with hp | hp
    · rcases List.mem_append.mp hp with hp | hp
      · exact .tail _ (.tail _ (.tail _ (List.mem_append.mpr (.inl hp))))
      · rw [List.mem_singleton.mp hp]; exact .head _
    · rcases List.mem_append.mp hp with hp | hp
      · rcases List.mem_cons.mp hp with rfl | hp
        · exact .tail _ (.head _)
        · rcases List.mem_cons.mp hp with rfl | hp
          · exact .tail _ (.tail _ (.head _))
          · exact .tail _ (.tail _ (.tail _ (List.mem_append.mpr (.inr (List.mem_append.mpr (.inl hp))))))
      · exact .tail _ (.tail _ (.tail _ (List.mem_append.mpr (.inr (List.mem_append.mpr (.inr hp))))))
  · refine ⟨X, dx, vb, l, listOf #[] 0, t1, t2, t3, t4, t5, t6, 4, rfl, .head _, ?_, ?_, hb.mono fun p hp => .tail _ (.tail _ hp)⟩
    · rw [hD]; exact .tail _ (.head _)
    · show (c.mu ++ [_])[σ.length]? = _
      rw [← S0.st.len, List.getElem?_append_right (Nat.le_refl _), Nat.sub_self]; rfl
theorem hooks_made (O : x.Ok w (n + 1)) (S0 : SR w x.h₀ x.L m σ c s.heap) {b : Nat} {vb : Value} {t5 t6 : Tok} (hb : BkIn w c.fz b vb) (P : PostE w x m c s Q (.hk b σ.length) (σ ++ [[]])) :
    wpAny (model pw w) x.A (call (.ref 382) [vb, .int 16 t5, .int 9 t6]) Q E s := by
  refine call_cls S0.F O.X S0.N (by kernel_rfl) (fI := 344) (by kernel_rfl) (by kernel_rfl) fun X dx h1 F1 N1 old1 hlt => ?_
  refine code_def O.B F1 O.X N1 O.T (by show pushEnvs [] x.A.frames = _; rw [O.frames]; rfl) rfl O.kind (f := 344) (show (KF w.params).lookup 344 = some (o344 w.params) by kernel_rfl) (by kernel_rfl) (by have := O.dp; rw [depth_under_kw]; omega)
    (binds := [(S "self", .ref X), (S "values", vb), (S "bits", .int 16 t5), (S "digits", .int 9 t6)]) (BindsTo.of_eq rfl) ?_ ?_ (by decide) (by decide) rfl ?_
  · intro y hy
    rcases List.mem_cons.mp hy with rfl | hy
    · show (sScope (cstm 55 0)).names.lookup (S "self") = _; decide
    · rcases List.mem_cons.mp hy with rfl | hy
      · show (sScope (cstm 55 0)).names.lookup (S "values") = _; decide
      · rcases List.mem_cons.mp hy with rfl | hy
        · show (sScope (cstm 55 0)).names.lookup (S "bits") = _; decide
        · rw [List.mem_singleton.mp hy]; show (sScope (cstm 55 0)).names.lookup (S "digits") = _; decide
  · intro g L' h2 FG F2 N2 B' X' T'
    obtain ⟨p1, p2, p3, p4, p5, p6, p7, p8, p9, p10, p11, p12, p13, p14, p15, p16, hbody⟩ := hkInit_eq
    rw [hbody]
    have ne1 : X ≠ dx := Nat.ne_of_gt hlt
    have old : ∀ p ∈ c.all, p.1 ≠ dx := fun p hp => Nat.ne_of_lt (old1 p hp)
    have oldX : ∀ p ∈ c.all, p.1 ≠ X := fun p hp => Nat.ne_of_lt (Nat.lt_trans (old1 p hp) hlt)
    have inst : ∀ {h : Heap} {o : Obj} {l : List (Addr × Obj)}, News g L' h ((X, instObj 382 dx) :: (dx, o) :: l) → InstAt h X (instObj 382 dx) 382 (some o) := fun N => InstAt.of_news N (.head _) (.tail _ (.head _))
    refine wpAny_execs_cons (plainObj_wpAny_Assign_Attribute (wpAny_Name (wpAny_loadName_local (v := vb) rfl (by rfl) F2.ns (by kernel_rfl) (wpAny_Name (wpAny_loadName_local (v := .ref X) rfl (by rfl) F2.ns (by kernel_rfl)
      (set_dict (es := []) (n := 0) (es' := [⟨PyData.keyHash w.params (S "values"), .str (S "values") _, vb⟩]) (n' := 1) F2 X' N2 (inst N2) rfl (by kernel_rfl) (by kernel_rfl) (by kernel_rfl) (by kernel_rfl) rfl rfl (.tail ne1 (.head old)) (Nat.le_of_ble_eq_true rfl) fun h3 F3 N3 => ?_)) (by decide))) (by decide)))
    refine wpAny_execs_cons (plainObj_wpAny_Assign_Attribute (wpAny_Name (wpAny_loadName_local (v := .int 16 t5) rfl (by rfl) F3.ns (by kernel_rfl) (wpAny_Name (wpAny_loadName_local (v := .ref X) rfl (by rfl) F3.ns (by kernel_rfl)
      (set_dict (es' := [⟨PyData.keyHash w.params (S "values"), .str (S "values") _, vb⟩, ⟨PyData.keyHash w.params (S "bits"), .str (S "bits") _, .int 16 t5⟩]) (n' := 2) F3 X' N3 (inst N3) rfl (by kernel_rfl) (by kernel_rfl) (by kernel_rfl) (by kernel_rfl) rfl rfl (.tail ne1 (.head old)) (Nat.le_of_ble_eq_true rfl) fun h4 F4 N4 => ?_)) (by decide))) (by decide)))
    refine wpAny_execs_cons (plainObj_wpAny_Assign_Attribute (wpAny_Name (wpAny_loadName_local (v := .int 9 t6) rfl (by rfl) F4.ns (by kernel_rfl) (wpAny_Name (wpAny_loadName_local (v := .ref X) rfl (by rfl) F4.ns (by kernel_rfl)
      (set_dict (es' := [⟨PyData.keyHash w.params (S "values"), .str (S "values") _, vb⟩, ⟨PyData.keyHash w.params (S "bits"), .str (S "bits") _, .int 16 t5⟩, ⟨PyData.keyHash w.params (S "digits"), .str (S "digits") _, .int 9 t6⟩]) (n' := 3) F4 X' N4 (inst N4) rfl (by kernel_rfl) (by kernel_rfl) (by kernel_rfl) (by kernel_rfl) rfl rfl (.tail ne1 (.head old)) (Nat.le_of_ble_eq_true rfl) fun h5 F5 N5 => ?_)) (by decide))) (by decide)))
    refine wpAny_execs_cons (plainObj_wpAny_Assign_Attribute (List_ (spliced_none ?_)))
    refine newList_K F5 N5 (fun l h6 F6 N6 hl => ?_) (by decide)
    have ol : ∀ p ∈ c.all, p.1 ≠ l := fun p hp => Nat.ne_of_lt (hl p (.tail _ (.tail _ hp)))
    have lX : l ≠ X := fun q => Nat.lt_irrefl _ (q ▸ hl _ (.head _))
    have lD : l ≠ dx := fun q => Nat.lt_irrefl _ (q ▸ hl _ (.tail _ (.head _)))
    refine wpAny_Name (wpAny_loadName_local (v := .ref X) rfl (by rfl) F6.ns (by kernel_rfl)
      (set_dict (es' := [⟨PyData.keyHash w.params (S "values"), .str (S "values") _, vb⟩, ⟨PyData.keyHash w.params (S "bits"), .str (S "bits") _, .int 16 t5⟩, ⟨PyData.keyHash w.params (S "digits"), .str (S "digits") _, .int 9 t6⟩, ⟨PyData.keyHash w.params (S "asked"), .str (S "asked") _, .ref l⟩]) (n' := 4) F6 X' N6 (inst (fun p hp => N6 p (.tail _ hp))) rfl (by kernel_rfl) (by kernel_rfl) (by kernel_rfl) (by kernel_rfl) rfl rfl (.tail lD (.tail ne1 (.head old))) (Nat.le_of_ble_eq_true rfl) fun h7 F7 N7 => ?_)) (by decide)
    refine wpAny_execs_nil (leaveK_ F7 N7 fun Fx Nx => ⟨rfl, ?_⟩)
    obtain ⟨t1, t2, t3, t4, Nx'⟩ : ∃ t1 t2 t3 t4, News x.h₀ x.L h7 ((l, listOf #[] 0) :: (X, instObj 382 dx) :: (dx, dictOf (hkEnts w.params vb l t1 t2 t3 t4 t5 t6) 4) :: c.all) := ⟨_, _, _, _, Nx⟩
    exact hk_end (s := s) S0 old oldX ol ne1 lX lD hb Fx Nx' P
  · intro y hy
    have : (sScope (cstm 55 0)).names.all (fun y => y.2 != .cell) = true := by decide
    have := List.all_eq_true.mp this y hy
    intro e
    rw [e] at this
    simp at this
end
end Mine
end
section
open PySem PySem.W PyProof.Rows PySem.Calls PySem.Spec
set_option maxRecDepth 100000
set_option linter.unusedVariables false
namespace Mine
/-! the law's book -/
noncomputable def lawSt (i : Nat) : Stmt := ((sBody (stm 65))[i]?).getD noStm
noncomputable abbrev lawSc : Scope := sScope (stm 65)
inductive PairsAre (fz : List (Addr × Obj)) : List (Value × Value) → List (Dat × Dat) → Prop
  | nil : PairsAre fz [] []
  | cons {a b : Value} {d : Dat × Dat} {vs : List (Value × Value)} {ds : List (Dat × Dat)} : DatIn fz a d.1 → DatIn fz b d.2 → PairsAre fz vs ds → PairsAre fz ((a, b) :: vs) (d :: ds)
noncomputable def pairsEv (r : EvR) (sc : Scope) (m : Loc) (σ : Sto) : List (Option Expr) → List Expr → List (Dat × Dat) → Prop
  | [], [], [] => True
  | some k :: ks, v :: vs, d :: ds => (∀ K X, r.e sc m σ [] k K X = K (.d d.1) σ []) ∧ (∀ K X, r.e sc m σ [] v K X = K (.d d.2) σ []) ∧ pairsEv r sc m σ ks vs ds
  | _, _, _ => False
theorem rows_of {w : World} {fz : List (Addr × Obj)} {vals : List (Value × Value)} {ds : List (Dat × Dat)} (h : PairsAre fz vals ds) : ∃ rows : List Row3, vals = rows.map (fun x => (x.2.1, x.2.2)) ∧ rows.map (·.1) = ds.map (·.1) ∧ (∀ x ∈ rows, DatIn fz x.2.1 x.1) ∧ ((∀ d ∈ ds, bKey d.1 = true) → BookAre w fz (rows.map (entryM w)) ds) := by
  induction h with
  | nil => exact ⟨[], rfl, rfl, fun x hx => (List.not_mem_nil hx).elim, fun _ => .nil⟩
  | cons ha hb _ ih =>
    rename_i a b d vs ds _
    obtain ⟨rows, h1, h2, h3, h4⟩ := ih
    refine ⟨(d.1, a, b) :: rows, by rw [h1]; rfl, by rw [List.map_cons, h2]; rfl, fun x hx => ?_, fun hk => ?_⟩
    · rcases List.mem_cons.mp hx with rfl | hx
      · exact ha
      · exact h3 x hx
    · exact BookAre.cons ha (hk d (.head _)) hb (h4 fun d hd => hk d (.tail _ hd))
section
variable {w : World} {x : Amb} {n : Nat} {m : Loc} {σ : Sto} {c : Cfg} {s : Shared} {Q E : Value → Shared → Prop}
theorem pairs_sound {r : EvR} (H : Snd w r n) (O : x.Ok w n) {pos : Pos} : ∀ (ks : List (Option Expr)) (vs : List Expr) (ds : List (Dat × Dat)) {c : Cfg} {s : Shared} {Q : List (Value × Value) → Shared → Prop}, SR w x.h₀ x.L m σ c s.heap → pairsEv r x.sc m σ ks vs ds →
    (∀ vals c' h' tk', SR w x.h₀ x.L m σ c' h' → Grow c c' → c'.mc = c.mc → PairsAre c'.fz vals ds → Q vals { s with heap := h', toks := tk' }) → wpAny (model pw w) x.A (evalPairs (pairTrees ks vs x.env pos)) Q E s
  | [], [], [], c, s, Q, S, h, P => pairTrees_nil_walk (P [] c s.heap s.toks S (Grow.refl c) rfl .nil)
  | some k :: ks, v :: vs, d :: ds, c, s, Q, S, h, P => by
    obtain ⟨h1, h2, h3⟩ := h
    refine pairTrees_cons_walk (H.e O S (X := fun _ _ _ => False) (K := fun u σ' _ => u = .d d.1 ∧ σ = σ') (ofE (h1 _ _) ⟨rfl, rfl⟩) ?_ fun _ _ _ f => f.elim)
    rintro u σ' ω' ⟨rfl, rfl⟩ val c1 s1 t1 S1 G1 e1 R1
    refine H.e (s := { s with heap := s1, toks := t1 }) O S1 (X := fun _ _ _ => False) (K := fun u σ' _ => u = .d d.2 ∧ σ = σ') (ofE (h2 _ _) ⟨rfl, rfl⟩) ?_ fun _ _ _ f => f.elim
    rintro u σ' ω' ⟨rfl, rfl⟩ val2 c2 s2 t2 S2 G2 e2 R2
    exact pairs_sound H O ks vs ds (s := { s with heap := s2, toks := t2 }) S2 h3 fun vals c' h' tk' S' G' e' A => P _ c' h' tk' S' (G1.trans (G2.trans G')) (e'.trans (e2.trans e1)) (.cons (R1.mono (G2.trans G')) (R2.mono G') A)
  | [], [], _ :: _, _, _, _, _, h, _ => h.elim
  | [], _ :: _, _, _, _, _, _, h, _ => h.elim
  | none :: _, _, _, _, _, _, _, h, _ => h.elim
  | some _ :: _, [], _, _, _, _, _, h, _ => h.elim
  | some _ :: _, _ :: _, [], _, _, _, _, h, _ => h.elim
noncomputable abbrev dict0 : Obj := { cls := .type "dict", data := .dict #[] }
theorem exact_dict {o : Obj} {es : Array DictEntry} {n : Nat} (h : o.ExactDict) (e : o.data = .dict es n) : o = dictOf es.toList n := by
  obtain ⟨oc, od, dd, sl⟩ := o
  obtain ⟨h1, h2, h3⟩ := h
  dsimp only at h1 h2 h3 e
  subst h1 h2 h3 e
  rfl
theorem book_made {r : EvR} (H : Snd w r n) (O : x.Ok w n) (S : SR w x.h₀ x.L m σ c s.heap) {ks : List (Option Expr)} {vs : List Expr} {pos : Pos} (hall : ks.all (·.isSome) = true) (hl : ks.length = vs.length) (h0 : ks ≠ []) (hlen : ks.length ≤ 15)
    (hev : pairsEv r x.sc m σ ks vs bookL) (P : PostE w x m c s Q (.bk 0) σ) : wpAny (model pw w) x.A (eval (.Dict ks vs pos) x.env) Q E s := by
  refine wpAny_Dict_any hall hl h0 hlen ?_
  have S1 := S.exAdd (h' := s.heap.push dict0) (I := s.heap.objs.size) (o := dict0) (fun b q e => Heap.get?_push_of_some _ e) (Heap.get?_none_of_le (Nat.le_refl _)) (Heap.get?_push_size _ rfl)
  have ned := size_ne S.N
  have hlo : (s.heap.objs.size == sysModules) = false := S.F.notModules (modules_low O.T.nolimit)
  refine pairs_sound H O _ _ _ (s := { s with heap := s.heap.push dict0 }) S1 hev fun vals c2 h2 t2 S2 G2 e2 A2 => ?_
  obtain ⟨rows, rfl, r2, r3, r4⟩ := rows_of (w := w) A2
  have bk : ∀ d ∈ bookL, bKey d.1 = true := by
    have : bookL.all (fun d => bKey d.1) = true := by decide +kernel
    exact fun d hd => List.all_eq_true.mp this d hd
  have he : c2.ex = (s.heap.objs.size, dict0) :: c.ex := G2.ex
  have hin : (s.heap.objs.size, dict0) ∈ c2.all := List.mem_append.mpr (.inr (List.mem_append.mpr (.inr (by rw [he]; exact .head _))))
  have hx : ∀ p ∈ c.ex, p.1 ≠ s.heap.objs.size := fun p hp => ned p (List.mem_append.mpr (.inr (List.mem_append.mpr (.inr hp))))
  refine storeM rows (xs := []) (s := { s with heap := h2, toks := t2 }) (by have := O.un; omega) ⟨dict0, #[], 0, (S2.N _ hin).1, ⟨rfl, rfl, rfl⟩, rfl, rfl, fun y hy => (List.not_mem_nil hy).elim, .nil⟩ (fun y hy => ?_) (by rw [List.nil_append, r2]; exact bookNodup) (by
    rw [List.nil_append]
    have : (rows.map (·.1)).length = (bookL.map (·.1)).length := by rw [r2]
    rw [List.length_map, List.length_map] at this
    rw [this]; decide) fun h3 t3 D3 B3 => ?_
  · have hm : y.1 ∈ bookL.map (·.1) := by rw [← r2]; exact List.mem_map.mpr ⟨y, hy, rfl⟩
    obtain ⟨d, hd, e⟩ := List.mem_map.mp hm
    have hb : bKey y.1 = true := by rw [← e]; exact bk d hd
    exact ⟨mkeyOf S2.N (fun p hp => S2.memF (s := { s with heap := h2, toks := t2 }) hp) (r3 y hy) hb, hb⟩
  · obtain ⟨o3, es, ep, g1, g2, g3, g4, _⟩ := D3
    rw [List.nil_append] at g4
    have ho := exact_dict g2 g3
    rw [g4] at ho
    subst ho
    have S3 := S2.exSwap (h' := h3) (o' := dictOf (rows.map (entryM w)) ep) he hx (fun b q hb e => (B3.2 _ hb).trans e) g1
    have z := (S2.N _ hin).2
    have S4 := S3.exBack (ex := c.ex) fun p hp => .tail _ hp
    have hne : ∀ p ∈ ({ c2 with ex := c.ex } : Cfg).all, p.1 ≠ s.heap.objs.size := fun p hp => by
      have hin' : (s.heap.objs.size, dict0) ∈ c2.ex := by rw [he]; exact .head _
      rcases List.mem_append.mp hp with hp | hp
      · exact S2.st.dx p hp _ hin'
      · rcases List.mem_append.mp hp with hp | hp
        · exact S2.st.fx p hp _ hin'
        · exact hx p hp
    have S5 := pushAny S4 (l := s.heap.objs.size) (o := dictOf (rows.map (entryM w)) ep) S4.F (news_cons ⟨g1, z⟩ S4.N) hne
    have G : Grow c (({ c2 with ex := c.ex } : Cfg).frozen (s.heap.objs.size, dictOf (rows.map (entryM w)) ep)) := ⟨fun p hp => .tail _ (G2.fz p hp), G2.mu, rfl⟩
    exact P _ _ h3 t3 S5 G e2 ⟨_, _, _, rfl, .head _, fun _ => ⟨hlo, (r4 bk).mono fun p hp => .tail _ hp⟩⟩
end
end Mine
end
section
open PySem PySem.W PyProof.Rows PySem.Calls PySem.Spec
set_option maxRecDepth 100000
set_option linter.unusedVariables false
namespace Mine
/-! the law's own expressions -/
noncomputable def asgE : Stmt → Expr
  | .Assign _ e _ => e
  | _ => .Constant .none 0 ⟨0, 0, 0, 0⟩
noncomputable def eltE (i : Nat) : Expr → Expr
  | .Tuple es _ _ => (es[i]?).getD (.Constant .none 0 ⟨0, 0, 0, 0⟩)
  | .List es _ => (es[i]?).getD (.Constant .none 0 ⟨0, 0, 0, 0⟩)
  | .Call _ es _ _ => (es[i]?).getD (.Constant .none 0 ⟨0, 0, 0, 0⟩)
  | .Compare l _ _ _ => l
  | e => e
noncomputable def retE : Stmt → Expr
  | .Return (some e) _ => e
  | _ => .Constant .none 0 ⟨0, 0, 0, 0⟩
noncomputable def hkE : Expr := eltE 0 (asgE (lawSt 4))
noncomputable def hkE2 : Expr := eltE 1 (eltE 0 (retE (lawSt 10)))
noncomputable def sumE : Expr := eltE 2 (asgE (lawSt 1))
theorem hkE_eq : ∃ k1 k2 p1 p2 p3 p4 p5, hkE = .Call (.Name (T "PlainHooks") p1) [.Name (T "book") p2, .Constant (.int 16) k1 p3, .Constant (.int 9) k2 p4] [] p5 := ⟨_, _, _, _, _, _, _, rfl⟩
theorem hkE2_eq : ∃ k1 k2 p1 p2 p3 p4 p5, hkE2 = .Call (.Name (T "PlainHooks") p1) [.Dict [] [] p2, .Constant (.int 16) k1 p3, .Constant (.int 9) k2 p4] [] p5 := ⟨_, _, _, _, _, _, _, rfl⟩
section
variable {w : World} {m : Loc} {σ : Sto}
theorem hk1_wp (hb : look (T "book") m = some (.bk 0)) : EWp w 41 lawSc m σ hkE (.ok (.hk 0 σ.length)) (σ ++ [[]]) := by
  refine ⟨?_⟩
  intro x c s Q E O hsc S P PX
  obtain ⟨k1, k2, p1, p2, p3, p4, p5, e⟩ := hkE_eq
  rw [e]
  have nb : nameV x.sc m (T "book") = some (.bk 0) := by rw [hsc]; show look (T "book") m = _; exact hb
  refine wpAny_Call_NameR (nameG_K S.F O.X (topRead_of O.T) (v := .ref 382) (by kernel_rfl) ?_ rfl O.kind (show x.sc.names.lookup (T "PlainHooks") = some .globalImplicit by rw [hsc]; kernel_rfl) rfl)
  refine callWith_K O.X (by kernel_rfl) (spliced_more (name_sound O S nb fun vb rb => spliced_more (wpAny_Constant_int (spliced_more (wpAny_Constant_int (spliced_none ⟨O.X.keeps S.F.keep, ?_⟩))))))
  exact hooks_made (n := 40) O (s := { s with toks := s.toks + 1 + 1 }) S rb (P _ rfl)
theorem hk2_wp : EWp w 41 lawSc m σ hkE2 (.ok (.hk 1 σ.length)) (σ ++ [[]]) := by
  refine ⟨?_⟩
  intro x c s Q E O hsc S P PX
  obtain ⟨k1, k2, p1, p2, p3, p4, p5, e⟩ := hkE2_eq
  rw [e]
  refine wpAny_Call_NameR (nameG_K S.F O.X (topRead_of O.T) (v := .ref 382) (by kernel_rfl) ?_ rfl O.kind (show x.sc.names.lookup (T "PlainHooks") = some .globalImplicit by rw [hsc]; kernel_rfl) rfl)
  have S1 := pushAny S (l := s.heap.objs.size) (o := dict0) (S.F.push dict0) (News.push S.F S.N dict0) (size_ne S.N)
  refine callWith_K O.X (by kernel_rfl) (spliced_more (wpAny_Dict_empty ?_))
  refine spliced_more (wpAny_Constant_int (spliced_more (wpAny_Constant_int (spliced_none ⟨O.X.keeps S1.F.keep, ?_⟩))))
  refine hooks_made (n := 40) (b := 1) O (s := { s with heap := s.heap.push dict0, toks := s.toks + 1 + 1 }) S1 ⟨s.heap.objs.size, [], 0, rfl, .head _, fun q => by cases q⟩ ?_
  intro val c' h' tk' S' G' e' R'
  exact P _ rfl val c' h' tk' S' ((grow_frozen _ _).trans G') e' R'
end
end Mine
end
section
open PySem PySem.W PyProof.Rows PySem.Calls PySem.Spec
set_option maxRecDepth 100000
set_option linter.unusedVariables false
namespace Mine
/-! the cells, and their sum -/
noncomputable abbrev scSum : Scope := ⟨.function, [(T ".0", .local), (T "cell", .local)], false, false, []⟩
noncomputable abbrev scCell : Scope := ⟨.function, [(T ".0", .local), (T "cell", .local), (T "abs", .globalImplicit), (T "int", .globalImplicit)], false, false, []⟩
theorem sumE_eq : ∃ k p1 p2 p3 p4 p5 p6 p7 p8, sumE = .Call (.Name (T "sum") p1) [.ListComp (.BinOp (.Name (T "cell") p2) .Mod (.Constant (.int 50) k p3) p4) [⟨.Name (T "cell") p5, .Name (T "cells") p6, [], 0⟩] scSum p7] [] p8 := ⟨_, _, _, _, _, _, _, _, _, rfl⟩
theorem cellsSt_eq : ∃ k p1 p2 p3 p4 p5 p6 p7 p8 p9 p10 p11 p12 p13, lawSt 0 = .Assign [.Name (T "cells") p1] (.ListComp (.Call (.Name (T "abs") p2) [.Call (.Name (T "int") p3) [.Name (T "cell") p4] [] p5] [] p6)
    [⟨.Name (T "cell") p7, .Subscript (.Name (T "script") p8) (.Slice none (some (.Constant (.int 24) k p9)) none p10) p11, [], 0⟩] scCell p12) p13 ∧ (p1.line == p12.line) = true := ⟨_, _, _, _, _, _, _, _, _, _, _, _, _, _, rfl, rfl⟩
noncomputable def absI (x : Int) : Int := if x < 0 then -x else x
noncomputable def cellsOf (ns : List Int) : List Int := (ns.take 24).map absI
noncomputable def modD : Dat → Dat
  | .int i => .int (Int.fmod i 50)
  | d => d
noncomputable def absD : Dat → Dat
  | .int i => .int (absI i)
  | d => d
theorem map_modD (cl : List Int) : (cl.map Dat.int).map modD = (cl.map fun i => Int.fmod i 50).map .int := by rw [List.map_map, List.map_map]; rfl
theorem map_absD (cl : List Int) : (cl.map Dat.int).map absD = (cl.map absI).map .int := by rw [List.map_map, List.map_map]; rfl
section
variable {w : World} {m : Loc} {σ : Sto}
theorem mod_elt {x : Amb} {n : Nat} (O : x.Ok w n) (SC : ScOk x scSum (T "cell")) {k : Nat} {p2 p3 p4 : Pos} (cl : List Int) : EltOk w x m σ scSum (T "cell") (.BinOp (.Name (T "cell") p2) .Mod (.Constant (.int 50) k p3) p4) modD (cl.map .int) := by
  intro c s C oC mC v d Q E S hC hn hv hd hm hQ
  obtain ⟨i, _, rfl⟩ := List.mem_map.mp hm
  refine wpAny_BinOp (cname_own SC S hC hn hv (by decide) (wpAny_Constant_int ?_))
  refine bop_sound (s := { s with toks := s.toks + 1 }) O S (a := .d (.int i)) (b := vi 50) (K := fun v => v = vi (Int.fmod i 50)) hd (DatIn.int _ _) ?_ ?_
  · show chk (!((50 : Int) == 0)) _
    exact chk_of rfl rfl
  · rintro u rfl val c' h' tk' S' G' e' R'
    exact hQ val c' h' tk' S' G' e' R'
theorem sum_wp {cl : List Int} (hc : look (T "cells") m = some (.d (.list (cl.map .int)))) (hl : cl.length ≤ 4096) : EWp w 41 lawSc m σ sumE (.ok (vi (cl.map fun i => Int.fmod i 50).sum)) σ := by
  refine ⟨?_⟩
  intro x c s Q E O hsc S P PX
  obtain ⟨k, p1, p2, p3, p4, p5, p6, p7, p8, e⟩ := sumE_eq
  rw [e]
  have nb : nameV x.sc m (T "cells") = some (.d (.list (cl.map .int))) := by rw [hsc]; show look (T "cells") m = _; exact hc
  have SC : ScOk x scSum (T "cell") := ⟨rfl, by decide, rfl, by decide, by decide⟩
  refine wpAny_Call_NameR (nameB_E S.F O.X (topRead_of O.T) (v := .builtin "sum") (by kernel_rfl) (by kernel_rfl) (by decide) ?_ rfl rfl O.kind (show x.sc.names.lookup (T "sum") = some .globalImplicit by rw [hsc]; kernel_rfl) rfl)
  refine PyProof.Rows.callWith_builtin1 (spliced_more (eval_comp SC (fun _ => rfl) (name_sound O S nb fun vb rb => ?_)))
  refine src_list O SC S rb (by rw [List.length_map]; exact hl) (mod_elt O SC cl) fun h1 S1 => comp_none (s₂ := { s with heap := h1 }) S1 ?_
  rw [map_modD]
  intro val c' h' tk' S' G' e' R'
  obtain ⟨a, vs, kk, rfl, hm, hd⟩ := datL R'
  refine spliced_none ?_
  exact LSm.sum_ints (s := { s with heap := h', toks := tk' }) S'.F S'.N O.hh (News.isList S'.N (S'.memF (s := { s with heap := h', toks := tk' }) hm)) (ints_dat hd) fun h2 tk t' F2 N2 => P _ rfl _ c' h2 tk (S'.same F2 N2) G' e' (DatIn.int _ _)
theorem abs_elt {x : Amb} {n : Nat} (O : x.Ok w n) (SC : ScOk x scCell (T "cell")) {p2 p3 p4 p5 p6 : Pos} (cl : List Int) : EltOk w x m σ scCell (T "cell") (.Call (.Name (T "abs") p2) [.Call (.Name (T "int") p3) [.Name (T "cell") p4] [] p5] [] p6) absD (cl.map .int) := by
  intro c s C oC mC v d Q E S hC hn hv hd hm hQ
  obtain ⟨i, _, rfl⟩ := List.mem_map.mp hm
  refine wpAny_Call_NameR (nameB_E S.F O.X (topRead_of O.T) (v := .builtin "abs") (by kernel_rfl) (by kernel_rfl) (by decide) ?_ rfl rfl rfl rfl rfl)
  refine PyProof.Rows.callWith_builtin1 (spliced_more (wpAny_Call_NameR (nameB_E S.F O.X (topRead_of O.T) (v := .type "int") (by kernel_rfl) (by kernel_rfl) (by decide) ?_ rfl rfl rfl rfl rfl)))
  refine Pv.callWith_type1 (spliced_more (cname_own SC S hC hn hv (by decide) (spliced_none ?_)))
  obtain ⟨t0, rfl⟩ := datD hd
  refine call_int_int ?_
  refine spliced_none ?_
  refine bcall_sound O S (f := .bi "abs") (args := [.d (.int i)]) (K := fun v => v = vi (absI i)) rfl (.cons hd .nil) (ofE (B := vi (absI i) = vi (absI i)) (by kernel_rfl) rfl) ?_
  rintro u rfl val2 c2 h2 t2 S2 G2 e2 R2
  exact hQ val2 c2 h2 t2 S2 G2 e2 R2
theorem cells_wp {x : Amb} {n : Nat} {c : Cfg} {s : Shared} {Q : Flow → Shared → Prop} {E : Value → Shared → Prop} (O : x.Ok w n) (hsc : x.sc = lawSc) (S : SR w x.h₀ x.L m σ c s.heap) {l : Addr} {its : List Value} {ns : List Int} (hmc : c.mc (T "script") = some (.ref l)) (hl : x.h₀.IsList l its.toArray) (hI : IntsAre its ns) (hlen : its.length ≤ 63)
    (P : PostS w x c s Q .next (putL (T "cells") (.d (.list ((cellsOf ns).map .int))) m) σ) : wpAny (model pw w) x.A (exec (lawSt 0) x.env) Q E s := by
  obtain ⟨k, p1, p2, p3, p4, p5, p6, p7, p8, p9, p10, p11, p12, p13, e, hp⟩ := cellsSt_eq
  rw [e]
  have SC : ScOk x scCell (T "cell") := ⟨rfl, by decide, rfl, by decide, by decide⟩
  have ly : x.sc.names.lookup (T "cells") = some .local := by rw [hsc]; kernel_rfl
  refine assign_comp SC (fun _ => rfl) ?_ ?_
  · show pure (x.env.blockKind == .function && x.env.kindOf (T "cells") == some .local && p1.line == p12.line && _) = pure true
    rw [hp, show x.env.kindOf (T "cells") = some .local from ly, show x.env.blockKind = .function from by show (if x.sc.kind.isAnnotationScope = true then _ else x.sc.kind) = _; rw [O.kind]; rfl]
    rfl
  · refine wpAny_Subscript_list_slice (wpAny_Name (wpAny_loadName_local (v := .ref l) O.kind (show x.sc.names.lookup (T "script") = some .local by rw [hsc]; kernel_rfl) S.F.ns hmc (wpAny_evalPart_none (wpAny_evalPart_some (wpAny_Constant_int ?_)))) (by decide)) (fun _ _ => rfl)
    have hl' : s.heap.IsList l its.toArray := by obtain ⟨o, h1, h2⟩ := hl; exact ⟨o, S.F.keep _ _ h1, h2⟩
    refine ⟨l, its.toArray, none, some ((24 : Nat) : Int), rfl, hl', by rw [List.size_toArray]; exact sizeLine_ge (by omega), .none, .int _ _, ?_⟩
    rw [slicePick_upto']
    have F1 := S.F.push { cls := .type "slice", data := Data.fields #[.none, .int 24 s.toks, .none] }
    have N1 := News.push S.F S.N { cls := .type "slice", data := Data.fields #[.none, .int 24 s.toks, .none] }
    have S4 : SR w x.h₀ x.L m σ c (s.heap.push { cls := .type "slice", data := Data.fields #[.none, .int 24 s.toks, .none] }) := S.same F1 fun p hp => N1 p (.tail _ hp)
    obtain ⟨S5, R5⟩ := push_list (s := { s with heap := s.heap.push { cls := .type "slice", data := Data.fields #[.none, .int 24 s.toks, .none] } }) (k := 0) S4 (dat_ints (ints_take hI 24)) (F1.push _) (News.push F1 S4.N _) (fun p hp => Nat.ne_of_lt (Heap.lt_size (S4.N p hp).1))
    rw [Heap.size_push] at S5 R5
    refine src_list (s := { s with heap := _, toks := _ }) O SC S5 R5 (by rw [List.length_map, List.length_take]; omega) (abs_elt O SC _) fun h1 S1 => comp_assign (s₂ := { s with heap := h1, toks := s.toks + 1 }) O ly S1 ?_
    rw [map_absD]
    intro fv c' h' tk' S' G' R'
    exact P fv c' h' tk' S' ((grow_frozen _ _).trans G') R'
end
end Mine
end
section
open PySem PySem.W PyProof.Rows PySem.Calls PySem.Spec
set_option maxRecDepth 100000
set_option linter.unusedVariables false
namespace Mine
/-! the worths stay small -/
noncomputable def VB (k : Int) : Dat → Prop
  | .int i => Sm k i
  | .str s => s.length ≤ 255 ∧ PyData.strOk s = true
  | _ => False
noncomputable def RB (k : Int) : Res → Prop
  | .val d => VB k d
  | .bad c => c.length ≤ 255 ∧ PyData.strOk c = true
theorem Sm.mono {k k' a : Int} (h : Sm k a) (l : k ≤ k') : Sm k' a := ⟨by have := h.lo; omega, by have := h.hi; omega⟩
theorem VB.mono {k k' : Int} (l : k ≤ k') {d : Dat} (h : VB k d) : VB k' d := by
  cases d <;> first | exact h | exact Sm.mono h l
theorem RB.mono {k k' : Int} (l : k ≤ k') {r : Res} (h : RB k r) : RB k' r := by
  cases r with
  | val d => exact VB.mono l h
  | bad c => exact h
theorem VB.isV {k : Int} {d : Dat} (h : VB k d) : isV d = true := by
  cases d <;> first | rfl | exact h.elim
theorem Sm.mul {k a b : Int} (ha : Sm k a) (hb : Sm k b) : Sm (k * k) (a * b) := by
  have h1 : a.natAbs ≤ k.natAbs := by have := ha.lo; have := ha.hi; omega
  have h2 : b.natAbs ≤ k.natAbs := by have := hb.lo; have := hb.hi; omega
  have h3 := Nat.mul_le_mul h1 h2
  rw [← Int.natAbs_mul, ← Int.natAbs_mul] at h3
  have hk : 0 ≤ k * k := by
    have : 0 ≤ k := by have := ha.lo; have := ha.hi; omega
    exact Int.mul_nonneg this this
  generalize k * k = kk at *
  generalize a * b = ab at *
  exact ⟨by omega, by omega⟩
theorem strOk_app {s t : Str} (hs : PyData.strOk s = true) (ht : PyData.strOk t = true) : PyData.strOk (s ++ t) = true := by
  unfold PyData.strOk at *
  show (s.cps ++ t.cps).all _ = true
  rw [Array.all_append, hs, ht]; rfl
noncomputable def isBit : Op → Bool
  | .and | .or | .xor | .eqv | .imp => true
  | _ => false
theorem opI_nb {k a b : Int} {o : Op} (ho : isBit o = false) (ha : Sm k a) (hb : Sm k b) (hk : 2 ≤ k) : RB (k * k + k) (opI a b o) := by
  have hm := ha.mul hb
  have hkk : 2 * k ≤ k * k := Int.mul_le_mul_of_nonneg_right hk (by omega)
  have l1 := ha.lo; have l2 := ha.hi; have l3 := hb.lo; have l4 := hb.hi
  have one : Sm (k * k + k) (-1) := ⟨by omega, by omega⟩
  have zero : Sm (k * k + k) 0 := ⟨by omega, by omega⟩
  cases o with
  | add => exact ⟨by omega, by omega⟩
  | sub => exact ⟨by omega, by omega⟩
  | mul => exact hm.mono (by omega)
  | div =>
    show RB _ (if b = 0 then .bad (T "DZ") else .val (.int (sq a b)))
    split
    · exact ⟨by decide, by decide +kernel⟩
    · rename_i h; exact (sq_le ha h).mono (by omega)
  | mod =>
    show RB _ (if b = 0 then .bad (T "DZ") else .val (.int (a - b * sq a b)))
    split
    · exact ⟨by decide, by decide +kernel⟩
    · rename_i h
      have := hb.mul (sq_le ha h)
      have u1 := this.lo; have u2 := this.hi
      generalize b * sq a b = z at *
      exact ⟨by omega, by omega⟩
  | and => cases ho
  | or => cases ho
  | xor => cases ho
  | eqv => cases ho
  | imp => cases ho
  | _ => show Sm _ (if _ then _ else _); split <;> first | exact one | exact zero
theorem bits8 (l : LOp) : ∀ i j : _root_.Fin 17, -100 ≤ lop l ((i.val : Int) - 8) ((j.val : Int) - 8) ∧ lop l ((i.val : Int) - 8) ((j.val : Int) - 8) ≤ 100 := by
  cases l <;> decide +kernel
theorem bits_sm8 (l : LOp) {a b : Int} (ha : Sm 8 a) (hb : Sm 8 b) : Sm 100 (lop l a b) := by
  have l1 := ha.lo; have l2 := ha.hi; have l3 := hb.lo; have l4 := hb.hi
  have := bits8 l ⟨(a + 8).toNat, by omega⟩ ⟨(b + 8).toNat, by omega⟩
  have e1 : (((a + 8).toNat : Nat) : Int) - 8 = a := by omega
  have e2 : (((b + 8).toNat : Nat) : Int) - 8 = b := by omega
  simp only [e1, e2] at this
  exact ⟨this.1, this.2⟩
theorem bits_sm16 (l : LOp) {a b : Int} (ha : Sm 100 a) (hb : Sm 100 b) : Sm 40000 (lop l a b) := by
  have l1 := ha.lo; have l2 := ha.hi; have l3 := hb.lo; have l4 := hb.hi
  rw [← bits_law l (by omega) (by omega) (by omega) (by omega)]
  have := bF_bound l a b 16
  have p16 : (2 : Int) ^ 16 = 65536 := by decide
  unfold bitsR
  split
  · exact ⟨by omega, by omega⟩
  · exact ⟨by omega, by omega⟩
theorem opI_bit {k k' a b : Int} {o : Op} (ho : isBit o = true) (h : ∀ l, Sm k (lop l a b)) : RB k (opI a b o) := by
  cases o with
  | and => exact h .and
  | or => exact h .or
  | xor => exact h .xor
  | eqv => exact h .eqv
  | imp => exact h .imp
  | _ => cases ho
theorem opS_rb {k : Int} (hk : 1 ≤ k) {s t : Str} (hs : PyData.strOk s = true) (ht : PyData.strOk t = true) (o : Op) : RB k (opS s t o) := by
  have one : Sm k (-1) := ⟨by omega, by omega⟩
  have zero : Sm k 0 := ⟨by omega, by omega⟩
  have tm : RB k (.bad (T "TM")) := ⟨by decide, by decide +kernel⟩
  by_cases ho : o = .add
  · subst ho
    show RB k (if (s ++ t).length ≤ 255 then .val (.str (s ++ t)) else .bad (T "LS"))
    split
    · rename_i h; exact ⟨h, strOk_app hs ht⟩
    · exact ⟨by decide, by decide +kernel⟩
  · have e : opS s t o = (if isCmp o = true then .val (.int (if cmpT (ordS s t) o = true then -1 else 0)) else .bad (T "TM")) := by
      cases o <;> first | rfl | exact absurd rfl ho
    rw [e]
    split
    · show Sm k (if _ then _ else _); split
      · exact one
      · exact zero
    · exact tm
theorem op2_rb {k k' : Int} (hk : 2 ≤ k) (hk' : k * k + k ≤ k') (hb : ∀ (l : LOp) {a b : Int}, Sm k a → Sm k b → Sm k' (lop l a b)) {a b : Dat} (ha : VB k a) (hB : VB k b) (o : Op) : RB k' (op2 o a b) := by
  have tm : RB k' (.bad (T "TM")) := ⟨by decide, by decide +kernel⟩
  have hkk : 2 * k ≤ k * k := Int.mul_le_mul_of_nonneg_right hk (by omega)
  cases a with
  | int a => cases b with
    | int b =>
      show RB k' (opI a b o)
      cases ho : isBit o with
      | true => exact opI_bit (k' := k) ho fun l => hb l ha hB
      | false => exact (opI_nb ho ha hB hk).mono hk'
    | str b => exact tm
    | _ => exact hB.elim
  | str a => cases b with
    | int b => exact tm
    | str b => exact opS_rb (by omega) ha.2 hB.2 o
    | _ => exact hB.elim
  | _ => exact ha.elim
theorem okArgs_of {a b : Dat} (ha : VB 100 a) (hb : VB 100 b) (o : Op) : okArgs o a b := by
  cases a with
  | int a => cases b with
    | int b => exact ⟨Sm.mono ha (by omega), Sm.mono hb (by omega), fun _ => (Sm.mul ha hb).mono (by omega)⟩
    | str b => trivial
    | _ => exact hb.elim
  | str a => cases b with
    | int b => trivial
    | str b => exact ⟨ha.1, hb.1⟩
    | _ => exact hb.elim
  | _ => exact ha.elim
theorem un_rb {k k' : Int} (hk : k + 1 ≤ k') {a : Dat} (ha : VB k a) (neg : Bool) : RB k' (un neg a) := by
  have tm : RB k' (.bad (T "TM")) := ⟨by decide, by decide +kernel⟩
  cases a with
  | int a =>
    have l1 : -k ≤ a := Sm.lo ha
    have l2 : a ≤ k := Sm.hi ha
    cases neg with
    | true => exact ⟨show -k' ≤ 0 - a by omega, show 0 - a ≤ k' by omega⟩
    | false => exact ⟨show -k' ≤ -1 - a by omega, show -1 - a ≤ k' by omega⟩
  | str a => exact tm
  | _ => exact ha.elim
noncomputable def KB : Nat → Int
  | 0 => 8
  | 1 => 100
  | _ => 40000
theorem KB8 (n : Nat) : 8 ≤ KB n := by unfold KB; split <;> decide
theorem leaf_nm (j : _root_.Fin 4) : RB 8 (nmR j) := by
  match j with
  | 0 => exact ⟨by decide, by decide⟩
  | 1 => exact ⟨by decide, by decide⟩
  | 2 => exact ⟨by decide, by decide +kernel⟩
  | 3 => exact ⟨by decide, by decide +kernel⟩
noncomputable def rbB : Res → Bool
  | .val (.int i) => decide (-8 ≤ i) && decide (i ≤ 8)
  | .val (.str s) => decide (s.length ≤ 255) && PyData.strOk s
  | .bad c => decide (c.length ≤ 255) && PyData.strOk c
  | _ => false
theorem rb_of {r : Res} (h : rbB r = true) : RB 8 r := by
  cases r with
  | val d =>
    cases d with
    | int i =>
      have h' := Bool.and_eq_true_iff.mp (show (decide (-8 ≤ i) && decide (i ≤ 8)) = true from h)
      exact ⟨of_decide_eq_true h'.1, of_decide_eq_true h'.2⟩
    | str s =>
      have h' := Bool.and_eq_true_iff.mp (show (decide (s.length ≤ 255) && PyData.strOk s) = true from h)
      exact ⟨of_decide_eq_true h'.1, h'.2⟩
    | _ => cases h
  | bad c =>
    have h' := Bool.and_eq_true_iff.mp (show (decide (c.length ≤ 255) && PyData.strOk c) = true from h)
    exact ⟨of_decide_eq_true h'.1, h'.2⟩
theorem leaf_all : ∀ (kd : _root_.Fin 3) (k : _root_.Fin 4), rbB (bkR kd k) = true := by decide +kernel
theorem leaf_bk (kd : _root_.Fin 3) (k : _root_.Fin 4) : RB 8 (bkR kd k) := rb_of (leaf_all kd k)
theorem leaf_txt (j : _root_.Fin 4) : VB 8 (.str (txtS j)) := by
  match j with
  | 0 => exact ⟨by decide, by decide +kernel⟩
  | 1 => exact ⟨by decide, by decide +kernel⟩
  | 2 => exact ⟨by decide, by decide +kernel⟩
  | 3 => exact ⟨by decide +kernel, by decide +kernel⟩
theorem shape_ok : ∀ {n : Nat} {t : Tr}, Shape n t → n ≤ 2 → OKT 0 t ∧ RB (KB n) (W t).1 := by
  intro n t h
  induction h with
  | whole h0 h8 => exact fun _ => ⟨⟨by omega, by omega⟩, VB.mono (d := .int _) (KB8 _) ⟨by omega, by omega⟩⟩
  | @text n j => exact fun _ => ⟨trivial, VB.mono (KB8 n) (leaf_txt j)⟩
  | name j => exact fun _ => ⟨rfl, RB.mono (KB8 _) (leaf_nm j)⟩
  | bk kd k => exact fun _ => ⟨rfl, RB.mono (KB8 _) (leaf_bk kd k)⟩
  | @un n neg t _ ih =>
    intro hn
    obtain ⟨o, r⟩ := ih (by omega)
    have hk : KB n ≤ 100 ∧ KB n + 1 ≤ KB (n + 1) := by
      have : n = 0 ∨ n = 1 := by omega
      rcases this with rfl | rfl <;> exact ⟨by decide, by decide⟩
    refine ⟨⟨o, fun a e => ?_⟩, ?_⟩
    · rw [e] at r
      have r' : VB (KB n) a := r
      exact ⟨r'.isV, fun i e => by subst e; exact Sm.mono r' (by omega)⟩
    · rw [W_un]
      rcases hW : W t with ⟨x, q⟩
      rw [hW] at r
      cases x with
      | val a => exact un_rb hk.2 r neg
      | bad c => exact r
  | @two n op l r _ _ ih1 ih2 =>
    intro hn
    obtain ⟨o1, r1⟩ := ih1 (by omega)
    obtain ⟨o2, r2⟩ := ih2 (by omega)
    have hk : KB n ≤ 100 := by
      have : n = 0 ∨ n = 1 := by omega
      rcases this with rfl | rfl <;> decide
    have key : ∀ {a b : Dat}, VB (KB n) a → VB (KB n) b → RB (KB (n + 1)) (op2 op a b) := fun ha hb => by
      have : n = 0 ∨ n = 1 := by omega
      rcases this with rfl | rfl
      · exact op2_rb (k := 8) (by decide) (by decide) (fun l => bits_sm8 l) ha hb op
      · exact op2_rb (k := 100) (by decide) (by decide) (fun l => bits_sm16 l) ha hb op
    refine ⟨⟨o1, o2, fun a b e1 e2 => ?_⟩, ?_⟩
    · rw [e1] at r1
      rw [e2] at r2
      have r1' : VB (KB n) a := r1
      have r2' : VB (KB n) b := r2
      exact ⟨r1'.isV, r2'.isV, okArgs_of (r1'.mono hk) (r2'.mono hk) op⟩
    · rw [W_two]
      rcases hW1 : W l with ⟨u, q⟩
      rw [hW1] at r1
      cases u with
      | bad c => exact r1
      | val a =>
        rcases hW2 : W r with ⟨v, q'⟩
        rw [hW2] at r2
        cases v with
        | bad c => exact r2
        | val b => exact key r1 r2
theorem shape_sz : ∀ {n : Nat} {t : Tr}, Shape n t → n ≤ 2 → szT t ≤ 30 ∧ dep t ≤ n := by
  have step : ∀ {n : Nat} {t : Tr}, Shape n t → szT t + 3 ≤ 2 ^ (n + 3) ∧ dep t ≤ n := by
    intro n t h
    induction h with
    | @whole n _ _ _ => exact ⟨by have := Nat.one_le_two_pow (n := n); rw [Nat.pow_add]; show 1 + 3 ≤ _ * 8; omega, Nat.zero_le _⟩
    | @text n j => exact ⟨by have := Nat.one_le_two_pow (n := n); rw [Nat.pow_add]; show 1 + 3 ≤ _ * 8; omega, Nat.zero_le _⟩
    | @name n j => exact ⟨by have := Nat.one_le_two_pow (n := n); rw [Nat.pow_add]; show 1 + 3 ≤ _ * 8; omega, Nat.zero_le _⟩
    | @bk n kd k => exact ⟨by have := Nat.one_le_two_pow (n := n + 1); rw [Nat.pow_add]; show 3 + 3 ≤ _ * 8; omega, Nat.zero_le _⟩
    | @un n neg t _ ih =>
      have h1 := ih.1
      have e : 2 ^ (n + 1 + 3) = 2 * 2 ^ (n + 3) := by rw [show n + 1 + 3 = (n + 3) + 1 from by omega, Nat.pow_succ]; omega
      have := Nat.one_le_two_pow (n := n)
      have e2 : 2 ^ (n + 3) = 2 ^ n * 8 := by rw [Nat.pow_add]
      exact ⟨by rw [e]; show 2 + szT t + 3 ≤ _; omega, by show dep t + 1 ≤ _; omega⟩
    | @two n op l r _ _ ih1 ih2 =>
      have h1 := ih1.1
      have h2 := ih2.1
      have e : 2 ^ (n + 1 + 3) = 2 * 2 ^ (n + 3) := by rw [show n + 1 + 3 = (n + 3) + 1 from by omega, Nat.pow_succ]; omega
      exact ⟨by rw [e]; show 2 + szT l + szT r + 3 ≤ _; omega, by show max (dep l) (dep r) + 1 ≤ _; have := ih1.2; have := ih2.2; omega⟩
  intro n t h hn
  have := step h
  refine ⟨?_, this.2⟩
  have h1 := this.1
  have : 2 ^ (n + 3) ≤ 2 ^ 5 := Nat.pow_le_pow_right (by decide) (by omega)
  omega
end Mine
end
section
open PySem PySem.W PyProof.Rows PySem.Calls PySem.Spec
set_option maxRecDepth 100000
set_option linter.unusedVariables false
namespace Mine
/-! what is written of a worth -/
structure RepOk (d : Dat) : Prop where
  ok : kqdOk 8 d = true
  sh : (kqdP d).showable = true
  len : (kqdP d).shown.length ≤ sizeLine
  tup : ∃ ds, d = .tuple ds
theorem lg16 {n : Nat} (h : n ≤ 40000) : n.log2 < 16 := by
  by_cases h0 : n = 0
  · subst h0; decide
  · exact (Nat.log2_lt h0).mpr (by have : (2 : Nat) ^ 16 = 65536 := by decide
                                   omega)
theorem rep_of {r : Res} (h : RB 40000 r) : RepOk (resD r) := by
  have main : ∀ {a b : Dat}, kqdOk 8 (.tuple [a, b]) = true → (kqdP (.tuple [a, b])).showable = true → (kqdP (.tuple [a, b])).weight ≤ 2 ^ 20 → (kqdP (.tuple [a, b])).intsShort 13 = true → RepOk (.tuple [a, b]) := fun h1 h2 h3 h4 => by
    refine ⟨h1, h2, ?_, _, rfl⟩
    have := kqd_lay 8 _ h1
    have l := shown_le13 (d := kqdP (.tuple [_, _])) (by unfold PyData.layable0; rw [this.1, decide_eq_true (by have := this.2; omega), decide_eq_true h3]; rfl) h4
    have := sizeLine_eq
    omega
  cases r with
  | val d =>
    cases d with
    | int i =>
      have l1 : -40000 ≤ i := Sm.lo h
      have l2 : i ≤ 40000 := Sm.hi h
      have lg := lg16 (n := i.natAbs) (by omega)
      refine main ?_ ?_ ?_ ?_
      · show ([Dat.str (T "value"), Dat.int i].all (kqdOk 7)) = true
        simp only [List.all_cons, List.all_nil, kqdOk]
        decide +kernel
      · show (true && (decide (i.natAbs.log2 < 1920) && true)) = true
        rw [decide_eq_true (by omega)]; rfl
      · show (T "value").cps.size + 1 + ((if i == 0 then 0 else i.natAbs.log2 + 1) + 1 + 0) ≤ 2 ^ 20
        have e1 : (T "value").cps.size = 5 := by decide
        rw [e1]
        split <;> omega
      · show (true && (decide _ && true)) = true
        rw [decide_eq_true (PyData.shown_int_le2 (by omega) (by omega))]; rfl
    | str s =>
      refine main ?_ rfl ?_ rfl
      · show ([Dat.str (T "value"), Dat.str s].all (kqdOk 7)) = true
        simp only [List.all_cons, List.all_nil, kqdOk, h.2]
        decide +kernel
      · show (T "value").cps.size + 1 + (s.cps.size + 1 + 0) ≤ 2 ^ 20
        have e1 : (T "value").cps.size = 5 := by decide
        have e2 : s.cps.size ≤ 255 := h.1
        omega
    | _ => exact h.elim
  | bad c =>
    refine main ?_ rfl ?_ rfl
    · show ([Dat.str (T "bad"), Dat.str c].all (kqdOk 7)) = true
      simp only [List.all_cons, List.all_nil, kqdOk, h.2]
      decide +kernel
    · show (T "bad").cps.size + 1 + (c.cps.size + 1 + 0) ≤ 2 ^ 20
      have e1 : (T "bad").cps.size = 3 := by decide
      have e2 : c.cps.size ≤ 255 := h.1
      omega
section
variable {w : World} {m : Loc} {σ : Sto}
theorem repr_wp {y : Str} {p1 p2 p3 : Pos} {d : Dat} (hl : lawSc.names.lookup y = some .local) (hn : (y == debugName) = false) (hy : look y m = some (.d d)) (ok : RepOk d) : EWp w 41 lawSc m σ (.Call (.Name (T "repr") p1) [.Name y p2] [] p3) (.ok (vs (kqdP d).shown)) σ := by
  refine ⟨?_⟩
  intro x c s Q E O hsc S P PX
  have nb : nameV x.sc m y = some (.d d) := by rw [hsc]; unfold nameV; rw [hn, hl]; exact hy
  refine wpAny_Call_NameR (nameB_E S.F O.X (topRead_of O.T) (v := .builtin "repr") (by kernel_rfl) (by kernel_rfl) (by decide) ?_ rfl rfl O.kind (show x.sc.names.lookup (T "repr") = some .globalImplicit by rw [hsc]; kernel_rfl) rfl)
  refine PyProof.Rows.callWith_builtin1 (spliced_more (name_sound O S nb fun vb rb => spliced_none ?_))
  obtain ⟨ds, rfl⟩ := ok.tup
  have rb' : DatIn c.fz vb (.tuple ds) := rb
  obtain ⟨a, vs', kk, rfl, hm, hd⟩ := datT rb'
  obtain ⟨as, r1⟩ := kqd_in S.N 8 (rb'.mono fun p hp => S.memF hp) ok.ok
  have ly := kqd_lay 8 _ ok.ok
  refine repr_of_reads' r1 ok.sh (PyData.noDict_hsm (PyData.hasDict_of_canLay _ ly.1)) O.gd (by have := O.un; have := ly.2; omega) (fun _ _ e => e) (fun h' u tk hk => ?_) ok.len
  exact P _ rfl _ c h' tk (S.same (S.F.keptAll hk) (S.N.grown hk)) (Grow.refl c) rfl (DatIn.str _ _)
end
end Mine
end
section
open PySem PySem.W PyProof.Rows PySem.Calls PySem.Spec
open Builtin Builtin.ObjectAttr
set_option maxRecDepth 100000
set_option linter.unusedVariables false
namespace Mine
theorem m33_ga (P : Params) : m33 P "__getattribute__" = none := by kernel_rfl
theorem m33_gattr (P : Params) : m33 P "__getattr__" = none := by kernel_rfl
section
variable {w : World} {A : Around} {E : Value → Shared → Prop} {h : Heap} {g : Array GenState} {d : Drawn} {t : Nat} {os : OsState} {P : Params}
theorem code_run {x dx : Addr} {o : Obj} {mA : Str → Option Value} {v : Value} {tk : Tok} {Q : Fin → Shared → Prop} (X : (KF P).In h) (hx : h.get? x = some o) (hc : o.cls = .ref 34) (hd : o.dict = some dx) (hn : h.Ns dx mA) (hA : mA (Str.ofString "code") = some v) (hnc : ∀ c, o.data ≠ .cls c)
    (hq : Q (.done (.ret v)) ⟨h, g, d, t, os⟩) :
    wpAny (model pw w) A (Builtin.«object.__getattribute__» ⟨[.ref x, .str "code" tk], []⟩) Q E ⟨h, g, d, t, os⟩ := by
  have hC := hC34 X
  have hN := hN33 X
  have hm := PySem.F.attrBase_Exception.mro
  have hcode := m33_code P
  have hB := lk_code
  clear X
  obtain ⟨oc, od, odt, osl⟩ := o
  dsimp only at hc hd hnc
  subst hc hd
  unfold Builtin.«object.__getattribute__»
  repeat (any_goals (first | assumption | with_reducible refine wpAny_loadPart_at hx ?_ | (with_reducible refine wpAny_typeLookup_exc hC hN hm hB ?_; rw [hcode]) | wp_step))
  split
  · rename_i c e; exact absurd e (hnc c)
  · unfold instanceDict inDict
    repeat (first | with_reducible refine wpAny_loadPart_at hx ?_ | with_reducible refine wpAny_loadPart_at hC ?_ | (with_reducible refine wpAny_nsGet hn ?_; rw [hA]) | wp_step)
    exact hq
theorem code_attr {x dx : Addr} {o : Obj} {mA : Str → Option Value} {v : Value} {expr : Bool} {Q : Value → Shared → Prop} (X : (KF P).In h) (hx : h.get? x = some o) (hc : o.cls = .ref 34) (hd : o.dict = some dx) (hn : h.Ns dx mA) (hA : mA (Str.ofString "code") = some v) (hnc : ∀ c, o.data ≠ .cls c) (hv : handedIn v = true)
    (hq : Q v ⟨h, g, d, t + 1, os⟩) : wpAny (model pw w) A (getAttr (.ref x) "code" expr) Q E ⟨h, g, d, t, os⟩ := by
  have hC := hC34 X
  have hN := hN33 X
  have FB := PySem.F.attrBase_Exception
  have hm := FB.mro
  have f3 := FB.ga.bind (.ref x)
  have n1 := m33_ga P
  have n2 := m33_gattr P
  have l1 := FB.ga.lookup
  have l2 := FB.noGetattr
  have hx0 : (expr && onTheHeap (Value.builtin "BaseException.__getattribute__")) = false := by cases expr <;> rfl
  have hx2 : (Value.builtin "BaseException.__getattribute__" == Value.builtin "object.__getattribute__") = false := by decide +kernel
  have hx1 : (onTheHeap (Value.ref 34) && Value.builtin "BaseException.__getattribute__" == Value.builtin "object.__getattribute__") = false := by rw [hx2]; rfl
  have call1 : ∀ {tk : Tok} {R : Result → Shared → Prop} {A' : Around} {t' : Nat}, R (.ok (.ret v)) ⟨h, g, d, t', os⟩ → codeAny (model pw w) A' (.call (.builtin "BaseException.__getattribute__") ⟨[.ref x, .str "code" tk], []⟩) R ⟨h, g, d, t', os⟩ := fun hr =>
    codeAny_call_builtin FB.ga.plain PySem.F.entry_bexc_ga (wpAny_check_ga_own FB hC .base hx hc (code_run X hx hc hd hn hA hnc hr))
  clear X
  obtain ⟨oc, od, odt, osl⟩ := o
  dsimp only at hc hd hnc
  subst hc hd
  unfold getAttr getAttrBy
  repeat (any_goals (first | assumption | with_reducible refine wpAny_loadPart_at hx ?_ | (with_reducible refine wpAny_typeLookup_exc hC hN hm l1 ?_; rw [n1]) | (with_reducible refine wpAny_typeLookup_exc hC hN hm l2 ?_; rw [n2]) | wp_step))
  exact call1 (handed_on hv hq)
end
end Mine
end
section
open PySem PySem.W PyProof.Rows PySem.Calls PySem.Spec
set_option maxRecDepth 100000
set_option linter.unusedVariables false
namespace Mine
/-! the exception is caught -/
noncomputable def tyE : Expr := match lawSt 6 with
  | .Try b _ _ _ _ => asgE (b.headD noStm)
  | _ => .Constant .none 0 ⟨0, 0, 0, 0⟩
theorem trySt_eq : ∃ k n p1 p2 p3 p4 p5 p6 p7 p8 p9 p10 p11, lawSt 6 = .Try [.Assign [.Name (T "found") p1] tyE p2] [.ExceptHandler (some (.Name (T "BasicError") p3)) (some (T "wrong"))
    [.Assign [.Name (T "found") p4] (.Tuple [.Constant (.str (T "bad")) k p5, .Attribute (.Name (T "wrong") p6) (T "code") p7] n p8) p9] p10] [] [] p11 := ⟨_, _, _, _, _, _, _, _, _, _, _, _, _, rfl⟩
section
variable {w : World} {x : Amb} {n : Nat} {m : Loc} {σ σ' : Sto} {c c1 : Cfg} {s : Shared} {E : Value → Shared → Prop}
theorem locAny {h h' : Heap} (S : SR w x.h₀ x.L m σ c h) {y : Str} {val : Option Value} (hy : look y m = none) (F : Fr x.h₀ x.L h' (fun z => if z = y then val else c.mc z)) (N : News x.h₀ x.L h' c.all) :
    SR w x.h₀ x.L m σ { c with mc := fun z => if z = y then val else c.mc z } h' := by
  have g : Grow c { c with mc := fun z => if z = y then val else c.mc z } := ⟨fun _ h => h, fun _ _ o h => ⟨o, h⟩, rfl⟩
  refine ⟨F, N, fun z u hz => ?_, ⟨S.st.len, S.st.at_, S.st.nd, S.st.dj, S.st.dx, S.st.fx⟩⟩
  obtain ⟨val', h1, h2⟩ := S.lo z u hz
  refine ⟨val', ?_, h2.mono g⟩
  show (if z = y then _ else _) = _
  rw [if_neg (fun e => by rw [e, hy] at hz; cases hz)]
  exact h1
theorem caught_wp (O : x.Ok w n) (hsc : x.sc = lawSc) (hbase : x.base = x.h₀) {code : Str} {e : Addr} {h1 : Heap} {t1 : Nat} (S : SR w x.h₀ x.L m σ c s.heap) (G1 : Grow c c1) (e1 : c1.mc = c.mc) (M1 : MuR c1 σ') (X1 : XR x code c1 e h1)
    (hw : look (T "wrong") m = none) {k k2 : Nat} {p3 p4 p5 p6 p7 p8 p9 p10 : Pos} {Q : Flow → Shared → Prop} (P : PostS w x c s Q .next (putL (T "found") (.d (resD (.bad code))) m) σ') :
    wpAny (model pw w) x.A (noteFrame (.ref e) x.env) (fun _ s₂ => wpAny (model pw w) x.A (setFlight (.ref e) none) (fun _ s₃ => wpAny (model pw w) x.A (handleBy (.ref e) x.env [.ExceptHandler (some (.Name (T "BasicError") p3)) (some (T "wrong"))
      [.Assign [.Name (T "found") p4] (.Tuple [.Constant (.str (T "bad")) k p5, .Attribute (.Name (T "wrong") p6) (T "code") p7] k2 p8) p9] p10]) Q E s₃) E s₂) E { s with heap := h1, toks := t1 } := by
  refine note_xr O (s' := { s with heap := h1, toks := t1 }) X1 fun h2 X2 => ?_
  obtain ⟨g, F, R, up⟩ := X2.ex
  obtain ⟨B, d, hB, hBG, hl, r1, r2, r3, r4, r5⟩ := R.ex
  refine flight_set (s := { s with heap := h2, toks := t1 }) r1 r2 r3 r4 fun h3 x1 x2 x3 x4 => ?_
  rw [hbase] at hB
  have F3 : Fr x.h₀ x.L h3 c1.mc := F.of_stays (fun b o q => x1 b o (hB b o q)) (up.trans x4)
  refine wpAny_handleBy_cons (codeAny_handlers_test (nameG_K F3 O.X (topRead_of O.T) (v := .ref 34) (by kernel_rfl) ?_ rfl O.kind (show x.sc.names.lookup (T "BasicError") = some .globalImplicit by rw [hsc]; kernel_rfl) rfl)) (by intro q; cases q)
  have hL : g.get? x.L ≠ none := by obtain ⟨oL, _, _, q, _⟩ := F.ns; rw [q]; exact fun z => by cases z
  have k4 : ∀ h', B.StaysIn h' → News x.h₀ x.L h' c1.all := fun h' y p hp => ⟨y _ _ (hl p hp).1, fun z => hL (z ▸ (hl p hp).2.1), by rw [← hbase]; exact (hl p hp).2.2⟩
  have lo : LocR w c1 m := S.lo.grow e1 G1
  obtain ⟨oe, vs, T', oT, ts, he, hcls, hdict, hd, hv, hTB, hTe, hT, hdT, h3'⟩ := id x3
  refine wpAny_excMatches_sub_self (hC34 (O.X.keeps F3.keep)) he hcls (by decide) (codeAny_handlers_suite_as ?_)
  refine flight_set (s := { s with heap := h3, toks := t1 }) x1 r2 x2 x3 fun h4 y1 y2 y3 y4 => ?_
  obtain ⟨oe4, vs4, T4, oT4, ts4, he4, hcls4, hdict4, hd4, _⟩ := id y3
  have F4 : Fr x.h₀ x.L h4 c1.mc := F.of_stays (fun b o q => y1 b o (hB b o q)) (up.trans (x4.trans y4))
  have N4 := k4 h4 y1
  have S4 : SR w x.h₀ x.L m σ' c1 h4 := ⟨F4, N4, lo, M1⟩
  have eL : e ≠ x.L := fun q => by
    obtain ⟨oL, _, _, q1, q2, _⟩ := F4.ns
    rw [← q, he4] at q1; cases q1
    rw [hd4] at q2; cases q2
  obtain ⟨mA, tk, hA, hcode⟩ := r5
  have hA4 : h4.Ns1 d mA := hA.at fun o q => y1 _ _ q
  have dL : d ≠ x.L := fun q => by
    obtain ⟨oD, _, _, q1, _⟩ := hA
    obtain ⟨_, ⟨L', oL, hf, hn, _⟩, _⟩ := y2
    have : L' = x.L := (Option.some.inj hf).symm
    rw [this, ← q, q1] at hn; cases hn
  refine wpAny_storeName_local (show x.sc.names.lookup (T "wrong") = some .local by rw [hsc]; kernel_rfl) F4.ns (fun h5 hn5 hs5 => ?_) (by show (x.sc.kind == .class || (x.sc.kind == .module && _)) = false; rw [O.kind]; rfl)
  have S5 := locAny S4 (y := T "wrong") (val := some (.ref e)) hw (F4.set hn5 hs5) (N4.set hs5)
  have he5 : h5.get? e = some oe4 := (hs5.2 _ eL).trans he4
  have hA5 : h5.Ns1 d mA := hA4.sameBut hs5 dL
  refine wpAny_execs_cons (wpAny_Assign_Name (Tuple_ (spliced_more (wpAny_Constant_str (spliced_more (Attribute_Name_ (wpAny_Name (wpAny_loadName_local (v := .ref e) O.kind (show x.sc.names.lookup (T "wrong") = some .local by rw [hsc]; kernel_rfl) S5.F.ns (show (if T "wrong" = T "wrong" then some (Value.ref e) else c1.mc (T "wrong")) = _ from if_pos rfl)
    (code_attr (O.X.keeps S5.F.keep) he5 hcls4 hdict4 hA5.ns hcode (fun c q => by rw [hd4] at q; cases q) rfl (spliced_none ?_))) (by decide))))))) (swapsNo rfl))
  refine newTuple_N (s := { s with heap := h5, toks := _ }) S5.F S5.N (fun h6 F6 N6 => ?_) (by show 2 ≤ sizeLine; exact sizeLine_ge (by omega))
  obtain ⟨S6, R6⟩ := push_tup (s := { s with heap := h5 }) (ds := [.str (T "bad"), .str code]) (k := 0) S5 (.cons (DatIn.str _ _) (.cons (DatIn.str _ _) .nil)) F6 N6 (size_ne S5.N)
  refine storeX_L (cl := []) (s := { s with heap := h6, toks := _ }) S6.F S6.N (fun h7 F7 N7 => ?_) O.kind (show x.sc.names.lookup (T "found") = some .local by rw [hsc]; kernel_rfl)
  obtain ⟨S7, G7⟩ := locPut (s := { s with heap := h6 }) S6 (y := T "found") (v := .d (resD (.bad code))) R6 F7 N7
  refine wpAny_execs_nil ?_
  refine wpAny_nameGoes_keeps (show x.sc.names.lookup (T "wrong") = some .local by rw [hsc]; kernel_rfl) S7.F.ns (by show (x.sc.kind == .class || (x.sc.kind == .module && _)) = false; rw [O.kind]; rfl) fun h8 v8 hn8 hs8 => ?_
  have hw7 : look (T "wrong") (putL (T "found") (.d (resD (.bad code))) m) = none := by
    unfold putL look
    split
    · rename_i q; exact absurd (show (T "wrong" == T "found") = true from q) (by decide)
    · exact hw
  have S8 := locAny S7 (y := T "wrong") (val := v8) hw7 (S7.F.set hn8 hs8) (S7.N.set hs8)
  have gm : ∀ {a : Cfg} {f : Str → Option Value}, Grow a { a with mc := f } := ⟨fun _ h => h, fun _ _ o h => ⟨o, h⟩, rfl⟩
  exact P .next _ h8 _ S8 (G1.trans (gm.trans ((grow_frozen _ _).trans (G7.trans gm)))) rfl
end
end Mine
end
section
open PySem PySem.W PyProof.Rows PySem.Calls PySem.Spec
set_option maxRecDepth 100000
set_option linter.unusedVariables false
namespace Mine
/-! what the law's statements do -/
noncomputable def oLaw : Addr → Bool := fun f => Nat.beq f 414 || Nat.beq f 442 || Nat.beq f 330 || Nat.beq f 400
noncomputable def sel (b : Bool) (t f : Prop) : Prop := match b with
  | true => t
  | false => f
noncomputable def eltB (i : Nat) : Expr → Expr
  | .BoolOp _ es _ => (es[i]?).getD (.Constant .none 0 ⟨0, 0, 0, 0⟩)
  | e => e
noncomputable def ifT : Stmt → Expr
  | .If t _ _ _ => t
  | _ => .Constant .none 0 ⟨0, 0, 0, 0⟩
noncomputable def cmpR1 : Expr → Expr
  | .Compare _ _ cs _ => cs.headD (.Constant .none 0 ⟨0, 0, 0, 0⟩)
  | e => e
noncomputable def reprF : Expr := eltE 0 (eltB 0 (ifT (lawSt 7)))
noncomputable def reprD : Expr := cmpR1 (eltB 0 (ifT (lawSt 7)))
noncomputable def forAr : Expr := match lawSt 9 with
  | .For _ it _ _ _ => eltE 0 it
  | _ => .Constant .none 0 ⟨0, 0, 0, 0⟩
noncomputable def forBd : List Stmt := match lawSt 9 with
  | .For _ _ b _ _ => b
  | _ => []
theorem forSt_eq : ∃ p1 p2 p3 p4, lawSt 9 = .For (.Name (T "turn") p1) (.Call (.Name (T "range") p2) [forAr] [] p3) forBd [] p4 := ⟨_, _, _, _, rfl⟩
theorem reprF_eq : ∃ p1 p2 p3, reprF = .Call (.Name (T "repr") p1) [.Name (T "found") p2] [] p3 := ⟨_, _, _, rfl⟩
theorem reprD_eq : ∃ p1 p2 p3, reprD = .Call (.Name (T "repr") p1) [.Name (T "due") p2] [] p3 := ⟨_, _, _, rfl⟩
theorem lawBody_eq : sBody (stm 65) = [lawSt 0, lawSt 1, lawSt 2, lawSt 3, lawSt 4, lawSt 5, lawSt 6, lawSt 7, lawSt 8, lawSt 9, lawSt 10] := rfl
noncomputable abbrev mA (d : Dat) (cl : List Dat) : Mine.Loc := [(T "tree", .d d), (T "asked", .loc 1), (T "box", .loc 0), (T "cells", .d (.list cl))]
noncomputable abbrev mB0 (d : Dat) (cl : List Dat) : Mine.Loc := [(T "hooks", .hk 0 2), (T "found", .d (.tuple [.str (T "value"), .none])), (T "book", .bk 0), (T "tree", .d d), (T "asked", .loc 1), (T "box", .loc 0), (T "cells", .d (.list cl))]
noncomputable abbrev mB (d due : Dat) (cl : List Dat) : Mine.Loc := [(T "due", .d due), (T "hooks", .hk 0 2), (T "found", .d (.tuple [.str (T "value"), .none])), (T "book", .bk 0), (T "tree", .d d), (T "asked", .loc 1), (T "box", .loc 0), (T "cells", .d (.list cl))]
noncomputable abbrev mC (d due fd : Dat) (cl : List Dat) : Mine.Loc := (T "found", .d fd) :: mB d due cl
noncomputable abbrev mD (d due fd : Dat) (cl : List Dat) : Mine.Loc := (T "total", vi 1) :: (T "row", .d (wholeD 1)) :: mC d due fd cl
section
variable (w : World) (B : Nat) (d due fd v : Dat) (cl : List Dat) (sm r t tt : Int) (bx q q' : List Dat) (ω : Om) (K : Fl → Mine.Loc → Sto → Om → Prop) (X : KX) (Ke : KE) (σ σ' : Sto) (code r1 r2 : Str)
theorem lv_1 : (ev (spW w B oLaw) 40).s lawSc [(T "cells", .d (.list cl))] [] (.ex (.ok (vi sm)) [] :: ω) (lawSt 1) K X =
    (EWp w B lawSc [(T "cells", .d (.list cl))] [] sumE (.ok (vi sm)) [] ∧ K .next [(T "box", .loc 0), (T "cells", .d (.list cl))] [[.list cl, .int (-1), .int sm]] ω) := by kernel_rfl
theorem lv_2 : (ev (spW w B oLaw) 40).s lawSc [(T "box", .loc 0), (T "cells", .d (.list cl))] σ (.call (.ok (.d d)) [bx] :: ω) (lawSt 2) K X =
    (CWp w B 414 [.loc 0, vi 2] σ (.ok (.d d)) [bx] ∧ K .next (mA d cl) [bx, []] ω) := by kernel_rfl
theorem lv_4 : (ev (spW w B oLaw) 40).s lawSc ((T "book", .bk 0) :: mA d cl) [bx, []] (.ex (.ok (.hk 0 2)) [bx, [], []] :: ω) (lawSt 4) K X =
    (EWp w B lawSc ((T "book", .bk 0) :: mA d cl) [bx, []] hkE (.ok (.hk 0 2)) [bx, [], []] ∧ K .next (mB0 d cl) [bx, [], []] ω) := by kernel_rfl
theorem lv_5 : (ev (spW w B oLaw) 40).s lawSc (mB0 d cl) [bx, [], []] (.call (.ok (.d due)) [bx, q, []] :: ω) (lawSt 5) K X =
    (CWp w B 442 [.d d, .bk 0, .loc 1] [bx, [], []] (.ok (.d due)) [bx, q, []] ∧ K .next (mB d due cl) [bx, q, []] ω) := by kernel_rfl
theorem lv_ty : (ev (spW w B oLaw) 40).e lawSc (mB d due cl) σ (.call (.ok (.d v)) σ' :: ω) tyE Ke X = (CWp w B 330 [.d d, .hk 0 2] σ (.ok (.d v)) σ' ∧ Ke (.d (.tuple [.str (T "value"), v])) σ' ω) := by kernel_rfl
theorem lv_tyx : (ev (spW w B oLaw) 40).e lawSc (mB d due cl) σ (.call (.exc code) σ' :: ω) tyE Ke X = (CWp w B 330 [.d d, .hk 0 2] σ (.exc code) σ' ∧ X code σ' ω) := by kernel_rfl
theorem lv_7 : (ev (spW w B oLaw) 40).s lawSc (mC d due fd cl) [bx, q, q'] (.ex (.ok (vs r1)) [bx, q, q'] :: .ex (.ok (vs r2)) [bx, q, q'] :: .b false :: ω) (lawSt 7) K X =
    (EWp w B lawSc (mC d due fd cl) [bx, q, q'] reprF (.ok (vs r1)) [bx, q, q'] ∧ EWp w B lawSc (mC d due fd cl) [bx, q, q'] reprD (.ok (vs r2)) [bx, q, q'] ∧
      sel (r1 != r2) (K (.ret (.d (.bool false))) (mC d due fd cl) [bx, q, q'] (.b false :: ω)) (chk (q'.all bKey && q.all bKey) (g (!dEqs q' q) false (K .next (mC d due fd cl) [bx, q, q'] ω)))) := by kernel_rfl
theorem lv_8 : (ev (spW w B oLaw) 40).s lawSc (mC d due fd cl) σ ω (lawSt 8) K X = K .next (mD d due fd cl) σ ω := by kernel_rfl
theorem lv_ar : (ev (spW w B oLaw) 40).e lawSc (mD d due fd cl) σ (.call (.ok (vi r)) σ' :: ω) forAr Ke X = (CWp w B 400 [.loc 0, vi 120] σ (.ok (vi r)) σ' ∧ Ke (vi r) σ' ω) := by kernel_rfl
noncomputable abbrev mT (t tt : Int) (v : Dat) : Mine.Loc := [(T "turn", vi t), (T "row", .d v), (T "total", vi tt)]
theorem lv_t3 : exL (ev (spW w B oLaw) 40) lawSc forBd (mT t tt v) σ (.b true :: .b true :: ω) K X = g (Int.fmod t 3 == 0) true (g (Int.fmod t 3 == 0) true
    (K .next ((T "total", vi (tt - Int.fmod t 7)) :: (T "row", .d (.tuple [.str (T "two"), .str (T "-"), v, wholeD (Int.fmod t 7)])) :: mT t tt v) σ ω)) := by kernel_rfl
theorem lv_f3 : exL (ev (spW w B oLaw) 40) lawSc forBd (mT t tt v) σ (.b false :: .b false :: ω) K X = g (Int.fmod t 3 == 0) false (g (Int.fmod t 3 == 0) false
    (K .next ((T "total", vi (tt + Int.fmod t 7)) :: (T "row", .d (.tuple [.str (T "two"), .str (T "+"), v, wholeD (Int.fmod t 7)])) :: mT t tt v) σ ω)) := by kernel_rfl
theorem lv_10 (i : Nat) (σ2 : Sto) : (ev (spW w B oLaw) 40).s lawSc [(T "row", .d v), (T "total", vi tt)] σ (.ex (.ok (.hk 1 i)) σ' :: .call (.ok (vi r)) σ2 :: ω) (lawSt 10) K X =
    (EWp w B lawSc [(T "row", .d v), (T "total", vi tt)] σ hkE2 (.ok (.hk 1 i)) σ' ∧ CWp w B 330 [.d v, .hk 1 i] σ' (.ok (vi r)) σ2 ∧ K (.ret (.sb (r == tt))) [(T "row", .d v), (T "total", vi tt)] σ2 ω) := by kernel_rfl
end
end Mine
end
section
open PySem PySem.W PyProof.Rows PySem.Calls PySem.Spec
set_option maxRecDepth 100000
set_option linter.unusedVariables false
namespace Mine
/-! the long row -/
noncomputable def rowT : Nat → Tr
  | 0 => .whole 1
  | k + 1 => .two (if (Int.fmod (k : Int) 3 == 0) = true then .sub else .add) (rowT k) (.whole (Int.fmod (k : Int) 7))
noncomputable def tot : Nat → Int
  | 0 => 1
  | k + 1 => if (Int.fmod (k : Int) 3 == 0) = true then tot k - Int.fmod (k : Int) 7 else tot k + Int.fmod (k : Int) 7
theorem f7 (k : Int) : 0 ≤ Int.fmod k 7 ∧ Int.fmod k 7 < 7 := ⟨Int.fmod_nonneg_of_pos _ (by decide), Int.fmod_lt_of_pos _ (by decide)⟩
theorem tot_le : ∀ k : Nat, -(1 + 6 * (k : Int)) ≤ tot k ∧ tot k ≤ 1 + 6 * (k : Int)
  | 0 => by decide
  | k + 1 => by
    have ih := tot_le k
    have := f7 (k : Int)
    rw [tot]
    split <;> constructor <;> omega
theorem row_W : ∀ k : Nat, k ≤ 130 → W (rowT k) = (.val (.int (tot k)), []) ∧ OKT 1 (rowT k)
  | 0, _ => ⟨rfl, ⟨by decide, by decide⟩⟩
  | k + 1, hk => by
    obtain ⟨ih, io⟩ := row_W k (by omega)
    have ht := tot_le k
    have h7 := f7 (k : Int)
    have w2 : W (.whole (Int.fmod (k : Int) 7)) = (.val (.int (Int.fmod (k : Int) 7)), []) := rfl
    have sm : Sm 2000 (tot k) := ⟨by omega, by omega⟩
    have s7 : Sm 2000 (Int.fmod (k : Int) 7) := ⟨by omega, by omega⟩
    refine ⟨?_, io, ⟨by omega, by omega⟩, fun a b e1 e2 => ?_⟩
    · rw [rowT, W_two, ih, w2, tot]
      by_cases h : (Int.fmod (k : Int) 3 == 0) = true
      · rw [if_pos h, if_pos h]; rfl
      · rw [if_neg h, if_neg h]; rfl
    · rw [ih] at e1
      rw [w2] at e2
      cases e1
      cases e2
      refine ⟨rfl, rfl, sm, s7, fun e => ?_⟩
      split at e <;> cases e
theorem row_sz : ∀ k : Nat, szT (rowT k) = 1 + 3 * k
  | 0 => rfl
  | k + 1 => by
    show 2 + szT (rowT k) + 1 = _
    rw [row_sz k]; omega
theorem row_enc_t {k : Nat} (h : (Int.fmod (k : Int) 3 == 0) = true) : enc (rowT (k + 1)) = .tuple [.str (T "two"), .str (T "-"), enc (rowT k), wholeD (Int.fmod (k : Int) 7)] ∧ tot (k + 1) = tot k - Int.fmod (k : Int) 7 := by
  rw [rowT, tot, if_pos h, if_pos h]; exact ⟨rfl, rfl⟩
theorem row_enc_f {k : Nat} (h : (Int.fmod (k : Int) 3 == 0) = false) : enc (rowT (k + 1)) = .tuple [.str (T "two"), .str (T "+"), enc (rowT k), wholeD (Int.fmod (k : Int) 7)] ∧ tot (k + 1) = tot k + Int.fmod (k : Int) 7 := by
  rw [rowT, tot, if_neg (by rw [h]; decide), if_neg (by rw [h]; decide)]; exact ⟨rfl, rfl⟩
/-- all that is asked are keys -/
theorem nm_key (j : _root_.Fin 4) : bKey (nmK j) = true := by
  match j with
  | 0 => decide +kernel
  | 1 => decide +kernel
  | 2 => decide +kernel
  | 3 => decide +kernel
theorem bk_key (kd : _root_.Fin 3) (k : _root_.Fin 4) : bKey (bkK kd k) = true := by
  match kd with
  | 0 => show PyData.strOk (T "A") = true; decide +kernel
  | 1 => show PyData.strOk (T "LEN") = true; decide +kernel
  | 2 => show PyData.strOk (T "FNA") = true; decide +kernel
theorem asked_keys : ∀ t : Tr, (W t).2.all bKey = true
  | .whole _ => rfl
  | .text _ => rfl
  | .name j => by rw [W]; show (bKey (nmK j) && true) = true; rw [nm_key]; rfl
  | .bk kd k => by rw [W]; show (bKey (bkK kd k) && true) = true; rw [bk_key]; rfl
  | .un neg t => by
    have ih := asked_keys t
    rw [W_un]
    rcases hW : W t with ⟨r, q⟩
    rw [hW] at ih
    cases r <;> exact ih
  | .two op l r => by
    have i1 := asked_keys l
    have i2 := asked_keys r
    rw [W_two]
    rcases hW : W l with ⟨x, q⟩
    rw [hW] at i1
    cases x with
    | bad c => exact i1
    | val a =>
      rcases hW2 : W r with ⟨y, q'⟩
      rw [hW2] at i2
      cases y <;> (show (q ++ q').all bKey = true; rw [List.all_append, i1, i2]; rfl)
end Mine
end
section
open PySem PySem.W PyProof.Rows PySem.Calls PySem.Spec
set_option maxRecDepth 100000
set_option linter.unusedVariables false
namespace Mine
theorem sel_of {b : Bool} {t f : Prop} (e : b = false) (h : f) : sel b t f := by subst e; exact h
section
variable {w : World} {x : Amb} {n : Nat} {m : Loc} {σ : Sto} {c : Cfg} {s : Shared} {Q : Flow → Shared → Prop} {E : Value → Shared → Prop}
theorem law_step {r : EvR} (H : Snd w r n) (O : x.Ok w n) (hsc : x.sc = lawSc) (S : SR w x.h₀ x.L m σ c s.heap) {st : Stmt} {rest : List Stmt} {ω : Om} {m' : Loc} {σ' : Sto}
    (h : r.s lawSc m σ ω st (fun f m'' σ'' _ => f = .next ∧ m' = m'' ∧ σ' = σ'') (fun _ _ _ => False))
    (next : ∀ c1 h1 t1, SR w x.h₀ x.L m' σ' c1 h1 → Grow c c1 → wpAny (model pw w) x.A (execs rest x.env) Q E { s with heap := h1, toks := t1 }) : wpAny (model pw w) x.A (execs (st :: rest) x.env) Q E s := by
  refine wpAny_execs_cons (H.s O S (K := fun f m'' σ'' _ => f = .next ∧ m' = m'' ∧ σ' = σ'') (X := fun _ _ _ => False) (by rw [hsc]; exact h) ?_ fun _ _ _ f => f.elim)
  rintro f m'' σ'' ω' ⟨rfl, rfl, rfl⟩ fv c1 h1 t1 S1 G1 R1
  have e : fv = .next := R1
  subst e
  exact next c1 h1 t1 S1 G1
/-- the worth that is asked for, or the refusal -/
theorem try_wp (R0 : Rules w) (O : x.Ok w 300) (hsc : x.sc = lawSc) (hbase : x.base = x.h₀) {t : Tr} (ok : OKT 0 t) (hsz : szT t ≤ 2900) {due : Dat} {cl : List Dat} {bx q0 : List Dat} (S : SR w x.h₀ x.L (mB (enc t) due cl) [bx, q0, []] c s.heap)
    (P : PostS w x c s Q .next (mC (enc t) due (resD (W t).1) cl) [bx, q0, (W t).2]) : wpAny (model pw w) x.A (exec (lawSt 6) x.env) Q E s := by
  obtain ⟨k, n, p1, p2, p3, p4, p5, p6, p7, p8, p9, p10, p11, e⟩ := trySt_eq
  rw [e]
  have H := ev_sound R0 (spOk w 260 oLaw) 40
  have cw : CWp w 260 330 [.d (enc t), .hk 0 2] [bx, q0, []] (W t).1.rs [bx, q0, (W t).2] := (worth_ok R0 ok (σ := [bx, q0, []]) (i := 2) (l := []) rfl (by simpa using hsz)).le (by omega)
  have lf : x.sc.names.lookup (T "found") = some .local := by rw [hsc]; kernel_rfl
  rcases hW : W t with ⟨r, q⟩
  rw [hW] at cw P
  refine wpAny_Try_except (wpAny_execs_cons (wpAny_Assign_Name ?_ (swapsNo rfl)))
  cases r with
  | val v =>
    refine H.e O S (K := fun u σ' _ => u = .d (.tuple [.str (T "value"), v]) ∧ [bx, q0, q] = σ') (X := fun _ _ _ => False) (by rw [hsc]; exact ofE (lv_ty w 260 (enc t) due v cl [] _ _ _ _) ⟨cw, rfl, rfl⟩) ?_ fun _ _ _ f => f.elim
    rintro u σ' ω' ⟨rfl, rfl⟩ val c1 h1 t1 S1 G1 e1 R1
    refine store_sound O (s := { s with heap := h1, toks := t1 }) S1 (v := .d (resD (.val v))) lf R1 fun c2 h2 t2 S2 G2 => ?_
    exact wpAny_execs_nil (wpAny_execs_nil (P .next c2 h2 t2 S2 (G1.trans G2) rfl))
  | bad cd =>
    refine H.e O S (K := fun _ _ _ => False) (X := fun d σ' _ => d = cd ∧ [bx, q0, q] = σ') (by rw [hsc]; exact ofE (lv_tyx w 260 (enc t) due cl [] _ _ _ _ _) ⟨cw, rfl, rfl⟩) (fun _ _ _ f => f.elim) ?_
    rintro d σ' ω' ⟨rfl, rfl⟩ e c1 h1 t1 G1 e1 M1 X1
    exact caught_wp O hsc hbase S G1 e1 M1 X1 rfl P
end
end Mine
end
section
open PySem PySem.W PyProof.Rows PySem.Calls PySem.Spec
set_option maxRecDepth 100000
set_option linter.unusedVariables false
namespace Mine
noncomputable def dictK : Expr → List (Option Expr)
  | .Dict ks _ _ => ks
  | _ => []
noncomputable def dictV : Expr → List Expr
  | .Dict _ vs _ => vs
  | _ => []
theorem bookSt_eq : ∃ p1 p2 p3, lawSt 3 = .Assign [.Name (T "book") p1] (.Dict (dictK (asgE (lawSt 3))) (dictV (asgE (lawSt 3))) p2) p3 := ⟨_, _, _, rfl⟩
theorem book_ev (w : World) (m : Mine.Loc) (σ : Sto) : pairsEv (ev (spW w 260 oLaw) 40) lawSc m σ (dictK (asgE (lawSt 3))) (dictV (asgE (lawSt 3))) bookL := by
  refine ⟨fun K X => ?_, fun K X => ?_, fun K X => ?_, fun K X => ?_, fun K X => ?_, fun K X => ?_, fun K X => ?_, fun K X => ?_, fun K X => ?_, fun K X => ?_, fun K X => ?_, fun K X => ?_, fun K X => ?_, fun K X => ?_, trivial⟩ <;> kernel_rfl
theorem subT {i : Nat} {m : Mine.Loc} {v : Dat} {tt : Int} (h1 : look (T "row") m = some (.d v)) (h2 : look (T "total") m = some (vi tt)) {y : Str} {u : V} (e : look y (mT (i : Int) tt v) = some u) : look y (putL (T "turn") (vi (i : Int)) m) = some u := by
  unfold mT look at e
  unfold putL look
  split at e
  · rename_i q; cases e; rfl
  · rename_i q
    unfold look at e
    split at e
    · rename_i q; cases eq_of_beq q; cases e; exact h1
    · unfold look at e
      split at e
      · rename_i q; cases eq_of_beq q; cases e; exact h2
      · cases e
theorem subR {m : Mine.Loc} {v : Dat} {tt : Int} (h1 : look (T "row") m = some (.d v)) (h2 : look (T "total") m = some (vi tt)) {y : Str} {u : V} (e : look y [(T "row", .d v), (T "total", vi tt)] = some u) : look y m = some u := by
  unfold look at e
  split at e
  · rename_i q; cases eq_of_beq q; cases e; exact h1
  · unfold look at e
    split at e
    · rename_i q; cases eq_of_beq q; cases e; exact h2
    · cases e
section
variable {w : World} {x : Amb} {c : Cfg} {s : Shared} {Q : Flow → Shared → Prop} {E : Value → Shared → Prop}
/-- the row and its sum -/
theorem tail_wp (R0 : Rules w) (O : x.Ok w 300) (hsc : x.sc = lawSc) {d due fd : Dat} {cl : List Dat} {b : Bx} (hb : WfB b 100) {q : List Dat} (S : SR w x.h₀ x.L (mD d due fd cl) [bxL b, q, q] c s.heap)
    (P : ∀ m σ, PostS w x c s Q (.ret (.sb true)) m σ) : wpAny (model pw w) x.A (execs [lawSt 9, lawSt 10] x.env) Q E s := by
  have H := ev_sound R0 (spOk w 260 oLaw) 40
  obtain ⟨r, b2, r0, r1, w2, c2⟩ := draw_ok R0 hb (by omega) (many := 120) (by decide)
  obtain ⟨p1, p2, p3, p4, e⟩ := forSt_eq
  have hN : ((r.toNat : Nat) : Int) = r := by omega
  refine wpAny_execs_cons ?_
  rw [e]
  refine for_range (N := r.toNat) (σ1 := [bxL b2, q, q]) (J := fun i m σ => look (T "row") m = some (.d (enc (rowT i))) ∧ look (T "total") m = some (vi (tot i)) ∧ σ = [bxL b2, q, q]) O S (show x.sc.names.lookup (T "turn") = some .local by rw [hsc]; kernel_rfl)
    (show x.sc.names.lookup (T "range") = some .globalImplicit by rw [hsc]; kernel_rfl) (by omega) (by rfl) (fun {Q'} PE => ?_) ⟨rfl, rfl, rfl⟩ (fun i hi {m σ c' s' Qf Ef} hJ S1 K1 => ?_) (fun m σ hJ => ?_)
  · refine H.e O S (K := fun u σ' _ => u = vi r ∧ [bxL b2, q, q] = σ') (X := fun _ _ _ => False) (by rw [hsc]; exact ofE (lv_ar w 260 d due fd cl r [] _ _ _ _) ⟨(c2 _).le (by omega), rfl, rfl⟩) ?_ fun _ _ _ f => f.elim
    rintro u σ' ω' ⟨rfl, rfl⟩
    rw [← hN]; exact PE
  · obtain ⟨j1, j2, rfl⟩ := hJ
    have S2 := S1.sub (m' := mT (i : Int) (tot i) (enc (rowT i))) fun y u e => subT j1 j2 e
    cases h3 : (Int.fmod (i : Int) 3 == 0) with
    | true =>
      obtain ⟨e1, e2⟩ := row_enc_t h3
      refine exL_sound H O _ S2 (K := fun f m' σ' _ => f = .next ∧ look (T "row") m' = some (.d (enc (rowT (i + 1)))) ∧ look (T "total") m' = some (vi (tot (i + 1))) ∧ σ' = [bxL b2, q, q]) (X := fun _ _ _ => False)
        (by rw [hsc]; exact ofE (lv_t3 w 260 (enc (rowT i)) (i : Int) (tot i) [] _ _ _) (g_of h3 (g_of h3 ⟨rfl, by rw [e1]; rfl, by rw [e2]; rfl, rfl⟩))) ?_ fun _ _ _ f => f.elim
      rintro f m' σ' ω' ⟨rfl, k1, k2, k3⟩
      exact K1 m' σ' ⟨k1, k2, k3⟩
    | false =>
      obtain ⟨e1, e2⟩ := row_enc_f h3
      refine exL_sound H O _ S2 (K := fun f m' σ' _ => f = .next ∧ look (T "row") m' = some (.d (enc (rowT (i + 1)))) ∧ look (T "total") m' = some (vi (tot (i + 1))) ∧ σ' = [bxL b2, q, q]) (X := fun _ _ _ => False)
        (by rw [hsc]; exact ofE (lv_f3 w 260 (enc (rowT i)) (i : Int) (tot i) [] _ _ _) (g_of h3 (g_of h3 ⟨rfl, by rw [e1]; rfl, by rw [e2]; rfl, rfl⟩))) ?_ fun _ _ _ f => f.elim
      rintro f m' σ' ω' ⟨rfl, k1, k2, k3⟩
      exact K1 m' σ' ⟨k1, k2, k3⟩
  · obtain ⟨j1, j2, rfl⟩ := hJ
    intro fv c3 h3 t3 S3 G3 R3
    have ef : fv = .next := R3
    subst ef
    have S4 := S3.sub (m' := [(T "row", .d (enc (rowT r.toNat))), (T "total", vi (tot r.toNat))]) fun y u e => subR j1 j2 e
    obtain ⟨hW, ok⟩ := row_W r.toNat (by omega)
    have cw := (worth_ok R0 (kk := 1) ok (σ := [bxL b2, q, q, []]) (i := 3) (l := []) rfl (by rw [row_sz]; simp only [List.length_nil]; omega)).le (B' := 260) (by omega)
    rw [hW] at cw
    have hk : EWp w 260 lawSc [(T "row", .d (enc (rowT r.toNat))), (T "total", vi (tot r.toNat))] [bxL b2, q, q] hkE2 (.ok (.hk 1 3)) [bxL b2, q, q, []] := hk2_wp.le (by omega)
    refine wpAny_execs_cons (H.s (s := { s with heap := h3, toks := t3 }) O S4 (K := fun f m' σ' _ => f = .ret (.sb true)) (X := fun _ _ _ => False) (by rw [hsc]; exact ofE (lv_10 w 260 (enc (rowT r.toNat)) (tot r.toNat) (tot r.toNat) [] _ _ _ _ 3 _) ⟨hk, cw, by rw [beq_self_eq_true]⟩) ?_ fun _ _ _ f => f.elim)
    rintro f m' σ' ω' rfl fv c5 h5 t5 S5 G5 R5
    obtain ⟨val, rfl, R5'⟩ := R5
    exact P m' σ' (.ret val) c5 h5 t5 S5 (G3.trans G5) ⟨val, rfl, R5'⟩
end
end Mine
end
section
open PySem PySem.W PyProof.Rows PySem.Calls PySem.Spec
set_option maxRecDepth 100000
set_option linter.unusedVariables false
namespace Mine
section
variable {w : World} {x : Amb} {c : Cfg} {s : Shared} {Q : Flow → Shared → Prop} {E : Value → Shared → Prop}
set_option maxHeartbeats 2000000 in
theorem law_body (R0 : Rules w) (O : x.Ok w 300) (hsc : x.sc = lawSc) (hbase : x.base = x.h₀) (S : SR w x.h₀ x.L [] [] c s.heap) {l : Addr} {its : List Value} {ns : List Int} (hmc : c.mc (T "script") = some (.ref l)) (hl : x.h₀.IsList l its.toArray) (hI : IntsAre its ns) (hlen : its.length ≤ 63)
    (P : ∀ m σ, PostS w x c s Q (.ret (.sb true)) m σ) : wpAny (model pw w) x.A (execs (sBody (stm 65)) x.env) Q E s := by
  have H := ev_sound R0 (spOk w 260 oLaw) 40
  rw [lawBody_eq]
  refine wpAny_execs_cons (cells_wp O hsc S hmc hl hI hlen ?_)
  intro fv c0 h0 t0 S0 G0 r0
  have e0 : fv = .next := r0
  subst e0
  have hcl : (cellsOf ns).length ≤ 24 := by unfold cellsOf; rw [List.length_map, List.length_take]; omega
  have wf : WfB ⟨cellsOf ns, -1, ((cellsOf ns).map fun i => Int.fmod i 50).sum⟩ 0 := ⟨hcl, Int.le_refl _, show (-1 : Int) ≤ 0 by decide⟩
  refine law_step H (s := { s with heap := h0, toks := t0 }) O hsc S0 (ofE (lv_1 w 260 ((cellsOf ns).map .int) (((cellsOf ns).map fun i => Int.fmod i 50).sum) [] _ _) ⟨(sum_wp rfl (by omega)).le (by omega), rfl, rfl, rfl⟩) fun c1 h1 t1 S1 G1 => ?_
  obtain ⟨t, b, sh, wb, ct⟩ := tree_ok R0 2 wf (by decide)
  obtain ⟨ok, rb⟩ := shape_ok sh (Nat.le_refl _)
  obtain ⟨sz, dp⟩ := shape_sz sh (Nat.le_refl _)
  have trB2 : trB 2 = 203 := rfl
  refine law_step H (s := { s with heap := h1, toks := t1 }) O hsc S1 (ofE (lv_2 w 260 (enc t) ((cellsOf ns).map .int) (bxL b) [] _ _ _) ⟨(ct []).le (by omega), rfl, rfl, rfl⟩) fun c2 h2 t2 S2 G2 => ?_
  refine wpAny_execs_cons ?_
  obtain ⟨p1, p2, p3, e3⟩ := bookSt_eq
  rw [e3]
  refine wpAny_Assign_Name (book_made (s := { s with heap := h2, toks := t2 }) H O S2 (by rfl) (by rfl) (by intro q; cases q) (by decide) (by rw [hsc]; exact book_ev w _ _) ?_) (swapsNo rfl)
  intro vb c3 h3 t3 S3 G3 m3 R3
  refine store_sound O (s := { s with heap := h3, toks := t3 }) S3 (v := .bk 0) (show x.sc.names.lookup (T "book") = some .local by rw [hsc]; kernel_rfl) R3 fun c4 h4 t4 S4 G4 => ?_
  refine law_step H (s := { s with heap := h4, toks := t4 }) O hsc S4 (ofE (lv_4 w 260 (enc t) ((cellsOf ns).map .int) (bxL b) [] _ _) ⟨(hk1_wp rfl).le (by omega), rfl, rfl, rfl⟩) fun c5 h5 t5 S5 G5 => ?_
  have cl := lw_ok R0 t ok (σ := [bxL b, [], []]) (j := 1) (l := []) rfl (by simp only [List.length_nil]; omega)
  refine law_step H (s := { s with heap := h5, toks := t5 }) O hsc S5 (ofE (lv_5 w 260 (enc t) (resD (W t).1) ((cellsOf ns).map .int) (bxL b) (W t).2 [] _ _) ⟨cl.le (by show 141 + 41 * dep t ≤ 260; omega), rfl, rfl, rfl⟩) fun c6 h6 t6 S6 G6 => ?_
  refine wpAny_execs_cons (try_wp (s := { s with heap := h6, toks := t6 }) R0 O hsc hbase ok (by omega) S6 ?_)
  intro fv c7 h7 t7 S7 G7 r7
  have e7 : fv = .next := r7
  subst e7
  have rep := rep_of (RB.mono (by decide) rb)
  have ak := asked_keys t
  obtain ⟨u1, u2, u3, eF⟩ := reprF_eq
  obtain ⟨v1, v2, v3, eD⟩ := reprD_eq
  refine law_step H (s := { s with heap := h7, toks := t7 }) O hsc S7 (ofE (lv_7 w 260 (enc t) (resD (W t).1) (resD (W t).1) ((cellsOf ns).map .int) (bxL b) (W t).2 (W t).2 [] _ _ (kqdP (resD (W t).1)).shown (kqdP (resD (W t).1)).shown)
    ⟨by rw [eF]; exact (repr_wp (by kernel_rfl) (by decide) rfl rep).le (by omega), by rw [eD]; exact (repr_wp (by kernel_rfl) (by decide) rfl rep).le (by omega),
      sel_of (by simp) (chk_of (by rw [ak]; rfl) (g_of (by rw [dEqs_self ak]; rfl) ⟨rfl, rfl, rfl⟩))⟩) fun c8 h8 t8 S8 G8 => ?_
  refine law_step H (s := { s with heap := h8, toks := t8 }) O hsc S8 (ofE (lv_8 w 260 (enc t) (resD (W t).1) (resD (W t).1) ((cellsOf ns).map .int) [] _ _ _) ⟨rfl, rfl, rfl⟩) fun c9 h9 t9 S9 G9 => ?_
  refine tail_wp (s := { s with heap := h9, toks := t9 }) R0 O hsc (wb.le (by decide)) S9 fun m σ => ?_
  intro fv c' h' tk' S' G' R'
  exact P m σ fv c' h' tk' S' (G0.trans (G1.trans (G2.trans (G3.trans (G4.trans (G5.trans (G6.trans (G7.trans (G8.trans (G9.trans G')))))))))) R'
end
end Mine
end
section
open PySem PySem.W PyProof.Rows PySem.Calls PySem.Spec
set_option maxRecDepth 100000
set_option linter.unusedVariables false
namespace Mine
theorem lookup_mem {K : Frag} {a : Addr} {o : Obj} (h : K.lookup a = some o) : (a, o) ∈ K := by
  induction K with
  | nil => cases h
  | cons p r ih =>
    obtain ⟨b, q⟩ := p
    rw [List.lookup_cons] at h
    split at h
    · rename_i e
      cases h
      rw [eq_of_beq e]; exact .head _
    · exact .tail _ (ih h)
theorem in_of {K : Frag} {h : Heap} (e : K.map (fun p => h.get? p.1) = K.map (fun p => some p.2)) : K.In h := fun a o hl => by
  exact (List.map_inj_left.mp e) (a, o) (lookup_mem hl)
set_option maxHeartbeats 0 in
theorem KF_in (P : Params) : (KF P).In (H1 P) := in_of (by kernel_rfl)
section
variable {w : World} {s₁ : Shared} {mg mb : Str → Option Value} {mean : ExcName → Option Value}
theorem law_call {fa l : Addr} {o : Obj} {pm cd doc : Value} {kV : Value} {its : List Value} {ns : List Int} (X : (KF w.params).In s₁.heap) (T : Top view (looseW view loose) mean mg mb s₁.heap) (ho : s₁.heap.get? fa = some o)
    (hd : o.data = .func { docDef (S "law") (sArgs (stm 65)) (sBody (stm 65)) (sScope (stm 65)) pm cd doc with defaults := .none, kwdefaults := kV }) (hcd : s₁.heap.CodeRec cd (S "law")) (hl : s₁.heap.IsList l its.toArray) (hI : IntsAre its ns) (hlen : its.length ≤ 63) {R : Result → Shared → Prop}
    (hR : ∀ s' : Shared, (∀ b o, s₁.heap.get? b = some o → s'.heap.get? b = some o) → s'.os = s₁.os → s'.gens = s₁.gens → R (.ok (.ret (.bool true))) s') :
    codeAny (model pw w) callerA (.call (.ref fa) ⟨[.ref l], []⟩) R s₁ := by
  refine call_fullW (by decide) ho hd (Top.nolimit T) hcd (binds := [(S "script", .ref l)]) (BindsTo.of_eq rfl) (locs rfl) fun h₁ F => ?_
  have O : Amb.Ok w ⟨mean, mg, mb, callerA.deeper (envOf (S "law") (sScope (stm 65)) s₁.heap.objs.size fa cd), callerA, [], s₁.heap, s₁.heap, s₁.heap.objs.size, sScope (stm 65), S "law", fa, cd⟩ 300 :=
    ⟨below_caller _, rfl, X, T, rfl, show callerA.depth + 1 + 300 < recursionLimit by decide, show callerA.units + 3 + 8 * 300 + 200 < cLine by decide, rfl, rfl⟩
  have S : SR w s₁.heap s₁.heap.objs.size [] [] ⟨fun x => [(S "script", Value.ref l)].reverse.lookup x, [], [], []⟩ h₁ := by
    refine ⟨F, fun p hp => (List.not_mem_nil hp).elim, fun y v hy => (by cases hy), ⟨rfl, fun i ds e => (by cases e), .nil, fun p hp => (List.not_mem_nil hp).elim, fun p hp => (List.not_mem_nil hp).elim, fun p hp => (List.not_mem_nil hp).elim⟩⟩
  refine law_body (s := { s₁ with heap := h₁, toks := s₁.toks + 1 }) (rules w) O rfl rfl S (by rfl) hl hI hlen fun m σ => ?_
  intro fv c' h' tk' S' G' R'
  obtain ⟨val, rfl, e⟩ := R'
  have e' : val = .bool true := e
  subst e'
  exact hR _ (fun b o q => S'.F.keep b o q) rfl rfl
end
end Mine
end
section
open PySem PySem.W PySem.W.X PyProof.Rows
set_option maxRecDepth 100000
namespace Mine
noncomputable abbrev row : OpenRow := PySem.Challenge.rw_pq0181_01.row
noncomputable abbrev Xt (s : Shared) : Bool := xlAt view [] s && recOk (RowW.records row.toRowW) s
noncomputable abbrev Yf (s : Shared) : Heap := s.heap
noncomputable abbrev Ya (w : World) : Heap := H1 w.params
set_option maxHeartbeats 0
theorem hlooks (w : World) : (fun os => ((staticsOk (importedModules pw.main.body) (boot_heap w.params) (H1 w.params) && namesBound pw (H1 w.params) && gensDone ⟨H1 w.params, Array.mk [], boot_drawn, 813, os⟩ && laidKept (boot_heap w.params) (H1 w.params)),
        openSeen view loose (importedModules pw.main.body) Xt true ⟨H1 w.params, Array.mk [], boot_drawn, 813, os⟩, Yf ⟨H1 w.params, Array.mk [], boot_drawn, 813, os⟩)) = fun _ => (true, openGood view loose, Ya w) := by kernel_rfl
theorem hopening : opening pw = plainProg pw.main.scope.names := by kernel_rfl
theorem hfence (s : Shared) : fenceModules? pw s = some s := by kernel_rfl
theorem hsize (w : World) : ((boot_heap w.params).isNs mainGlobals && (Array.mk [] : Array GenState).size == 0, (boot_heap w.params).objs.size, (boot_heap w.params).nsMap mainGlobals "__annotations__") = (true, 11, some (.ref 6)) := by kernel_rfl
theorem hleft : LeftO pw view loose Xt Yf Ya 4858 :=
  LeftO.of_pieces (H₀ := boot_heap) (H₁ := H1) (boot_open hopening (by decide) hfence) hsize hrun (by decide) hlooks
theorem hsaid : PySem.Challenge.rw_pq0181_01.wellSaid = true := by kernel_rfl
end Mine
end
open PySem PySem.W PySem.W.X PyProof.Rows Mine
set_option maxRecDepth 100000 in
set_option maxHeartbeats 0 in
theorem PySem.Challenge.cw_pq0181_01_holds : PySem.Challenge.rw_pq0181_01.Holds := by
  w_on
  refine holds_law hsaid fun said => ?_
  refine holds_openX (q := view) (loose := loose) (Xt := Xt) (XP := XL view []) (Yf := Yf) (Ya := Ya) (N := 4858) hleft (fun s e => xl_of s (Bool.and_eq_true_iff.mp e).1) XL.keeps (by rfl) (by rfl) (by rfl) (fun s e => recFacts_of (Bool.and_eq_true_iff.mp e).2) (by rfl) (by assumption) (by decide +kernel) ⟨rfl, rfl, rfl, rfl, rfl, by decide +kernel⟩ ?hw ?hc
  case hw => w_witness2
  case hc =>
    intro w s₀ s₁ mg mb G y fa o pm cd doc dV kV ho hd hcd hD hmg hg args vals as L hpre hlay hrd hwl hlo
    have X := (Ground.X G).1
    refine Ground.open G ?_
    intro T B D TE TW
    wrow_args hpre hlay hrd hwl hlo
    refine enter_call ?_
    have he := Dflts.none hD rfl
    subst he
    have K0 : (KF w.params).In s₁.heap := (KF_in w.params).keeps fun b o e => Laid.keeps (by assumption) b o (by rw [show s₀.heap = H1 w.params from y]; exact e)
    rename_i hI _ hlen _
    refine law_call (w := w) (pm := pm) (doc := doc) (kV := kV) K0 T ho (by rw [hd]; kernel_rfl) hcd (by assumption) hI ?_ fun s' k hos hgn => ?_
    · have := hI.length
      omega
    · refine GoodW.toG ⟨.inl ⟨.bool true, .bool true, [], rfl, ?_, ?_, ?_, ?_⟩, k, hos, ?_⟩
      · intro cls; rfl
      · exact .bool true
      · first | kernel_rfl | wrow_post
      · exact fun _ => ⟨.nil, fun a h => (List.not_mem_nil h).elim⟩
      · exact hgn.trans hg
